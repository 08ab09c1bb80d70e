import PyProof.Rows.All
import Wide.All
import OpenK.AllK
import Wide.FinOn
import HandS.ForMost
import HandS.ForExc
import HandS.Wide
import HandS.Flow
import HandS.Evl
import HandS.Conv
import HandS.IsInst
import KE.SortData
import KE.DatumMoreOrd
import KE.DatumIndex
import HandS.Walk
import HandS.TupSets
import HandS.TryOnly
import HandS.Codes
import HandS.Dict
import HandS.TupLe
import HandS.List
import KE.KDictPairs
import HandS.Exc
import HandS.ExcIs
import HandS.ExcValue
import PyProof.Rows.CountFlat
import HandS.Style
import PySem.Challenge.RW_everyseat_k29_whole_named_rules
set_option Elab.async false
set_option linter.all false
set_option maxRecDepth 100000
set_option maxHeartbeats 4000000
/-! My own layer over HandS: mirrors in an error monad, represented data, owned cells. -/
namespace PG
open PySem L2

/-! ### the mirrors' monad -/
inductive Er where
  | bad
  | exc (n : String)
  deriving DecidableEq
abbrev M := Except Er
def wp {a : Type} (m : M a) (Q : a → Prop) (E : String → Prop) : Prop :=
  match m with
  | .ok x => Q x
  | .error .bad => False
  | .error (.exc n) => E n
section
variable {a b : Type} {Q : a → Prop} {R : b → Prop} {E E' : String → Prop}
theorem wp_ok {x : a} : wp (Except.ok x : M a) Q E = Q x := rfl
theorem wp_pure {x : a} : wp (pure x : M a) Q E = Q x := rfl
theorem wp_bind {m : M b} {k : b → M a} : wp (m >>= k) Q E ↔ wp m (fun x => wp (k x) Q E) E := by
  cases m with
  | ok x => exact Iff.rfl
  | error e => cases e <;> exact Iff.rfl
theorem wp_call {m : M b} {k : b → M a} {E1 : String → Prop} (h : wp (m >>= k) Q E) (hr : ∀ r, m = .ok r → wp (k r) Q E → R r) (he : ∀ n, E n → E1 n) : wp m R E1 := by
  cases m with
  | ok x => exact hr x rfl h
  | error e =>
    cases e with
    | bad => exact h
    | exc n => exact he n h
/-- the last call of a def -/
theorem wp_tail {m : M a} {E1 : String → Prop} {R : a → Prop} (h : wp m Q E) (hr : ∀ r, m = .ok r → Q r → R r) (he : ∀ n, E n → E1 n) : wp m R E1 := by
  cases m with
  | ok x => exact hr x rfl h
  | error e =>
    cases e with
    | bad => exact h
    | exc n => exact he n h
def bad : M a := .error .bad
def raise (n : String) : M a := .error (.exc n)
theorem wp_bad {P : Prop} (h : wp (bad : M a) Q E) : P := h.elim
/-- a guard -/
@[irreducible] def chk (c : Prop) [Decidable c] : M Unit := if c then .ok () else bad
theorem wp_chk {c : Prop} [Decidable c] {k : Unit → M a} (h : wp (chk c >>= k) Q E) : c ∧ wp (k ()) Q E := by
  unfold chk at h
  by_cases hc : c
  · rw [if_pos hc] at h
    exact ⟨hc, h⟩
  · rw [if_neg hc] at h
    exact h.elim
/-- something that is there -/
def opt (o : Option b) : M b := match o with
  | some x => .ok x
  | none => bad
theorem wp_opt {o : Option b} {k : b → M a} (h : wp (opt o >>= k) Q E) : ∃ x, o = some x ∧ wp (k x) Q E := by
  cases o with
  | none => exact h.elim
  | some x => exact ⟨x, rfl, h⟩
/-- no exception leaves -/
def nox (m : M a) : M a := match m with
  | .ok x => .ok x
  | .error _ => bad
theorem wp_nox {m : M b} {k : b → M a} (h : wp (nox m >>= k) Q E) : ∃ x, m = .ok x ∧ wp (k x) Q E := by
  cases m with
  | ok x => exact ⟨x, rfl, h⟩
  | error e => exact h.elim
theorem wp_of_ok {m : M b} {x : b} (e : m = .ok x) (h : R x) : wp m R E := by
  rw [e]
  exact h
theorem wp_ite {c : Prop} [Decidable c] {x y : M a} (h : wp (if c then x else y) Q E) : (c → wp x Q E) ∧ (¬ c → wp y Q E) := by
  by_cases hc : c
  · rw [if_pos hc] at h
    exact ⟨fun _ => h, fun n => (n hc).elim⟩
  · rw [if_neg hc] at h
    exact ⟨fun p => (hc p).elim, fun _ => h⟩
end

/-! ### loops -/
/-- a turn's end: on to the next, or the def's return -/
inductive Fl (s r : Type) where
  | nx (x : s)
  | rt (x : r)
section
variable {i s r a : Type}
def loopM (b : i → s → M (Fl s r)) : List i → s → M (Fl s r)
  | [], x => .ok (.nx x)
  | y :: ys, x => b y x >>= fun
    | .nx x' => loopM b ys x'
    | .rt z => .ok (.rt z)
/-- a loop without return -/
def loopN (b : i → s → M s) : List i → s → M s
  | [], x => .ok x
  | y :: ys, x => b y x >>= fun x' => loopN b ys x'
def whileM (c : s → M Bool) (b : s → M (Fl s r)) : Nat → s → M (Fl s r)
  | 0, _ => bad
  | n + 1, x => c x >>= fun t => if t = true then b x >>= fun
      | .nx x' => whileM c b n x'
      | .rt z => .ok (.rt z)
    else .ok (.nx x)
def whileN (c : s → M Bool) (b : s → M s) : Nat → s → M s
  | 0, _ => bad
  | n + 1, x => c x >>= fun t => if t = true then b x >>= fun x' => whileN c b n x' else .ok x
/-- a comprehension: f gives an element, or none where the test fails -/
def compN (b : i → s → M (Option a × s)) : List i → s → M (List a × s)
  | [], x => .ok ([], x)
  | y :: ys, x => b y x >>= fun p => compN b ys p.2 >>= fun q => .ok (match p.1 with
    | some z => z :: q.1
    | none => q.1, q.2)
/-- .. that changes nothing -/
def compM (b : i → M (Option a)) : List i → M (List a)
  | [] => .ok []
  | y :: ys => b y >>= fun p => compM b ys >>= fun q => .ok (match p with
    | some z => z :: q
    | none => q)
end

/-! ### what a value stands for -/
open PySem.W (T3 T4 Datum DatumOrd)
/-- the frag whose own tuples (the module's constants) may stand in data; told by an instance alone -/
class KF (K : outParam PySem.W.Frag) : Type
def KTup (K : PySem.W.Frag) (a : Addr) (xs : List V) : Prop :=
  ∃ (o : Obj) (its : Array Value) (n : Nat), K.lookup a = some o ∧ o.cls = .type "tuple" ∧ o.data = .seq its n ∧ its.size ≤ sizeLine ∧ Vals xs its.toList
section
variable {K0 : PySem.W.Frag} [KF K0]
/-- a tuple: the heap's, or one of the module's, a text first -/
def TupAt {K0 : PySem.W.Frag} [KF K0] (H : Hp) (a : Addr) (xs : List V) : Prop := H a = some (.tup xs) ∨ ((∃ w ws, xs = V.str w :: ws) ∧ KTup K0 a xs)
theorem TupAt.mono {H H' : Hp} {a : Addr} {xs : List V} (h : TupAt H a xs) (s : Same H H') : TupAt H' a xs := by
  rcases h with h | h
  · exact .inl (s _ _ h)
  · exact .inr h
theorem TupAt.sq {H : Hp} {a : Addr} {xs : List V} (h : TupAt H a xs) : SqT K0 H a xs := by
  rcases h with h | ⟨_, h⟩
  · exact SqT.of h
  · exact .inr h
mutual
inductive Rep (H : Hp) : V → PyData → Prop
  | non : Rep H .non .none
  | bl (b : Bool) : Rep H (.bl b) (.bool b)
  | int (i : Int) : Rep H (.int i) (.int i)
  | str (x : Str) : Rep H (.str x) (.str x)
  | lst {a : Addr} {xs : List V} {ds : List PyData} : H a = some (.lst xs) → RepA H xs ds → Rep H (.ref a) (.list ds)
  | tup {a : Addr} {xs : List V} {ds : List PyData} : TupAt H a xs → RepA H xs ds → Rep H (.ref a) (.tuple ds)
inductive RepA (H : Hp) : List V → List PyData → Prop
  | nil : RepA H [] []
  | cons {v : V} {vs : List V} {d : PyData} {ds : List PyData} : Rep H v d → RepA H vs ds → RepA H (v :: vs) (d :: ds)
end
mutual
theorem Rep.mono {H H' : Hp} (s : Same H H') : ∀ (d : PyData) (v : V), Rep H v d → Rep H' v d
  | .none, _, h => by cases h; exact .non
  | .bool _, _, h => by cases h; exact .bl _
  | .int _, _, h => by cases h; exact .int _
  | .str _, _, h => by cases h; exact .str _
  | .list ds, _, h => by
    cases h with
    | lst ha hs => exact .lst (s _ _ ha) (RepA.mono s ds _ hs)
  | .tuple ds, _, h => by
    cases h with
    | tup ha hs => exact .tup (ha.mono s) (RepA.mono s ds _ hs)
  | .dict _, _, h => by cases h
theorem RepA.mono {H H' : Hp} (s : Same H H') : ∀ (ds : List PyData) (vs : List V), RepA H vs ds → RepA H' vs ds
  | [], _, h => by cases h; exact .nil
  | d :: ds, _, h => by
    cases h with
    | cons h1 h2 => exact .cons (Rep.mono s d _ h1) (RepA.mono s ds _ h2)
end
mutual
theorem Rep.dp {H : Hp} : ∀ (d : PyData) (v : V), Rep H v d → Dp K0 H v d
  | .none, _, h => by cases h; exact .non
  | .bool _, _, h => by cases h; exact .bl _
  | .int _, _, h => by cases h; exact .int _
  | .str _, _, h => by cases h; exact .str _
  | .list ds, _, h => by
    cases h with
    | lst ha hs => exact .lst (SqL.of ha) (RepA.dp ds _ hs)
  | .tuple ds, _, h => by
    cases h with
    | tup ha hs => exact .tup ha.sq (RepA.dp ds _ hs)
  | .dict _, _, h => by cases h
theorem RepA.dp {H : Hp} : ∀ (ds : List PyData) (vs : List V), RepA H vs ds → DpAll K0 H vs ds
  | [], _, h => by cases h; exact .nil
  | d :: ds, _, h => by
    cases h with
    | cons h1 h2 => exact .cons (Rep.dp d _ h1) (RepA.dp ds _ h2)
end

end
/-- a Lean type whose values are Python's data -/
class Py (a : Type) where
  toD : a → PyData
instance : Py Int := ⟨.int⟩
instance : Py Bool := ⟨.bool⟩
instance : Py Str := ⟨.str⟩
instance : Py Unit := ⟨fun _ => .none⟩
instance {a : Type} [Py a] : Py (List a) := ⟨fun xs => .list (xs.map Py.toD)⟩
instance {a b : Type} [Py a] [Py b] : Py (a × b) := ⟨fun p => .tuple [Py.toD p.1, Py.toD p.2]⟩
instance {a b c : Type} [Py a] [Py b] [Py c] : Py (T3 a b c) := ⟨fun p => .tuple [Py.toD p.a, Py.toD p.b, Py.toD p.c]⟩
instance {a b c d : Type} [Py a] [Py b] [Py c] [Py d] : Py (T4 a b c d) := ⟨fun p => .tuple [Py.toD p.a, Py.toD p.b, Py.toD p.c, Py.toD p.d]⟩
instance {a : Type} [Py a] : Py (Option a) := ⟨fun o => match o with
  | none => .none
  | some x => Py.toD x⟩
class IsD (a : Type) [Py a] [DecidableEq a] [Datum a] : Prop where
  eq : ∀ x : a, Py.toD x = Datum.toD x
instance : IsD Int := ⟨fun _ => rfl⟩
instance : IsD Bool := ⟨fun _ => rfl⟩
instance : IsD Str := ⟨fun _ => rfl⟩
instance : IsD Unit := ⟨fun _ => rfl⟩
section
variable {a b c d : Type} [Py a] [DecidableEq a] [Datum a] [IsD a] [Py b] [DecidableEq b] [Datum b] [IsD b] [Py c] [DecidableEq c] [Datum c] [IsD c] [Py d] [DecidableEq d] [Datum d] [IsD d]
theorem map_toD (xs : List a) : xs.map (Py.toD : a → PyData) = xs.map Datum.toD := List.map_congr_left fun x _ => IsD.eq x
instance : IsD (List a) := ⟨fun xs => congrArg PyData.list (map_toD xs)⟩
instance : IsD (a × b) := ⟨fun p => by show PyData.tuple [_, _] = PyData.tuple [_, _]; rw [IsD.eq, IsD.eq]⟩
instance : IsD (T3 a b c) := ⟨fun p => by show PyData.tuple [_, _, _] = PyData.tuple [_, _, _]; rw [IsD.eq, IsD.eq, IsD.eq]⟩
instance : IsD (T4 a b c d) := ⟨fun p => by show PyData.tuple [_, _, _, _] = PyData.tuple [_, _, _, _]; rw [IsD.eq, IsD.eq, IsD.eq, IsD.eq]⟩
instance [PySem.W.SomeDatum a] : IsD (Option a) := ⟨fun o => by
  cases o with
  | none => rfl
  | some x => exact IsD.eq x⟩
end

/-- no text -/
class NoS (a : Type) [Py a] : Prop where
  ns : ∀ (x : a) (s : Str), Py.toD x ≠ .str s
instance : NoS Int := ⟨fun _ _ h => nomatch h⟩
instance : NoS Bool := ⟨fun _ _ h => nomatch h⟩
instance : NoS Unit := ⟨fun _ _ h => nomatch h⟩
section
variable {a b c d : Type} [Py a] [Py b] [Py c] [Py d]
instance : NoS (List a) := ⟨fun _ _ h => nomatch h⟩
instance : NoS (a × b) := ⟨fun _ _ h => nomatch h⟩
instance : NoS (T3 a b c) := ⟨fun _ _ h => nomatch h⟩
instance : NoS (T4 a b c d) := ⟨fun _ _ h => nomatch h⟩
instance [NoS a] : NoS (Option a) := ⟨fun o s h => by
  cases o with
  | none => exact nomatch h
  | some x => exact NoS.ns x s h⟩
end
variable {K0 : PySem.W.Frag} [KF K0]
theorem TupAt.plain {a : Type} [Py a] [NoS a] {H : Hp} {p : Addr} {v : V} {vs : List V} {x : a} (h : TupAt H p (v :: vs)) (r : Rep H v (Py.toD x)) : H p = some (.tup (v :: vs)) := by
  rcases h with h | ⟨⟨w, ws, e⟩, _⟩
  · exact h
  · injection e with e _
    subst e
    obtain ⟨d, hd⟩ : ∃ d, d = Py.toD x := ⟨_, rfl⟩
    rw [← hd] at r
    cases r with
    | str => exact (NoS.ns x w hd.symm).elim
/-- v stands for x -/
def R {a : Type} [Py a] (H : Hp) (v : V) (x : a) : Prop := Rep H v (Py.toD x)
/-- item by item -/
def RL {a : Type} [Py a] (H : Hp) (vs : List V) (xs : List a) : Prop := RepA H vs (xs.map Py.toD)
section
variable {H H' : Hp} {v : V} {vs : List V} {p q : Addr}
theorem R.mono {a : Type} [Py a] {x : a} (h : R H v x) (s : Same H H') : R H' v x := Rep.mono s _ _ h
theorem RL.mono {a : Type} [Py a] {xs : List a} (h : RL H vs xs) (s : Same H H') : RL H' vs xs := RepA.mono s _ _ h
theorem R.int {i : Int} : R H (.int i) i := Rep.int i
theorem R.bl {b : Bool} : R H (.bl b) b := Rep.bl b
theorem R.str {x : Str} : R H (.str x) x := Rep.str x
theorem R.unit {u : Unit} : R H .non u := Rep.non
theorem R.non {a : Type} [Py a] : R H .non (none : Option a) := Rep.non
theorem R.jst {a : Type} [Py a] {x : a} (h : R H v x) : R H v (some x) := h
theorem R.int_ {i : Int} (h : R H v i) : v = .int i := by cases h; rfl
theorem R.bl_ {b : Bool} (h : R H v b) : v = .bl b := by cases h; rfl
theorem R.str_ {x : Str} (h : R H v x) : v = .str x := by cases h; rfl
theorem R.unit_ {u : Unit} (h : R H v u) : v = .non := by cases h; rfl
theorem R.non_ {a : Type} [Py a] (h : R H v (none : Option a)) : v = .non := by cases h; rfl
theorem R.jst_ {a : Type} [Py a] {x : a} (h : R H v (some x)) : R H v x := h
variable {a b c d : Type} [Py a] [Py b] [Py c] [Py d]
theorem R.lst {xs : List a} (ha : H p = some (.lst vs)) (h : RL H vs xs) : R H (.ref p) xs := Rep.lst ha h
theorem R.lst_ {xs : List a} (h : R H v xs) : ∃ p vs, v = .ref p ∧ H p = some (.lst vs) ∧ RL H vs xs := by
  have h' : Rep H v (.list (xs.map Py.toD)) := h
  cases h' with
  | lst ha hs => exact ⟨_, _, rfl, ha, hs⟩
theorem R.t2 {x : a × b} {v1 v2 : V} (ha : H p = some (.tup [v1, v2])) (h1 : R H v1 x.1) (h2 : R H v2 x.2) : R H (.ref p) x := Rep.tup (.inl ha) (.cons h1 (.cons h2 .nil))
theorem R.t2T_ {x : a × b} (h : R H v x) : ∃ p v1 v2, v = .ref p ∧ TupAt H p [v1, v2] ∧ R H v1 x.1 ∧ R H v2 x.2 := by
  have h' : Rep H v (.tuple [_, _]) := h
  cases h' with
  | tup ha hs =>
    cases hs with
    | cons h1 hs =>
      cases hs with
      | cons h2 hs =>
        cases hs
        exact ⟨_, _, _, rfl, ha, h1, h2⟩
theorem R.t2T {x : a × b} {v1 v2 : V} (ha : TupAt H p [v1, v2]) (h1 : R H v1 x.1) (h2 : R H v2 x.2) : R H (.ref p) x := Rep.tup ha (.cons h1 (.cons h2 .nil))
theorem R.t3T {x : T3 a b c} {v1 v2 v3 : V} (ha : TupAt H p [v1, v2, v3]) (h1 : R H v1 x.a) (h2 : R H v2 x.b) (h3 : R H v3 x.c) : R H (.ref p) x := Rep.tup ha (.cons h1 (.cons h2 (.cons h3 .nil)))
theorem TupAt.mv {F F' : Hp} {xs : List V} (h : TupAt F p xs) (t : ∀ b xs, F b = some (.tup xs) → F' b = some (.tup xs)) : TupAt F' p xs := by
  rcases h with h | h
  · exact .inl (t _ _ h)
  · exact .inr h
theorem R.t2_ [NoS a] {x : a × b} (h : R H v x) : ∃ p v1 v2, v = .ref p ∧ H p = some (.tup [v1, v2]) ∧ R H v1 x.1 ∧ R H v2 x.2 := by
  have h' : Rep H v (.tuple [_, _]) := h
  cases h' with
  | tup ha hs =>
    cases hs with
    | cons h1 hs =>
      cases hs with
      | cons h2 hs =>
        cases hs
        exact ⟨_, _, _, rfl, ha.plain h1, h1, h2⟩
theorem R.t3 {x : T3 a b c} {v1 v2 v3 : V} (ha : H p = some (.tup [v1, v2, v3])) (h1 : R H v1 x.a) (h2 : R H v2 x.b) (h3 : R H v3 x.c) : R H (.ref p) x := Rep.tup (.inl ha) (.cons h1 (.cons h2 (.cons h3 .nil)))
theorem R.t3T_ {x : T3 a b c} (h : R H v x) : ∃ p v1 v2 v3, v = .ref p ∧ TupAt H p [v1, v2, v3] ∧ R H v1 x.a ∧ R H v2 x.b ∧ R H v3 x.c := by
  have h' : Rep H v (.tuple [_, _, _]) := h
  cases h' with
  | tup ha hs =>
    cases hs with
    | cons h1 hs =>
      cases hs with
      | cons h2 hs =>
        cases hs with
        | cons h3 hs =>
          cases hs
          exact ⟨_, _, _, _, rfl, ha, h1, h2, h3⟩
theorem R.t3_ [NoS a] {x : T3 a b c} (h : R H v x) : ∃ p v1 v2 v3, v = .ref p ∧ H p = some (.tup [v1, v2, v3]) ∧ R H v1 x.a ∧ R H v2 x.b ∧ R H v3 x.c := by
  have h' : Rep H v (.tuple [_, _, _]) := h
  cases h' with
  | tup ha hs =>
    cases hs with
    | cons h1 hs =>
      cases hs with
      | cons h2 hs =>
        cases hs with
        | cons h3 hs =>
          cases hs
          exact ⟨_, _, _, _, rfl, ha.plain h1, h1, h2, h3⟩
theorem R.t4 {x : T4 a b c d} {v1 v2 v3 v4 : V} (ha : H p = some (.tup [v1, v2, v3, v4])) (h1 : R H v1 x.a) (h2 : R H v2 x.b) (h3 : R H v3 x.c) (h4 : R H v4 x.d) : R H (.ref p) x :=
  Rep.tup (.inl ha) (.cons h1 (.cons h2 (.cons h3 (.cons h4 .nil))))
theorem R.t4_ [NoS a] {x : T4 a b c d} (h : R H v x) : ∃ p v1 v2 v3 v4, v = .ref p ∧ H p = some (.tup [v1, v2, v3, v4]) ∧ R H v1 x.a ∧ R H v2 x.b ∧ R H v3 x.c ∧ R H v4 x.d := by
  have h' : Rep H v (.tuple [_, _, _, _]) := h
  cases h' with
  | tup ha hs =>
    cases hs with
    | cons h1 hs =>
      cases hs with
      | cons h2 hs =>
        cases hs with
        | cons h3 hs =>
          cases hs with
          | cons h4 hs =>
            cases hs
            exact ⟨_, _, _, _, _, rfl, ha.plain h1, h1, h2, h3, h4⟩
theorem RL.nil : RL H [] ([] : List a) := RepA.nil
theorem RL.cons {x : a} {xs : List a} (h : R H v x) (hs : RL H vs xs) : RL H (v :: vs) (x :: xs) := RepA.cons h hs
theorem RL.cons_ {x : a} {xs : List a} (h : RL H vs (x :: xs)) : ∃ w ws, vs = w :: ws ∧ R H w x ∧ RL H ws xs := by
  have h' : RepA H vs (Py.toD x :: xs.map Py.toD) := h
  cases h' with
  | cons h1 h2 => exact ⟨_, _, rfl, h1, h2⟩
theorem RL.nil_ (h : RL H vs ([] : List a)) : vs = [] := by
  have h' : RepA H vs [] := h
  cases h'
  rfl
theorem RL.len : ∀ {vs : List V} {xs : List a}, RL H vs xs → vs.length = xs.length
  | _, [], h => by rw [RL.nil_ h]; rfl
  | _, x :: xs, h => by
    obtain ⟨w, ws, rfl, _, h2⟩ := RL.cons_ h
    rw [List.length_cons, List.length_cons, RL.len h2]
theorem RL.app : ∀ {vs ws : List V} {xs ys : List a}, RL H vs xs → RL H ws ys → RL H (vs ++ ws) (xs ++ ys)
  | _, _, [], _, h, k => by rw [RL.nil_ h]; exact k
  | _, _, x :: xs, _, h, k => by
    obtain ⟨w, ws', rfl, h1, h2⟩ := RL.cons_ h
    exact RL.cons h1 (RL.app h2 k)
theorem RL.snoc {x : a} {xs : List a} (h : RL H vs xs) (k : R H v x) : RL H (vs ++ [v]) (xs ++ [x]) := RL.app h (RL.cons k RL.nil)
theorem RL.get : ∀ {vs : List V} {xs : List a}, RL H vs xs → ∀ {i : Nat} {x : a}, xs[i]? = some x → ∃ w, vs[i]? = some w ∧ R H w x
  | _, [], _, i, x, e => by simp at e
  | _, y :: ys, h, i, x, e => by
    obtain ⟨w, ws, rfl, h1, h2⟩ := RL.cons_ h
    cases i with
    | zero =>
      cases (Option.some.inj e : y = x)
      exact ⟨w, rfl, h1⟩
    | succ i => exact RL.get h2 (i := i) (by simpa using e)
theorem RL.got : ∀ {vs : List V} {xs : List a}, RL H vs xs → ∀ {i : Nat} {w : V}, vs[i]? = some w → ∃ x, xs[i]? = some x ∧ R H w x
  | _, [], h, i, w, e => by rw [RL.nil_ h] at e; simp at e
  | _, y :: ys, h, i, w, e => by
    obtain ⟨w', ws, rfl, h1, h2⟩ := RL.cons_ h
    cases i with
    | zero =>
      cases (Option.some.inj e : w' = w)
      exact ⟨y, rfl, h1⟩
    | succ i => exact RL.got h2 (i := i) (by simpa using e)
theorem RL.atI {xs : List a} (h : RL H vs xs) {i : Int} {x : a} (e : L2.atI xs i = some x) : ∃ w, L2.atI vs i = some w ∧ R H w x := by
  unfold L2.atI at e ⊢
  rw [h.len]
  cases q : ixN xs.length i with
  | none => rw [q] at e; cases e
  | some j =>
    rw [q] at e
    exact h.get e
theorem RL.take : ∀ {vs : List V} {xs : List a} (n : Nat), RL H vs xs → RL H (vs.take n) (xs.take n)
  | _, _, 0, _ => RL.nil
  | _, [], n + 1, h => by rw [RL.nil_ h]; exact RL.nil
  | _, x :: xs, n + 1, h => by
    obtain ⟨w, ws, rfl, h1, h2⟩ := RL.cons_ h
    exact RL.cons h1 (RL.take n h2)
theorem RL.drop : ∀ {vs : List V} {xs : List a} (n : Nat), RL H vs xs → RL H (vs.drop n) (xs.drop n)
  | _, _, 0, h => h
  | _, [], n + 1, h => by rw [RL.nil_ h]; exact RL.nil
  | _, x :: xs, n + 1, h => by
    obtain ⟨w, ws, rfl, h1, h2⟩ := RL.cons_ h
    exact RL.drop n h2
theorem RL.set : ∀ {vs : List V} {xs : List a} (n : Nat) {w : V} {y : a}, RL H vs xs → R H w y → RL H (vs.set n w) (xs.set n y)
  | _, [], n, _, _, h, _ => by rw [RL.nil_ h]; exact RL.nil
  | _, x :: xs, 0, _, _, h, k => by
    obtain ⟨w, ws, rfl, h1, h2⟩ := RL.cons_ h
    exact RL.cons k h2
  | _, x :: xs, n + 1, _, _, h, k => by
    obtain ⟨w, ws, rfl, h1, h2⟩ := RL.cons_ h
    exact RL.cons h1 (RL.set n h2 k)
theorem RL.erase : ∀ {vs : List V} {xs : List a} (n : Nat), RL H vs xs → RL H (vs.eraseIdx n) (xs.eraseIdx n)
  | _, [], n, h => by rw [RL.nil_ h]; exact RL.nil
  | _, x :: xs, 0, h => by
    obtain ⟨w, ws, rfl, h1, h2⟩ := RL.cons_ h
    exact h2
  | _, x :: xs, n + 1, h => by
    obtain ⟨w, ws, rfl, h1, h2⟩ := RL.cons_ h
    exact RL.cons h1 (RL.erase n h2)
theorem RL.dropLast : ∀ {vs : List V} {xs : List a}, RL H vs xs → RL H vs.dropLast xs.dropLast
  | _, [], h => by rw [RL.nil_ h]; exact RL.nil
  | _, x :: xs, h => by
    obtain ⟨w, ws, rfl, h1, h2⟩ := RL.cons_ h
    cases xs with
    | nil => rw [RL.nil_ h2]; exact RL.nil
    | cons y ys =>
      obtain ⟨w2, ws2, rfl, _, _⟩ := RL.cons_ h2
      exact RL.cons h1 (RL.dropLast h2)
theorem RL.rev : ∀ {vs : List V} {xs : List a}, RL H vs xs → RL H vs.reverse xs.reverse
  | _, [], h => by rw [RL.nil_ h]; exact RL.nil
  | _, x :: xs, h => by
    obtain ⟨w, ws, rfl, h1, h2⟩ := RL.cons_ h
    rw [List.reverse_cons, List.reverse_cons]
    exact RL.snoc (RL.rev h2) h1
theorem RL.ints : ∀ {vs : List V} {xs : List Int}, RL H vs xs → vs = xs.map V.int
  | _, [], h => RL.nil_ h
  | _, x :: xs, h => by
    obtain ⟨w, ws, rfl, h1, h2⟩ := RL.cons_ h
    rw [R.int_ h1, RL.ints h2]
    rfl
theorem RL.of_ints : ∀ {xs : List Int}, RL H (xs.map V.int) xs
  | [] => RL.nil
  | x :: xs => RL.cons R.int RL.of_ints
theorem RL.bls : ∀ {vs : List V} {xs : List Bool}, RL H vs xs → vs = xs.map V.bl
  | _, [], h => RL.nil_ h
  | _, x :: xs, h => by
    obtain ⟨w, ws, rfl, h1, h2⟩ := RL.cons_ h
    rw [R.bl_ h1, RL.bls h2]
    rfl
theorem RL.strs : ∀ {vs : List V} {xs : List Str}, RL H vs xs → vs = xs.map V.str
  | _, [], h => RL.nil_ h
  | _, x :: xs, h => by
    obtain ⟨w, ws, rfl, h1, h2⟩ := RL.cons_ h
    rw [R.str_ h1, RL.strs h2]
    rfl
theorem RL.of_strs : ∀ {xs : List Str}, RL H (xs.map V.str) xs
  | [] => RL.nil
  | x :: xs => RL.cons R.str RL.of_strs
theorem RL.cut {xs : List a} (h : RL H vs xs) (lo hi : Option Int) : RL H (cutV vs lo hi) ((xs.drop (HT.sIx xs.length 0 lo)).take (HT.sIx xs.length xs.length hi - HT.sIx xs.length 0 lo)) := by
  unfold cutV
  rw [h.len]
  exact (h.drop _).take _
end

/-! ### owned cells: F is what is read alone, cs are the cells that the code may change -/
/-- what is known of the heap behind a def, by the heap at its entry; the cells at as may have changed -/
structure Gr (as : List Addr) (F H F' H' : Hp) : Prop where
  f : Same F F'
  s : Same F' H'
  k : ∀ b o, b ∉ as → H b = some o → H' b = some o
  t : ∀ b, H b ≠ none → H' b ≠ none
  n : ∀ b, H b ≠ none → F' b = F b ∨ ∃ xs, H b = some (.tup xs)
  u : ∀ b xs, H' b = some (.tup xs) → H b = none ∨ H b = some (.tup xs)
/-- what may be a cell -/
def noTup : HO → Bool
  | .tup _ => false
  | _ => true
structure Kp (as : List Addr) (H H' : Hp) : Prop where
  k : ∀ b o, b ∉ as → H b = some o → H' b = some o
  t : ∀ b, H b ≠ none → H' b ≠ none
/-- the entry of a def -/
structure Ent where
  as : List Addr
  F : Hp
  H : Hp
structure Ow (Z : Ent) (F : Hp) (cs : List (Addr × HO)) (H : Hp) : Prop where
  g : Gr Z.as Z.F Z.H F H
  cf : ∀ c ∈ cs, F c.1 = none
  ch : ∀ c ∈ cs, H c.1 = some c.2
  nd : (cs.map (·.1)).Nodup
  ca : ∀ c ∈ cs, c.1 ∈ Z.as ∨ Z.H c.1 = none
  nt : ∀ c ∈ cs, noTup c.2 = true
/-- what a def asks of its cells -/
structure Pre (F : Hp) (cs : List (Addr × HO)) (H : Hp) : Prop where
  s : Same F H
  cf : ∀ c ∈ cs, F c.1 = none
  ch : ∀ c ∈ cs, H c.1 = some c.2
  nd : (cs.map (·.1)).Nodup
  nt : ∀ c ∈ cs, noTup c.2 = true
theorem Same.new {H : Hp} {p : Addr} {o : HO} (h : H p = none) : Same H (upd H p o) := fun b u e => by
  rw [upd_ne (ne_of_none e h)]
  exact e
theorem Same.upd2 {F H : Hp} {p : Addr} {o : HO} (s : Same F H) : Same (upd F p o) (upd H p o) := fun b u e => by
  by_cases hb : b = p
  · subst hb
    rw [upd_same] at e ⊢
    exact e
  · rw [upd_ne hb] at e ⊢
    exact s b u e
theorem Same.no {F H : Hp} {p : Addr} (s : Same F H) (h : H p = none) : F p = none := Same.free s h
section
variable {Z : Ent} {F F' H H' : Hp} {cs : List (Addr × HO)} {p a : Addr} {o o' : HO}
theorem Pre.start (P : Pre F cs H) : Ow ⟨cs.map (·.1), F, H⟩ F cs H where
  g := ⟨Same.refl _, P.s, fun _ _ _ e => e, fun _ e => e, fun _ _ => .inl rfl, fun _ _ e => .inr e⟩
  cf := P.cf
  ch := P.ch
  nd := P.nd
  ca := fun c hc => .inl (List.mem_map.mpr ⟨c, hc, rfl⟩)
  nt := P.nt
theorem Ow.s (O : Ow Z F cs H) : Same F H := O.g.s
theorem Ow.pre (O : Ow Z F cs H) : Pre F cs H := ⟨O.g.s, O.cf, O.ch, O.nd, O.nt⟩
theorem Ow.pre0 (O : Ow Z F cs H) : Pre F [] H := ⟨O.g.s, (fun _ h => nomatch h), (fun _ h => nomatch h), List.nodup_nil, fun _ h => nomatch h⟩
theorem Ow.pre1 (O : Ow Z F cs H) (i : Nat) (e : cs[i]? = some (a, o)) : Pre F [(a, o)] H := by
  have m := List.mem_of_getElem? e
  refine ⟨O.g.s, fun c hc => ?_, fun c hc => ?_, by simp, fun c hc => ?_⟩
  · rw [List.mem_singleton.mp hc]; exact O.cf _ m
  · rw [List.mem_singleton.mp hc]; exact O.ch _ m
  · rw [List.mem_singleton.mp hc]; exact O.nt _ m
theorem Ow.at (O : Ow Z F cs H) (i : Nat) (e : cs[i]? = some (a, o)) : H a = some o := O.ch _ (List.mem_of_getElem? e)
theorem Ow.no (O : Ow Z F cs H) (h : H p = none) : F p = none := Same.no O.s h
theorem Gr.new (g : Gr Z.as Z.F Z.H F H) (h : H p = none) : Gr Z.as Z.F Z.H F (upd H p o) where
  f := g.f
  s := g.s.trans (Same.new h)
  k := fun b u hb e => Same.new h b u (g.k b u hb e)
  t := fun b e z => by
    by_cases hb : b = p
    · subst hb; exact g.t _ e h
    · rw [upd_ne hb] at z; exact g.t b e z
  n := g.n
  u := fun b xs e => by
    by_cases hb : b = p
    · subst hb
      cases q : Z.H b with
      | none => exact .inl rfl
      | some u => exact absurd h (g.t b (by rw [q]; simp))
    · rw [upd_ne hb] at e; exact g.u b xs e
/-- a new cell -/
theorem Ow.new (O : Ow Z F cs H) (h : H p = none) (hn : noTup o = true := by rfl) : Ow Z F ((p, o) :: cs) (upd H p o) where
  g := O.g.new h
  cf := fun c hc => by
    rcases List.mem_cons.mp hc with rfl | hc
    · exact O.no h
    · exact O.cf c hc
  ch := fun c hc => by
    rcases List.mem_cons.mp hc with rfl | hc
    · exact upd_same
    · rw [upd_ne (ne_of_none (O.ch c hc) h)]; exact O.ch c hc
  nd := by
    rw [List.map_cons, List.nodup_cons]
    refine ⟨fun hm => ?_, O.nd⟩
    obtain ⟨c, hc, e⟩ := List.mem_map.mp hm
    have z := O.ch c hc
    rw [e] at z
    rw [z] at h
    cases h
  ca := fun c hc => by
    rcases List.mem_cons.mp hc with rfl | hc
    · refine .inr ?_
      cases q : Z.H p with
      | none => rfl
      | some u => exact absurd h (O.g.t p (by rw [q]; simp))
    · exact O.ca c hc
  nt := fun c hc => by
    rcases List.mem_cons.mp hc with rfl | hc
    · exact hn
    · exact O.nt c hc
/-- a new thing that is read alone -/
theorem Ow.put (O : Ow Z F cs H) (h : H p = none) : Ow Z (upd F p o) cs (upd H p o) where
  g := {
    f := O.g.f.trans (Same.new (O.no h))
    s := Same.upd2 O.g.s
    k := (O.g.new h).k
    t := (O.g.new h).t
    n := fun b e => by
      have hb : b ≠ p := fun z => by subst z; exact O.g.t _ e h
      rw [upd_ne hb]
      exact O.g.n b e
    u := (O.g.new h).u }
  cf := fun c hc => by rw [upd_ne (ne_of_none (O.ch c hc) h)]; exact O.cf c hc
  ch := fun c hc => by rw [upd_ne (ne_of_none (O.ch c hc) h)]; exact O.ch c hc
  nd := O.nd
  ca := O.ca
  nt := O.nt
theorem map_set_fst {i : Nat} (e : cs[i]? = some (a, o)) : (cs.set i (a, o')).map (·.1) = cs.map (·.1) := by
  rw [List.map_set]
  obtain ⟨h, e'⟩ := List.getElem?_eq_some_iff.mp e
  refine List.ext_getElem? fun j => ?_
  by_cases hj : i = j
  · subst hj
    rw [List.getElem?_set_self (by simpa using h), List.getElem?_map, e]
    rfl
  · rw [List.getElem?_set_ne hj]
theorem nd_other {i : Nat} (nd : (cs.map (·.1)).Nodup) (e : cs[i]? = some (a, o)) {c : Addr × HO} (hc : c ∈ cs.set i (a, o')) : c = (a, o') ∨ (c ∈ cs ∧ c.1 ≠ a) := by
  obtain ⟨j, hj⟩ := List.mem_iff_getElem?.mp hc
  by_cases hij : i = j
  · subst hij
    obtain ⟨h, _⟩ := List.getElem?_eq_some_iff.mp e
    rw [List.getElem?_set_self h] at hj
    exact .inl (Option.some.inj hj).symm
  · rw [List.getElem?_set_ne hij] at hj
    refine .inr ⟨List.mem_of_getElem? hj, fun z => hij ?_⟩
    have h1 : (cs.map (·.1))[i]? = some a := by rw [List.getElem?_map, e]; rfl
    have h2 : (cs.map (·.1))[j]? = some a := by rw [List.getElem?_map, hj, ← z]; rfl
    exact nd_ix nd h1 h2
/-- a cell is changed -/
theorem Ow.set (O : Ow Z F cs H) (i : Nat) (o' : HO) (e : cs[i]? = some (a, o)) (hn : noTup o' = true := by rfl) : Ow Z F (cs.set i (a, o')) (upd H a o') := by
  have m := List.mem_of_getElem? e
  have ha := O.ca _ m
  refine ⟨⟨O.g.f, fun b u q => ?_, fun b u hb q => ?_, fun b q z => ?_, O.g.n, fun b xs q => ?_⟩, fun c hc => ?_, fun c hc => ?_, ?_, fun c hc => ?_, fun c hc => ?_⟩
  · have hb : b ≠ a := fun z => by subst z; rw [O.cf _ m] at q; cases q
    rw [upd_ne hb]
    exact O.g.s b u q
  · have hba : b ≠ a := fun z => by
      subst z
      rcases ha with ha | ha
      · exact hb ha
      · have q' : Z.H b = some u := q
        have ha' : Z.H b = none := ha
        rw [ha'] at q'; cases q'
    rw [upd_ne hba]
    exact O.g.k b u hb q
  · by_cases hb : b = a
    · subst hb; rw [upd_same] at z; cases z
    · rw [upd_ne hb] at z; exact O.g.t b q z
  · by_cases hb : b = a
    · subst hb
      rw [upd_same] at q
      rw [Option.some.inj q] at hn
      cases hn
    · rw [upd_ne hb] at q; exact O.g.u b xs q
  · rcases nd_other O.nd e hc with rfl | ⟨h1, _⟩
    · exact O.cf (a, o) m
    · exact O.cf c h1
  · rcases nd_other O.nd e hc with rfl | ⟨h1, h2⟩
    · exact upd_same
    · rw [upd_ne h2]; exact O.ch c h1
  · rw [map_set_fst e]; exact O.nd
  · rcases nd_other O.nd e hc with rfl | ⟨h1, _⟩
    · exact ha
    · exact O.ca c h1
  · rcases nd_other O.nd e hc with rfl | ⟨h1, _⟩
    · exact hn
    · exact O.nt c h1
theorem mem_erase {i : Nat} {c : Addr × HO} (h : c ∈ cs.eraseIdx i) : c ∈ cs := List.mem_of_mem_eraseIdx h
theorem nd_erase {i : Nat} (h : (cs.map (·.1)).Nodup) : ((cs.eraseIdx i).map (·.1)).Nodup := by
  exact h.sublist ((List.eraseIdx_sublist cs i).map (fun x => x.1))
/-- a cell that nobody changes any more (it was not there at the entry) -/
theorem Ow.frz (O : Ow Z F cs H) (i : Nat) (e : cs[i]? = some (a, o)) (hz : Z.H a = none) : Ow Z (upd F a o) (cs.eraseIdx i) H := by
  have m := List.mem_of_getElem? e
  have h1 : ∀ c ∈ cs.eraseIdx i, c.1 ≠ a := fun c hc z => by
    have nd := O.nd
    obtain ⟨hi, e'⟩ := List.getElem?_eq_some_iff.mp e
    obtain ⟨j, hj⟩ := List.mem_iff_getElem?.mp hc
    rw [List.getElem?_eraseIdx] at hj
    have h1 : (cs.map (·.1))[i]? = some a := by rw [List.getElem?_map, e]; rfl
    by_cases hji : j < i
    · rw [if_pos hji] at hj
      have h2 : (cs.map (·.1))[j]? = some a := by rw [List.getElem?_map, hj, ← z]; rfl
      have := nd_ix nd h1 h2
      omega
    · rw [if_neg hji] at hj
      have h2 : (cs.map (·.1))[j + 1]? = some a := by rw [List.getElem?_map, hj, ← z]; rfl
      have := nd_ix nd h1 h2
      omega
  refine ⟨⟨O.g.f.trans (Same.new (O.cf _ m)), fun b u q => ?_, O.g.k, O.g.t, fun b q => ?_, O.g.u⟩, fun c hc => ?_, fun c hc => O.ch c (mem_erase hc), nd_erase O.nd, fun c hc => O.ca c (mem_erase hc), fun c hc => O.nt c (mem_erase hc)⟩
  · by_cases hb : b = a
    · subst hb; rw [upd_same] at q; rw [← q]; exact O.ch _ m
    · rw [upd_ne hb] at q; exact O.g.s b u q
  · have hb : b ≠ a := fun z => by subst z; exact q hz
    rw [upd_ne hb]
    exact O.g.n b q
  · rw [upd_ne (h1 c hc)]; exact O.cf c (mem_erase hc)
theorem Ow.drop (O : Ow Z F cs H) (i : Nat) : Ow Z F (cs.eraseIdx i) H := ⟨O.g, fun c hc => O.cf c (mem_erase hc), fun c hc => O.ch c (mem_erase hc), nd_erase O.nd, fun c hc => O.ca c (mem_erase hc), fun c hc => O.nt c (mem_erase hc)⟩
theorem Ow.frzS (O : Ow Z F cs H) (i : Nat) (e : cs[i]? = some (a, o)) : Same F (upd F a o) := Same.new (O.cf _ (List.mem_of_getElem? e))
theorem Ow.putS (O : Ow Z F cs H) (h : H p = none) : Same F (upd F p o) := Same.new (O.no h)
theorem Gr.then {as : List Addr} (g0 : Gr Z.as Z.F Z.H F H) (g : Gr as F H F' H') (ha : ∀ b ∈ as, b ∈ Z.as ∨ Z.H b = none) : Gr Z.as Z.F Z.H F' H' where
  f := g0.f.trans g.f
  s := g.s
  k := fun b u hb e => by
    refine g.k b u (fun z => ?_) (g0.k b u hb e)
    rcases ha b z with h | h
    · exact hb h
    · rw [h] at e; cases e
  t := fun b e => g.t b (g0.t b e)
  n := fun b e => by
    rcases g0.n b e with h0 | h0
    · rcases g.n b (g0.t b e) with h1 | ⟨xs, hx⟩
      · exact .inl (h1.trans h0)
      · rcases g0.u b xs hx with z | z
        · exact absurd z e
        · exact .inr ⟨xs, z⟩
    · exact .inr h0
  u := fun b xs e => by
    rcases g.u b xs e with z | z
    · refine .inl ?_
      cases q : Z.H b with
      | none => rfl
      | some u => exact absurd z (g0.t b (by rw [q]; simp))
    · exact g0.u b xs z
theorem Gr.none {as : List Addr} (g : Gr as F H F' H') {c : Addr × HO} (h : H c.1 = some c.2) (hn : noTup c.2 = true) (hf : F c.1 = Option.none) : F' c.1 = Option.none := by
  rcases g.n c.1 (by rw [h]; simp) with z | ⟨xs, z⟩
  · exact z.trans hf
  · rw [h] at z
    rw [Option.some.inj z] at hn
    cases hn
/-- behind a call that changes none of our cells -/
theorem Ow.call0 (O : Ow Z F cs H) (g : Gr [] F H F' H') : Ow Z F' cs H' where
  g := O.g.then g (fun _ h => nomatch h)
  cf := fun c hc => g.none (O.ch c hc) (O.nt c hc) (O.cf c hc)
  ch := fun c hc => g.k _ _ (fun h => nomatch h) (O.ch c hc)
  nd := O.nd
  ca := O.ca
  nt := O.nt
/-- .. one -/
theorem Ow.call1 (O : Ow Z F cs H) (g : Gr [a] F H F' H') (i : Nat) (e : cs[i]? = some (a, o)) (h' : H' a = some o') (hn : noTup o' = true := by rfl) : Ow Z F' (cs.set i (a, o')) H' := by
  have m := List.mem_of_getElem? e
  refine ⟨O.g.then g (fun b hb => by rw [List.mem_singleton.mp hb]; exact O.ca _ m), fun c hc => ?_, fun c hc => ?_, by rw [map_set_fst e]; exact O.nd, fun c hc => ?_, fun c hc => ?_⟩
  · rcases nd_other O.nd e hc with rfl | ⟨h1, _⟩
    · exact g.none (c := (a, o)) (O.ch (a, o) m) (O.nt (a, o) m) (O.cf (a, o) m)
    · exact g.none (O.ch c h1) (O.nt c h1) (O.cf c h1)
  · rcases nd_other O.nd e hc with rfl | ⟨h1, h2⟩
    · exact h'
    · exact g.k _ _ (fun z => h2 (List.mem_singleton.mp z)) (O.ch c h1)
  · rcases nd_other O.nd e hc with rfl | ⟨h1, _⟩
    · exact O.ca (a, o) m
    · exact O.ca c h1
  · rcases nd_other O.nd e hc with rfl | ⟨h1, _⟩
    · exact hn
    · exact O.nt c h1
/-- a cell that a call made -/
theorem Ow.add {H0 : Hp} {F0 : Hp} (O : Ow Z F cs H) (O0 : Ow Z F0 cs' H0) (hk : ∀ c ∈ cs, c.1 ∈ cs'.map (·.1)) (hn : H0 p = none) (hf : F p = none) (h : H p = some o) (ht : noTup o = true := by rfl) : Ow Z F ((p, o) :: cs) H where
  g := O.g
  cf := fun c hc => by
    rcases List.mem_cons.mp hc with rfl | hc
    · exact hf
    · exact O.cf c hc
  ch := fun c hc => by
    rcases List.mem_cons.mp hc with rfl | hc
    · exact h
    · exact O.ch c hc
  nd := by
    rw [List.map_cons, List.nodup_cons]
    refine ⟨fun hm => ?_, O.nd⟩
    obtain ⟨c, hc, e⟩ := List.mem_map.mp hm
    obtain ⟨c', hc', e'⟩ := List.mem_map.mp (hk c hc)
    have z := O0.ch c' hc'
    rw [e', e] at z
    rw [z] at hn
    cases hn
  ca := fun c hc => by
    rcases List.mem_cons.mp hc with rfl | hc
    · refine .inr ?_
      cases q : Z.H p with
      | none => rfl
      | some u => exact absurd hn (O0.g.t p (by rw [q]; simp))
    · exact O.ca c hc
  nt := fun c hc => by
    rcases List.mem_cons.mp hc with rfl | hc
    · exact ht
    · exact O.nt c hc
theorem Ow.kp (O : Ow Z F cs H) : Kp Z.as Z.H H := ⟨O.g.k, O.g.t⟩
theorem Kp.of {as : List Addr} {H0 H1 : Hp} (g : Gr as F H0 F' H1) : Kp as H0 H1 := ⟨g.k, g.t⟩
/-- an error of a call leaves this def -/
theorem Ow.kpCall {as : List Addr} {H1 : Hp} (O : Ow Z F cs H) (k : Kp as H H1) (ha : ∀ b ∈ as, ∃ o, (b, o) ∈ cs) : Kp Z.as Z.H H1 where
  k := fun b u hb e => by
    refine k.k b u (fun z => ?_) (O.g.k b u hb e)
    obtain ⟨o, hc⟩ := ha b z
    rcases O.ca _ hc with h | h
    · exact hb h
    · have h' : Z.H b = none := h
      rw [h'] at e; cases e
  t := fun b e => k.t b (O.g.t b e)
theorem Ow.kp0 {H1 : Hp} (O : Ow Z F cs H) (k : Kp [] H H1) : Kp Z.as Z.H H1 := O.kpCall k fun _ h => nomatch h
theorem Ow.kp1 {H1 : Hp} (O : Ow Z F cs H) (k : Kp [a] H H1) (i : Nat) (e : cs[i]? = some (a, o)) : Kp Z.as Z.H H1 := O.kpCall k fun b hb => by
  rw [List.mem_singleton.mp hb]
  exact ⟨o, List.mem_of_getElem? e⟩
end
end PG

set_option Elab.async false
set_option linter.all false
set_option maxRecDepth 100000
set_option maxHeartbeats 4000000
namespace PG
open PySem L2
open PySem.W (T3 T4 Datum DatumOrd Holds HoldAll EachIs)
variable {K0 : PySem.W.Frag} [KF K0]
/-! ### rules over typed data -/
section
variable {X : Cx} {pins : List (Addr × Obj)} {σ : St} {H : Hp} {s : Shared} {v : V} {u : Value} {vs : List V} {us : List Value}
theorem R.holds [KF X.K] {a : Type} [Py a] [DecidableEq a] [Datum a] [IsD a] {x : a} (I : Inv X pins σ H s) (h : R H v x) (r : RelV v u) : Holds s.heap u x := by
  obtain ⟨as, q⟩ := Dp.reads I _ _ _ (Rep.dp _ _ h) r
  rw [IsD.eq] at q
  exact ⟨as, q⟩
theorem RL.holds [KF X.K] {a : Type} [Py a] [DecidableEq a] [Datum a] [IsD a] {xs : List a} (I : Inv X pins σ H s) (h : RL H vs xs) (r : Vals vs us) : HoldAll s.heap us xs := by
  obtain ⟨as, q⟩ := Dp.readsAll I _ _ _ (RepA.dp _ _ h) r
  rw [map_toD] at q
  exact ⟨as, q⟩
end
section
variable {X : Cx} (a : Type) [Py a] [DecidableEq a] [Datum a] [IsD a]
def rEqT : R2 := fun x y H Q => ∃ p q : a, R H x p ∧ R H y q ∧ Q (.bl (decide (p = q))) H
def rNeT : R2 := fun x y H Q => ∃ p q : a, R H x p ∧ R H y q ∧ Q (.bl (decide (p ≠ q))) H
theorem op_eqT (hu : X.A.units + 64 < cLine) (hd : Datum.depth a ≤ 64 := by decide) (hK : X.K = K0 := by rfl) : OpR X (compareOp .Eq) (rEqT a) := by
  subst hK
  intro pins s σ H x y v u Q I rx ry h
  obtain ⟨p, q, hp, hq, k⟩ := h
  exact PySem.W.eq_datum (hp.holds I rx) (hq.holds I ry) (by omega) ⟨.bl _, H, I, rfl, k⟩
theorem op_neT (hu : X.A.units + 64 < cLine) (hd : Datum.depth a ≤ 64 := by decide) (hK : X.K = K0 := by rfl) : OpR X (compareOp .NotEq) (rNeT a) := by
  subst hK
  intro pins s σ H x y v u Q I rx ry h
  obtain ⟨p, q, hp, hq, k⟩ := h
  exact PySem.W.ne_datum (hp.holds I rx) (hq.holds I ry) (by omega) ⟨.bl _, H, I, rfl, k⟩
def rInT (neg : Bool) : R2 := fun x y H Q => ∃ (p : a) (l : Addr) (vs : List V) (ys : List a), R H x p ∧ y = .ref l ∧ (H l = some (.lst vs) ∨ TupAt H l vs) ∧ RL H vs ys ∧ Q (.bl (if neg then decide (p ∉ ys) else decide (p ∈ ys))) H
end
section
variable {X : Cx} (a : Type) [Py a] [DecidableEq a] [Datum a] [IsD a]
theorem op_inT (hu : X.A.units + 64 < cLine) (hd : Datum.depth a ≤ 60 := by decide) (hK : X.K = K0 := by rfl) : OpR X (compareOp .In) (rInT a false) := by
  subst hK
  intro pins s σ H x y v u Q I rx ry h
  obtain ⟨p, l, vs, ys, hp, rfl, hl, hy, k⟩ := h
  cases ry
  rcases hl with hl | hl
  · obtain ⟨its, rv, hL, _⟩ := I.list (SqL.of (K := X.K) hl)
    exact PySem.W.in_list_datum hL.isList (by simpa using hy.holds I rv) (hp.holds I rx) (by omega) ⟨.bl _, H, I, rfl, k⟩
  · obtain ⟨its, rv, hL, _⟩ := I.tuple hl.sq
    exact PySem.W.in_tuple_datum (show s.heap.IsTuple l its.toArray from hL) (by simpa using hy.holds I rv) (hp.holds I rx) (by omega) ⟨.bl _, H, I, rfl, k⟩
theorem op_ninT (hu : X.A.units + 64 < cLine) (hd : Datum.depth a ≤ 60 := by decide) (hK : X.K = K0 := by rfl) : OpR X (compareOp .NotIn) (rInT a true) := by
  subst hK
  intro pins s σ H x y v u Q I rx ry h
  obtain ⟨p, l, vs, ys, hp, rfl, hl, hy, k⟩ := h
  cases ry
  rcases hl with hl | hl
  · obtain ⟨its, rv, hL, _⟩ := I.list (SqL.of (K := X.K) hl)
    exact PySem.W.notIn_list_datum hL.isList (by simpa using hy.holds I rv) (hp.holds I rx) (by omega) ⟨.bl _, H, I, rfl, k⟩
  · obtain ⟨its, rv, hL, _⟩ := I.tuple hl.sq
    exact PySem.W.notIn_tuple_datum (show s.heap.IsTuple l its.toArray from hL) (by simpa using hy.holds I rv) (hp.holds I rx) (by omega) ⟨.bl _, H, I, rfl, k⟩
end

/-! ### sorted -/
/-- how data may be sorted: all are tuples with an item, or none is a tuple or None -/
class SortB (a : Type) [DecidableEq a] [Datum a] : Prop where
  ok : (∀ x : a, ∃ d r, Datum.toD x = .tuple (d :: r)) ∨ ∀ x : a, Datum.toD x ≠ .none ∧ ∀ ds, Datum.toD x ≠ .tuple ds
instance : SortB Int := ⟨.inr fun x => ⟨(fun e => nomatch (show PyData.int x = .none from e)), fun ds e => nomatch (show PyData.int x = .tuple ds from e)⟩⟩
instance : SortB Str := ⟨.inr fun x => ⟨(fun e => nomatch (show PyData.str x = .none from e)), fun ds e => nomatch (show PyData.str x = .tuple ds from e)⟩⟩
section
variable {a b c : Type} [DecidableEq a] [Datum a] [DecidableEq b] [Datum b] [DecidableEq c] [Datum c]
instance : SortB (List a) := ⟨.inr fun x => ⟨(fun e => nomatch (show PyData.list _ = .none from e)), fun ds e => nomatch (show PyData.list _ = .tuple ds from e)⟩⟩
instance : SortB (a × b) := ⟨.inl fun x => ⟨_, _, rfl⟩⟩
instance : SortB (T3 a b c) := ⟨.inl fun x => ⟨_, _, rfl⟩⟩
end
/-- Python's order -/
def leT {a : Type} [DecidableEq a] [DatumOrd a] (x y : a) : Bool := !DatumOrd.lt y x
def sortT {a : Type} [DecidableEq a] [DatumOrd a] (xs : List a) : List a := xs.mergeSort leT
theorem dataLe_T {a β : Type} [DecidableEq a] [DatumOrd a] (f : β → a) : PySem.W.dataLe false (fun b => Datum.toD (f b)) = fun x y => leT (f x) (f y) := by
  funext x y
  rw [PySem.W.dataLe_eq]
  show (!PySem.W.dataLt (Datum.toD (f y)) (Datum.toD (f x))) = _
  rw [DatumOrd.lt_eq]
  rfl
section
variable {a : Type} [Py a] [DecidableEq a] [DatumOrd a] [IsD a] {H : Hp}
theorem each_pairs : ∀ {vs : List V} {xs : List a} {us : List Value}, RL H vs xs → Vals vs us → EachIs (fun (u : Value) (p : V × a) => RelV p.1 u ∧ R H p.1 p.2) us (vs.zip xs)
  | _, [], _, h, r => by
    rw [RL.nil_ h] at r ⊢
    cases r
    exact .nil
  | _, x :: xs, _, h, r => by
    obtain ⟨w, ws, rfl, h1, h2⟩ := RL.cons_ h
    cases r with
    | cons r1 r2 => exact .cons ⟨r1, h1⟩ (each_pairs h2 r2)
theorem pairs_vals : ∀ {ps : List (V × a)} {us : List Value}, EachIs (fun (u : Value) (p : V × a) => RelV p.1 u ∧ R H p.1 p.2) us ps → Vals (ps.map (·.1)) us ∧ RL H (ps.map (·.1)) (ps.map (·.2))
  | _, _, .nil => ⟨.nil, RL.nil⟩
  | _, _, .cons ⟨r1, h1⟩ t => ⟨.cons r1 (pairs_vals t).1, RL.cons h1 (pairs_vals t).2⟩
theorem each_imp {β γ : Type} {A B : β → γ → Prop} (f : ∀ x y, A x y → B x y) : ∀ {xs : List β} {ys : List γ}, EachIs A xs ys → EachIs B xs ys
  | _, _, .nil => .nil
  | _, _, .cons h t => .cons (f _ _ h) (each_imp f t)
theorem zip_snd : ∀ {vs : List V} {xs : List a}, vs.length = xs.length → (vs.zip xs).map (·.2) = xs
  | [], [], _ => rfl
  | v :: vs, x :: xs, h => by
    rw [List.zip_cons_cons, List.map_cons, zip_snd (by simpa using h)]
  | [], _ :: _, h => by simp at h
  | _ :: _, [], h => by simp at h
theorem sort_zip {vs : List V} {xs : List a} (h : vs.length = xs.length) : ((vs.zip xs).mergeSort fun p q => leT p.2 q.2).map (·.2) = sortT xs := by
  unfold sortT
  rw [List.map_mergeSort (s := leT) (fun _ _ _ _ => rfl), zip_snd h]
end
section
variable {a : Type} [Py a] [DecidableEq a] [DatumOrd a] [IsD a] {H : Hp}
def sortV (ws : List V) (xs : List a) : List V := ((ws.zip xs).mergeSort fun p q => leT p.2 q.2).map (·.1)
theorem RL.pairs : ∀ {ws : List V} {xs : List a}, RL H ws xs → ∀ p ∈ ws.zip xs, R H p.1 p.2
  | _, [], _, p, hp => by simp at hp
  | _, x :: xs, h, p, hp => by
    obtain ⟨w, ws, rfl, h1, h2⟩ := RL.cons_ h
    rw [List.zip_cons_cons] at hp
    rcases List.mem_cons.mp hp with rfl | hp
    · exact h1
    · exact RL.pairs h2 p hp
theorem RL.of_pairs : ∀ {ps : List (V × a)}, (∀ p ∈ ps, R H p.1 p.2) → RL H (ps.map (·.1)) (ps.map (·.2))
  | [], _ => RL.nil
  | p :: ps, h => RL.cons (h p List.mem_cons_self) (RL.of_pairs fun q hq => h q (List.mem_cons_of_mem _ hq))
theorem RL.sorted {ws : List V} {xs : List a} (h : RL H ws xs) : RL H (sortV ws xs) (sortT xs) := by
  have q : RL H (sortV ws xs) (((ws.zip xs).mergeSort fun p q => leT p.2 q.2).map (·.2)) := RL.of_pairs fun p hp => h.pairs p (List.mem_mergeSort.mp hp)
  rw [sort_zip h.len] at q
  exact q
end
section
variable {X : Cx} (a : Type) [Py a] [DecidableEq a] [DatumOrd a] [IsD a]
/-- sorted(xs) of a list: a new list -/
def rSortedT : List V → Hp → VK → Prop := fun vs H Q => ∃ (l : Addr) (ws : List V) (xs : List a), vs = [.ref l] ∧ H l = some (.lst ws) ∧ RL H ws xs ∧ ∀ (p : Addr), H p = none → Q (.ref p) (upd H p (.lst (sortV ws xs)))
theorem cr_sortedT [SortB a] (hu : X.A.units + 128 < cLine) (hd : Datum.depth a ≤ 100 := by decide) (hK : X.K = K0 := by rfl) : CallR X (.builtin "sorted") (rSortedT a) := by
  subst hK
  intro pins s σ H vs us Q I r h
  obtain ⟨l, ws, xs, rfl, hl, hx, k⟩ := h
  obtain ⟨its, rv, hL, hz⟩ := I.list (SqL.of (K := X.K) hl)
  rw [Vals.ref1 r]
  have hlen : ws.length = xs.length := hx.len
  have hE := each_pairs hx rv
  refine PySem.W.sorted_data (bs := ws.zip xs) (enc := fun p => Datum.toD p.2) hL.isList hE (each_imp (fun u p hp => hp.2.holds I hp.1) hE) (PySem.W.AllAlike.of fun p q => DatumOrd.alike p.2 q.2) ?_ (by rw [List.length_zip, ← hlen, Nat.min_self]; exact hz) (fun p _ => ?_) fun out ho he => ?_
  · rcases SortB.ok (a := a) with q | q
    · exact PySem.W.Sortable.tuples fun p => q p.2
    · exact PySem.W.Sortable.others fun p => q p.2
  · have := Datum.depth_le p.2
    omega
  · rw [dataLe_T (fun p : V × a => p.2)] at he
    obtain ⟨q1, q2⟩ := pairs_vals he
    obtain ⟨ep, he'⟩ := PyProof.Rows.sortedAll_at s.heap its out.toArray
    refine ⟨.ref _, upd H (s.heap.objs.size + 1) (.lst _), I.laid (t' := s.toks) (fun _ _ => PyProof.Rows.sortedAll_old) (Nat.le_succ _) ⟨?_, out, ep, q1, he'⟩, rfl, k _ (I.hok.fresh (Nat.le_succ _))⟩
    rw [List.length_map, List.length_mergeSort, List.length_zip, ← hlen, Nat.min_self]
    exact hz
end
end PG

set_option Elab.async false
set_option linter.all false
set_option maxRecDepth 100000
set_option maxHeartbeats 4000000
namespace PG
open PySem PySem.Spec PyProof.Rows L2
open PySem.W (T3 T4 Datum DatumOrd Holds HoldAll EachIs)
variable {K0 : PySem.W.Frag} [KF K0]

instance (i j : Int) : Decidable (CMulW i j) := inferInstanceAs (Decidable (_ < _))
instance (i j : Int) : Decidable (CDivW i j) := inferInstanceAs (Decidable (_ ∧ _))
instance (i j : Int) : Decidable (CPow i j) := inferInstanceAs (Decidable (_ ∧ _ ∧ _))
theorem szl : sizeLine = 16777216 := sizeLine_eq
theorem lt_line {n : Nat} (h : n < 16777216) : n < sizeLine := by rw [szl]; exact h
theorem le_line {n : Nat} (h : n < 16777216) : n ≤ sizeLine := Nat.le_of_lt (lt_line h)
theorem len_line {vs : List V} (h : vs.length < 16777216 := by (show _ < 16777216); simp) : vs.length ≤ sizeLine := le_line h
theorem SqLF {K : PySem.W.Frag} {F H : Hp} {p : Addr} {vs : List V} (s : Same F H) (h : F p = some (.lst vs)) : SqL K H p vs := SqL.of (s _ _ h)
theorem SqTF {K : PySem.W.Frag} {F H : Hp} {p : Addr} {vs : List V} (s : Same F H) (h : F p = some (.tup vs)) : SqT K H p vs := SqT.of (s _ _ h)
theorem SqTK {F H : Hp} {p : Addr} {vs : List V} (s : Same F H) (h : TupAt F p vs) : SqT K0 H p vs := (h.mono s).sq

/-! ### mirrors of what may go wrong -/
def setI {a : Type} (xs : List a) (i : Int) (y : a) : M (List a) := match ixN xs.length i with
  | some j => .ok (xs.set j y)
  | none => bad
def popI {a : Type} (xs : List a) (i : Int) : M (a × List a) := if xs.length < 16777216 then (match ixN xs.length i with
    | some j => (match xs[j]? with
      | some y => .ok (y, xs.eraseIdx j)
      | none => bad)
    | none => bad) else bad
def popL {a : Type} (xs : List a) : M (a × List a) := match xs[xs.length - 1]? with
  | some y => .ok (y, xs.dropLast)
  | none => bad
def appL {a : Type} (xs : List a) (y : a) : M (List a) := if xs.length < 16777216 then .ok (xs ++ [y]) else bad
def rangeL (lo hi : Int) : List Int := (List.range (hi - lo).toNat).map fun (i : Nat) => lo + (i : Int)
def okR (i : Int) : Prop := -1000000 ≤ i ∧ i ≤ 1000000
instance (i : Int) : Decidable (okR i) := inferInstanceAs (Decidable (_ ∧ _))
theorem okR.lo {i : Int} (h : okR i) : -(2 ^ 62) ≤ i := by obtain ⟨a, b⟩ := h; omega
theorem okR.hi {i : Int} (h : okR i) : i < 2 ^ 62 := by obtain ⟨a, b⟩ := h; omega
theorem rangeL_get {lo hi : Int} {i : Nat} (h : i < (hi - lo).toNat) : (rangeL lo hi).drop i = (lo + (i : Int)) :: (rangeL lo hi).drop (i + 1) := by
  unfold rangeL
  rw [List.drop_eq_getElem_cons (by simpa using h)]
  simp
theorem rangeL_end {lo hi : Int} : (rangeL lo hi).drop (hi - lo).toNat = [] := by
  rw [List.drop_eq_nil_iff]
  unfold rangeL
  simp
section
variable {a b : Type} {Q : a → Prop} {E : String → Prop} {H : Hp}
theorem wp_setI {xs : List b} {i : Int} {y : b} {k : List b → M a} (h : wp (setI xs i y >>= k) Q E) : ∃ j, ixN xs.length i = some j ∧ wp (k (xs.set j y)) Q E := by
  unfold setI at h
  cases e : ixN xs.length i with
  | none => rw [e] at h; exact h.elim
  | some j => rw [e] at h; exact ⟨j, rfl, h⟩
theorem wp_popI {xs : List b} {i : Int} {k : b × List b → M a} (h : wp (popI xs i >>= k) Q E) : ∃ j y, seqIndex? i xs.length = some j ∧ -(2 ^ 63) ≤ i ∧ i < 2 ^ 63 ∧ xs[j]? = some y ∧ wp (k (y, xs.eraseIdx j)) Q E := by
  unfold popI at h
  by_cases hl : xs.length < 16777216
  · rw [if_pos hl] at h
    cases e : ixN xs.length i with
    | none => rw [e] at h; exact h.elim
    | some j =>
      rw [e] at h
      have h : wp ((match xs[j]? with
        | some y => .ok (y, xs.eraseIdx j)
        | none => bad) >>= k) Q E := h
      cases e2 : xs[j]? with
      | none => rw [e2] at h; exact h.elim
      | some y =>
        rw [e2] at h
        obtain ⟨q1, q2, q3, q4⟩ := ixN_seq e
        exact ⟨j, y, q1, by omega, by omega, e2, h⟩
  · rw [if_neg hl] at h
    exact h.elim
theorem wp_popL {xs : List b} {k : b × List b → M a} (h : wp (popL xs >>= k) Q E) : ∃ y, xs[xs.length - 1]? = some y ∧ wp (k (y, xs.dropLast)) Q E := by
  unfold popL at h
  cases e : xs[xs.length - 1]? with
  | none => rw [e] at h; exact h.elim
  | some y => rw [e] at h; exact ⟨y, rfl, h⟩
theorem wp_appL {xs : List b} {y : b} {k : List b → M a} (h : wp (appL xs y >>= k) Q E) : xs.length < sizeLine ∧ wp (k (xs ++ [y])) Q E := by
  unfold appL at h
  by_cases hl : xs.length < 16777216
  · rw [if_pos hl] at h
    exact ⟨lt_line hl, h⟩
  · rw [if_neg hl] at h
    exact h.elim
end
/-! loops, by what is left to be done -/
section
variable {i s r a c : Type} {Q : a → Prop} {E : String → Prop}
theorem loopN_L {b : i → s → M s} {xs : List i} {x : s} {k : s → M a} (h : wp (loopN b xs x >>= k) Q E) :
    ∃ L : List i → s → Prop, L xs x ∧ (∀ y ys x, L (y :: ys) x → wp (b y x) (fun x' => L ys x') E) ∧ ∀ x, L [] x → wp (k x) Q E := by
  refine ⟨fun ys x => wp (loopN b ys x >>= k) Q E, h, fun y ys x hx => ?_, fun x hx => hx⟩
  have hx : wp (loopN b (y :: ys) x >>= k) Q E := hx
  rw [wp_bind] at hx
  have hx : wp (b y x >>= fun x' => loopN b ys x') (fun x => wp (k x) Q E) E := hx
  rw [wp_bind] at hx
  cases e : b y x with
  | ok z =>
    rw [e] at hx
    exact wp_bind.mpr hx
  | error e2 =>
    rw [e] at hx
    cases e2 <;> exact hx
theorem loopM_L {b : i → s → M (Fl s r)} {xs : List i} {x : s} {k : Fl s r → M a} (h : wp (loopM b xs x >>= k) Q E) :
    ∃ L : List i → s → Prop, L xs x ∧ (∀ y ys x, L (y :: ys) x → wp (b y x) (fun f => match f with
      | .nx x' => L ys x'
      | .rt z => wp (k (.rt z)) Q E) E) ∧ ∀ x, L [] x → wp (k (.nx x)) Q E := by
  refine ⟨fun ys x => wp (loopM b ys x >>= k) Q E, h, fun y ys x hx => ?_, fun x hx => hx⟩
  have hx : wp (loopM b (y :: ys) x >>= k) Q E := hx
  rw [wp_bind] at hx
  cases e : b y x with
  | ok z =>
    have hx : wp (b y x >>= fun f => match f with
      | .nx x' => loopM b ys x'
      | .rt z => .ok (.rt z)) (fun x => wp (k x) Q E) E := hx
    rw [e] at hx
    cases z with
    | nx z => exact wp_bind.mpr hx
    | rt z => exact hx
  | error e2 =>
    have hx : wp (b y x >>= fun f => match f with
      | .nx x' => loopM b ys x'
      | .rt z => .ok (.rt z)) (fun x => wp (k x) Q E) E := hx
    rw [e] at hx
    cases e2 <;> exact hx
theorem whileN_L {c : s → M Bool} {b : s → M s} {n : Nat} {x : s} {k : s → M a} (h : wp (whileN c b n x >>= k) Q E) :
    ∃ L : Nat → s → Prop, L n x ∧ ∀ m x, L m x → wp (c x) (fun t => if t = true then ∃ m', m' < m ∧ wp (b x) (fun x' => L m' x') E else wp (k x) Q E) E := by
  refine ⟨fun n x => wp (whileN c b n x >>= k) Q E, h, fun m x hx => ?_⟩
  cases m with
  | zero => exact hx.elim
  | succ m =>
    have hx : wp ((c x >>= fun t => if t = true then b x >>= fun x' => whileN c b m x' else .ok x) >>= k) Q E := hx
    rw [wp_bind, wp_bind] at hx
    cases e : c x with
    | error e2 => rw [e] at hx; cases e2 <;> exact hx
    | ok t =>
      rw [e] at hx
      cases t with
      | false => exact hx
      | true =>
        refine ⟨m, Nat.lt_succ_self m, ?_⟩
        have hx : wp (b x >>= fun x' => whileN c b m x') (fun x => wp (k x) Q E) E := hx
        rw [wp_bind] at hx
        cases e : b x with
        | error e2 => rw [e] at hx; cases e2 <;> exact hx
        | ok z =>
          rw [e] at hx
          exact wp_bind.mpr hx
theorem whileM_L {c : s → M Bool} {b : s → M (Fl s r)} {n : Nat} {x : s} {k : Fl s r → M a} (h : wp (whileM c b n x >>= k) Q E) :
    ∃ L : Nat → s → Prop, L n x ∧ ∀ m x, L m x → wp (c x) (fun t => if t = true then ∃ m', m' < m ∧ wp (b x) (fun f => match f with
      | .nx x' => L m' x'
      | .rt z => wp (k (.rt z)) Q E) E else wp (k (.nx x)) Q E) E := by
  refine ⟨fun n x => wp (whileM c b n x >>= k) Q E, h, fun m x hx => ?_⟩
  cases m with
  | zero => exact hx.elim
  | succ m =>
    have hx : wp ((c x >>= fun t => if t = true then b x >>= fun
      | .nx x' => whileM c b m x'
      | .rt z => .ok (.rt z)
    else .ok (.nx x)) >>= k) Q E := hx
    rw [wp_bind, wp_bind] at hx
    cases e : c x with
    | error e2 => rw [e] at hx; cases e2 <;> exact hx
    | ok t =>
      rw [e] at hx
      cases t with
      | false => exact hx
      | true =>
        refine ⟨m, Nat.lt_succ_self m, ?_⟩
        have hx : wp (b x >>= fun
          | .nx x' => whileM c b m x'
          | .rt z => .ok (.rt z)) (fun x => wp (k x) Q E) E := hx
        rw [wp_bind] at hx
        cases e : b x with
        | error e2 => rw [e] at hx; cases e2 <;> exact hx
        | ok z =>
          rw [e] at hx
          cases z with
          | nx z => exact wp_bind.mpr hx
          | rt z => exact hx
/-- a comprehension: what it has made so far, then the items left; no exception leaves it -/
def compX (b : i → s → M (Option c × s)) : List i → List c → s → M (List c × s)
  | [], acc, x => .ok (acc, x)
  | y :: ys, acc, x => nox (b y x) >>= fun p => compX b ys (match p.1 with
    | some z => acc ++ [z]
    | none => acc) p.2
/-- the list is short enough -/
def compS (b : i → s → M (Option c × s)) (xs : List i) (x : s) : M (List c × s) := chk (xs.length < 16777216) >>= fun _ => compX b xs [] x
theorem compX_L {b : i → s → M (Option c × s)} {k : List c × s → M a} : ∀ {xs : List i} {acc : List c} {x : s}, wp (compX b xs acc x >>= k) Q E →
    ∃ L : List i → List c → s → Prop, L xs acc x ∧ (∀ y ys acc x, L (y :: ys) acc x → wp (b y x) (fun p => L ys (match p.1 with
      | some z => acc ++ [z]
      | none => acc) p.2) (fun _ => False)) ∧ ∀ acc x, L [] acc x → wp (k (acc, x)) Q E := by
  intro xs acc x h
  refine ⟨fun ys acc x => wp (compX b ys acc x >>= k) Q E, h, fun y ys acc x hx => ?_, fun acc x hx => hx⟩
  have hx : wp ((nox (b y x) >>= fun p => compX b ys (match p.1 with
    | some z => acc ++ [z]
    | none => acc) p.2) >>= k) Q E := hx
  rw [wp_bind] at hx
  obtain ⟨p, e, hx⟩ := wp_nox hx
  rw [e]
  exact wp_bind.mpr hx
theorem compS_L {b : i → s → M (Option c × s)} {k : List c × s → M a} {xs : List i} {x : s} (h : wp (compS b xs x >>= k) Q E) : xs.length < 16777216 ∧
    ∃ L : List i → List c → s → Prop, L xs [] x ∧ (∀ y ys acc x, L (y :: ys) acc x → wp (b y x) (fun p => L ys (match p.1 with
      | some z => acc ++ [z]
      | none => acc) p.2) (fun _ => False)) ∧ ∀ acc x, L [] acc x → wp (k (acc, x)) Q E := by
  unfold compS at h
  rw [wp_bind] at h
  obtain ⟨h1, h2⟩ := wp_chk h
  exact ⟨h1, compX_L (wp_bind.mpr h2)⟩
end
theorem drop_at {a : Type} {xs : List a} {i : Nat} {x : a} (h : xs[i]? = some x) : xs.drop i = x :: xs.drop (i + 1) := by
  obtain ⟨h1, h2⟩ := List.getElem?_eq_some_iff.mp h
  rw [List.drop_eq_getElem_cons h1, h2]
theorem drop_end {a : Type} {xs : List a} {vs : List V} (h : vs.length = xs.length) : xs.drop vs.length = [] := by
  rw [h, List.drop_length]

/-! ### a def as it stands -/
structure Df (K : PySem.W.Frag) (mg : Str → Option Value) (x qual : Str) (st : Stmt) (ps : List Str) : Prop where
  ex : ∃ f fd, Fun K x qual st f fd ∧ mg x = some (.ref f) ∧ Binds K fd ps []
structure Ca (P : Program) (w : World) (K : PySem.W.Frag) (mg : Str → Option Value) (base : Heap) (x : Str) (k : Nat) (ps : List Str) (sp : Sp) : Prop where
  ex : ∃ f fd, FnOk P w K mg base (L2.CX P w) k f fd ps sp ∧ mg x = some (.ref f) ∧ PySem.W.keepIn K (.ref f) = true ∧ Binds K fd ps []
/-- an exception class of the program -/
structure Xc (K : PySem.W.Frag) (mg : Str → Option Value) (x : Str) (C : Addr) : Prop where
  g : mg x = some (.ref C)
  x : PySem.W.excIn K C [.type "ValueError", .type "Exception", .type "BaseException", .type "object"] "ValueError.__new__" = true
  k : PySem.W.keepIn K (.ref C) = true
  b : PySem.W.subIn K (.ref C) (.type "BaseException") = some true
  t : PySem.W.typeIn K (.ref C) = some (.type "type")
section
variable {P : Program} {w : World} {K : PySem.W.Frag} {mg : Str → Option Value} {base : Heap}
theorem Ca.mk' {x qual : Str} {st : Stmt} {N ps : List Str} {k : Nat} {sp : Sp} (D : Df K mg x qual st ps) (S : FnScope N ps (defScope st)) (len : ∀ vs H Q E, sp vs H Q E → vs.length = ps.length)
    (hbody : ∀ (qual' : Str) (f : Addr) (cdv : Value) (A : Around) (outer : List Env) (s : Shared) (H : Hp) (vs : List V) (Q : VK) (E : XK), Room k (A.deeper (envOfC qual (defScope st) s.heap.objs.size f cdv)) → sp vs H Q E →
      ∃ t, PSs (cxOf (L2.CX P w) P w K mg base N qual (defScope st) f cdv A outer s H E) (defBody st) t ∧ t { nx := fun _ H' => Q .non H', rt := Q } (start N vs) H) : Ca P w K mg base x (k + 1) ps sp := by
  obtain ⟨f, fd, F, m, b⟩ := D.ex
  exact ⟨f, fd, F.okX S len fun cdv A outer s H vs Q E hr h => hbody qual f cdv A outer s H vs Q E hr h, m, F.kp, b⟩
end
section
variable {X : Cx}
/-- len of a list or tuple -/
def rLenT : List V → Hp → VK → Prop := fun vs H Q => ∃ (l : Addr) (ws : List V) (n : Nat), vs = [.ref l] ∧ (H l = some (.lst ws) ∨ H l = some (.tup ws)) ∧ ws.length = n ∧ Q (.int n) H
theorem call_lenT : CallR X (.builtin "len") rLenT := by
  intro pins s σ H vs us Q I r h
  obtain ⟨l, ws, n, e, hl, rfl, k⟩ := h
  refine call_len_seq pins s σ H vs us Q I r ⟨l, ws, e, ?_, k⟩
  rcases hl with hl | hl
  · exact .inl (SqL.of hl)
  · exact .inr (SqT.of hl)
end

section
variable {Z : Ent} {F F' H H' : Hp} {cs : List (Addr × HO)} {p a : Addr} {o o' : HO}
theorem Ow.putE (O : Ow Z F cs H) (h : H p = none) (o : HO) : ∃ F', Ow Z F' cs (upd H p o) ∧ Same F F' ∧ F' p = some o := ⟨_, O.put h, O.putS h, upd_same⟩
theorem Ow.was (O : Ow Z F cs H) (h : H p = none) : Z.H p = none := by
  cases q : Z.H p with
  | none => rfl
  | some u => exact absurd h (O.g.t p (by rw [q]; simp))
theorem Ow.frzE (O : Ow Z F cs H) (i : Nat) (e : cs[i]? = some (a, o)) (hz : Z.H a = none) : ∃ F', Ow Z F' (cs.eraseIdx i) H ∧ Same F F' ∧ F' a = some o := ⟨_, O.frz i e hz, O.frzS i e, upd_same⟩
/-- a cell that a call made -/
theorem Ow.got (O : Ow Z F cs H) (O' : Ow Z F' cs' H') (hk : cs'.map (·.1) = cs.map (·.1)) (hn : H p = none) (hf : F' p = none) (h : H' p = some o) (ht : noTup o = true := by rfl) : Ow Z F' ((p, o) :: cs') H' :=
  O'.add O (fun c hc => by rw [← hk]; exact List.mem_map.mpr ⟨c, hc, rfl⟩) hn hf h ht
end
theorem rangeL_get0 {n : Int} {i : Nat} (h : i < n.toNat) : (rangeL 0 n).drop i = (0 + (i : Int)) :: (rangeL 0 n).drop (i + 1) := rangeL_get (by simpa using h)
theorem rangeL_end0 {n : Int} : (rangeL 0 n).drop n.toNat = [] := by
  have := rangeL_end (lo := 0) (hi := n)
  simpa using this
theorem iteD {c A B : Prop} [Decidable c] (h1 : c → A) (h2 : ¬ c → B) : if decide c = true then A else B := by
  by_cases h : c
  · rw [decide_eq_true h, if_pos rfl]; exact h1 h
  · rw [decide_eq_false h, if_neg Bool.false_ne_true]; exact h2 h
theorem iteN {c A B : Prop} [Decidable c] (h1 : c → B) (h2 : ¬ c → A) : if (!decide c) = true then A else B := by
  by_cases h : c
  · rw [decide_eq_true h]; exact h1 h
  · rw [decide_eq_false h]; exact h2 h
theorem iteB {b : Bool} {A B : Prop} (h1 : b = true → A) (h2 : ¬ b = true → B) : if b = true then A else B := by
  cases b with
  | true => exact h1 rfl
  | false => exact h2 Bool.false_ne_true
theorem iteBN {b : Bool} {A B : Prop} (h1 : b = true → B) (h2 : ¬ b = true → A) : if (!b) = true then A else B := by
  cases b with
  | true => exact h1 rfl
  | false => exact h2 Bool.false_ne_true
theorem iteNT {A B : Prop} (h : B) : if (!true) = true then A else B := h
theorem iteNF {A B : Prop} (h : A) : if (!false) = true then A else B := h
theorem wp_if {a : Type} {Q : a → Prop} {E : String → Prop} {c : Prop} [Decidable c] {x y : M a} (h : wp (if c then x else y) Q E) (hc : c) : wp x Q E := by
  rw [if_pos hc] at h
  exact h
theorem wp_el {a : Type} {Q : a → Prop} {E : String → Prop} {c : Prop} [Decidable c] {x y : M a} (h : wp (if c then x else y) Q E) (hc : ¬ c) : wp y Q E := by
  rw [if_neg hc] at h
  exact h

theorem hu128_of {A : Around} {k : Nat} (hr : Room k A) : A.units + 128 < cLine := by have := hr.un; omega
def cutL {a : Type} (xs : List a) (lo hi : Option Int) : List a := (xs.drop (HT.sIx xs.length 0 lo)).take (HT.sIx xs.length xs.length hi - HT.sIx xs.length 0 lo)
theorem RL.cutL {a : Type} [Py a] {H : Hp} {vs : List V} {xs : List a} (h : RL H vs xs) (lo hi : Option Int) : RL H (cutV vs lo hi) (PG.cutL xs lo hi) := h.cut lo hi
theorem RL.last {a : Type} [Py a] {H : Hp} {vs : List V} {xs : List a} {y : a} (h : RL H vs xs) (e : xs[xs.length - 1]? = some y) : ∃ w, vs[vs.length - 1]? = some w ∧ R H w y := by
  obtain ⟨w, e1, h1⟩ := h.get e
  exact ⟨w, by rw [h.len]; exact e1, h1⟩

theorem okR.rg1 {n : Int} (h : okR n) : RgOk 0 n := by
  obtain ⟨a, b⟩ := h
  exact ⟨by omega, by omega, by omega, by omega, by omega⟩
theorem rgV_eq (a b : Int) : rgV a b = (rangeL a b).map V.int := by
  unfold rgV rangeL
  rw [List.map_map]
  rfl
theorem RL.rg {H : Hp} {a b : Int} : RL H (rgV a b) (rangeL a b) := by
  rw [rgV_eq]
  exact RL.of_ints

theorem comp_len {b : Type} {w vs : List V} {xs : List b} {i : Nat} {x : V} (la : w.length ≤ i) (hi : vs[i]? = some x) (hl : vs.length = xs.length) (c : xs.length < 16777216) : w.length < sizeLine := by
  have := (List.getElem?_eq_some_iff.mp hi).1
  exact lt_line (by omega)
theorem rangeL_length (lo hi : Int) : (rangeL lo hi).length = (hi - lo).toNat := by
  unfold rangeL
  simp
theorem comp_lenR {w : List V} {lo hi : Int} {i n : Nat} (la : w.length ≤ i) (h : i < n) (e : (hi - lo).toNat = n) (c : (rangeL lo hi).length < 16777216) : w.length < sizeLine := by
  rw [rangeL_length] at c
  exact lt_line (by omega)
theorem tYes_ {σ : L2.St} {H : Hp} {Q : Bool → Hp → Prop} (h : Q true H) : tYes σ H Q := h

/-! lists of own lists of ints -/
abbrev LC := Addr × List Int
def lcell (c : LC) : Addr × HO := (c.1, .lst (c.2.map V.int))
theorem Ow.perm {Z : Ent} {F H : Hp} {cs cs' : List (Addr × HO)} (O : Ow Z F cs H) (h : cs.Perm cs') : Ow Z F cs' H where
  g := O.g
  cf := fun c hc => O.cf c (h.mem_iff.mpr hc)
  ch := fun c hc => O.ch c (h.mem_iff.mpr hc)
  nd := (h.map _).nodup_iff.mp O.nd
  ca := fun c hc => O.ca c (h.mem_iff.mpr hc)
  nt := fun c hc => O.nt c (h.mem_iff.mpr hc)
theorem Ow.sub {Z : Ent} {F H : Hp} {cs cs' : List (Addr × HO)} (O : Ow Z F cs H) (h : cs'.Sublist cs) : Ow Z F cs' H where
  g := O.g
  cf := fun c hc => O.cf c (h.subset hc)
  ch := fun c hc => O.ch c (h.subset hc)
  nd := O.nd.sublist (h.map _)
  ca := fun c hc => O.ca c (h.subset hc)
  nt := fun c hc => O.nt c (h.subset hc)
/-- a new list of new lists -/
structure OwnLL (H F' H' : Hp) (p : Addr) (ps : List LC) : Prop where
  pn : H p = none
  pf : F' p = none
  ph : H' p = some (.lst (ps.map fun c => V.ref c.1))
  qn : ∀ c ∈ ps, H c.1 = none
  qf : ∀ c ∈ ps, F' c.1 = none
  qh : ∀ c ∈ ps, H' c.1 = some (.lst (c.2.map V.int))
  nd : (p :: ps.map (·.1)).Nodup
theorem OwnLL.frz {F H F' H' : Hp} {p : Addr} {ps : List LC} {as : List Addr} (G : Gr as F H F' H') (L : OwnLL H F' H' p ps) :
    ∃ F2, Gr as F H F2 H' ∧ F2 p = none ∧ RL F2 (ps.map fun c => V.ref c.1) (ps.map (·.2)) := by
  refine ⟨fun b => if b ∈ ps.map (·.1) then H' b else F' b, ⟨fun b o e => ?_, fun b o e => ?_, G.k, G.t, fun b e => ?_, G.u⟩, ?_, ?_⟩
  · have h1 := G.f b o e
    by_cases hb : b ∈ ps.map (·.1)
    · obtain ⟨c, hc, rfl⟩ := List.mem_map.mp hb
      rw [L.qf c hc] at h1
      cases h1
    · show (if b ∈ ps.map (·.1) then H' b else F' b) = some o
      rw [if_neg hb]
      exact h1
  · have e : (if b ∈ ps.map (·.1) then H' b else F' b) = some o := e
    by_cases hb : b ∈ ps.map (·.1)
    · rw [if_pos hb] at e
      exact e
    · rw [if_neg hb] at e
      exact G.s b o e
  · show (if b ∈ ps.map (·.1) then H' b else F' b) = F b ∨ _
    have hb : b ∉ ps.map (·.1) := fun hb => by
      obtain ⟨c, hc, rfl⟩ := List.mem_map.mp hb
      exact e (L.qn c hc)
    rw [if_neg hb]
    exact G.n b e
  · show (if p ∈ ps.map (·.1) then H' p else F' p) = none
    rw [if_neg (List.nodup_cons.mp L.nd).1]
    exact L.pf
  · have all : ∀ l : List LC, (∀ c ∈ l, c ∈ ps) → RL (fun b => if b ∈ ps.map (·.1) then H' b else F' b) (l.map fun c => V.ref c.1) (l.map (·.2)) := by
      intro l
      induction l with
      | nil => intro _; exact RL.nil
      | cons c l ih =>
        intro h
        have hc := h c List.mem_cons_self
        refine RL.cons (R.lst (vs := c.2.map V.int) ?_ RL.of_ints) (ih fun d hd => h d (List.mem_cons_of_mem _ hd))
        show (if c.1 ∈ ps.map (·.1) then H' c.1 else F' c.1) = _
        rw [if_pos (List.mem_map.mpr ⟨c, hc, rfl⟩)]
        exact L.qh c hc
    exact all ps fun _ h => h
theorem FnOk.impC {P : Program} {w : World} {K : PySem.W.Frag} {mg : Str → Option Value} {base : Heap} {x : Str} {k : Nat} {ps : List Str} {sp sp' : Sp} (F : Ca P w K mg base x k ps sp) (h : ∀ vs H Q E, sp' vs H Q E → sp vs H Q E) : Ca P w K mg base x k ps sp' := by
  obtain ⟨f, fd, G, m, kp, b⟩ := F.ex
  exact ⟨f, fd, G.imp h, m, kp, b⟩
theorem wp_mono {a : Type} {Q Q' : a → Prop} {E : String → Prop} {m : M a} (h : wp m Q E) (f : ∀ r, Q r → Q' r) : wp m Q' E := wp_tail h (fun r _ q => f r q) fun _ e => e
/-- a scalar call that reads a cell: the cell is as it was, and nothing of the call is kept -/
theorem Ow.borrow {Z : Ent} {F F1 F' H H' : Hp} {cs : List (Addr × HO)} (O : Ow Z F cs H) (s1 : Same F F1) (g : Gr [] F1 H F' H') : Ow Z F cs H' where
  g := ⟨O.g.f, (s1.trans g.f).trans g.s, fun b o hb e => g.k b o (fun h => nomatch h) (O.g.k b o hb e), fun b e => g.t b (O.g.t b e), O.g.n, fun b xs e => by
    rcases g.u b xs e with z | z
    · refine .inl ?_
      cases q : Z.H b with
      | none => rfl
      | some u => exact absurd z (O.g.t b (by rw [q]; simp))
    · exact O.g.u b xs z⟩
  cf := O.cf
  ch := fun c hc => g.k _ _ (fun h => nomatch h) (O.ch c hc)
  nd := O.nd
  ca := O.ca
  nt := O.nt
theorem Ow.lend {Z : Ent} {F H : Hp} {cs : List (Addr × HO)} {a : Addr} {o : HO} (O : Ow Z F cs H) (i : Nat) (e : cs[i]? = some (a, o)) : ∃ F1, Same F F1 ∧ Pre F1 [] H ∧ F1 a = some o := by
  have m := List.mem_of_getElem? e
  refine ⟨upd F a o, Same.new (O.cf _ m), ⟨fun b u q => ?_, (fun _ h => nomatch h), (fun _ h => nomatch h), List.nodup_nil, fun _ h => nomatch h⟩, upd_same⟩
  by_cases hb : b = a
  · subst hb; rw [upd_same] at q; rw [← q]; exact O.ch _ m
  · rw [upd_ne hb] at q; exact O.s b u q

abbrev lrefs (ps : List LC) : List V := ps.map fun (c : LC) => V.ref c.1

def ret {a : Type} (x : a) : M a := .ok x
theorem wp_ret {a b : Type} {Q : a → Prop} {E : String → Prop} {x : b} {k : b → M a} (h : wp (ret x >>= k) Q E) : ∃ y, y = x ∧ wp (k y) Q E := ⟨x, rfl, h⟩

/-- tuples that stand may be read -/
theorem Ow.tups {Z : Ent} {F H : Hp} {cs : List (Addr × HO)} (O : Ow Z F cs H) (bs : List Addr) (h : ∀ b ∈ bs, ∃ xs, H b = some (.tup xs)) : ∃ F', Ow Z F' cs H ∧ Same F F' ∧ ∀ b ∈ bs, F' b = H b := by
  refine ⟨fun b => if b ∈ bs then H b else F b, ⟨⟨fun b o e => ?_, fun b o e => ?_, O.g.k, O.g.t, fun b e => ?_, O.g.u⟩, fun c hc => ?_, O.ch, O.nd, O.ca, O.nt⟩, fun b o e => ?_, fun b hb => if_pos hb⟩
  · have h1 := O.g.f b o e
    show (if b ∈ bs then H b else F b) = some o
    by_cases hb : b ∈ bs
    · rw [if_pos hb]; exact O.s b o h1
    · rw [if_neg hb]; exact h1
  · have e : (if b ∈ bs then H b else F b) = some o := e
    by_cases hb : b ∈ bs
    · rw [if_pos hb] at e; exact e
    · rw [if_neg hb] at e; exact O.s b o e
  · show (if b ∈ bs then H b else F b) = Z.F b ∨ _
    by_cases hb : b ∈ bs
    · obtain ⟨xs, hx⟩ := h b hb
      rcases O.g.u b xs hx with z | z
      · exact absurd z e
      · exact .inr ⟨xs, z⟩
    · rw [if_neg hb]; exact O.g.n b e
  · show (if c.1 ∈ bs then H c.1 else F c.1) = none
    by_cases hb : c.1 ∈ bs
    · obtain ⟨xs, hx⟩ := h c.1 hb
      have hn := O.nt c hc
      rw [O.ch c hc] at hx
      rw [Option.some.inj hx] at hn
      cases hn
    · rw [if_neg hb]; exact O.cf c hc
  · show (if b ∈ bs then H b else F b) = some o
    by_cases hb : b ∈ bs
    · rw [if_pos hb]; exact O.s b o e
    · rw [if_neg hb]; exact e
end PG

set_option Elab.async false
set_option linter.all false
set_option maxRecDepth 100000
set_option maxHeartbeats 4000000
namespace PG
open PySem PySem.Spec PyProof.Rows L2
open PySem.W (T3 T4 Datum DatumOrd Holds HoldAll EachIs)
variable {K0 : PySem.W.Frag} [KF K0]

theorem u1_of {n : Nat} (h : n + 64 < cLine) : n + 1 < cLine := Nat.lt_of_le_of_lt (Nat.add_le_add_left (by decide) _) h
/-! ### dicts: what stands for a key -/
class DK (κ : Type) (K' : outParam Type) where
  kk : κ → K'
  inj : ∀ a b, kk a = kk b → a = b
instance : DK Int Key := ⟨Sum.inl, fun _ _ h => Sum.inl.inj h⟩
instance : DK Str Key := ⟨Sum.inr, fun _ _ h => Sum.inr.inj h⟩
instance : DK (Int × Int) (List Key) := ⟨fun p => [.inl p.1, .inl p.2], fun a b h => by
  injection h with h1 h2
  injection h2 with h2 _
  exact Prod.ext (Sum.inl.inj h1) (Sum.inl.inj h2)⟩
section
variable {κ K' β : Type} [DK κ K'] [Py β]
inductive RD (F : Hp) : List (K' × V) → List (κ × β) → Prop
  | nil : RD F [] []
  | cons {k : κ} {v : V} {y : β} {kvs : List (K' × V)} {xs : List (κ × β)} : R F v y → RD F kvs xs → RD F ((DK.kk k, v) :: kvs) ((k, y) :: xs)
variable {F F' : Hp}
theorem RD.mono {kvs : List (K' × V)} {xs : List (κ × β)} (h : RD F kvs xs) (s : Same F F') : RD F' kvs xs := by
  induction h with
  | nil => exact .nil
  | cons h _ ih => exact .cons (h.mono s) ih
theorem RD.len {kvs : List (K' × V)} {xs : List (κ × β)} (h : RD F kvs xs) : kvs.length = xs.length := by
  induction h with
  | nil => rfl
  | cons h _ ih => rw [List.length_cons, List.length_cons, ih]
theorem RD.keys {kvs : List (K' × V)} {xs : List (κ × β)} (h : RD F kvs xs) : kvs.map (·.1) = (xs.map (·.1)).map DK.kk := by
  induction h with
  | nil => rfl
  | cons h _ ih => rw [List.map_cons, List.map_cons, List.map_cons, ih]
end
section
variable {κ K' β : Type} [DK κ K'] [DecidableEq κ] [DecidableEq K'] [Py β] {F F' : Hp}
def dGet (xs : List (κ × β)) (k : κ) : Option β := (xs.find? fun p => decide (p.1 = k)).map (·.2)
def dPut (xs : List (κ × β)) (k : κ) (y : β) : List (κ × β) :=
  if (xs.any fun p => decide (p.1 = k)) = true then xs.map (fun p => if p.1 = k then (p.1, y) else p) else xs ++ [(k, y)]
def dHas (xs : List (κ × β)) (k : κ) : Bool := (dGet xs k).isSome
theorem kk_dec {a b : κ} : decide ((DK.kk a : K') = DK.kk b) = decide (a = b) := by
  by_cases h : a = b
  · subst h; simp
  · rw [decide_eq_false h, decide_eq_false fun z => h (DK.inj a b z)]
theorem dGet_pos {p : κ × β} {r : List (κ × β)} {k : κ} (e : p.1 = k) : dGet (p :: r) k = some p.2 := by simp [dGet, List.find?_cons, e]
theorem dGet_neg {p : κ × β} {r : List (κ × β)} {k : κ} (e : ¬ p.1 = k) : dGet (p :: r) k = dGet r k := by simp [dGet, List.find?_cons, e]
theorem RD.get {kvs : List (K' × V)} {xs : List (κ × β)} (h : RD F kvs xs) (k : κ) :
    (dGet xs k = none ∧ valV kvs (DK.kk k) = none) ∨ ∃ y v, dGet xs k = some y ∧ valV kvs (DK.kk k) = some v ∧ R F v y := by
  induction h with
  | nil => exact .inl ⟨rfl, rfl⟩
  | @cons j v y kvs xs h hs ih =>
    by_cases e : j = k
    · exact .inr ⟨y, v, dGet_pos e, valV_pos (by rw [e]), h⟩
    · rw [dGet_neg (p := (j, y)) e, valV_neg (fun z => e (DK.inj j k z))]
      exact ih
theorem RD.some {kvs : List (K' × V)} {xs : List (κ × β)} (h : RD F kvs xs) {k : κ} {y : β} (e : dGet xs k = some y) : ∃ v, valV kvs (DK.kk k) = some v ∧ R F v y := by
  rcases h.get k with ⟨a, _⟩ | ⟨y', v, a, b, c⟩
  · rw [e] at a; cases a
  · rw [e] at a; cases a; exact ⟨v, b, c⟩
theorem RD.is {kvs : List (K' × V)} {xs : List (κ × β)} (h : RD F kvs xs) (k : κ) : (valV kvs (DK.kk k)).isSome = dHas xs k := by
  unfold dHas
  rcases h.get k with ⟨a, b⟩ | ⟨y', v, a, b, c⟩
  · rw [a, b]; rfl
  · rw [a, b]; rfl
theorem RD.map {kvs : List (K' × V)} {xs : List (κ × β)} (h : RD F kvs xs) (k : κ) {v : V} {y : β} (hv : R F v y) :
    RD F (kvs.map fun kv => if kv.1 = DK.kk k then (kv.1, v) else kv) (xs.map fun p => if p.1 = k then (p.1, y) else p) := by
  induction h with
  | nil => exact .nil
  | @cons j u z kvs xs h hs ih =>
    rw [List.map_cons, List.map_cons]
    by_cases e : j = k
    · rw [if_pos e, if_pos (show (DK.kk j, u).1 = DK.kk k by rw [e])]
      exact .cons hv ih
    · rw [if_neg e, if_neg (show ¬ (DK.kk j, u).1 = DK.kk k from fun z => e (DK.inj j k z))]
      exact .cons h ih
theorem RD.snoc {kvs : List (K' × V)} {xs : List (κ × β)} (h : RD F kvs xs) (k : κ) {v : V} {y : β} (hv : R F v y) : RD F (kvs ++ [(DK.kk k, v)]) (xs ++ [(k, y)]) := by
  induction h with
  | nil => exact .cons hv .nil
  | cons h _ ih => exact .cons h ih
theorem RD.any {kvs : List (K' × V)} {xs : List (κ × β)} (h : RD F kvs xs) (k : κ) : (kvs.any fun kv => decide (kv.1 = DK.kk k)) = (xs.any fun p => decide (p.1 = k)) := by
  induction h with
  | nil => rfl
  | @cons j u z kvs xs h hs ih => rw [List.any_cons, List.any_cons, ih, kk_dec]
theorem RD.put {kvs : List (K' × V)} {xs : List (κ × β)} (h : RD F kvs xs) (k : κ) {v : V} {y : β} (hv : R F v y) : RD F (putK kvs (DK.kk k) v) (dPut xs k y) := by
  unfold putK dPut
  rw [h.any k]
  by_cases e : (xs.any fun p => decide (p.1 = k)) = true
  · rw [if_pos e, if_pos e]; exact h.map k hv
  · rw [if_neg e, if_neg e]; exact h.snoc k hv
def putD (xs : List (κ × β)) (k : κ) (y : β) : M (List (κ × β)) := if xs.length < 16777216 then .ok (dPut xs k y) else bad
theorem wp_putD {a : Type} {Q : a → Prop} {E : String → Prop} {xs : List (κ × β)} {j : κ} {y : β} {k : List (κ × β) → M a} (h : wp (putD xs j y >>= k) Q E) : xs.length < sizeLine ∧ wp (k (dPut xs j y)) Q E := by
  unfold putD at h
  by_cases hl : xs.length < 16777216
  · rw [if_pos hl] at h
    exact ⟨lt_line hl, h⟩
  · rw [if_neg hl] at h
    exact h.elim
end
/-- a dict that is read alone -/
class DO (K' : Type) where
  ho : List (K' × V) → HO
instance : DO Key := ⟨.dK⟩
instance : DO (List Key) := ⟨.dT⟩
section
variable {κ K' β : Type} [DK κ K'] [Py β] [DO K'] {F F' H : Hp} {v : V} {a b : Addr}
def RDv (F : Hp) (v : V) (xs : List (κ × β)) : Prop := ∃ (a : Addr) (kvs : List (K' × V)), v = .ref a ∧ Rd F a (DO.ho kvs) ∧ RD F kvs xs
theorem rd_mono {u : HO} (s : Same F F') (h : Rd F a u) : Rd F' a u := h.elim (fun e => .inl (s _ _ e)) fun ⟨o, e⟩ => .inr ⟨o, s _ _ e⟩
theorem RDv.mono {xs : List (κ × β)} (h : RDv F v xs) (s : Same F F') : RDv F' v xs := by
  obtain ⟨a, kvs, e, h1, h2⟩ := h
  exact ⟨a, kvs, e, rd_mono s h1, h2.mono s⟩
theorem RDv.mk {xs : List (κ × β)} {kvs : List (K' × V)} (h : Rd F a (DO.ho kvs)) (hr : RD F kvs xs) : RDv F (.ref a) xs := ⟨a, kvs, rfl, h, hr⟩
end
section
variable {β : Type} [Py β] {F H : Hp} {a b : Addr}
theorem dgt {kvs : List (List Key × V)} {k : List Key} (e : Rd H a (.dT kvs)) (eb : H b = some (.tup (k.map kV))) : DGet H a (.ref b) (valV kvs k) := .inr ⟨kvs, k, b, e, rfl, eb, rfl⟩
theorem dgk {kvs : List (Key × V)} {k : Key} (e : Rd H a (.dK kvs)) : DGet H a (kV k) (valV kvs k) := .inl ⟨kvs, k, e, rfl, rfl⟩
theorem dget_T {kvs : List (List Key × V)} {i j : Int} {v : V} (e : Rd H a (.dT kvs)) (eb : H b = some (.tup [.int i, .int j])) (hv : valV kvs (DK.kk (i, j)) = some v) : DGet H a (.ref b) (some v) := by
  rw [← hv]
  exact dgt (k := [.inl i, .inl j]) e eb
theorem dget_I {kvs : List (Key × V)} {i : Int} {v : V} (e : Rd H a (.dK kvs)) (hv : valV kvs (DK.kk i) = some v) : DGet H a (.int i) (some v) := by
  rw [← hv]
  exact dgk (k := .inl i) e
theorem dget_S {kvs : List (Key × V)} {i : Str} {v : V} (e : Rd H a (.dK kvs)) (hv : valV kvs (DK.kk i) = some v) : DGet H a (.str i) (some v) := by
  rw [← hv]
  exact dgk (k := .inr i) e
theorem din_T {kvs : List (List Key × V)} {i j : Int} {xs : List ((Int × Int) × β)} (e : Rd H a (.dT kvs)) (eb : H b = some (.tup [.int i, .int j])) (hr : RD F kvs xs) : ∃ o, DGet H a (.ref b) o ∧ o.isSome = dHas xs (i, j) :=
  ⟨_, dgt (k := [.inl i, .inl j]) e eb, hr.is (i, j)⟩
theorem din_I {kvs : List (Key × V)} {i : Int} {xs : List (Int × β)} (e : Rd H a (.dK kvs)) (hr : RD F kvs xs) : ∃ o, DGet H a (.int i) o ∧ o.isSome = dHas xs i :=
  ⟨_, dgk (k := .inl i) e, hr.is i⟩
theorem din_S {kvs : List (Key × V)} {i : Str} {xs : List (Str × β)} (e : Rd H a (.dK kvs)) (hr : RD F kvs xs) : ∃ o, DGet H a (.str i) o ∧ o.isSome = dHas xs i :=
  ⟨_, dgk (k := .inr i) e, hr.is i⟩
theorem dput_T {kvs : List (List Key × V)} {i j : Int} {v : V} (e : H a = some (.dT kvs)) (eb : H b = some (.tup [.int i, .int j])) (hl : kvs.length < sizeLine) : DPut H a (.ref b) v (upd H a (.dT (putK kvs (DK.kk (i, j)) v))) := DPut.t (k := [.inl i, .inl j]) e eb hl
theorem dput_I {kvs : List (Key × V)} {i : Int} {v : V} (e : H a = some (.dK kvs)) (hl : kvs.length < sizeLine) : DPut H a (.int i) v (upd H a (.dK (putK kvs (DK.kk i) v))) := DPut.k (k := .inl i) e hl
theorem dput_S {kvs : List (Key × V)} {i : Str} {v : V} (e : H a = some (.dK kvs)) (hl : kvs.length < sizeLine) : DPut H a (.str i) v (upd H a (.dK (putK kvs (DK.kk i) v))) := DPut.k (k := .inr i) e hl
end
/-! sorted(d), the keys pairs of whole numbers -/
theorem keys_tups {H : Hp} {kvs : List (List Key × V)} {bs : List Addr} (h : IsKeys H kvs bs) : ∀ b ∈ bs, ∃ xs, H b = some (.tup xs) := by
  unfold IsKeys at h
  induction h with
  | nil => intro b hb; simp at hb
  | cons h t ih =>
    intro c hc
    rcases List.mem_cons.mp hc with rfl | hc
    · exact ⟨_, h⟩
    · exact ih c hc
theorem keys_rl {H : Hp} {kvs : List (List Key × V)} {bs : List Addr} (h : IsKeys H kvs bs) : ∀ {ks : List (Int × Int)}, kvs.map (·.1) = ks.map DK.kk → RL H (bs.map V.ref) ks := by
  unfold IsKeys at h
  induction h with
  | nil =>
    intro ks e
    cases ks with
    | nil => exact RL.nil
    | cons k ks => simp at e
  | cons h t ih =>
    intro ks e
    cases ks with
    | nil => simp at e
    | cons k ks =>
      rw [List.map_cons, List.map_cons] at e
      injection e with e1 e2
      rw [e1] at h
      exact RL.cons (R.t2 h R.int R.int) (ih e2)
theorem keys_in {H F : Hp} {kvs : List (List Key × V)} {bs : List Addr} {ks : List (Int × Int)} (h : IsKeys H kvs bs) (hf : ∀ b ∈ bs, F b = H b) (e : kvs.map (·.1) = ks.map DK.kk) : RL F (bs.map V.ref) ks := by
  refine keys_rl ?_ e
  unfold IsKeys at h ⊢
  clear e
  induction h with
  | nil => exact .nil
  | @cons x b xs bs h t ih =>
    refine .cons ?_ (ih fun c hc => hf c (List.mem_cons_of_mem _ hc))
    rw [hf b List.mem_cons_self]
    exact h
section
variable {X : Cx}
theorem cr_sortedDT (hcalm : X.calm = true) (hu : X.A.units + 128 < cLine) : CallR X (.builtin "sorted") (fun xs H Q => ∃ (d : Addr) (kvs : List (List Key × V)) (ks : List (Int × Int)), xs = [.ref d] ∧ Rd H d (.dT kvs) ∧ kvs.map (·.1) = ks.map DK.kk ∧
    ∀ (bs : List Addr) (p : Addr), IsKeys H kvs bs → H p = none → Q (.ref p) (upd H p (.lst (sortV (bs.map V.ref) ks)))) := by
  haveI : KF X.K := ⟨⟩
  intro pins s σ H xs us Q I r q
  obtain ⟨d, kvs, ks', ex, hd, hks, q⟩ := q
  subst ex
  obtain ⟨u, eu, rx⟩ := vals1 r
  subst eu
  cases rx
  obtain ⟨z, hs, ks, pr, o, es, ep, ho, hx, hdt, he, hn⟩ := (show ObjOk X.prog X.w H s.heap d (.dT kvs) from hd.ok I.hok)
  have l1 : es.size = ks.length := size_of_entries he
  have l2 : kvs.length = ks.length := Paired.length pr
  refine Calls.call_function_entry PyProof.Rows.kind_sorted PyProof.Rows.plain_sorted PyProof.Rows.entry_sorted (PyProof.Rows.args_sorted1 _) ?_
  unfold Builtin.«sorted»
  refine wpAny_bind (m := checkCount "sorted" 1 1 _) (wpAny_pure ?_)
  refine wpAny_bind (PySem.W.kdu_collect (A := X.A.in1) (kdl_raw hs hx hdt) (I.ok.hd hcalm) ho (by omega) fun h' tk acc kp it => ?_)
  have ea : acc.toList = ks.map fun x => Value.ref x.2.1 := by
    have hl : acc.toList.length = ks.length := by rw [Array.length_toList, it.1]; exact l1
    apply List.ext_getElem?
    intro j
    rw [List.getElem?_map]
    cases hj : acc.toList[j]? with
    | none =>
      have h1 := List.getElem?_eq_none_iff.mp hj
      rw [List.getElem?_eq_none (by omega)]
      all_goals rfl
    | some v =>
      obtain ⟨en, hen, hv⟩ := it.2 j v (by rw [← Array.getElem?_toList]; exact hj)
      have qe := entry_at he j
      rw [hen] at qe
      cases hb : ks[j]? with
      | none =>
        rw [hb] at qe
        exact nomatch (show some en = none from qe)
      | some b =>
        rw [hb] at qe
        have e2 : en = entryOfKey (tupleKind (mixKind X.prog X.w)) b := Option.some.inj qe
        rw [hv, e2]
        all_goals rfl
  have eb : acc.toList = (ks.map fun (x : List Key × Addr × Value) => x.2.1).map Value.ref := by rw [ea, List.map_map]; all_goals rfl
  have rv : Vals ((ks.map fun (x : List Key × Addr × Value) => x.2.1).map V.ref) acc.toList := by rw [eb]; exact vals_refs _
  have hik : IsKeys H kvs (ks.map fun (x : List Key × Addr × Value) => x.2.1) := isKeys_of pr
  have hrl := keys_rl hik hks
  have hlen : ((ks.map fun (x : List Key × Addr × Value) => x.2.1).map V.ref).length = ks'.length := hrl.len
  have hal : acc.toList.length = ks.length := by rw [ea, List.length_map]
  have I1 : Inv X pins σ H { s with heap := h', toks := tk } := I.kept kp
  have hE := each_pairs hrl rv
  have hR : EachIs (fun u (p : V × (Int × Int)) => ∃ as, PySem.Reads h' u (Datum.toD p.2) as) acc.toList (((ks.map fun (x : List Key × Addr × Value) => x.2.1).map V.ref).zip ks') := each_imp (fun u p hp => hp.2.holds I1 hp.1) hE
  have hoL : (h'.push (seqObj "list" acc.toList.toArray 0)).get? h'.objs.size = some (seqObj "list" acc.toList.toArray 0) := Heap.get?_push_size _ rfl
  have hz : acc.toList.length ≤ sizeLine := by rw [hal]; omega
  refine wpAny_bind (wpAny_newList ?_ hz)
  show wpAny _ _ _ _ _ { s with heap := h'.push (seqObj "list" acc.toList.toArray 0), toks := tk }
  have er' : EachIs (fun v (p : V × (Int × Int)) => ∃ as, PySem.Reads (PySem.W.sortingHeap (h'.push (seqObj "list" acc.toList.toArray 0)) h'.objs.size acc.toList) v (Datum.toD p.2) as) acc.toList (((ks.map fun (x : List Key × Addr × Value) => x.2.1).map V.ref).zip ks') :=
    hR.mono fun _ _ ⟨as, r⟩ => ⟨as, PyProof.Rows.Reads.keeps (fun b o e => PySem.W.sortingHeap_old (Nat.ne_of_lt (Heap.lt_size e)) (Heap.get?_push_of_some _ e)) r⟩
  have hal2 : PySem.W.AllAlike ((((ks.map fun (x : List Key × Addr × Value) => x.2.1).map V.ref).zip ks').map fun p => Datum.toD p.2) := PySem.W.AllAlike.of fun p q => DatumOrd.alike p.2 q.2
  refine wpAny_bind (wpAny_holding (wpAny_call_entry PyProof.Rows.slot_list_sort ⟨_, hoL, rfl⟩ PyProof.Rows.entry_list_sort
    (PySem.W.list_sort_vals (κ := PySem.W.dataKind (PySem.W.sortingHeap (h'.push (seqObj "list" acc.toList.toArray 0)) h'.objs.size acc.toList) ((((ks.map fun (x : List Key × Addr × Value) => x.2.1).map V.ref).zip ks').map fun p => Datum.toD p.2)) (s := { s with heap := h'.push (seqObj "list" acc.toList.toArray 0), toks := tk }) hoL
      (PySem.W.SortsAt.data (s := { s with heap := PySem.W.sortingHeap (h'.push (seqObj "list" acc.toList.toArray 0)) h'.objs.size acc.toList, toks := tk }) (PySem.W.each_map (R := fun v d => ∃ as, PySem.Reads (PySem.W.sortingHeap (h'.push (seqObj "list" acc.toList.toArray 0)) h'.objs.size acc.toList) v d as) (fun (p : V × (Int × Int)) => Datum.toD p.2) er') hal2 ?_ ?_) hz ⟨_, rfl, ?_⟩)
    (PyProof.Rows.args_list_sort _)))
  · exact PySem.W.Sortable.tuples fun p => ⟨_, _, rfl⟩
  · intro dd hdd
    obtain ⟨p, _, rfl⟩ := List.mem_map.mp hdd
    have hdp : Datum.depth (Int × Int) ≤ 100 := by decide
    have := Datum.depth_le p.2
    have hA : X.A.in1.in1.units ≤ X.A.units + 2 := by simp [Around.in1]
    omega
  · have he2 := PySem.W.sortVals_data (R := fun (u : Value) (p : V × (Int × Int)) => RelV p.1 u ∧ R H p.1 p.2) (enc := fun p => Datum.toD p.2) false hE er' hal2
    rw [dataLe_T (fun p : V × (Int × Int) => p.2)] at he2
    obtain ⟨q1, q2⟩ := pairs_vals he2
    obtain ⟨e', he'⟩ := PyProof.Rows.sortedHeap_at (vs := acc.toList) (out := (PySem.W.sortVals (PySem.W.dataKind (PySem.W.sortingHeap (h'.push (seqObj "list" acc.toList.toArray 0)) h'.objs.size acc.toList) ((((ks.map fun (x : List Key × Addr × Value) => x.2.1).map V.ref).zip ks').map fun p => Datum.toD p.2)) false acc.toList acc.toList).toArray) hoL
    refine wpAny_pure ⟨_, rfl, .ref h'.objs.size, upd H h'.objs.size (.lst (sortV ((ks.map fun (x : List Key × Addr × Value) => x.2.1).map V.ref) ks')), I1.laid (t' := tk) (fun b u e => ?_) (Nat.le_refl _)
      (show ObjOk X.prog X.w _ _ _ (.lst _) from ⟨?_, _, e', q1, he'⟩), rfl, q _ _ hik (I1.hok.fresh (Nat.le_refl _))⟩
    · have hb : b < h'.objs.size := Heap.lt_size e
      rw [PyProof.Rows.sortedHeap_old (Nat.ne_of_lt hb) (by rw [size_push']; exact Nat.lt_succ_of_lt hb)]
      exact Heap.get?_push_of_some _ e
    · unfold sortV
      rw [List.length_map, List.length_mergeSort, List.length_zip, hlen, Nat.min_self, ← hlen, List.length_map, List.length_map]
      omega
end
end PG

set_option Elab.async false
set_option linter.all false
set_option maxRecDepth 100000
set_option maxHeartbeats 4000000
namespace PG
open PySem PySem.Spec PyProof.Rows L2
open PySem.W (T3 T4 Datum DatumOrd Holds HoldAll EachIs)
variable {K0 : PySem.W.Frag} [KF K0]

/-! ### a list of two things of two kinds -/
structure HL2 (a b : Type) where
  a : a
  b : b
  deriving DecidableEq
theorem HL2.same {a b : Type} : ∀ {p q : HL2 a b}, p.a = q.a → p.b = q.b → p = q
  | ⟨_, _⟩, ⟨_, _⟩, rfl, rfl => rfl
section
variable {α β : Type} [DecidableEq α] [Datum α] [DecidableEq β] [Datum β]
instance : Datum (HL2 α β) where
  toD p := .list [Datum.toD p.a, Datum.toD p.b]
  plain p := by simp only [PyData.plain, PyData.plainAll, Datum.plain, Bool.and_self]
  eqv p q := by
    simp only [PyData.eqv, PyData.eqvAll]
    rw [Datum.eqv, Datum.eqv, Bool.and_true, ← Bool.decide_and]
    exact decide_eq_decide.mpr ⟨fun e => HL2.same e.1 e.2, fun e => by rw [e]; exact ⟨rfl, rfl⟩⟩
  depth := max (Datum.depth α) (Datum.depth β) + 1
  depth_le p := by
    simp only [PyData.depth, PyData.depthAll]
    have h0 := Datum.depth_le p.a
    have h1 := Datum.depth_le p.b
    omega
end
instance {a b : Type} [Py a] [Py b] : Py (HL2 a b) := ⟨fun p => .list [Py.toD p.a, Py.toD p.b]⟩
section
variable {a b : Type} [Py a] [DecidableEq a] [Datum a] [IsD a] [Py b] [DecidableEq b] [Datum b] [IsD b]
instance : IsD (HL2 a b) := ⟨fun p => by show PyData.list [_, _] = PyData.list [_, _]; rw [IsD.eq, IsD.eq]⟩
end
theorem R.hl2 {a b : Type} [Py a] [Py b] {H : Hp} {p : Addr} {x : HL2 a b} {v1 v2 : V} (ha : H p = some (.lst [v1, v2])) (h1 : R H v1 x.a) (h2 : R H v2 x.b) : R H (.ref p) x := Rep.lst ha (.cons h1 (.cons h2 .nil))
/-! ### data without lists within -/
class NoL (a : Type) [Py a] : Prop where
  mv : ∀ {K0 : PySem.W.Frag} [KF K0] (F F' : Hp), (∀ b xs, F b = some (.tup xs) → F' b = some (.tup xs)) → ∀ (v : V) (x : a), R F v x → R F' v x
instance : NoL Int := ⟨fun _ _ _ _ _ h => by rw [R.int_ h]; exact R.int⟩
instance : NoL Bool := ⟨fun _ _ _ _ _ h => by rw [R.bl_ h]; exact R.bl⟩
instance : NoL Str := ⟨fun _ _ _ _ _ h => by rw [R.str_ h]; exact R.str⟩
instance {a b : Type} [Py a] [Py b] [NoL a] [NoL b] : NoL (a × b) := ⟨fun _ _ t _ _ h => by
  obtain ⟨p, v1, v2, rfl, hp, h1, h2⟩ := R.t2T_ h
  exact R.t2T (hp.mv t) (NoL.mv _ _ t _ _ h1) (NoL.mv _ _ t _ _ h2)⟩
instance {a b c : Type} [Py a] [Py b] [Py c] [NoL a] [NoL b] [NoL c] : NoL (T3 a b c) := ⟨fun _ _ t _ _ h => by
  obtain ⟨p, v1, v2, v3, rfl, hp, h1, h2, h3⟩ := R.t3T_ h
  exact R.t3T (hp.mv t) (NoL.mv _ _ t _ _ h1) (NoL.mv _ _ t _ _ h2) (NoL.mv _ _ t _ _ h3)⟩
theorem RL.mv {a : Type} [Py a] [NoL a] {F F' : Hp} (t : ∀ b xs, F b = some (.tup xs) → F' b = some (.tup xs)) : ∀ {vs : List V} {xs : List a}, RL F vs xs → RL F' vs xs
  | _, [], h => by rw [RL.nil_ h]; exact RL.nil
  | _, x :: xs, h => by
    obtain ⟨w, ws, rfl, h1, h2⟩ := RL.cons_ h
    exact RL.cons (NoL.mv _ _ t _ _ h1) (RL.mv t h2)
/-! ### cells lent to a call -/
open Classical in
noncomputable def lendF (as : List Addr) (F H : Hp) : Hp := fun b => if b ∈ as then H b else F b
open Classical in
noncomputable def backF (as : List Addr) (F : Hp) : Hp := fun b => if b ∈ as then none else F b
section
variable {Z : Ent} {F F' H H' : Hp} {cs : List (Addr × HO)} {p a q : Addr} {o o' : HO} {as : List Addr}
theorem inA_nil : ∀ b ∈ ([] : List Addr), ∃ o, (b, o) ∈ cs := fun _ h => nomatch h
theorem inA_cons (i : Nat) (e : cs[i]? = some (a, o)) (h : ∀ b ∈ as, ∃ o, (b, o) ∈ cs) : ∀ b ∈ a :: as, ∃ o, (b, o) ∈ cs := fun b hb => by
  rcases List.mem_cons.mp hb with rfl | hb
  · exact ⟨o, List.mem_of_getElem? e⟩
  · exact h b hb
theorem lendF_at (h : a ∈ as) : lendF as F H a = H a := if_pos h
theorem Ow.lendS (O : Ow Z F cs H) (hin : ∀ b ∈ as, ∃ o, (b, o) ∈ cs) : Same F (lendF as F H) := fun b u e => by
  by_cases hb : b ∈ as
  · obtain ⟨o, hc⟩ := hin b hb
    have := O.cf _ hc
    have e' : F b = none := this
    rw [e'] at e; cases e
  · show (if b ∈ as then H b else F b) = _
    rw [if_neg hb]; exact e
theorem Ow.lendP (O : Ow Z F cs H) (hin : ∀ b ∈ as, ∃ o, (b, o) ∈ cs) : Pre (lendF as F H) [] H := by
  refine ⟨fun b u e => ?_, (fun _ h => nomatch h), (fun _ h => nomatch h), List.nodup_nil, fun _ h => nomatch h⟩
  have e : (if b ∈ as then H b else F b) = some u := e
  by_cases hb : b ∈ as
  · rw [if_pos hb] at e; exact e
  · rw [if_neg hb] at e; exact O.s b u e
theorem Ow.unlend (O : Ow Z F cs H) (hin : ∀ b ∈ as, ∃ o, (b, o) ∈ cs) (g : Gr [] (lendF as F H) H F' H') :
    Ow Z (backF as F') cs H' ∧ Same F (backF as F') ∧ (∀ b xs, F' b = some (.tup xs) → backF as F' b = some (.tup xs)) ∧ ∀ b, F' b = none → backF as F' b = none := by
  have inF : ∀ b, b ∉ as → ∀ u, F b = some u → F' b = some u := fun b hb u e => g.f b u (by
    show (if b ∈ as then H b else F b) = _
    rw [if_neg hb]; exact e)
  have nF : ∀ b ∈ as, F b = none := fun b hb => by obtain ⟨o, hc⟩ := hin b hb; exact O.cf _ hc
  have sF : Same F (backF as F') := fun b u e => by
    show (if b ∈ as then none else F' b) = _
    by_cases hb : b ∈ as
    · rw [nF b hb] at e; cases e
    · rw [if_neg hb]; exact inF b hb u e
  refine ⟨⟨⟨O.g.f.trans sF, fun b u e => ?_, fun b u hb e => g.k b u (fun h => nomatch h) (O.g.k b u hb e), fun b e => g.t b (O.g.t b e), fun b e => ?_, fun b xs e => ?_⟩, fun c hc => ?_, fun c hc => g.k _ _ (fun h => nomatch h) (O.ch c hc), O.nd, O.ca, O.nt⟩, sF, fun b xs e => ?_, fun b e => ?_⟩
  · have e : (if b ∈ as then none else F' b) = some u := e
    by_cases hb : b ∈ as
    · rw [if_pos hb] at e; cases e
    · rw [if_neg hb] at e; exact g.s b u e
  · show (if b ∈ as then none else F' b) = _ ∨ _
    by_cases hb : b ∈ as
    · rw [if_pos hb]
      rcases O.g.n b e with h0 | h0
      · rw [nF b hb] at h0; exact .inl h0
      · exact .inr h0
    · rw [if_neg hb]
      rcases O.g.n b e with h0 | h0
      · rcases g.n b (O.g.t b e) with h1 | ⟨xs, hx⟩
        · refine .inl (h1.trans ?_)
          show (if b ∈ as then H b else F b) = _
          rw [if_neg hb]; exact h0
        · rcases O.g.u b xs hx with z | z
          · exact absurd z e
          · exact .inr ⟨xs, z⟩
      · exact .inr h0
  · rcases g.u b xs e with z | z
    · refine .inl ?_
      cases q : Z.H b with
      | none => rfl
      | some u => exact absurd z (O.g.t b (by rw [q]; simp))
    · exact O.g.u b xs z
  · show (if c.1 ∈ as then none else F' c.1) = none
    by_cases hb : c.1 ∈ as
    · rw [if_pos hb]
    · rw [if_neg hb]
      have hl : lendF as F H c.1 = none := by
        show (if c.1 ∈ as then H c.1 else F c.1) = _
        rw [if_neg hb]; exact O.cf c hc
      exact g.none (O.ch c hc) (O.nt c hc) hl
  · show (if b ∈ as then none else F' b) = _
    by_cases hb : b ∈ as
    · obtain ⟨o, hc⟩ := hin b hb
      have h1 : lendF as F H b = some o := by
        show (if b ∈ as then H b else F b) = _
        rw [if_pos hb]; exact O.ch _ hc
      have h2 := g.f b o h1
      rw [e] at h2
      have h3 := O.nt _ hc
      have h3 : noTup o = true := h3
      rw [← Option.some.inj h2] at h3
      cases h3
    · rw [if_neg hb]; exact e
  · show (if b ∈ as then none else F' b) = _
    by_cases hb : b ∈ as
    · rw [if_pos hb]
    · rw [if_neg hb]; exact e
theorem Ow.fresh (O : Ow Z F cs H) (h : H p = none) : p ∉ cs.map (·.1) := fun hm => by
  obtain ⟨c, hc, e⟩ := List.mem_map.mp hm
  have z := O.ch c hc
  rw [e, h] at z
  cases z
theorem Ow.add' (O : Ow Z F cs H) (hm : p ∉ cs.map (·.1)) (hz : Z.H p = none) (hf : F p = none) (h : H p = some o) (ht : noTup o = true := by rfl) : Ow Z F ((p, o) :: cs) H where
  g := O.g
  cf := fun c hc => by
    rcases List.mem_cons.mp hc with rfl | hc
    · exact hf
    · exact O.cf c hc
  ch := fun c hc => by
    rcases List.mem_cons.mp hc with rfl | hc
    · exact h
    · exact O.ch c hc
  nd := by
    rw [List.map_cons, List.nodup_cons]
    exact ⟨hm, O.nd⟩
  ca := fun c hc => by
    rcases List.mem_cons.mp hc with rfl | hc
    · exact .inr hz
    · exact O.ca c hc
  nt := fun c hc => by
    rcases List.mem_cons.mp hc with rfl | hc
    · exact ht
    · exact O.nt c hc
theorem Ow.ne (O : Ow Z F cs H) (i j : Nat) (hij : i ≠ j) (ei : cs[i]? = some (a, o)) (ej : cs[j]? = some (q, o')) : a ≠ q := fun e => by
  subst e
  have h1 : (cs.map (·.1))[i]? = some a := by rw [List.getElem?_map, ei]; rfl
  have h2 : (cs.map (·.1))[j]? = some a := by rw [List.getElem?_map, ej]; rfl
  exact hij (nd_ix O.nd h1 h2)
end
theorem nmem2 {p q : Addr} {l : List Addr} (h : p ≠ q) (h2 : p ∉ l) : p ∉ q :: l := fun m => by
  rcases List.mem_cons.mp m with e | m
  · exact h e
  · exact h2 m
/-! ### while -/
inductive Ws (s r : Type) where
  | go (x : s)
  | stop (x : s)
  | rt (z : r)
def whL {s r : Type} (b : s → M (Ws s r)) : Nat → s → M (Fl s r)
  | 0, _ => bad
  | n + 1, x => b x >>= fun
    | .go x' => whL b n x'
    | .stop x' => .ok (.nx x')
    | .rt z => .ok (.rt z)
theorem whL_L {s r a : Type} {Q : a → Prop} {E : String → Prop} {b : s → M (Ws s r)} {n : Nat} {x : s} {k : Fl s r → M a} (h : wp (whL b n x >>= k) Q E) :
    ∃ (L : Nat → s → Prop) (X : s → Prop), L n x ∧ (∀ m x, L m x → wp (b x) (fun w => match w with
      | .go x' => ∃ m', m' < m ∧ L m' x'
      | .stop x' => X x'
      | .rt z => wp (k (.rt z)) Q E) E) ∧ ∀ x, X x → wp (k (.nx x)) Q E := by
  refine ⟨fun n x => wp (whL b n x >>= k) Q E, fun x => wp (k (.nx x)) Q E, h, fun m x hx => ?_, fun x hx => hx⟩
  cases m with
  | zero => exact hx.elim
  | succ m =>
    have hx : wp ((b x >>= fun
      | .go x' => whL b m x'
      | .stop x' => .ok (.nx x')
      | .rt z => .ok (.rt z)) >>= k) Q E := hx
    rw [wp_bind, wp_bind] at hx
    cases e : b x with
    | error e2 => rw [e] at hx; cases e2 <;> exact hx
    | ok w =>
      rw [e] at hx
      cases w with
      | go x' => exact ⟨m, Nat.lt_succ_self m, wp_bind.mpr hx⟩
      | stop x' => exact hx
      | rt z => exact hx
theorem while_P {c : TT} {tb : TS} {D : Ends} {σ : L2.St} {H : Hp} (W : Nat → L2.St → Hp → Prop) (X : L2.St → Hp → Prop) (n : Nat) (h0 : W n σ H) (exit : ∀ σ H, X σ H → D.nx σ H)
    (turn : (∀ σ H, X σ H → D.nx σ H) → ∀ m σ H, W m σ H → c σ H fun b H1 => if b = true then ∃ N : L2.St → Hp → Prop, (∀ σ' H', N σ' H' → ∃ m', m' < m ∧ W m' σ' H') ∧ tb { D with nx := N, ct := N, bk := D.nx } σ H1 else D.nx σ H1) : tWhile c tb D σ H :=
  ⟨W, ⟨n, h0⟩, turn exit⟩
/-! ### a < b < c < d -/
section
variable {X : Cx} {a b c d : Expr} {ta tb tc td : TE} {pos : Pos}
def tChain3 (r r' r'' : R2) (ta tb tc td : TE) : TE := fun σ H Q => ta σ H fun x H1 => tb σ H1 fun y H2 => r x y H2 fun z H3 => ∃ k, z = .bl k ∧
  (if k = true then tc σ H3 fun w' H4 => r' y w' H4 fun z' H5 => ∃ k', z' = .bl k' ∧ (if k' = true then td σ H5 fun u' H6 => r'' w' u' H6 Q else Q (.bl false) H5) else Q (.bl false) H3)
theorem pt_chain3 {op op' op'' : CmpOp} {r r' r'' : R2} (ho : OpR X (compareOp op) r) (ho' : OpR X (compareOp op') r') (ho'' : OpR X (compareOp op'') r'') (ha : PE X a ta) (hb : PE X b tb) (hc : PE X c tc) (hd : PE X d td)
    (hm : lastMarks [op, op', op''] [b, c, d] = false := by with_unfolding_all rfl) : PT X (.Compare a [op, op', op''] [b, c, d] pos) (tTest (tChain3 r r' r'' ta tb tc td)) := by
  refine ⟨fun pins s σ H Q I h => ?_⟩
  refine isTrue_chain (thn (ha.run pins s σ H _ I h) fun v s1 ⟨x, H1, I1, r1, q1⟩ => test_link (thn (hb.run pins s1 σ H1 _ I1 q1) fun u s2 ⟨y, H2, I2, r2, q2⟩ =>
    thn (ho pins s2 σ H2 x y v u _ I2 r1 r2 q2) fun d1 s3 ⟨z, H3, I3, r3, k, e, q3⟩ => ?_)) hm
  subst e
  cases r3
  refine wpAny_truthy_bool ?_
  cases k with
  | false =>
    obtain ⟨k', e', q'⟩ := q3
    cases e'
    exact ite_ff ⟨H3, I3, q'⟩
  | true =>
    refine ite_tt (test_link (thn (hc.run pins s3 σ H3 _ I3 q3) fun w' s4 ⟨z', H4, I4, r4, q4⟩ => thn (ho' pins s4 σ H4 y z' u w' _ I4 r2 r4 q4) fun d2 s5 ⟨z2, H5, I5, r5, k2, e2, q5⟩ => ?_))
    subst e2
    cases r5
    refine wpAny_truthy_bool ?_
    cases k2 with
    | false =>
      obtain ⟨k', e', q'⟩ := q5
      cases e'
      exact ite_ff ⟨H5, I5, q'⟩
    | true =>
      refine ite_tt (test_last (thn (hd.run pins s5 σ H5 _ I5 q5) fun u' s6 ⟨z3, H6, I6, r6, q6⟩ => thn (ho'' pins s6 σ H6 z' z3 w' u' _ I6 r4 r6 q6) fun d3 s7 ⟨z4, H7, I7, r7, k3, e3, q7⟩ => ?_))
      subst e3
      cases r7
      exact wpAny_truthy_bool ⟨H7, I7, q7⟩
end
/-! ### list.index of whole numbers -/
def ixI (xs : List Int) (y : Int) : M Int := if y ∈ xs then .ok ((xs.findIdx (· == y) : Nat) : Int) else bad
theorem wp_ixI {a : Type} {Q : a → Prop} {E : String → Prop} {xs : List Int} {y : Int} {k : Int → M a} (h : wp (ixI xs y >>= k) Q E) : ∃ j, xs.findIdx (· == y) = j ∧ xs[j]? = some y ∧ (∀ (m : Nat) z, m < j → xs[m]? = some z → z ≠ y) ∧ wp (k (j : Int)) Q E := by
  unfold ixI at h
  by_cases hm : y ∈ xs
  · rw [if_pos hm] at h
    have hlt : xs.findIdx (· == y) < xs.length := List.findIdx_lt_length_of_exists ⟨y, hm, by simp⟩
    refine ⟨_, rfl, ?_, fun m z hmj hz e => ?_, h⟩
    · rw [List.getElem?_eq_getElem hlt]
      have := List.findIdx_getElem (w := hlt)
      rw [eq_of_beq this]
    · have := List.not_of_lt_findIdx hmj
      obtain ⟨hl, hz⟩ := List.getElem?_eq_some_iff.mp hz
      rw [hz, e] at this
      simp at this
  · rw [if_neg hm] at h; exact h.elim
theorem all_flat_int : ∀ xs : List Int, (xs.map V.int).all flatV = true
  | [] => rfl
  | x :: xs => by rw [List.map_cons, List.all_cons, all_flat_int xs]; rfl
theorem int_noeq {xs : List Int} {y : Int} {j : Nat} (h : ∀ (m : Nat) z, m < j → xs[m]? = some z → z ≠ y) : ∀ (m : Nat) (z' : V), m < j → (xs.map V.int)[m]? = some z' → eqV z' (.int y) = false := fun m z' hm hz => by
  rw [List.getElem?_map] at hz
  cases e : xs[m]? with
  | none => rw [e] at hz; cases hz
  | some z =>
    rw [e] at hz
    have hz : V.int z = z' := Option.some.inj hz
    subst hz
    have := h m z hm e
    show (z == y) = false
    simpa using this
theorem int_at {xs : List Int} {y : Int} {j : Nat} (h : xs[j]? = some y) : (xs.map V.int)[j]? = some (.int y) := by rw [List.getElem?_map, h]; rfl
theorem int_eq {y : Int} : eqV (.int y) (.int y) = true := by show (y == y) = true; simp
/-! ### dict(list of pairs), the keys whole numbers -/
section
variable {β : Type} [Py β] {F H : Hp}
def mergeD (xs : List (Int × β)) : List (Int × β) := xs.foldl (fun acc p => dPut acc p.1 p.2) []
theorem merge_rd {kvs : List (Key × V)} {xs : List (Int × β)} (hs : RD F kvs xs) : ∀ {acc : List (Key × V)} {ac : List (Int × β)}, RD F acc ac → RD F (mergeK acc kvs) (xs.foldl (fun acc p => dPut acc p.1 p.2) ac) := by
  induction hs with
  | nil => intro acc ac h; exact h
  | @cons k v y kvs xs hv _ ih =>
    intro acc ac h
    exact ih (h.put k hv)
theorem pairs_of_rl {K : PySem.W.Frag} (s : Same F H) : ∀ {vs : List V} {xs : List (Int × β)}, RL F vs xs → ∃ (ps : List Addr) (kvs : List (Key × V)), vs = ps.map V.ref ∧ Paired (fun p kv => SqT K H p [kV kv.1, kv.2]) ps kvs ∧ RD F kvs xs
  | _, [], h => ⟨[], [], RL.nil_ h, .nil, .nil⟩
  | _, x :: xs, h => by
    obtain ⟨w, ws, rfl, h1, h2⟩ := RL.cons_ h
    obtain ⟨ps, kvs, e, hp, hr⟩ := pairs_of_rl (K := K) s h2
    obtain ⟨p, v1, v2, rfl, hp1, h3, h4⟩ := R.t2_ h1
    rw [R.int_ h3] at hp1
    exact ⟨p :: ps, (.inl x.1, v2) :: kvs, by rw [e]; rfl, .cons (SqT.of (s _ _ hp1)) hp, .cons (k := x.1) h4 hr⟩
end
/-! ### the same rules, the fragment told outright (within a comprehension) -/
section
variable {X : Cx} {K : PySem.W.Frag}
theorem ixTupK (h : X.K = K) : IxR X (rIxT K) := by rw [← h]; exact ix_tup
theorem ixListK (h : X.K = K) : IxR X (rIxL K) := by rw [← h]; exact ix_list
theorem listOfK (h : X.K = K) : CallR X (.type "list") (fun xs H Q => ∃ p ys, xs = [.ref p] ∧ (SqL K H p ys ∨ SqT K H p ys) ∧ ∀ l, H l = none → Q (.ref l) (upd H l (.lst ys))) := by rw [← h]; exact call_list_of
theorem isiK (h : X.K = K) : CallR X (.builtin "isinstance") (rIsi K) := by rw [← h]; exact call_isi
theorem slListK (h : X.K = K) : SlR X (rSlL K) := by rw [← h]; exact sl_list
theorem indexK (h : X.K = K) : MtR X "list.index" (rIndex K) := by rw [← h]; exact mt_index
end
/-! ### enumerate in a comprehension -/
def enumL {b : Type} (xs : List b) : List (Int × b) := xs.zipIdx.map fun p => ((p.2 : Int), p.1)
theorem enumL_get {b : Type} {xs : List b} {i : Nat} {x : b} (h : xs[i]? = some x) : (enumL xs).drop i = ((i : Int), x) :: (enumL xs).drop (i + 1) := by
  apply drop_at
  unfold enumL
  rw [List.getElem?_map, List.getElem?_zipIdx, h]
  simp
theorem enumL_len {b : Type} {xs : List b} : (enumL xs).length = xs.length := by unfold enumL; simp
theorem enumL_end {b : Type} {xs : List b} {vs : List V} (h : vs.length = xs.length) : (enumL xs).drop vs.length = [] := by
  rw [h, ← enumL_len, List.drop_length]
theorem comp_lenE {b : Type} {w vs : List V} {xs : List b} {i : Nat} (la : w.length ≤ i) (hi : i < vs.length) (hl : vs.length = xs.length) (c : (enumL xs).length < 16777216) : w.length < sizeLine := by
  rw [enumL_len] at c
  exact lt_line (by omega)
theorem zip_at {a b : Type} {xs : List a} {ys : List b} {i : Nat} {x : a} {y : b} (h : xs[i]? = some x) (h2 : ys[i]? = some y) : (xs.zip ys).drop i = (x, y) :: (xs.zip ys).drop (i + 1) := by
  apply drop_at
  rw [List.getElem?_zip_eq_some]
  exact ⟨h, h2⟩
theorem zip_end {a b : Type} {xs : List a} {ys : List b} {vs ws : List V} (h : vs.length = xs.length) (h2 : ws.length = ys.length) : (xs.zip ys).drop (min vs.length ws.length) = [] := by
  rw [h, h2, ← List.length_zip, List.drop_length]
theorem comp_lenZ {a b : Type} {w vs ws : List V} {xs : List a} {ys : List b} {i : Nat} (la : w.length ≤ i) (hi : i < min vs.length ws.length) (h : vs.length = xs.length) (h2 : ws.length = ys.length) (c : (xs.zip ys).length < 16777216) : w.length < sizeLine := by
  rw [List.length_zip, ← h, ← h2] at c
  exact lt_line (by omega)
section
variable {X : Cx} {K : PySem.W.Frag}
theorem cr_sumK (hc : X.calm = true) (h : X.K = K) : CallR X (.builtin "sum") (rSum K) := by rw [← h]; exact cr_sum hc
end
end PG

set_option Elab.async false
set_option linter.all false
set_option maxRecDepth 100000
set_option maxHeartbeats 4000000
namespace PG
open PySem PySem.Spec PyProof.Rows L2
open PySem.W (T3 T4 Datum DatumOrd Holds HoldAll EachIs)
variable {K0 : PySem.W.Frag} [KF K0]
/-! ### sums: ("number", n), (word, n), (word,), (word, a, b) -/
inductive Sm where
  | num (w : Str) (n : Int)
  | nam (w : Str)
  | two (w : Str) (a b : Sm)
  deriving DecidableEq
def Sm.d : Sm → PyData
  | .num w n => .tuple [.str w, .int n]
  | .nam w => .tuple [.str w]
  | .two w a b => .tuple [.str w, a.d, b.d]
instance : Py Sm := ⟨Sm.d⟩
def Sm.word : Sm → Str
  | .num w _ => w
  | .nam w => w
  | .two w _ _ => w
def Sm.int? : Sm → Option Int
  | .num _ n => some n
  | _ => none
def Sm.two? : Sm → Option (Sm × Sm)
  | .two _ a b => some (a, b)
  | _ => none
section
variable {F : Hp} {v : V} {p : Addr} {x : Sm}
theorem R.sm_ (h : R F v x) : ∃ p ws, v = .ref p ∧ TupAt F p (V.str x.word :: ws) := by
  cases x with
  | num w n =>
    obtain ⟨p, v1, v2, e, hp, h1, h2⟩ := R.t2T_ (show R (a := Str × Int) F v (w, n) from h)
    rw [R.str_ h1] at hp
    exact ⟨p, [v2], e, hp⟩
  | nam w =>
    have h' : Rep F v (.tuple [.str w]) := h
    cases h' with
    | tup ha hs =>
      cases hs with
      | cons h1 hs =>
        cases hs
        cases h1
        exact ⟨_, _, rfl, ha⟩
  | two w a b =>
    obtain ⟨p, v1, v2, v3, e, hp, h1, h2, h3⟩ := R.t3T_ (show R (a := T3 Str Sm Sm) F v ⟨w, a, b⟩ from h)
    rw [R.str_ h1] at hp
    exact ⟨p, [v2, v3], e, hp⟩
theorem R.sm_int {n : Int} (h : R F v x) (e : x.int? = some n) : ∃ p w, v = .ref p ∧ TupAt F p [V.str w, V.int n] := by
  cases x with
  | num w m =>
    obtain ⟨p, v1, v2, e1, hp, h1, h2⟩ := R.t2T_ (show R (a := Str × Int) F v (w, m) from h)
    rw [R.str_ h1, R.int_ h2] at hp
    have e : some m = some n := e
    cases e
    exact ⟨p, w, e1, hp⟩
  | nam w => cases e
  | two w a b => cases e
theorem R.sm_two {q : Sm × Sm} (h : R F v x) (e : x.two? = some q) : ∃ p w va vb, v = .ref p ∧ TupAt F p [V.str w, va, vb] ∧ R F va q.1 ∧ R F vb q.2 := by
  cases x with
  | num w m => cases e
  | nam w => cases e
  | two w a b =>
    obtain ⟨p, v1, v2, v3, e1, hp, h1, h2, h3⟩ := R.t3T_ (show R (a := T3 Str Sm Sm) F v ⟨w, a, b⟩ from h)
    rw [R.str_ h1] at hp
    have e : some (a, b) = some q := e
    cases e
    exact ⟨p, w, v2, v3, e1, hp, h2, h3⟩
theorem R.of_num {q : Str × Int} (h : R F v q) : R F v (Sm.num q.1 q.2) := h
theorem R.of_two {q : T3 Str Sm Sm} (h : R F v q) : R F v (Sm.two q.a q.b q.c) := h
theorem R.of_nam {w : Str} (h : F p = some (.tup [V.str w])) : R F (.ref p) (Sm.nam w) := Rep.tup (.inl h) (.cons (.str w) .nil)
/-- the module's own tuples -/
theorem R.k_nam {w : Str} (h : KTup K0 p [V.str w]) : R F (.ref p) (Sm.nam w) := Rep.tup (.inr ⟨⟨_, _, rfl⟩, h⟩) (.cons (.str w) .nil)
theorem R.k_num {w : Str} {n : Int} (h : KTup K0 p [V.str w, V.int n]) : R F (.ref p) (Sm.num w n) := Rep.tup (.inr ⟨⟨_, _, rfl⟩, h⟩) (.cons (.str w) (.cons (.int n) .nil))
instance : NoS Sm := ⟨fun x s h => by cases x <;> exact nomatch h⟩
end
/-! ### a whole number or a list of such -/
inductive IL where
  | i (n : Int)
  | l (xs : List Int)
instance : Py IL := ⟨fun
  | .i n => Py.toD n
  | .l xs => Py.toD xs⟩
def IL.i? : IL → Option Int
  | .i n => some n
  | _ => none
def IL.l? : IL → Option (List Int)
  | .l xs => some xs
  | _ => none
section
variable {F : Hp} {v : V}
theorem R.il_i {x : IL} {n : Int} (h : R F v x) (e : x.i? = some n) : R F v n := by
  cases x with
  | i m => have e : some m = some n := e; cases e; exact h
  | l xs => cases e
theorem R.il_l {x : IL} {xs : List Int} (h : R F v x) (e : x.l? = some xs) : R F v xs := by
  cases x with
  | i m => cases e
  | l ys => have e : some ys = some xs := e; cases e; exact h
theorem R.of_i {n : Int} (h : R F v n) : R F v (IL.i n) := h
theorem R.of_l {xs : List Int} (h : R F v xs) : R F v (IL.l xs) := h
end
section
variable {β : Type} [Py β] {F : Hp}
def mergeDS (xs : List (Str × β)) : List (Str × β) := xs.foldl (fun acc p => dPut acc p.1 p.2) []
theorem merge_rdS {kvs : List (Key × V)} {xs : List (Str × β)} (hs : RD F kvs xs) : ∀ {acc : List (Key × V)} {ac : List (Str × β)}, RD F acc ac → RD F (mergeK acc kvs) (xs.foldl (fun acc p => dPut acc p.1 p.2) ac) := by
  induction hs with
  | nil => intro acc ac h; exact h
  | @cons k v y kvs xs hv _ ih =>
    intro acc ac h
    exact ih (h.put k hv)
end
section
variable {X : Cx} {K : PySem.W.Frag} {pos : Pos}
theorem slTupK (h : X.K = K) : SlR X (rSlT K) := by rw [← h]; exact sl_tup
theorem pgLstK (h : X.K = K) {es : List Expr} {k : Nat} {t : TGs} {n : Nat} (hc : X.calm = true) (hp : PGs X es t)
    (hn : (assignEach es X.env).length = n := by rfl) (hst : (assignEach es X.env).findIdx? (·.1) = none := by rfl) : PG X (.Tuple es k pos) (gLst K n t) := by rw [← h]; exact pg_lst hc hp hn hst
end
theorem RL.two {a : Type} [Py a] {F : Hp} {vs : List V} {xs : List a} (h : RL F vs xs) (e : xs.length = 2) : ∃ v1 v2 x1 x2, vs = [v1, v2] ∧ xs = [x1, x2] ∧ R F v1 x1 ∧ R F v2 x2 := by
  match xs, e with
  | [x1, x2], _ =>
    obtain ⟨w, ws, rfl, h1, h2⟩ := RL.cons_ h
    obtain ⟨w2, ws2, rfl, h3, h4⟩ := RL.cons_ h2
    rw [RL.nil_ h4]
    exact ⟨w, w2, x1, x2, rfl, rfl, h1, h3⟩
/-- a list of just two -/
def two2 {a : Type} (xs : List a) : M (a × a) := match xs with
  | [x, y] => .ok (x, y)
  | _ => bad
theorem wp_two2 {a b : Type} {Q : a → Prop} {E : String → Prop} {xs : List b} {k : b × b → M a} (h : wp (two2 xs >>= k) Q E) : ∃ x y, xs = [x, y] ∧ wp (k (x, y)) Q E := by
  match xs, h with
  | [x, y], h => exact ⟨x, y, rfl, h⟩
  | [], h => exact h.elim
  | [_], h => exact h.elim
  | _ :: _ :: _ :: _, h => exact h.elim
theorem sl3 (a b c : V) : ¬ (HT.sIx [a, b, c].length 0 (some (1 : Int)) = 0 ∧ HT.sIx [a, b, c].length [a, b, c].length none = [a, b, c].length) := fun h => absurd h.1 (by show ¬ (HT.sIx 3 0 (some (1 : Int)) = 0); decide)
theorem intB {X : Cx} : CallR X (.type "int") (fun xs H Q => ∃ k, xs = [.bl k] ∧ Q (.int (if k then 1 else 0)) H) := fun pins s σ H xs us Q I r h => call_int1 pins s σ H xs us Q I r (.inr h)
theorem atI0 {a : Type} (x : a) (xs : List a) : L2.atI (x :: xs) (0 : Int) = some x := by
  unfold L2.atI ixN
  rw [if_pos (by omega), if_pos (by rw [List.length_cons]; omega)]
  rfl
end PG

set_option Elab.async false
set_option linter.all false
set_option maxRecDepth 100000
set_option maxHeartbeats 4000000
namespace PG
open PySem PySem.Spec PyProof.Rows L2
open PySem.W (T3 T4 Datum DatumOrd Holds HoldAll EachIs)
variable {K0 : PySem.W.Frag} [KF K0]
/-! ### == of data of any depth, the depth asked outright -/
class DatumX (a : Type) [Py a] [DecidableEq a] : Prop where
  plain : ∀ x : a, (Py.toD x).plain = true
  eqv : ∀ x y : a, PyData.eqv (Py.toD x) (Py.toD y) = decide (x = y)
instance (priority := 50) {a : Type} [Py a] [DecidableEq a] [Datum a] [IsD a] : DatumX a := ⟨fun x => by rw [IsD.eq]; exact Datum.plain x, fun x y => by rw [IsD.eq, IsD.eq]; exact Datum.eqv x y⟩
theorem Sm.pl : ∀ x : Sm, x.d.plain = true
  | .num w n => by simp [Sm.d, PyData.plain, PyData.plainAll]
  | .nam w => by simp [Sm.d, PyData.plain, PyData.plainAll]
  | .two w a b => by simp [Sm.d, PyData.plain, PyData.plainAll, Sm.pl a, Sm.pl b]
theorem ev23 (w w' : Str) (n : PyData) (x y : PyData) : PyData.eqv (.tuple [.str w, n]) (.tuple [.str w', x, y]) = false := by simp [PyData.eqv, PyData.eqvAll]
theorem ev32 (w w' : Str) (n : PyData) (x y : PyData) : PyData.eqv (.tuple [.str w', x, y]) (.tuple [.str w, n]) = false := by simp [PyData.eqv, PyData.eqvAll]
theorem ev13 (w w' : Str) (x y : PyData) : PyData.eqv (.tuple [.str w]) (.tuple [.str w', x, y]) = false := by simp [PyData.eqv, PyData.eqvAll]
theorem ev31 (w w' : Str) (x y : PyData) : PyData.eqv (.tuple [.str w', x, y]) (.tuple [.str w]) = false := by simp [PyData.eqv, PyData.eqvAll]
theorem Sm.ev : ∀ x y : Sm, PyData.eqv x.d y.d = decide (x = y)
  | .num w n, .num w' n' => by
    simp only [Sm.d, PyData.eqv, PyData.eqvAll, Bool.and_true]
    rw [PySem.W.beq_decide, PySem.W.beq_decide, ← Bool.decide_and]
    exact decide_eq_decide.mpr (by rw [Sm.num.injEq])
  | .num w n, .nam w' => by simp [Sm.d, PyData.eqv, PyData.eqvAll]
  | .num w n, .two w' a b => (ev23 w w' (.int n) a.d b.d).trans (by simp)
  | .nam w, .num w' n => by simp [Sm.d, PyData.eqv, PyData.eqvAll]
  | .nam w, .nam w' => by
    simp only [Sm.d, PyData.eqv, PyData.eqvAll, Bool.and_true]
    rw [PySem.W.beq_decide]
    exact decide_eq_decide.mpr (by rw [Sm.nam.injEq])
  | .nam w, .two w' a b => (ev13 w w' a.d b.d).trans (by simp)
  | .two w a b, .num w' n => (ev32 w' w (.int n) a.d b.d).trans (by simp)
  | .two w a b, .nam w' => (ev31 w' w a.d b.d).trans (by simp)
  | .two w a b, .two w' a' b' => by
    simp only [Sm.d, PyData.eqv, PyData.eqvAll, Bool.and_true]
    rw [PySem.W.beq_decide, Sm.ev a a', Sm.ev b b', ← Bool.decide_and, ← Bool.decide_and]
    exact decide_eq_decide.mpr (by rw [Sm.two.injEq])
instance : DatumX Sm := ⟨Sm.pl, Sm.ev⟩
section
variable {a b c d : Type} [Py a] [DecidableEq a] [DatumX a] [Py b] [DecidableEq b] [DatumX b] [Py c] [DecidableEq c] [DatumX c] [Py d] [DecidableEq d] [DatumX d]
theorem plainX : ∀ xs : List a, PyData.plainAll (xs.map Py.toD) = true
  | [] => rfl
  | x :: xs => by
    rw [List.map_cons, PyData.plainAll, DatumX.plain x, plainX xs]
    rfl
theorem eqvX : ∀ xs ys : List a, PyData.eqvAll (xs.map Py.toD) (ys.map Py.toD) = decide (xs = ys)
  | [], [] => by simp only [List.map_nil, PyData.eqvAll, decide_true]
  | [], _ :: _ => by simp [PyData.eqvAll]
  | _ :: _, [] => by simp [PyData.eqvAll]
  | x :: xs, y :: ys => by
    rw [List.map_cons, List.map_cons, PyData.eqvAll, DatumX.eqv x y, eqvX xs ys, ← Bool.decide_and]
    exact decide_eq_decide.mpr (by rw [List.cons.injEq])
instance : DatumX (List a) := ⟨fun xs => by show PyData.plain (.list (xs.map Py.toD)) = true; simp only [PyData.plain]; exact plainX xs, fun xs ys => by show PyData.eqv (.list (xs.map Py.toD)) (.list (ys.map Py.toD)) = _; simp only [PyData.eqv]; exact eqvX xs ys⟩
theorem T4.sm {p q : T4 a b c d} : p = q ↔ p.a = q.a ∧ p.b = q.b ∧ p.c = q.c ∧ p.d = q.d := by
  cases p; cases q
  simp
instance : DatumX (T4 a b c d) := ⟨fun p => by show PyData.plain (.tuple [_, _, _, _]) = true; simp only [PyData.plain, PyData.plainAll, DatumX.plain, Bool.and_self], fun p q => by
  show PyData.eqv (.tuple [_, _, _, _]) (.tuple [_, _, _, _]) = _
  simp only [PyData.eqv, PyData.eqvAll]
  rw [DatumX.eqv, DatumX.eqv, DatumX.eqv, DatumX.eqv, Bool.and_true, ← Bool.decide_and, ← Bool.decide_and, ← Bool.decide_and]
  exact decide_eq_decide.mpr T4.sm.symm⟩
end
def dep {a : Type} [Py a] (x : a) : Nat := (Py.toD x).depth
section
variable {X : Cx} (a : Type) [Py a] [DecidableEq a] [DatumX a]
def rEqX : R2 := fun x y H Q => ∃ p q : a, R H x p ∧ R H y q ∧ min (dep p) (dep q) ≤ 60 ∧ Q (.bl (decide (p = q))) H
def rNeX : R2 := fun x y H Q => ∃ p q : a, R H x p ∧ R H y q ∧ min (dep p) (dep q) ≤ 60 ∧ Q (.bl (decide (p ≠ q))) H
theorem op_eqX (hu : X.A.units + 64 < cLine) (hK : X.K = K0 := by rfl) : OpR X (compareOp .Eq) (rEqX a) := by
  subst hK
  intro pins s σ H x y v u Q I rx ry h
  obtain ⟨p, q, hp, hq, hd, k⟩ := h
  obtain ⟨as, ra⟩ := Dp.reads I _ _ _ (Rep.dp _ _ hp) rx
  obtain ⟨bs, rb⟩ := Dp.reads I _ _ _ (Rep.dp _ _ hq) ry
  have hd' : min (Py.toD p).depth (Py.toD q).depth ≤ 60 := hd
  exact PySem.SeqAt.eq_plain ra rb (DatumX.plain p) (DatumX.plain q) (by omega) (by rw [DatumX.eqv p q]; exact ⟨.bl _, H, I, rfl, k⟩)
theorem op_neX (hu : X.A.units + 64 < cLine) (hK : X.K = K0 := by rfl) : OpR X (compareOp .NotEq) (rNeX a) := by
  subst hK
  intro pins s σ H x y v u Q I rx ry h
  obtain ⟨p, q, hp, hq, hd, k⟩ := h
  obtain ⟨as, ra⟩ := Dp.reads I _ _ _ (Rep.dp _ _ hp) rx
  obtain ⟨bs, rb⟩ := Dp.reads I _ _ _ (Rep.dp _ _ hq) ry
  have hd' : min (Py.toD p).depth (Py.toD q).depth ≤ 60 := hd
  exact PySem.SeqAt.ne_plain ra rb (DatumX.plain p) (DatumX.plain q) (by omega) (by rw [DatumX.eqv p q, ← decide_not]; exact ⟨.bl _, H, I, rfl, k⟩)
end
/-! ### a tuple of things of one kind, of any length -/
structure Tp (a : Type) where
  l : List a
instance {a : Type} [Py a] : Py (Tp a) := ⟨fun t => .tuple (t.l.map Py.toD)⟩
section
variable {a : Type} [Py a] {F : Hp} {v : V}
theorem R.tp_ {x : Tp a} (h : R F v x) : ∃ p vs, v = .ref p ∧ TupAt F p vs ∧ RL F vs x.l := by
  have h' : Rep F v (.tuple (x.l.map Py.toD)) := h
  cases h' with
  | tup ha hs => exact ⟨_, _, rfl, ha, hs⟩
theorem R.tp2 {q : a × a} (h : R F v q) : R F v (Tp.mk [q.1, q.2]) := h
theorem R.tp3 {q : T3 a a a} (h : R F v q) : R F v (Tp.mk [q.a, q.b, q.c]) := h
theorem R.tp1 {w : Str} (h : R F v (Sm.nam w)) : R F v (Tp.mk [w]) := h
end
end PG

set_option Elab.async false
set_option linter.all false
set_option maxRecDepth 100000
set_option maxHeartbeats 4000000
namespace PG
open PySem PySem.Spec PyProof.Rows L2
open PySem.W (T3 T4 Datum DatumOrd Holds HoldAll EachIs)
variable {K0 : PySem.W.Frag} [KF K0]
/-! ### dict(a list of pairs), the keys tuples -/
def mergeT (kvs more : List (List Key × V)) : List (List Key × V) := more.foldl (fun m q => putK m q.1 q.2) kvs
theorem mergeT_kt {H : Hp} {kvs : List (List Key × V)} {xs : List (List Key × Addr × Value)} (r : KT H kvs xs) : ∀ {m : List (List Key × V)} {ms : List (List Key × Addr × Value)}, KT H m ms →
    KT H (mergeT m kvs) (storedAllH ms xs) := by
  induction r with
  | nil => intro m ms h; exact h
  | @cons p q ps qs h t ih =>
    intro m ms hm
    obtain ⟨e, hb, rv⟩ := h
    have := ih (KT.put hm q.1 (b := q.2.1) (by rw [← e]; exact hb) rv)
    unfold mergeT storedAllH at *
    rw [List.foldl_cons, List.foldl_cons, e]
    exact this
def PairT (K : PySem.W.Frag) (H : Hp) (p : Addr × Addr) (q : List Key × V) : Prop := SqT K H p.1 [.ref p.2, q.2] ∧ H p.2 = some (.tup (q.1.map kV))
theorem kt_at {H : Hp} {kvs : List (List Key × V)} {xs : List (List Key × Addr × Value)} (r : KT H kvs xs) : ∀ x ∈ xs, H x.2.1 = some (.tup (x.1.map kV)) := by
  induction r with
  | nil => exact fun x hx => nomatch hx
  | cons h _ ih => intro x hx; rcases List.mem_cons.mp hx with rfl | hx; · rw [← h.1]; exact h.2.1
                   · exact ih x hx
theorem ne_of_none {H : Hp} {b c : Addr} {o : HO} (e : H c = some o) (n : H b = none) : c ≠ b := fun z => by rw [z, n] at e; exact nomatch e
section
variable {X : Cx}
theorem tripT {pins : List (Addr × Obj)} {σ : L2.St} {H : Hp} {s : Shared} (I : Inv X pins σ H s) {ps : List (Addr × Addr)} {kvs : List (List Key × V)} (h : Paired (PairT X.K H) ps kvs) :
    ∃ xs : List (List Key × Addr × Value), KT H kvs xs ∧ xs.length = ps.length ∧ ∀ (j : Nat) q, xs[j]? = some q → ∃ b, ps[j]? = some b ∧ b.2 = q.2.1 ∧ IsTup s.heap b.1 #[.ref q.2.1, q.2.2] := by
  induction h with
  | nil => exact ⟨[], .nil, rfl, fun j q e => by simp at e⟩
  | @cons p kv ps' kvs' h t ih =>
    obtain ⟨xs, r, hl, hx⟩ := ih
    obtain ⟨h1, h2⟩ := h
    obtain ⟨its, rv, ht, _⟩ := I.tuple h1
    obtain ⟨u, y, ei, ru, ry⟩ := vals2 rv
    subst ei
    cases ru
    refine ⟨(kv.1, p.2, y) :: xs, .cons ⟨rfl, h2, ry⟩ r, by simp [hl], fun j q e => ?_⟩
    cases j with
    | zero =>
      have e' : (kv.1, p.2, y) = q := Option.some.inj e
      subst e'
      exact ⟨p, rfl, rfl, ht⟩
    | succ j => exact (hx j q (by simpa using e)).imp fun b z => ⟨by simpa using z.1, z.2⟩
theorem refs_pT : ∀ {ps : List (Addr × Addr)} {us : List Value}, Vals (ps.map fun p => V.ref p.1) us → us = ps.map fun p => Value.ref p.1
  | [], us, r => by rw [List.map_nil] at r; cases r; rfl
  | p :: ps, us, r => by
    rw [List.map_cons] at r
    cases r with
    | cons h t => cases h; rw [List.map_cons, ← refs_pT t]
theorem call_dictT (hcalm : X.calm = true) (hu : X.A.units + 64 < cLine) : CallR X (.type "dict") (fun xs H Q => ∃ (a : Addr) (ps : List (Addr × Addr)) (kvs : List (List Key × V)), xs = [.ref a] ∧
    SqL X.K H a (ps.map fun p => V.ref p.1) ∧ Paired (PairT X.K H) ps kvs ∧ ∀ p, H p = none → Q (.ref p) (upd H p (.dT (mergeT [] kvs)))) := by
  intro pins s σ H zs us Q I r q
  obtain ⟨a, ps, kvs, ez, hq, hp, q⟩ := q
  subst ez
  obtain ⟨u, eu, rx⟩ := vals1 r
  subst eu
  cases rx
  obtain ⟨its, rv, pl, hz⟩ := I.list hq
  have ei := refs_pT rv
  subst ei
  obtain ⟨xs, rel, hl, hx⟩ := tripT I hp
  obtain ⟨o, n, ho, hc, hd, hdat⟩ := pl
  have hz' : ps.length ≤ sizeLine := by simpa using hz
  have hkey : ∀ x ∈ xs, (tupleKind (mixKind X.prog X.w)).is s.heap x.1 x.2.1 := fun x hxm => key_of I.hok (kt_at rel x hxm)
  have hps : ∀ (j : Nat) (k v : Value), (xs.map fun x => (Value.ref x.2.1, x.2.2))[j]? = some (k, v) → ∃ q, xs[j]? = some q ∧ k = .ref q.2.1 ∧ v = q.2.2 := fun j k v e => by
    rw [List.getElem?_map] at e
    cases hq' : xs[j]? with
    | none => rw [hq'] at e; exact nomatch e
    | some q' => rw [hq'] at e; cases e; exact ⟨q', rfl, rfl, rfl⟩
  refine call_dict_pairsH (knd := tupleKind (mixKind X.prog X.w)) (ps := xs)
    (PairArg.list a _ (fun j => ((ps[j]?).map (·.1)).getD 0) (xs.map fun x => (Value.ref x.2.1, x.2.2))) (I.ok.hd hcalm) (show X.A.units + 1 + 1 < cLine by omega)
    ⟨⟨o, n, ho, hc, hd, hdat⟩, ⟨by simp [hl], fun j k v e => ?_⟩⟩ ⟨by simp, fun i k v e => ?_⟩ (fun h' hk x hxm => ?_) (by simpa [hl] using hz') fun h' tk hd' hk => ?_
  · obtain ⟨q', e1, rfl, rfl⟩ := hps j k v e
    obtain ⟨b, e2, _, ht⟩ := hx j q' e1
    have e3 : ((ps[j]?).map (·.1)).getD 0 = b.1 := by rw [e2]; rfl
    show _ ∧ PairAt s.heap (((ps[j]?).map (·.1)).getD 0) _ _
    rw [e3]
    exact ⟨by show _ = some (Value.ref (((ps[j]?).map (·.1)).getD 0)); rw [e3]; simp [e2], .inl ht⟩
  · obtain ⟨q', e1, rfl, rfl⟩ := hps i k v e
    exact ⟨q'.1, q'.2.1, e1, rfl⟩
  · obtain ⟨o', its', n', h1, h2⟩ := hkey x hxm
    exact ⟨o', its', n', hk _ _ (Nat.ne_of_lt (Heap.lt_size h1)) (fun z => nomatch z) h1, h2⟩
  · have hm : (s.heap.objs.size == sysModules) = false := beq_eq_false_iff_ne.mpr (Nat.ne_of_gt I.big)
    have hlen : (mergeT [] kvs).length ≤ sizeLine := by
      have h1 := Paired.length (mergeT_kt rel (m := []) (ms := []) .nil)
      have h2 := storedAllH_length xs ([] : List (List Key × Addr × Value))
      rw [List.length_nil, Nat.zero_add] at h2
      rw [h1]
      exact Nat.le_trans h2 (by rw [hl]; exact hz')
    obtain ⟨q', es, ep, g1, g2, g3, g4, _, g5⟩ := hd'
    refine ⟨.ref s.heap.objs.size, upd H s.heap.objs.size (.dT (mergeT [] kvs)), I.laid (t' := tk) (fun b o' e => hk b o' (fun z => nomatch z) e) (Nat.le_refl _) ⟨hlen, hm, _, (mergeT_kt rel .nil).keeps fun c ys ec => ?_, q', es, ep, g1, g2, g3, g4, g5⟩,
      rfl, q _ (I.hok.fresh (Nat.le_refl _))⟩
    rw [upd_ne (ne_of_none ec (I.hok.fresh (Nat.le_refl _)))]
    exact ec
end
section
variable {β : Type} [Py β] {F H : Hp}
def mergeDT (xs : List ((Int × Int) × β)) : List ((Int × Int) × β) := xs.foldl (fun m p => dPut m p.1 p.2) []
theorem mergeT_rd {kvs : List (List Key × V)} {xs : List ((Int × Int) × β)} (hs : RD F kvs xs) : ∀ {m : List (List Key × V)} {ms : List ((Int × Int) × β)}, RD F m ms → RD F (mergeT m kvs) (xs.foldl (fun m p => dPut m p.1 p.2) ms) := by
  induction hs with
  | nil => intro m ms h; exact h
  | @cons k v y kvs xs hv _ ih =>
    intro m ms h
    exact ih (h.put k hv)
theorem pairsT_of_rl {K : PySem.W.Frag} (s : Same F H) : ∀ {vs : List V} {xs : List ((Int × Int) × β)}, RL F vs xs → ∃ (ps : List (Addr × Addr)) (kvs : List (List Key × V)),
    vs = (ps.map fun p => V.ref p.1) ∧ Paired (PairT K H) ps kvs ∧ RD F kvs xs
  | _, [], h => ⟨[], [], RL.nil_ h, .nil, .nil⟩
  | _, x :: xs, h => by
    obtain ⟨w, ws, rfl, h1, h2⟩ := RL.cons_ h
    obtain ⟨ps, kvs, e, hp, hr⟩ := pairsT_of_rl (K := K) s h2
    obtain ⟨p, v1, v2, rfl, hp1, h3, h4⟩ := R.t2_ h1
    obtain ⟨b, w1, w2, rfl, hb, h5, h6⟩ := R.t2_ h3
    rw [R.int_ h5, R.int_ h6] at hb
    exact ⟨(p, b) :: ps, ([.inl x.1.1, .inl x.1.2], v2) :: kvs, by rw [e]; rfl, .cons ⟨SqT.of (s _ _ hp1), s _ _ hb⟩ hp, .cons (k := x.1) h4 hr⟩
end
/-! ### max and min of a list -/
def mxI : List Int → Option Int
  | [] => none
  | x :: xs => match mxI xs with
    | none => some x
    | some m => some (if m < x then x else m)
def mnI : List Int → Option Int
  | [] => none
  | x :: xs => match mnI xs with
    | none => some x
    | some m => some (if x < m then x else m)
theorem mxI_none : ∀ {xs : List Int}, mxI xs = none → xs = []
  | [], _ => rfl
  | x :: xs, h => by
    unfold mxI at h
    cases e : mxI xs <;> rw [e] at h <;> exact nomatch h
theorem mnI_none : ∀ {xs : List Int}, mnI xs = none → xs = []
  | [], _ => rfl
  | x :: xs, h => by
    unfold mnI at h
    cases e : mnI xs <;> rw [e] at h <;> exact nomatch h
theorem mxI_is : ∀ {xs : List Int} {m : Int}, mxI xs = some m → m ∈ xs ∧ ∀ y ∈ xs, y ≤ m
  | [], _, h => nomatch h
  | x :: xs, m, h => by
    unfold mxI at h
    cases e : mxI xs with
    | none =>
      rw [e] at h
      cases h
      rw [mxI_none e]
      exact ⟨List.mem_cons_self, fun y hy => by rw [List.mem_singleton.mp hy]; exact Int.le_refl _⟩
    | some n =>
      rw [e] at h
      obtain ⟨h1, h2⟩ := mxI_is e
      have h : (if n < x then x else n) = m := Option.some.inj h
      by_cases z : n < x
      · rw [if_pos z] at h
        subst h
        refine ⟨List.mem_cons_self, fun y hy => ?_⟩
        rcases List.mem_cons.mp hy with hy | hy
        · omega
        · have := h2 y hy; omega
      · rw [if_neg z] at h
        subst h
        refine ⟨List.mem_cons_of_mem _ h1, fun y hy => ?_⟩
        rcases List.mem_cons.mp hy with hy | hy
        · omega
        · exact h2 y hy
theorem mnI_is : ∀ {xs : List Int} {m : Int}, mnI xs = some m → m ∈ xs ∧ ∀ y ∈ xs, m ≤ y
  | [], _, h => nomatch h
  | x :: xs, m, h => by
    unfold mnI at h
    cases e : mnI xs with
    | none =>
      rw [e] at h
      cases h
      rw [mnI_none e]
      exact ⟨List.mem_cons_self, fun y hy => by rw [List.mem_singleton.mp hy]; exact Int.le_refl _⟩
    | some n =>
      rw [e] at h
      obtain ⟨h1, h2⟩ := mnI_is e
      have h : (if x < n then x else n) = m := Option.some.inj h
      by_cases z : x < n
      · rw [if_pos z] at h
        subst h
        refine ⟨List.mem_cons_self, fun y hy => ?_⟩
        rcases List.mem_cons.mp hy with hy | hy
        · omega
        · have := h2 y hy; omega
      · rw [if_neg z] at h
        subst h
        refine ⟨List.mem_cons_of_mem _ h1, fun y hy => ?_⟩
        rcases List.mem_cons.mp hy with hy | hy
        · omega
        · exact h2 y hy
theorem mxI_uq {xs : List Int} {m n : Int} (h : mxI xs = some m) (h1 : n ∈ xs) (h2 : ∀ y ∈ xs, y ≤ n) : m = n := by
  have a := mxI_is h
  have b := a.2 n h1
  have c := h2 m a.1
  omega
theorem mnI_uq {xs : List Int} {m n : Int} (h : mnI xs = some m) (h1 : n ∈ xs) (h2 : ∀ y ∈ xs, n ≤ y) : m = n := by
  have a := mnI_is h
  have b := a.2 n h1
  have c := h2 m a.1
  omega
section
variable {X : Cx} {K : PySem.W.Frag}
theorem cr_maxK (hc : X.calm = true) (h : X.K = K) : CallR X (.builtin "max") (rMax K) := by rw [← h]; exact cr_max hc
theorem cr_minK (hc : X.calm = true) (h : X.K = K) : CallR X (.builtin "min") (rMin K) := by rw [← h]; exact cr_min hc
end
end PG

set_option Elab.async false
set_option linter.all false
set_option maxRecDepth 100000
set_option maxHeartbeats 4000000
namespace PG
open PySem PySem.Spec PyProof.Rows L2
open PySem.W (T3 T4 Datum DatumOrd Holds HoldAll EachIs)
variable {K0 : PySem.W.Frag} [KF K0]
/-! ### an exception that was caught and is kept: tracked from then on -/
def excAt (cls : Value) (d : Option Addr) (a : Addr) : Heap → Prop := fun h => ∃ o vs, h.get? a = some o ∧ Zc cls d o ∧ o.data = .fields vs
def excO (cls : Value) (d : Option Addr) (a : Addr) : HO := .ext (excAt cls d a)
section
variable {X : Cx} {pins : List (Addr × Obj)} {σ : L2.St} {H : Hp} {s : Shared}
theorem adopt {a : Addr} {cls : Value} {d : Option Addr} (I : L2.Inv X pins σ H s) (ha : H a = none) (hp : excAt cls d a s.heap) (h0 : X.s_0.heap.get? a = none) (nL : a ≠ X.env.locals) (np : ∀ p ∈ X.pn ++ pins, p.1 ≠ a) :
    L2.Inv X pins σ (upd H a (excO cls d a)) s := by
  obtain ⟨o, vs, ho, hz, hd⟩ := id hp
  have keep : ∀ {b : Addr} {u : HO}, H b = some u → upd H a (excO cls d a) b = some u := fun {b u} q => (upd_ne (ne_of_none q ha)).trans q
  have bare : ∀ {b : Addr}, b ≠ a → H b = none → upd H a (excO cls d a) b = none := fun {b} z q => (upd_ne z).trans q
  refine ⟨I.ok, I.os, I.bare, ⟨I.base.keep, I.base.slot, fun b u q n hx => bare (fun z => ?_) (I.base.free b u q n hx), I.base.there, fun b xs q => keep (I.base.tups b xs q), fun b u v q => keep (I.base.frzs b u v q), fun b ps q => ?_⟩, I.loc, I.cell, bare (Ne.symm nL) I.free, fun y k e => bare (fun z => ?_) (I.freeC y k e), fun p hq => ?_, ?_, I.len⟩
  · rw [z, h0] at q; exact nomatch q
  · obtain ⟨more, r⟩ := I.base.tbls b ps q
    exact ⟨more, keep r⟩
  · obtain ⟨v, w, hw, hv⟩ := I.cell y k e
    rw [z, ho] at hw
    cases hw
    rw [hd] at hv
    exact nomatch hv
  · obtain ⟨q1, q2, q3⟩ := I.pin p hq
    exact ⟨q1, bare (np p hq) q2, q3⟩
  · exact L2.HOk.laidN I.hok (fun _ _ q => q) ha ⟨hp, ⟨o, ho⟩, fun g1 g2 x k => x.imp fun o' y => y.imp fun vs' z => ⟨k _ z.1, z.2⟩⟩
end
/-- what the clause 'except x as n', whose suite keeps the exception, wishes -/
def wKeep (K : PySem.W.Frag) (c : Value) (i : Nat) (ts : Addr → TS) (out : WX) (D : Ends) : WX := fun cls d σ H =>
  ∃ b, PySem.W.exmOne K cls c = some b ∧ (b = true → ∀ a, H a = none → ts a { nx := fun σ' H' => D.nx (σ'.set i none) (upd H' a (excO cls d a)), rt := fun _ _ => False, bk := fun _ _ => False, ct := fun _ _ => False } (σ.set i (some (.ref a))) H) ∧ (b = false → out cls d σ H)
section
variable {X : Cx} {x n : Str} {c : Value} {i : Nat} {body suite : List Stmt} {b1 : Stmt} {np q1 q2 : Pos} {tb : WX → TS} {ts : Addr → TS} {out : WX}
theorem ps_try_keep (hs : X.stack = X.env :: X.outer) (hf : X.env.frame = some X.env.locals) (hex : X.ex = []) (hN : X.N.Nodup) (hi : X.N[i]? = some n) (hl : X.env.kindOf n = some .local) (hc : Names X x c) (tk : Takes X out)
    (hb : ∀ (W : WX) (pn : List (Addr × Obj)) (xe : Value → Shared → Prop), Takes (X.tr pn xe) W → PassesOwn (model X.prog X.w) X.A X.env xe → PSs (X.tr pn xe) body (tb W))
    (hsu : ∀ (a : Addr) (o : Obj) (pn : List (Addr × Obj)), PSs (X.suite a ((a, o) :: pn)) (b1 :: suite) (ts a)) :
    PS X (.Try body [.ExceptHandler (some (.Name x np)) (some n) (b1 :: suite) q1] [] [] q2) (fun D σ H => tb (wKeep X.K c i ts out D) D σ H) := by
  refine ⟨fun pins s σ H D I wish => wpAny_Try_except ?_⟩
  have ok := I.ok
  have hfr : X.A.frames = some (X.env :: X.outer) := ok.frames.trans (by rw [hs])
  have run := (hb (wKeep X.K c i ts out D) (X.pn ++ pins) (fun e g1 => wpAny (model X.prog X.w) X.A (noteFrame e X.env) (fun _ g2 => wpAny (model X.prog X.w) X.A (setFlight e none)
    (fun _ g3 => wpAny (model X.prog X.w) X.A (handleBy e X.env [.ExceptHandler (some (.Name x np)) (some n) (b1 :: suite) q1]) (SP X pins D) X.xe g3) X.xe g2) X.xe g1)
    (fun u g ⟨a, B, sI, ps, τ, G, cls, d, eu, J0, nb, up, sky, na, eos, ag, b, hb1, yes, no⟩ => by
      subst eu
      have J : L2.Inv X pins τ G sI := J0.ofTry ok
      show wpAny (model X.prog X.w) X.A (noteFrame (.ref a) X.env) _ _ _
      refine Sky.land Zc.steady hfr hf (show Sky B (X.env :: X.outer) a (Zc cls d) X.env.locals g.heap by rw [← hs]; exact sky) fun k1 fl1 up1 => ?_
      have J1 : L2.Inv X pins τ G { g with heap := k1 } := J.landed nb fl1.1 (up.trans up1) eos ag
      obtain ⟨o1, vs1, ho1, hz1, hd1⟩ := fl1.there
      have off : a ∉ frs (X.env :: X.outer) := fun hm => by
        obtain ⟨_, o', eo, hnf⟩ := fl1.2.2.1.mem hm
        rw [ho1] at eo
        cases eo
        exact hnf _ hd1
      have nL : a ≠ X.env.locals := fun z => off (List.mem_filterMap.mpr ⟨X.env, List.mem_cons_self, by rw [hf, z]⟩)
      have nF : a ∉ X.fs := fun hm => by
        obtain ⟨e, he, q⟩ := List.mem_filterMap.mp hm
        exact off (List.mem_filterMap.mpr ⟨e, List.mem_cons_of_mem _ he, q⟩)
      have young : ∀ o, sI.heap.get? a ≠ some o := fun o q => by
        have z := nb a o q (by rw [hs]; exact off)
        rw [fl1.2.1] at z
        exact nomatch z
      have h0 : X.s_0.heap.get? a = none := by
        cases q : X.s_0.heap.get? a with
        | none => rfl
        | some o =>
          obtain ⟨o', z⟩ := J.base.there a o q (by rw [hex]; exact fun z => nomatch z)
          exact (young _ z).elim
      have offp : ∀ p ∈ X.pn ++ pins, p.1 ≠ a := fun p hp z => young p.2 (by rw [← z]; exact (J.pin p hp).1)
      have S1 := J1.suite ho1 hd1 na nL nF
      refine wpAny_handleBy_cons (codeAny_handlers_test ?_) (fun q => nomatch q)
      have look : PySem.W.Looks (model X.prog X.w) k1 (typeOf (.ref a)) cls := fun _ _ _ _ k q => wpAny_typeOf_ref (k _ _ ho1) (by rw [hz1.1]; exact q)
      have match_ := PySem.W.exm_one (M := model X.prog X.w) J1.kIn look hb1
      have named : ∀ {Q : Value → Shared → Prop} {E : Value → Shared → Prop}, Q c { g with heap := k1 } → wpAny (model X.prog X.w) (X.A.mark (some (.ref a))) (eval (.Name x np) X.env) Q E { g with heap := k1 } := fun {Q E} q => by
        obtain ⟨hg, hdbg, hm | ⟨hm, hv, hnn⟩⟩ := hc
        · exact ld_glob (X := X.suite a ((a, o1) :: (X.pn ++ pins))) S1 hg hm q hdbg
        · exact ld_blt (X := X.suite a ((a, o1) :: (X.pn ++ pins))) S1 hg hm hv q hnn hdbg
      refine named (match_.here ?_)
      cases b with
      | true =>
        refine codeAny_handlers_suite_as (HandSPX.lands_againZ fl1 fun k2 fl2 up2 => ?_)
        have J2 : L2.Inv X pins τ G { g with heap := k2 } := J.landed nb fl2.1 ((up.trans up1).trans up2) eos ag
        obtain ⟨o2, vs2, ho2, hz2, hd2⟩ := fl2.there
        refine store_ok (X := X.suite a ((a, o2) :: (X.pn ++ pins))) (v := .ref a) (J2.suite ho2 hd2 na nL nF) hN hi (.inl hl) rfl (fun g5 S5 => ?_) (.inr hl)
        refine wpAny_mono ((hsu a o2 (X.pn ++ pins)).run [] g5 _ G _ S5 (yes rfl a na)) (fun f g6 hsp => ?_) (fun _ _ z => z.elim)
        cases f with
        | next =>
          obtain ⟨τ6, G6, S6, q6⟩ := hsp
          refine gone_ok (X := X.suite a ((a, o2) :: (X.pn ++ pins))) S6 hN hi hl fun g7 S7 => ?_
          obtain ⟨hget, hn7, _⟩ := S7.pin (a, o2) (List.mem_append_left _ List.mem_cons_self)
          exact ⟨_, _, adopt (S7.unsuite ok) hn7 ⟨o2, vs2, hget, hz2, hd2⟩ h0 nL offp, q6⟩
        | brk => obtain ⟨_, _, _, q6⟩ := hsp; exact q6.elim
        | cont => obtain ⟨_, _, _, q6⟩ := hsp; exact q6.elim
        | ret u => obtain ⟨_, _, _, _, _, q6⟩ := hsp; exact q6.elim
      | false =>
        refine wpAny_handleBy_nil ?_
        obtain ⟨_, _, _, o3, vs3, T, oT, ts3, he, hz, hd, h1, hr⟩ := id fl1
        unfold PySem.passOn
        refine wpAny_bind (wpAny_field he hd h1 ?_)
        rw [if_neg (by simp : ¬ ((Value.ref T == Value.none) = true))]
        have up_ : wpAny (model X.prog X.w) X.A (setFlight (.ref a) X.env.frame) (fun _ g4 => wpAny (model X.prog X.w) X.A (throw (.ref a) : Sem Flow) (SP X pins D) X.xe g4) X.xe { g with heap := k1 } := by
          rw [hf]
          exact HandSPX.setFlight_upZ fl1 fun k2 fl2 up2 => wpAny_throw (tk _ _ ⟨a, B, sI, pins, τ, G, cls, d, rfl, J, nb, (up.trans up1).trans up2, .inr (.inr (by rw [hs]; exact fl2)), na, eos, ag, no rfl⟩)
        first
          | exact wpAny_bind up_
          | exact wpAny_bind (wpAny_pure (wpAny_bind up_)))
    PassesOwn.looking).run [] s σ H D (I.toTry _) wish
  refine wpAny_mono run (fun f g hsp => ?_) (fun _ _ z => z)
  cases f with
  | next => obtain ⟨τ, G, J, q⟩ := hsp; exact wpAny_execs_nil ⟨τ, G, J.ofTry ok, q⟩
  | brk => obtain ⟨τ, G, J, q⟩ := hsp; exact ⟨τ, G, J.ofTry ok, q⟩
  | cont => obtain ⟨τ, G, J, q⟩ := hsp; exact ⟨τ, G, J.ofTry ok, q⟩
  | ret u => obtain ⟨v, τ, G, J, r, q⟩ := hsp; exact ⟨v, τ, G, J.ofTry ok, r, q⟩
end
/-! ### isinstance of what was caught -/
section
variable {X : Cx}
theorem inst_of {a D : Addr} {h : Heap} (x : excAt (.ref D) none a h) : ∃ o, PySem.W.InstAt h a o D none := by
  obtain ⟨⟨oc, od, oda, osl⟩, vs, hg, ⟨h1, h2⟩, h3⟩ := x
  dsimp only at h1 h2 h3
  subst h1 h2 h3
  exact ⟨_, hg, rfl, rfl, trivial⟩
/-- whose class is t: what was caught, or a value of a built-in type -/
inductive KX (K : PySem.W.Frag) (H : Hp) : V → Value → Prop where
  | exc {a D : Addr} (e : H a = some (excO (.ref D) none a)) (c : ExcC K D) : KX K H (.ref a) (.ref D)
  | base {x : V} {t : Value} (h : TyX K H x t) : KX K H x t
theorem kx_of {pins : List (Addr × Obj)} {σ : L2.St} {H : Hp} {s : Shared} {x : V} {u t : Value} (I : L2.Inv X pins σ H s) (rx : RelV x u) (k : KX X.K H x t) : ∃ P : Heap → Prop, PySem.W.KitX X.K u t P ∧ P s.heap ∧ u ≠ .builtin "__main__.__loader__#opaque" := by
  cases k with
  | @exc a D e C =>
    cases (show u = Value.ref a from rx)
    obtain ⟨o, J⟩ := inst_of (show excAt (.ref D) none a s.heap from (I.hok a _ e).1)
    exact ⟨_, PySem.W.handS_kitx_exc C.hg C.hk C.hs C.hd C.ha C.hn C.ht C.hm, J, fun z => nomatch z⟩
  | base h => exact kit_of I rx h
def rIsU (K : PySem.W.Frag) : List V → Hp → VK → Prop := fun xs H Q => ∃ (x c : V) (t u : Value) (b : Bool), xs = [x, c] ∧ ClsV c u ∧ KX K H x t ∧ PySem.W.kitOne K t u = some b ∧ Q (.bl b) H
theorem isuK {K : PySem.W.Frag} (hK : X.K = K) : CallR X (.builtin "isinstance") (rIsU K) := by
  subst hK
  intro pins s σ H xs us Q I r ⟨x, c, t, u, b, ex, hc, k, e, q⟩
  subst ex
  obtain ⟨u1, u2, rfl, r1, r2⟩ := vals2 r
  cases hc.eq r2
  obtain ⟨P, Z, p, hx⟩ := kx_of I r1 k
  exact PySem.W.kia_one Z I.kIn p e hx fun tk => ⟨.bl b, H, I.tok tk, rfl, q⟩
def rIsUT (K : PySem.W.Frag) : List V → Hp → VK → Prop := fun xs H Q => ∃ (x : V) (tp : Addr) (cs : List V) (t : Value) (ws : List Value) (b : Bool), xs = [x, .ref tp] ∧ H tp = some (.tup cs) ∧ Paired ClsV cs ws ∧ KX K H x t ∧ PySem.W.kitAny K t ws = some b ∧ Q (.bl b) H
theorem isutK {K : PySem.W.Frag} (hK : X.K = K) : CallR X (.builtin "isinstance") (rIsUT K) := by
  subst hK
  intro pins s σ H xs us Q I r ⟨x, tp, cs, t, ws, b, ex, hT, hc, k, e, q⟩
  subst ex
  obtain ⟨u1, u2, rfl, r1, r2⟩ := vals2 r
  cases (show u2 = Value.ref tp from r2)
  obtain ⟨P, Z, p, hx⟩ := kx_of I r1 k
  obtain ⟨_, its, rv, ⟨oc, od, dt, sl⟩, h1, h2, n, h3⟩ := (show ObjOk X.prog X.w H s.heap tp (.tup cs) from I.hok tp _ hT)
  have e3 := ClsV.all hc rv
  subst e3
  dsimp only at h2 h3
  subst h2 h3
  exact PySem.W.kia_tup Z I.kIn p h1 e hx fun tk => ⟨.bl b, H, I.tok tk, rfl, q⟩
end
theorem kit_own {K : PySem.W.Frag} {t : Value} {C : Addr} {b : Bool} (hd : PySem.W.hasDictIn K C = true) (ht : PySem.W.typeIn K (.ref C) = some (.type "type")) (hs : PySem.W.subIn K t (.ref C) = some b) (ho : PySem.W.subIn K (.ref C) (.ref C) = some true) : PySem.W.kitOne K t (.ref C) = some b := by
  obtain ⟨cd, hc, _⟩ := PySem.W.any_some hd
  unfold PySem.W.kitOne PySem.W.kitCls
  by_cases z : (t == .ref C) = true
  · rw [if_pos z]
    have z := beq_iff_eq.mp z
    subst z
    exact ho.symm.trans hs
  · rw [if_neg z]
    show (if ((PySem.W.clsIn K C).isSome && PySem.W.typeIn K (.ref C) == some (.type "type")) = true then _ else _) = _
    rw [if_pos (by rw [hc, ht]; rfl)]
    exact hs
theorem kit_blt {K : PySem.W.Frag} {D : Addr} {T : String} {b : Bool} (hm : PySem.W.kitMeta T = true) (hs : PySem.W.subIn K (.ref D) (.type T) = some b) : PySem.W.kitOne K (.ref D) (.type T) = some b := by
  unfold PySem.W.kitOne PySem.W.kitCls
  rw [if_neg (by simp)]
  show (if PySem.W.kitMeta T = true then _ else _) = _
  rw [if_pos hm]
  exact hs
theorem any_no {K : PySem.W.Frag} {t c : Value} {cs : List Value} {r : Bool} (h : PySem.W.kitOne K t c = some false) (hr : PySem.W.kitAny K t cs = some r) : PySem.W.kitAny K t (c :: cs) = some r := kitAny_cons h (fun _ => hr) fun z => nomatch z
theorem any_yes {K : PySem.W.Frag} {t c : Value} {cs : List Value} (h : PySem.W.kitOne K t c = some true) : PySem.W.kitAny K t (c :: cs) = some true := kitAny_cons h (fun z => nomatch z) fun _ => rfl
/-! ### a call within a try -/
def tCallW (sp : Sp) (W : WX) (t : TA) : TE := fun σ H Q => t σ H fun vs H1 => sp vs H1 Q fun cls d H' => W cls d σ H'
theorem pe_callW {X : Cx} {k : Nat} {f : Addr} {fd : FuncData} {ps : List Str} {sp : Sp} {W : WX} {x : Str} {p pos : Pos} {e : Expr} {es : List Expr} {t : TA} (F : FnOk X.prog X.w X.K X.mg X.base (L2.CX X.prog X.w) k f fd ps sp) (hr : Room k X.A) (hg : Gl X x) (hm : X.mg x = some (.ref f)) (hk : PySem.W.keepIn X.K (.ref f) = true) (hb : Binds X.K fd ps [])
    (tk : Takes X W) (ha : PA X (e :: es) t) (hdb : (x == ("__debug__" : Str)) = false := by decide) (he : starEach (e :: es) X.env = (false, eval e X.env) :: starEach es X.env := by rfl) (hpl : (backTo pos (starEach es X.env)).any (·.1) = false := by rfl) :
    PE X (.Call (.Name x p) (e :: es) [] pos) (tCallW sp W t) := by
  refine ⟨fun pins s σ H Q I h => wpAny_Call_Name_kw (ld_glob I hg hm ?_ hdb)⟩
  refine PySem.W.callWith_K (h₀ := X.base) I.ok.mod.kin hk (thn (ha.run pos pins s σ H _ I h) fun us g ⟨vs, G, J, r, q⟩ => ⟨J.kIn, ?_⟩) he hpl
  have hl : us.length = ps.length := by rw [← r.length]; exact F.len _ _ _ _ q
  refine wpAny_call (codeAny_mono (F.run X.A X.stack g G ⟨us, []⟩ us vs Q (fun cls d H' => W cls d σ H') hr J.env0 (by have := hb g us J.kIn (by simpa using hl); simpa using this) r q) fun res g' hq => ?_)
  cases res with
  | error z => exact tk _ _ (XE.of_call J (fun _ _ _ h => h) hq)
  | ok fl =>
    cases fl with
    | ret u => exact J.after hq
    | next => exact hq.elim
    | brk => exact hq.elim
    | cont => exact hq.elim
/-- try: m, except one of those of L: k1, else k0 -/
def tryK {a : Type} (L : List String) (m : M Unit) (k0 : M a) (k1 : String → M a) : M a := match m with
  | .ok _ => k0
  | .error .bad => bad
  | .error (.exc n) => if n ∈ L then k1 n else bad
theorem wp_tryK {b : Type} {L : List String} {m : M Unit} {k0 : M b} {k1 : String → M b} {Q : b → Prop} {E : String → Prop} (h : wp (tryK L m k0 k1) Q E) : wp m (fun _ => wp k0 Q E) fun n => n ∈ L ∧ wp (k1 n) Q E := by
  cases m with
  | ok x => exact h
  | error e =>
    cases e with
    | bad => exact h
    | exc n =>
      by_cases z : n ∈ L
      · have e : tryK L (.error (.exc n)) k0 k1 = k1 n := if_pos z
        rw [e] at h
        exact ⟨z, h⟩
      · have e : tryK L (.error (.exc n)) k0 k1 = bad := if_neg z
        rw [e] at h
        exact h.elim
theorem wp_okE {a : Type} {x : a} {Q : a → Prop} {E : String → Prop} (h : wp (.ok x : M a) Q E) : Q x := h
theorem Ow.exc {Z : Ent} {F H H1 : Hp} {cs : List (Addr × HO)} (O : Ow Z F cs H) (k : Kp [] H H1) : Ow Z F cs H1 where
  g := {
    f := O.g.f
    s := fun b o e => k.k b o (fun z => nomatch z) (O.g.s b o e)
    k := fun b o hb e => k.k b o (fun z => nomatch z) (O.g.k b o hb e)
    t := fun b h => k.t b (O.g.t b h)
    n := O.g.n
    u := fun b xs e => by
      cases q : H b with
      | none =>
        left
        cases z : Z.H b with
        | none => rfl
        | some o => exact (O.g.t b (by rw [z]; exact fun w => nomatch w) q).elim
      | some o =>
        have := k.k b o (fun z => nomatch z) q
        rw [e] at this
        cases this
        exact O.g.u b xs q }
  cf := O.cf
  ch := fun c hc => k.k _ _ (fun z => nomatch z) (O.ch c hc)
  nd := O.nd
  ca := O.ca
  nt := O.nt
theorem mem1 {n a : String} (h : n ∈ [a]) : n = a := List.mem_singleton.mp h
theorem mem2 {n a b : String} (h : n ∈ [a, b]) : n = a ∨ n = b := by simpa using h
/-! ### lists of truths: count, index -/
theorem RL.bools {H : Hp} : ∀ {vs : List V} {xs : List Bool}, RL H vs xs → vs = xs.map V.bl
  | _, [], h => RL.nil_ h
  | _, x :: xs, h => by
    obtain ⟨w, ws, rfl, h1, h2⟩ := RL.cons_ h
    rw [R.bl_ h1, RL.bools h2]
    rfl
def cntB (k : Bool) : List Bool → Int
  | [] => 0
  | y :: r => (if y = k then 1 else 0) + cntB k r
theorem cnt_in (k : Bool) : ∀ bs : List Bool, PySem.Spec.countIn (.bool k) (bs.map PyData.bool) = cntB k bs
  | [] => rfl
  | b :: bs => by
    show (if same (PyData.bool b) (PyData.bool k) = true then (1 : Int) else 0) + PySem.Spec.countIn _ _ = _
    rw [cnt_in k bs]
    cases b <;> cases k <;> rfl
theorem bools_vals : ∀ {bs : List Bool} {its : List Value}, Vals (bs.map V.bl) its → its = bs.map Value.bool
  | [], its, r => by rw [List.map_nil] at r; cases r; rfl
  | b :: bs, its, r => by
    rw [List.map_cons] at r
    cases r with
    | cons h t => cases h; rw [List.map_cons, ← bools_vals t]
theorem reads_bools {hp : Heap} : ∀ bs : List Bool, ReadsAll hp (bs.map Value.bool) (bs.map PyData.bool) []
  | [] => .nil
  | b :: bs => .cons (as := []) (bs := []) (.bool b) (reads_bools bs)
def rCntB (K : PySem.W.Frag) : V → List V → Hp → VK → Prop := fun x xs H Q => ∃ (a : Addr) (bs : List Bool) (k : Bool), x = .ref a ∧ xs = [.bl k] ∧ SqL K H a (bs.map V.bl) ∧ Q (.int (cntB k bs)) H
theorem countBK {X : Cx} {K : PySem.W.Frag} (hK : X.K = K) : MtR X "list.count" (rCntB K) := by
  subst hK
  intro pins s σ H x xs v us Q I rx r ⟨a, bs, k, ex, exs, hs, q⟩
  subst ex exs
  cases rx
  obtain ⟨u, rfl, ru⟩ := vals1 r
  cases ru
  obtain ⟨its, rv, pl, _⟩ := I.list hs
  cases bools_vals rv
  refine count_list_bools (hp := s.heap) (xs := bs.map PyData.bool) pl.isList (reads_bools bs) (List.all_eq_true.mpr fun y hy => ?_) ?_
  · obtain ⟨b, _, rfl⟩ := List.mem_map.mp hy
    rfl
  · rw [cnt_in]
    exact ⟨.int (cntB k bs), H, I.tok _, ⟨_, rfl⟩, q⟩
def ixB (xs : List Bool) (y : Bool) : M Int := if y ∈ xs then .ok ((xs.findIdx (· == y) : Nat) : Int) else bad
theorem wp_ixB {a : Type} {Q : a → Prop} {E : String → Prop} {xs : List Bool} {y : Bool} {k : Int → M a} (h : wp (ixB xs y >>= k) Q E) : ∃ j, xs.findIdx (· == y) = j ∧ xs[j]? = some y ∧ (∀ (m : Nat) z, m < j → xs[m]? = some z → z ≠ y) ∧ wp (k (j : Int)) Q E := by
  unfold ixB at h
  by_cases hm : y ∈ xs
  · rw [if_pos hm] at h
    have hlt : xs.findIdx (· == y) < xs.length := List.findIdx_lt_length_of_exists ⟨y, hm, by simp⟩
    refine ⟨_, rfl, ?_, fun m z hmj hz e => ?_, h⟩
    · rw [List.getElem?_eq_getElem hlt]
      have := List.findIdx_getElem (w := hlt)
      rw [eq_of_beq this]
    · have := List.not_of_lt_findIdx hmj
      obtain ⟨hl, hz⟩ := List.getElem?_eq_some_iff.mp hz
      rw [hz, e] at this
      simp at this
  · rw [if_neg hm] at h; exact h.elim
theorem all_flat_bl : ∀ xs : List Bool, (xs.map V.bl).all flatV = true
  | [] => rfl
  | x :: xs => by rw [List.map_cons, List.all_cons, all_flat_bl xs]; rfl
theorem bl_noeq {xs : List Bool} {y : Bool} {j : Nat} (h : ∀ (m : Nat) z, m < j → xs[m]? = some z → z ≠ y) : ∀ (m : Nat) (z' : V), m < j → (xs.map V.bl)[m]? = some z' → eqV z' (.bl y) = false := fun m z' hm hz => by
  rw [List.getElem?_map] at hz
  cases e : xs[m]? with
  | none => rw [e] at hz; cases hz
  | some z =>
    rw [e] at hz
    have hz : V.bl z = z' := Option.some.inj hz
    subst hz
    have := h m z hm e
    revert this
    cases z <;> cases y <;> intro this <;> first | rfl | exact (this rfl).elim
theorem bl_at {xs : List Bool} {y : Bool} {j : Nat} (h : xs[j]? = some y) : (xs.map V.bl)[j]? = some (.bl y) := by rw [List.getElem?_map, h]; rfl
theorem bl_eq {y : Bool} : eqV (.bl y) (.bl y) = true := by cases y <;> rfl
/-- x in xs, of data that are no scalars -/
def inD {a : Type} [DecidableEq a] (x : a) (xs : List a) : Prop := x ∈ xs
instance {a : Type} [DecidableEq a] (x : a) (xs : List a) : Decidable (inD x xs) := @List.instDecidableMemOfLawfulBEq a instBEqOfDecidableEq _ x xs
theorem iteDx {c A B : Prop} {i : Decidable c} (h1 : c → A) (h2 : ¬ c → B) : if @decide c i = true then A else B := @iteD c A B i h1 h2
theorem iteNx {c A B : Prop} {i : Decidable c} (h1 : c → B) (h2 : ¬ c → A) : if (!@decide c i) = true then A else B := @iteN c A B i h1 h2
theorem sl43 (a b c d : V) : ¬ (HT.sIx [a, b, c, d].length 0 none = 0 ∧ HT.sIx [a, b, c, d].length [a, b, c, d].length (some (3 : Int)) = [a, b, c, d].length) := fun h => absurd h.2 (by show ¬ (HT.sIx 4 4 (some (3 : Int)) = 4); decide)
theorem dgetD_S {β : Type} [Py β] {F H : Hp} {a : Addr} {kvs : List (Key × V)} {i : Str} {xs : List (Str × β)} {z : V} {y : β} (e : Rd H a (.dK kvs)) (hr : RD F kvs xs) (hz : R F z y) : ∃ o, DGet H a (.str i) o ∧ R F (o.getD z) ((dGet xs i).getD y) := by
  refine ⟨valV kvs (.inr i), dgk (k := .inr i) e, ?_⟩
  rcases hr.get i with ⟨h1, h2⟩ | ⟨u, v, h1, h2, h3⟩
  · rw [h1, show valV kvs (.inr i) = none from h2]; exact hz
  · rw [h1, show valV kvs (.inr i) = some v from h2]; exact h3
end PG

set_option Elab.async false
set_option linter.all false
set_option maxRecDepth 100000
set_option maxHeartbeats 4000000
namespace PG
open PySem PySem.Spec PyProof.Rows L2
open PySem.W (T3 T4 Datum DatumOrd Holds HoldAll EachIs)
variable {K0 : PySem.W.Frag} [KF K0]
/-! ### a list of lists that are all ours: the outer cell and the inner ones, any number of them, behind the other cells -/
abbrev LCV := Addr × List V
def lcV (c : LCV) : Addr × HO := (c.1, .lst c.2)
def llC (p : Addr) (ps : List LCV) : List (Addr × HO) := (p, .lst (ps.map fun c => V.ref c.1)) :: ps.map lcV
/-- the inner lists stand for these -/
inductive LLR {a : Type} [Py a] (F : Hp) : List LCV → List (List a) → Prop
  | nil : LLR F [] []
  | cons {c : LCV} {xs : List a} {ps : List LCV} {p : List (List a)} : RL F c.2 xs → LLR F ps p → LLR F (c :: ps) (xs :: p)
section
variable {a : Type} [Py a] {F F' : Hp}
theorem LLR.mono {ps : List LCV} {p : List (List a)} (h : LLR F ps p) (s : Same F F') : LLR F' ps p := by
  induction h with
  | nil => exact .nil
  | cons h _ ih => exact .cons (h.mono s) ih
theorem LLR.len {ps : List LCV} {p : List (List a)} (h : LLR F ps p) : ps.length = p.length := by
  induction h with
  | nil => rfl
  | cons _ _ ih => rw [List.length_cons, List.length_cons, ih]
theorem LLR.got {ps : List LCV} {p : List (List a)} (h : LLR F ps p) : ∀ {j : Nat} {xs : List a}, p[j]? = some xs → ∃ c, ps[j]? = some c ∧ RL F c.2 xs := by
  induction h with
  | nil => intro j xs e; simp at e
  | @cons c ys ps p h _ ih =>
    intro j xs e
    cases j with
    | zero =>
      have e : ys = xs := Option.some.inj e
      subst e
      exact ⟨c, rfl, h⟩
    | succ j => exact ih e
theorem LLR.set {ps : List LCV} {p : List (List a)} (h : LLR F ps p) {w : List V} {xs : List a} (hw : RL F w xs) (q : Addr) : ∀ j : Nat, LLR F (ps.set j (q, w)) (p.set j xs) := by
  induction h with
  | nil => intro j; exact .nil
  | cons h hs ih =>
    intro j
    cases j with
    | zero => exact .cons hw hs
    | succ j => exact .cons h (ih j)
theorem LLR.snoc {ps : List LCV} {p : List (List a)} (h : LLR F ps p) {w : List V} {xs : List a} (hw : RL F w xs) (q : Addr) : LLR F (ps ++ [(q, w)]) (p ++ [xs]) := by
  induction h with
  | nil => exact .cons hw .nil
  | cons h _ ih => exact .cons h ih
end
section
variable {Z : Ent} {F H : Hp} {S : List (Addr × HO)} {p : Addr} {ps : List LCV} {c : LCV} {j : Nat}
theorem ref_set (hj : ps[j]? = some c) (w : List V) : ((ps.set j (c.1, w)).map fun c => V.ref c.1) = ps.map fun c => V.ref c.1 := by
  refine List.ext_getElem? fun i => ?_
  rw [List.getElem?_map, List.getElem?_map, List.getElem?_set]
  by_cases h : j = i
  · subst h
    rw [if_pos rfl, hj]
    rw [if_pos (List.getElem?_eq_some_iff.mp hj).1]
    rfl
  · rw [if_neg h]
theorem llC_at (hj : ps[j]? = some c) : (S ++ llC p ps)[S.length + 1 + j]? = some (c.1, .lst c.2) := by
  rw [List.getElem?_append_right (by omega)]
  show (llC p ps)[S.length + 1 + j - S.length]? = _
  rw [show S.length + 1 + j - S.length = j + 1 by omega]
  show (ps.map lcV)[j]? = _
  rw [List.getElem?_map, hj]
  rfl
theorem llC_top : (S ++ llC p ps)[S.length]? = some (p, .lst (ps.map fun c => V.ref c.1)) := by
  rw [List.getElem?_append_right (Nat.le_refl _), Nat.sub_self]
  rfl
theorem Ow.llAt (O : Ow Z F (S ++ llC p ps) H) (hj : ps[j]? = some c) : H c.1 = some (.lst c.2) := O.at _ (llC_at hj)
theorem Ow.llTop (O : Ow Z F (S ++ llC p ps) H) : H p = some (.lst (ps.map fun c => V.ref c.1)) := O.at _ llC_top
/-- one of the inner lists becomes w -/
theorem Ow.llSet (O : Ow Z F (S ++ llC p ps) H) (hj : ps[j]? = some c) (w : List V) : Ow Z F (S ++ llC p (ps.set j (c.1, w))) (upd H c.1 (.lst w)) := by
  have z := O.set (S.length + 1 + j) (.lst w) (llC_at hj)
  have e : (S ++ llC p ps).set (S.length + 1 + j) (c.1, .lst w) = S ++ llC p (ps.set j (c.1, w)) := by
    rw [List.set_append_right _ _ (by omega), show S.length + 1 + j - S.length = j + 1 by omega]
    unfold llC
    rw [ref_set hj w, List.set_cons_succ, List.map_set]
    rfl
  rw [e] at z
  exact z
/-- a new inner list goes behind -/
theorem Ow.llPush {q : Addr} {w : List V} (O : Ow Z F ((q, .lst w) :: (S ++ llC p ps)) H) : Ow Z F (S ++ llC p (ps ++ [(q, w)])) (upd H p (.lst ((ps.map fun c => V.ref c.1) ++ [V.ref q]))) := by
  have z := O.set (S.length + 1) (.lst ((ps.map fun c => V.ref c.1) ++ [V.ref q])) (show ((q, HO.lst w) :: (S ++ llC p ps))[S.length + 1]? = some (p, _) from llC_top)
  refine z.perm ?_
  have e : ((q, HO.lst w) :: (S ++ llC p ps)).set (S.length + 1) (p, .lst ((ps.map fun c => V.ref c.1) ++ [V.ref q])) = (q, HO.lst w) :: (S ++ ((p, .lst ((ps.map fun c => V.ref c.1) ++ [V.ref q])) :: ps.map lcV)) := by
    rw [List.set_cons_succ, List.set_append_right _ _ (Nat.le_refl _), Nat.sub_self]
    rfl
  rw [e]
  unfold llC
  rw [List.map_append, List.map_append]
  show ((q, HO.lst w) :: (S ++ ((p, HO.lst ((ps.map fun c => V.ref c.1) ++ [V.ref q])) :: ps.map lcV))).Perm (S ++ ((p, HO.lst ((ps.map fun c => V.ref c.1) ++ [V.ref q])) :: (ps.map lcV ++ [(q, HO.lst w)])))
  have e2 : S ++ ((p, HO.lst ((ps.map fun c => V.ref c.1) ++ [V.ref q])) :: (ps.map lcV ++ [(q, HO.lst w)])) = (S ++ ((p, HO.lst ((ps.map fun c => V.ref c.1) ++ [V.ref q])) :: ps.map lcV)) ++ [(q, HO.lst w)] := by
    rw [List.append_assoc, List.cons_append]
  rw [e2]
  exact (List.perm_append_singleton _ _).symm
/-- an empty one: a new outer list -/
theorem Ow.llNew (O : Ow Z F ((p, .lst []) :: S) H) : Ow Z F (S ++ llC p []) H := O.perm (List.perm_append_singleton _ _).symm
theorem Ow.frzM {A B : List (Addr × HO)} {b : Addr} {o : HO} (O : Ow Z F (A ++ (b, o) :: B) H) (hz : Z.H b = none) : ∃ F', Ow Z F' (A ++ B) H ∧ Same F F' ∧ F' b = some o := by
  have e : (A ++ (b, o) :: B)[A.length]? = some (b, o) := by rw [List.getElem?_append_right (Nat.le_refl _), Nat.sub_self]; rfl
  obtain ⟨F', O', s, h⟩ := O.frzE A.length e hz
  rw [List.eraseIdx_append_of_length_le (Nat.le_refl _), Nat.sub_self] at O'
  exact ⟨F', O', s, h⟩
theorem Ow.frzAll {a : Type} [Py a] : ∀ {ps : List LCV} {F : Hp} {A : List (Addr × HO)} {xs : List (List a)}, Ow Z F (A ++ ps.map lcV) H → (∀ c ∈ ps, Z.H c.1 = none) → LLR F ps xs →
    ∃ F', Ow Z F' A H ∧ Same F F' ∧ RL F' (ps.map fun c => V.ref c.1) xs
  | [], F, A, xs, O, _, r => by
    cases r
    rw [List.map_nil, List.append_nil] at O
    exact ⟨F, O, Same.refl _, RL.nil⟩
  | c :: ps, F, A, xs, O, hz, r => by
    cases r with
    | @cons _ x _ q h1 h2 =>
      obtain ⟨F1, O1, s1, g1⟩ := Ow.frzM (A := A) (B := ps.map lcV) (b := c.1) (o := .lst c.2) O (hz c List.mem_cons_self)
      obtain ⟨F2, O2, s2, r2⟩ := Ow.frzAll O1 (fun d hd => hz d (List.mem_cons_of_mem _ hd)) (h2.mono s1)
      exact ⟨F2, O2, s1.trans s2, RL.cons (R.lst (s2 _ _ g1) ((h1.mono s1).mono s2)) r2⟩
/-- all of it is read alone from now on -/
theorem Ow.llFrz {a : Type} [Py a] {xs : List (List a)} (O : Ow Z F (S ++ llC p ps) H) (hp : Z.H p = none) (hz : ∀ c ∈ ps, Z.H c.1 = none) (r : LLR F ps xs) : ∃ F', Ow Z F' S H ∧ Same F F' ∧ R F' (.ref p) xs := by
  obtain ⟨F1, O1, s1, g1⟩ := Ow.frzM (A := S) (B := ps.map lcV) (b := p) (o := .lst (ps.map fun c => V.ref c.1)) O hp
  obtain ⟨F2, O2, s2, r2⟩ := Ow.frzAll O1 hz (r.mono s1)
  exact ⟨F2, O2, s1.trans s2, R.lst (s2 _ _ g1) r2⟩
end
section
variable {a : Type} [Py a] {F : Hp}
theorem LLR.atI {ps : List LCV} {p : List (List a)} (h : LLR F ps p) {i : Int} {y : List a} (e : L2.atI p i = some y) :
    ∃ j c, L2.atI (ps.map fun c => V.ref c.1) i = some (V.ref c.1) ∧ ps[j]? = some c ∧ RL F c.2 y ∧ ixN p.length i = some j := by
  unfold L2.atI at e
  cases hx : ixN p.length i with
  | none => rw [hx] at e; exact nomatch e
  | some j =>
    rw [hx] at e
    have e : p[j]? = some y := e
    obtain ⟨c, hc, hr⟩ := h.got e
    refine ⟨j, c, ?_, hc, hr, rfl⟩
    unfold L2.atI
    rw [List.length_map, h.len, hx]
    show (ps.map fun c => V.ref c.1)[j]? = _
    rw [List.getElem?_map, hc]
    rfl
theorem zs_set {H : Hp} {ps : List LCV} {c : LCV} {j : Nat} (h : ∀ d ∈ ps, H d.1 = none) (hj : ps[j]? = some c) (w : List V) : ∀ d ∈ ps.set j (c.1, w), H d.1 = none := fun d hd => by
  rcases List.mem_or_eq_of_mem_set hd with hd | hd
  · exact h d hd
  · rw [hd]; exact h c (List.mem_of_getElem? hj)
theorem zs_snoc {H : Hp} {ps : List LCV} {q : Addr} {w : List V} (h : ∀ d ∈ ps, H d.1 = none) (hq : H q = none) : ∀ d ∈ ps ++ [(q, w)], H d.1 = none := fun d hd => by
  rcases List.mem_append.mp hd with hd | hd
  · exact h d hd
  · rw [List.mem_singleton.mp hd]; exact hq
end
/-! ### a list so many times -/
def repL {a : Type} (k : Int) (xs : List a) : List a := (List.replicate k.toNat xs).flatten
theorem RL.rep {a : Type} [Py a] {H : Hp} {vs : List V} {xs : List a} (h : RL H vs xs) (k : Int) : RL H (repL k vs) (repL k xs) := by
  unfold repL
  induction k.toNat with
  | zero => exact RL.nil
  | succ n ih =>
    rw [List.replicate_succ, List.replicate_succ, List.flatten_cons, List.flatten_cons]
    exact RL.app h ih
def CRep (n : Nat) (k : Int) : Prop := -(2 ^ 63) ≤ k ∧ k < 2 ^ 63 ∧ n * k.toNat < 16777216
instance (n : Nat) (k : Int) : Decidable (CRep n k) := by unfold CRep; infer_instance
theorem R.tpN {a : Type} [Py a] {F : Hp} {p : Addr} {vs : List V} {xs : List a} (h : F p = some (.tup vs)) (r : RL F vs xs) : R F (.ref p) (Tp.mk xs) := by
  show Rep F (.ref p) (.tuple (xs.map Py.toD))
  exact .tup (.inl h) r
/-! ### what is walked, K told outright (for comprehensions within one another) -/
section
variable {X : Cx} {K : PySem.W.Frag} {tg : Expr}
theorem piListK (h : X.K = K) {l : Expr} {tl : TE} (hl : PE X l tl) : PI X tg l (iList K tl) := by rw [← h]; exact pi_list hl
theorem piTupK (h : X.K = K) {l : Expr} {tl : TE} (hl : PE X l tl) : PI X tg l (iTup K tl) := by rw [← h]; exact pi_tup hl
theorem piEnumK (h : X.K = K) {e : Expr} {ta : TA} (hp : PI X tg e (iEnum X.K ta)) : PI X tg e (iEnum K ta) := by rw [← h]; exact hp
theorem piZipK (h : X.K = K) {e : Expr} {ta : TA} (hp : PI X tg e (iZip X.K ta)) : PI X tg e (iZip K ta) := by rw [← h]; exact hp
end
end PG

set_option Elab.async false
set_option linter.all false
set_option maxRecDepth 100000
set_option maxHeartbeats 4000000
namespace PG
open PySem PySem.Spec PyProof.Rows L2
open PySem.W (T3 T4 Datum DatumOrd Holds HoldAll EachIs)
variable {K0 : PySem.W.Frag} [KF K0]
/-! ### one of two kinds -/
inductive Un (a b : Type) where
  | l (x : a)
  | r (y : b)
  deriving DecidableEq
instance {a b : Type} [Py a] [Py b] : Py (Un a b) := ⟨fun
  | .l x => Py.toD x
  | .r y => Py.toD y⟩
section
variable {a b : Type} [Py a] [Py b] {F : Hp} {v : V}
theorem R.un_l {x : a} (h : R F v x) : R F v (Un.l x : Un a b) := h
theorem R.un_r {y : b} (h : R F v y) : R F v (Un.r y : Un a b) := h
end
instance {a b : Type} [Py a] [Py b] [DecidableEq a] [DecidableEq b] [DatumX (a × b)] : DatumX (Un (a × b) Str) := ⟨fun
  | .l x => DatumX.plain x
  | .r y => by show PyData.plain (.str y) = true; simp only [PyData.plain], fun
  | .l x, .l y => by
    show PyData.eqv (Py.toD x) (Py.toD y) = _
    rw [DatumX.eqv x y]
    exact decide_eq_decide.mpr (by rw [Un.l.injEq])
  | .l x, .r y => by
    show PyData.eqv (.tuple [_, _]) (.str y) = _
    simp [PyData.eqv]
  | .r x, .l y => by
    show PyData.eqv (.str x) (.tuple [_, _]) = _
    simp [PyData.eqv]
  | .r x, .r y => by
    show PyData.eqv (.str x) (.str y) = _
    simp only [PyData.eqv]
    rw [PySem.W.beq_decide]
    exact decide_eq_decide.mpr (by rw [Un.r.injEq])⟩
/-! ### is None -/
class NN (a : Type) [Py a] : Prop where
  nn : ∀ x : a, Py.toD x ≠ .none
instance : NN Int := ⟨fun _ h => nomatch h⟩
instance : NN Bool := ⟨fun _ h => nomatch h⟩
instance : NN Str := ⟨fun _ h => nomatch h⟩
instance : NN Sm := ⟨fun x h => by cases x <;> exact nomatch (show PyData.tuple _ = .none from h)⟩
section
variable {a b c d : Type} [Py a] [Py b] [Py c] [Py d]
instance : NN (List a) := ⟨fun _ h => nomatch (show PyData.list _ = .none from h)⟩
instance : NN (a × b) := ⟨fun _ h => nomatch (show PyData.tuple _ = .none from h)⟩
instance : NN (T3 a b c) := ⟨fun _ h => nomatch (show PyData.tuple _ = .none from h)⟩
instance : NN (T4 a b c d) := ⟨fun _ h => nomatch (show PyData.tuple _ = .none from h)⟩
instance : NN (Tp a) := ⟨fun _ h => nomatch (show PyData.tuple _ = .none from h)⟩
theorem rep_non {F : Hp} {x : PyData} (h : Rep F .non x) : x = .none := by cases h; rfl
theorem isN_opt [NN a] {F : Hp} {v : V} {o : Option a} (h : R F v o) : decide (v = .non) = o.isNone := by
  cases o with
  | none =>
    rw [R.non_ h]
    rfl
  | some x =>
    have h : Rep F v (Py.toD x) := h
    refine decide_eq_false fun e => ?_
    rw [e] at h
    exact NN.nn x (rep_non h)
end
theorem dNon_t : decide (V.non = V.non) = true := decide_eq_true rfl
theorem dNon_f {p : Addr} : decide (V.ref p = V.non) = false := decide_eq_false fun h => nomatch h
/-! ### lists: insert, extend, all -/
def insL {a : Type} (xs : List a) (i : Int) (y : a) : List a := xs.take i.toNat ++ [y] ++ xs.drop i.toNat
theorem RL.ins {a : Type} [Py a] {F : Hp} {vs : List V} {xs : List a} (h : RL F vs xs) (i : Int) {v : V} {y : a} (hy : R F v y) : RL F (insL vs i v) (insL xs i y) := RL.app (RL.app (h.take _) (RL.cons hy RL.nil)) (h.drop _)
def CIns (n : Nat) (i : Int) : Prop := n < 16777216 ∧ 0 ≤ i ∧ i < 2 ^ 63
instance (n : Nat) (i : Int) : Decidable (CIns n i) := by unfold CIns; infer_instance
instance (i j : Int) : Decidable (CPow i j) := by unfold CPow; infer_instance
section
variable {X : Cx} {K : PySem.W.Frag}
theorem cr_allK (hc : X.calm = true) (h : X.K = K) : CallR X (.builtin "all") (rAll K) := by rw [← h]; exact cr_all hc
theorem cr_anyK (hc : X.calm = true) (h : X.K = K) : CallR X (.builtin "any") (rAny K) := by rw [← h]; exact cr_any hc
/-- len of what is read -/
def rLenS (K : PySem.W.Frag) : List V → Hp → VK → Prop := fun vs H Q => ∃ (a : Addr) (xs : List V), vs = [V.ref a] ∧ SqL K H a xs ∧ Q (.int xs.length) H
theorem call_lenS (h : X.K = K) : CallR X (.builtin "len") (rLenS K) := fun pins s σ H xs us Q I r hq => by
  obtain ⟨a, ys, rfl, hs, q⟩ := hq
  subst h
  exact call_len pins s σ H _ us Q I r ⟨.ref a, ys.length, rfl, .inl ⟨ys, hs, rfl⟩, q⟩
end
/-! ### try whose suite binds a name: what follows is handed on as the suite's result -/
def tryF {a : Type} (L : List String) (m : M (Unit → M a)) (k1 : String → M a) : M a := match m with
  | .ok f => f ()
  | .error .bad => bad
  | .error (.exc n) => if n ∈ L then k1 n else bad
theorem wp_tryF {b : Type} {L : List String} {m : M (Unit → M b)} {k1 : String → M b} {Q : b → Prop} {E : String → Prop} (h : wp (tryF L m k1) Q E) : wp m (fun f => wp (f ()) Q E) fun n => n ∈ L ∧ wp (k1 n) Q E := by
  cases m with
  | ok x => exact h
  | error e =>
    cases e with
    | bad => exact h
    | exc n =>
      by_cases z : n ∈ L
      · have e : tryF L (.error (.exc n)) k1 = k1 n := if_pos z
        rw [e] at h
        exact ⟨z, h⟩
      · have e : tryF L (.error (.exc n)) k1 = bad := if_neg z
        rw [e] at h
        exact h.elim
/-! ### xs[::-1]; a, b, c = a list of three -/
section
variable {X : Cx} {K : PySem.W.Frag}
theorem pe_revLK (h : X.K = K) {e : Expr} {te : TE} {k : Nat} {p1 p2 p3 pos : Pos} (he : PE X e te) : PE X (.Subscript e (.Slice none none (some (.UnaryOp .USub (.Constant (.int 1) k p1) p2)) p3) pos) (tRevL K te) := by rw [← h]; exact pe_revL he
end
def two3 {a : Type} (xs : List a) : M (a × a × a) := match xs with
  | [x, y, z] => .ok (x, y, z)
  | _ => bad
theorem wp_two3 {a b : Type} {Q : a → Prop} {E : String → Prop} {xs : List b} {k : b × b × b → M a} (h : wp (two3 xs >>= k) Q E) : ∃ x y z, xs = [x, y, z] ∧ wp (k (x, y, z)) Q E := by
  match xs, h with
  | [x, y, z], h => exact ⟨x, y, z, rfl, h⟩
  | [], h => exact h.elim
  | [_], h => exact h.elim
  | [_, _], h => exact h.elim
  | _ :: _ :: _ :: _ :: _, h => exact h.elim
section
variable {X : Cx} {K : PySem.W.Frag}
theorem bmK (h : X.K = K) {c : Expr} {T : String} {r : V → List V → Hp → VK → Prop} {to : TE} {t : TA} (hp : PE X c (tBM X.K T r to t)) : PE X c (tBM K T r to t) := by rw [← h]; exact hp
theorem bm0K (h : X.K = K) {c : Expr} {T : String} {r : V → List V → Hp → VK → Prop} {to : TE} (hp : PE X c (tBM0 X.K T r to)) : PE X c (tBM0 K T r to) := by rw [← h]; exact hp
end
end PG

set_option Elab.async false
set_option linter.all false
set_option maxRecDepth 100000
set_option maxHeartbeats 4000000
namespace PG
open PySem PySem.Spec PyProof.Rows L2
open PySem.W (T3 T4 Datum DatumOrd Holds HoldAll EachIs)
variable {K0 : PySem.W.Frag} [KF K0]
/-! ### lists of our lists: handed back, lent -/
section
variable {Z : Ent} {F F0 H H0 : Hp} {S cs cs0 : List (Addr × HO)} {p : Addr} {ps : List LCV}
theorem llC_nt : ∀ c ∈ llC p ps, noTup c.2 = true := fun c hc => by
  rcases List.mem_cons.mp hc with e | hc
  · rw [e]; rfl
  · obtain ⟨d, _, e⟩ := List.mem_map.mp hc
    rw [← e]; rfl
theorem Ow.llOut (O : Ow Z F (S ++ llC p ps) H) (hp : Z.H p = none) (hz : ∀ c ∈ ps, Z.H c.1 = none) :
    (∀ c ∈ llC p ps, Z.H c.1 = none) ∧ (∀ c ∈ llC p ps, F c.1 = none ∧ H c.1 = some c.2) ∧ ((llC p ps).map (·.1)).Nodup := by
  refine ⟨fun c hc => ?_, fun c hc => ⟨O.cf c (List.mem_append_right _ hc), O.ch c (List.mem_append_right _ hc)⟩, ?_⟩
  · rcases List.mem_cons.mp hc with e | hc
    · rw [e]; exact hp
    · obtain ⟨d, hd, e⟩ := List.mem_map.mp hc
      rw [← e]; exact hz d hd
  · have := O.nd
    rw [List.map_append] at this
    exact (List.nodup_append.mp this).2.1
theorem Ow.llGot (O0 : Ow Z F0 cs0 H0) (O : Ow Z F cs H) (hk : cs.map (·.1) = cs0.map (·.1)) (hn : ∀ c ∈ llC p ps, H0 c.1 = none) (hf : ∀ c ∈ llC p ps, F c.1 = none ∧ H c.1 = some c.2) (nd : ((llC p ps).map (·.1)).Nodup) :
    Ow Z F (cs ++ llC p ps) H where
  g := O.g
  cf := fun c hc => by
    rcases List.mem_append.mp hc with hc | hc
    · exact O.cf c hc
    · exact (hf c hc).1
  ch := fun c hc => by
    rcases List.mem_append.mp hc with hc | hc
    · exact O.ch c hc
    · exact (hf c hc).2
  nd := by
    rw [List.map_append]
    refine List.nodup_append.mpr ⟨O.nd, nd, fun x hx y hy e => ?_⟩
    obtain ⟨d, hd, e2⟩ := List.mem_map.mp hy
    rw [hk] at hx
    obtain ⟨c0, hc0, e3⟩ := List.mem_map.mp hx
    have h1 := O0.ch c0 hc0
    rw [e3, e, ← e2, hn d hd] at h1
    exact nomatch h1
  ca := fun c hc => by
    rcases List.mem_append.mp hc with hc | hc
    · exact O.ca c hc
    · exact .inr (O0.was (hn c hc))
  nt := fun c hc => by
    rcases List.mem_append.mp hc with hc | hc
    · exact O.nt c hc
    · exact llC_nt c hc
theorem Ow.llWas (O0 : Ow Z F0 cs0 H0) (hn : ∀ c ∈ llC p ps, H0 c.1 = none) : Z.H p = none ∧ ∀ c ∈ ps, Z.H c.1 = none :=
  ⟨O0.was (hn (p, _) List.mem_cons_self), fun c hc => O0.was (hn (lcV c) (List.mem_cons_of_mem _ (List.mem_map.mpr ⟨c, hc, rfl⟩)))⟩
theorem inA_ll : ∀ b ∈ (llC p ps).map (·.1), ∃ o, (b, o) ∈ S ++ llC p ps := fun b hb => by
  obtain ⟨c, hc, e⟩ := List.mem_map.mp hb
  exact ⟨c.2, List.mem_append_right _ (by rw [← e]; exact hc)⟩
theorem inA_app {as bs : List Addr} (h1 : ∀ b ∈ as, ∃ o, (b, o) ∈ cs) (h2 : ∀ b ∈ bs, ∃ o, (b, o) ∈ cs) : ∀ b ∈ as ++ bs, ∃ o, (b, o) ∈ cs := fun b hb => by
  rcases List.mem_append.mp hb with hb | hb
  · exact h1 b hb
  · exact h2 b hb
theorem LLR.of_at {a : Type} [Py a] : ∀ {ps : List LCV} {xs : List (List a)}, LLR F ps xs → (∀ c ∈ ps, F c.1 = some (.lst c.2)) → RL F (ps.map fun c => V.ref c.1) xs
  | [], xs, h, _ => by cases h; exact RL.nil
  | c :: ps, xs, h, hat => by
    cases h with
    | cons h1 h2 => exact RL.cons (R.lst (hat c List.mem_cons_self) h1) (LLR.of_at h2 fun d hd => hat d (List.mem_cons_of_mem _ hd))
theorem Ow.llLend {a : Type} [Py a] {as : List Addr} {xs : List (List a)} (O : Ow Z F (S ++ llC p ps) H) (hs : Same F (lendF as F H)) (hin : ∀ c ∈ llC p ps, c.1 ∈ as) (r : LLR F ps xs) : R (lendF as F H) (.ref p) xs := by
  have at_ : ∀ c ∈ llC p ps, lendF as F H c.1 = some c.2 := fun c hc => (lendF_at (hin c hc)).trans (O.ch c (List.mem_append_right _ hc))
  exact R.lst (at_ (p, _) List.mem_cons_self) ((r.mono hs).of_at fun c hc => at_ (lcV c) (List.mem_cons_of_mem _ (List.mem_map.mpr ⟨c, hc, rfl⟩)))
end
/-! ### rows that are never reached -/
def tNever : TS := fun _ _ _ => False
def eNever : TE := fun _ _ _ => False
def uNever : TT := fun _ _ _ => False
theorem psNever {X : Cx} {st : Stmt} : PS X st tNever := ⟨fun _ _ _ _ _ _ h => h.elim⟩
theorem peNever {X : Cx} {e : Expr} : PE X e eNever := ⟨fun _ _ _ _ _ _ h => h.elim⟩
theorem ptNever {X : Cx} {e : Expr} : PT X e uNever := ⟨fun _ _ _ _ _ _ h => h.elim⟩
theorem pwNever {X : Cx} {e : Expr} : PW X e uNever := ⟨fun _ _ _ _ _ _ _ h => h.elim⟩
/-! ### lists in which nothing is None -/
def some1 {a : Type} (xs : List (Option a)) : Option (List a) := xs.mapM id
def some2 {a : Type} (xs : List (List (Option a))) : Option (List (List a)) := xs.mapM some1
section
variable {a : Type} [Py a] {F : Hp} {v : V}
theorem mapM_cons_some {b c : Type} {f : b → Option c} {x : b} {xs : List b} {ys : List c} (h : (x :: xs).mapM f = some ys) : ∃ y zs, f x = some y ∧ xs.mapM f = some zs ∧ ys = y :: zs := by
  rw [List.mapM_cons] at h
  cases e : f x with
  | none => rw [e] at h; exact nomatch h
  | some y =>
    rw [e] at h
    cases e2 : xs.mapM f with
    | none =>
      have h : ((xs.mapM f) >>= fun bs => pure (y :: bs)) = some ys := h
      rw [e2] at h; exact nomatch h
    | some zs =>
      have h : ((xs.mapM f) >>= fun bs => pure (y :: bs)) = some ys := h
      rw [e2] at h
      exact ⟨y, zs, rfl, rfl, (Option.some.inj h).symm⟩
theorem mapM_nil_some {b c : Type} {f : b → Option c} {ys : List c} (h : ([] : List b).mapM f = some ys) : ys = [] := (Option.some.inj h).symm
theorem RL.some1 : ∀ {xs : List (Option a)} {vs : List V} {ys : List a}, RL F vs xs → xs.mapM id = some ys → RL F vs ys
  | [], vs, ys, h, e => by
    rw [mapM_nil_some e, RL.nil_ h]
    exact RL.nil
  | x :: xs, vs, ys, h, e => by
    obtain ⟨w, ws, rfl, h1, h2⟩ := RL.cons_ h
    obtain ⟨y, zs, e1, e2, e3⟩ := mapM_cons_some e
    rw [e3]
    have e1 : x = some y := e1
    rw [e1] at h1
    exact RL.cons (R.jst_ h1) (RL.some1 h2 e2)
theorem R.some1 {xs : List (Option a)} {ys : List a} (h : R F v xs) (e : PG.some1 xs = some ys) : R F v ys := by
  obtain ⟨p, vs, rfl, hp, hr⟩ := R.lst_ h
  exact R.lst hp (RL.some1 hr e)
theorem RL.some2 : ∀ {xs : List (List (Option a))} {vs : List V} {ys : List (List a)}, RL F vs xs → xs.mapM PG.some1 = some ys → RL F vs ys
  | [], vs, ys, h, e => by
    rw [mapM_nil_some e, RL.nil_ h]
    exact RL.nil
  | x :: xs, vs, ys, h, e => by
    obtain ⟨w, ws, rfl, h1, h2⟩ := RL.cons_ h
    obtain ⟨y, zs, e1, e2, e3⟩ := mapM_cons_some e
    rw [e3]
    exact RL.cons (R.some1 h1 e1) (RL.some2 h2 e2)
theorem R.some2 {xs : List (List (Option a))} {ys : List (List a)} (h : R F v xs) (e : PG.some2 xs = some ys) : R F v ys := by
  obtain ⟨p, vs, rfl, hp, hr⟩ := R.lst_ h
  exact R.lst hp (RL.some2 hr e)
end
/-! ### products one factor of which is small -/
def CMulX (i j : Int) : Prop := CMul i j ∨ CMulW i j
instance (i j : Int) : Decidable (CMulX i j) := by unfold CMulX CMul CMulW; infer_instance
theorem op_mulX {X : Cx} : OpR X (binaryOp .Mult) (rI CMulX fun i j => .int (i * j)) := opI fun _ _ _ _ _ _ _ hc q => mul_int q (by
  rcases hc with h | h
  · exact h.ok
  · exact h.ok)
end PG

set_option Elab.async false
set_option linter.all false
set_option maxRecDepth 100000
set_option maxHeartbeats 4000000
namespace PG
open PySem PySem.Spec PyProof.Rows L2
open PySem.W (T3 T4 Datum DatumOrd Holds HoldAll EachIs)
variable {K0 : PySem.W.Frag} [KF K0]
/-! ### an except clause whose suite asks of the exception: it is tracked within the suite -/
section
variable {X : Cx} {pins pn pn' : List (Addr × Obj)} {σ : L2.St} {H : Hp} {s : Shared} {a : Addr} {q : Addr × Obj}
theorem lessPin (I : L2.Inv (X.suite a (q :: pn)) pn' σ H s) (ok : X.Ok) : L2.Inv (X.suite a pn) pn' σ H s :=
  ⟨ok.suite _ _, I.os, I.bare, I.base, I.loc, I.cell, I.free, I.freeC, fun p hp => I.pin p (List.mem_cons_of_mem _ hp), I.hok, I.len⟩
theorem unsuite0 (I : L2.Inv (X.suite a (X.pn ++ pins)) [] σ H s) (ok : X.Ok) : L2.Inv X pins σ H s :=
  ⟨ok, I.os, I.bare, I.base, I.loc, I.cell, I.free, I.freeC, fun p hp => I.pin p (List.mem_append_left _ hp), I.hok, I.len⟩
end
/-- what such a clause wishes -/
def wTell (K : PySem.W.Frag) (c : Value) (i : Nat) (ts : Addr → TS) (out : WX) (D : Ends) : WX := fun cls d σ H =>
  ∃ b, PySem.W.exmOne K cls c = some b ∧ (b = true → ∀ a, H a = none → ts a { nx := fun σ' H' => D.nx (σ'.set i none) H', rt := fun _ _ => False, bk := fun _ _ => False, ct := fun _ _ => False } (σ.set i (some (.ref a))) (upd H a (excO cls d a))) ∧ (b = false → out cls d σ H)
section
variable {X : Cx} {x n : Str} {c : Value} {i : Nat} {body suite : List Stmt} {b1 : Stmt} {np q1 q2 : Pos} {tb : WX → TS} {ts : Addr → TS} {out : WX}
theorem ps_try_tell (hs : X.stack = X.env :: X.outer) (hf : X.env.frame = some X.env.locals) (hex : X.ex = []) (hN : X.N.Nodup) (hi : X.N[i]? = some n) (hl : X.env.kindOf n = some .local) (hc : Names X x c) (tk : Takes X out)
    (hb : ∀ (W : WX) (pn : List (Addr × Obj)) (xe : Value → Shared → Prop), Takes (X.tr pn xe) W → PassesOwn (model X.prog X.w) X.A X.env xe → PSs (X.tr pn xe) body (tb W))
    (hsu : ∀ (a : Addr) (pn : List (Addr × Obj)), PSs (X.suite a pn) (b1 :: suite) (ts a)) :
    PS X (.Try body [.ExceptHandler (some (.Name x np)) (some n) (b1 :: suite) q1] [] [] q2) (fun D σ H => tb (wTell X.K c i ts out D) D σ H) := by
  refine ⟨fun pins s σ H D I wish => wpAny_Try_except ?_⟩
  have ok := I.ok
  have hfr : X.A.frames = some (X.env :: X.outer) := ok.frames.trans (by rw [hs])
  have run := (hb (wTell X.K c i ts out D) (X.pn ++ pins) (fun e g1 => wpAny (model X.prog X.w) X.A (noteFrame e X.env) (fun _ g2 => wpAny (model X.prog X.w) X.A (setFlight e none)
    (fun _ g3 => wpAny (model X.prog X.w) X.A (handleBy e X.env [.ExceptHandler (some (.Name x np)) (some n) (b1 :: suite) q1]) (SP X pins D) X.xe g3) X.xe g2) X.xe g1)
    (fun u g ⟨a, B, sI, ps, τ, G, cls, d, eu, J0, nb, up, sky, na, eos, ag, b, hb1, yes, no⟩ => by
      subst eu
      have J : L2.Inv X pins τ G sI := J0.ofTry ok
      show wpAny (model X.prog X.w) X.A (noteFrame (.ref a) X.env) _ _ _
      refine Sky.land Zc.steady hfr hf (show Sky B (X.env :: X.outer) a (Zc cls d) X.env.locals g.heap by rw [← hs]; exact sky) fun k1 fl1 up1 => ?_
      have J1 : L2.Inv X pins τ G { g with heap := k1 } := J.landed nb fl1.1 (up.trans up1) eos ag
      obtain ⟨o1, vs1, ho1, hz1, hd1⟩ := fl1.there
      have off : a ∉ frs (X.env :: X.outer) := fun hm => by
        obtain ⟨_, o', eo, hnf⟩ := fl1.2.2.1.mem hm
        rw [ho1] at eo
        cases eo
        exact hnf _ hd1
      have nL : a ≠ X.env.locals := fun z => off (List.mem_filterMap.mpr ⟨X.env, List.mem_cons_self, by rw [hf, z]⟩)
      have nF : a ∉ X.fs := fun hm => by
        obtain ⟨e, he, q⟩ := List.mem_filterMap.mp hm
        exact off (List.mem_filterMap.mpr ⟨e, List.mem_cons_of_mem _ he, q⟩)
      have young : ∀ o, sI.heap.get? a ≠ some o := fun o q => by
        have z := nb a o q (by rw [hs]; exact off)
        rw [fl1.2.1] at z
        exact nomatch z
      have h0 : X.s_0.heap.get? a = none := by
        cases q : X.s_0.heap.get? a with
        | none => rfl
        | some o =>
          obtain ⟨o', z⟩ := J.base.there a o q (by rw [hex]; exact fun z => nomatch z)
          exact (young _ z).elim
      have offp : ∀ p ∈ X.pn ++ pins, p.1 ≠ a := fun p hp z => young p.2 (by rw [← z]; exact (J.pin p hp).1)
      have S1 := J1.suite ho1 hd1 na nL nF
      refine wpAny_handleBy_cons (codeAny_handlers_test ?_) (fun q => nomatch q)
      have look : PySem.W.Looks (model X.prog X.w) k1 (typeOf (.ref a)) cls := fun _ _ _ _ k q => wpAny_typeOf_ref (k _ _ ho1) (by rw [hz1.1]; exact q)
      have match_ := PySem.W.exm_one (M := model X.prog X.w) J1.kIn look hb1
      have named : ∀ {Q : Value → Shared → Prop} {E : Value → Shared → Prop}, Q c { g with heap := k1 } → wpAny (model X.prog X.w) (X.A.mark (some (.ref a))) (eval (.Name x np) X.env) Q E { g with heap := k1 } := fun {Q E} q => by
        obtain ⟨hg, hdbg, hm | ⟨hm, hv, hnn⟩⟩ := hc
        · exact ld_glob (X := X.suite a ((a, o1) :: (X.pn ++ pins))) S1 hg hm q hdbg
        · exact ld_blt (X := X.suite a ((a, o1) :: (X.pn ++ pins))) S1 hg hm hv q hnn hdbg
      refine named (match_.here ?_)
      cases b with
      | true =>
        refine codeAny_handlers_suite_as (HandSPX.lands_againZ fl1 fun k2 fl2 up2 => ?_)
        have J2 : L2.Inv X pins τ G { g with heap := k2 } := J.landed nb fl2.1 ((up.trans up1).trans up2) eos ag
        obtain ⟨o2, vs2, ho2, hz2, hd2⟩ := fl2.there
        refine store_ok (X := X.suite a ((a, o2) :: (X.pn ++ pins))) (v := .ref a) (J2.suite ho2 hd2 na nL nF) hN hi (.inl hl) rfl (fun g5 S5 => ?_) (.inr hl)
        obtain ⟨hget5, _⟩ := S5.pin (a, o2) (List.mem_append_left _ List.mem_cons_self)
        have A5 := adopt (X := X.suite a (X.pn ++ pins)) (lessPin S5 ok) na ⟨o2, vs2, hget5, hz2, hd2⟩ h0 nL (fun p hp => offp p (by rw [List.append_nil] at hp; exact hp))
        refine wpAny_mono ((hsu a (X.pn ++ pins)).run [] g5 _ _ _ A5 (yes rfl a na)) (fun f g6 hsp => ?_) (fun _ _ z => z.elim)
        cases f with
        | next =>
          obtain ⟨τ6, G6, S6, q6⟩ := hsp
          exact gone_ok (X := X.suite a (X.pn ++ pins)) S6 hN hi hl fun g7 S7 => ⟨_, _, unsuite0 S7 ok, q6⟩
        | brk => obtain ⟨_, _, _, q6⟩ := hsp; exact q6.elim
        | cont => obtain ⟨_, _, _, q6⟩ := hsp; exact q6.elim
        | ret u => obtain ⟨_, _, _, _, _, q6⟩ := hsp; exact q6.elim
      | false =>
        refine wpAny_handleBy_nil ?_
        obtain ⟨_, _, _, o3, vs3, T, oT, ts3, he, hz, hd, h1, hr⟩ := id fl1
        unfold PySem.passOn
        refine wpAny_bind (wpAny_field he hd h1 ?_)
        rw [if_neg (by simp : ¬ ((Value.ref T == Value.none) = true))]
        have up_ : wpAny (model X.prog X.w) X.A (setFlight (.ref a) X.env.frame) (fun _ g4 => wpAny (model X.prog X.w) X.A (throw (.ref a) : Sem Flow) (SP X pins D) X.xe g4) X.xe { g with heap := k1 } := by
          rw [hf]
          exact HandSPX.setFlight_upZ fl1 fun k2 fl2 up2 => wpAny_throw (tk _ _ ⟨a, B, sI, pins, τ, G, cls, d, rfl, J, nb, (up.trans up1).trans up2, .inr (.inr (by rw [hs]; exact fl2)), na, eos, ag, no rfl⟩)
        first
          | exact wpAny_bind up_
          | exact wpAny_bind (wpAny_pure (wpAny_bind up_)))
    PassesOwn.looking).run [] s σ H D (I.toTry _) wish
  refine wpAny_mono run (fun f g hsp => ?_) (fun _ _ z => z)
  cases f with
  | next => obtain ⟨τ, G, J, q⟩ := hsp; exact wpAny_execs_nil ⟨τ, G, J.ofTry ok, q⟩
  | brk => obtain ⟨τ, G, J, q⟩ := hsp; exact ⟨τ, G, J.ofTry ok, q⟩
  | cont => obtain ⟨τ, G, J, q⟩ := hsp; exact ⟨τ, G, J.ofTry ok, q⟩
  | ret u => obtain ⟨v, τ, G, J, r, q⟩ := hsp; exact ⟨v, τ, G, J.ofTry ok, r, q⟩
end
end PG

set_option Elab.async false
set_option linter.all false
set_option maxRecDepth 100000
set_option maxHeartbeats 4000000
namespace PG
open PySem PySem.Spec PyProof.Rows L2
open PySem.W (T3 T4 Datum DatumOrd Holds HoldAll EachIs)
variable {K0 : PySem.W.Frag} [KF K0]
/-! ### xs.remove(y) of a list of data, y in it -/
/-- where y stands in xs -/
def ixL {a : Type} [DecidableEq a] (xs : List a) (y : a) : Nat := xs.idxOf y
def remL {a : Type} [DecidableEq a] (xs : List a) (y : a) : List a := xs.take (ixL xs y) ++ xs.drop (ixL xs y + 1)
section
variable {a : Type} [Py a] [DecidableEq a] [Datum a] [IsD a]
theorem RL.rem {F : Hp} {vs : List V} {xs : List a} (h : RL F vs xs) (y : a) : RL F (vs.take (ixL xs y) ++ vs.drop (ixL xs y + 1)) (remL xs y) := RL.app (h.take _) (h.drop _)
omit [Py a] [IsD a] in
theorem place_of : ∀ {xs : List a} {y : a}, y ∈ xs → SeqAt.dataPlace (xs.map Datum.toD) (Datum.toD y) = some (xs.idxOf y)
  | [], _, h => nomatch h
  | x :: xs, y, h => by
    unfold SeqAt.dataPlace
    rw [List.map_cons, List.findIdx?_cons, Datum.eqv, List.idxOf_cons]
    by_cases c : x = y
    · rw [if_pos (decide_eq_true c)]
      rw [show (x == y) = true from by rw [c]; exact beq_self_eq_true y]
      rfl
    · rw [if_neg (fun z => c (of_decide_eq_true z))]
      rw [show (x == y) = false from beq_eq_false_iff_ne.mpr c]
      have hm : y ∈ xs := by
        rcases List.mem_cons.mp h with e | e
        · exact (c e.symm).elim
        · exact e
      have ih := place_of hm
      unfold SeqAt.dataPlace at ih
      rw [ih]
      rfl
end
def rRemT (a : Type) [Py a] [DecidableEq a] : V → List V → Hp → VK → Prop := fun x xs H Q => ∃ (l : Addr) (vs : List V) (ys : List a) (y : V) (p : a), x = .ref l ∧ xs = [y] ∧ H l = some (.lst vs) ∧ RL H vs ys ∧ R H y p ∧ p ∈ ys ∧ Q .non (upd H l (.lst (vs.take (ixL ys p) ++ vs.drop (ixL ys p + 1))))
section
variable {X : Cx} (a : Type) [Py a] [DecidableEq a] [Datum a] [IsD a]
theorem mt_removeT (hu : X.A.units + 64 < cLine) (hd : Datum.depth a ≤ 60 := by decide) (hK : X.K = K0 := by rfl) : MtR X "list.remove" (rRemT a) := by
  subst hK
  intro pins s σ H x xs v us Q I rx rxs h
  obtain ⟨l, vs, ys, y, p, rfl, rfl, hH, hl, hp, hm, q⟩ := h
  cases rx
  obtain ⟨u, rfl, ru⟩ := rxs.one
  obtain ⟨z, its, n, r, hlen, e⟩ := I.lstM hH
  obtain ⟨as, rs⟩ := hl.holds I r
  obtain ⟨bs, rx⟩ := hp.holds I ru
  refine SeqAt.remove_list_data (vs := its.toArray) ⟨_, e, rfl, n, rfl⟩ (by simpa using rs) rx (PySem.W.plainAll_map ys) (Datum.plain p) (PySem.W.room_items (PySem.W.depthAll_map ys) (by omega)) (place_of hm) (by rw [List.size_toArray]; omega) ?_
  refine ⟨.non, _, I.lset (its' := its.take (ixL ys p) ++ its.drop (ixL ys p + 1)) hH e ?_ ((r.take _).append (r.drop _)) ?_, rfl, q⟩
  · show its.toArray.eraseIdxIfInBounds (ixL ys p) = _
    rw [List.eraseIdxIfInBounds_toArray, List.eraseIdx_eq_take_drop_succ]
  · rw [List.length_append, List.length_take, List.length_drop]
    omega
end
/-! ### a list seen as one of options -/
theorem RL.somes {a : Type} [Py a] {F : Hp} : ∀ {xs : List a} {vs : List V}, RL F vs xs → RL F vs (xs.map some)
  | [], vs, h => by
    rw [RL.nil_ h]
    exact RL.nil
  | x :: xs, vs, h => by
    obtain ⟨w, ws, rfl, h1, h2⟩ := RL.cons_ h
    exact RL.cons (R.jst h1) (RL.somes h2)
/-! ### range(hi, lo, -1) -/
def rangeD (hi lo : Int) : List Int := (List.range (hi - lo).toNat).map fun (i : Nat) => hi + (i : Int) * (-(1 : Int))
theorem rangeD_len {hi lo : Int} : (rangeD hi lo).length = (hi - lo).toNat := by
  unfold rangeD
  rw [List.length_map, List.length_range]
theorem rangeD_get {hi lo : Int} {i : Nat} (h : i < (hi - lo).toNat) : (rangeD hi lo).drop i = (hi + (i : Int) * (-(1 : Int))) :: (rangeD hi lo).drop (i + 1) := by
  apply drop_at
  unfold rangeD
  rw [List.getElem?_map, List.getElem?_range h]
  rfl
theorem rangeD_end {hi lo : Int} : (rangeD hi lo).drop (hi - lo).toNat = [] := List.drop_eq_nil_of_le (by rw [rangeD_len]; exact Nat.le_refl _)
end PG

set_option Elab.async false
set_option linter.all false
set_option maxRecDepth 100000
set_option maxHeartbeats 4000000
namespace PG
open PySem PySem.Spec PyProof.Rows L2
open PySem.W (T3 T4 Datum DatumOrd Holds HoldAll EachIs)
variable {K0 : PySem.W.Frag} [KF K0]
/-! ### for k in d, keys pairs of whole numbers -/
theorem rd_got {κ K' β : Type} [DK κ K'] [Py β] {F : Hp} {kvs : List (K' × V)} {xs : List (κ × β)} (h : RD F kvs xs) : ∀ {i : Nat} {k : K'} {v : V}, kvs[i]? = some (k, v) → ∃ (y : κ) (b : β), xs[i]? = some (y, b) ∧ k = DK.kk y := by
  induction h with
  | nil =>
    intro i k v e
    simp at e
  | @cons k0 v0 y0 kvs xs h t ih =>
    intro i k v e
    cases i with
    | zero =>
      have e := Option.some.inj e
      injection e with e1 e2
      exact ⟨k0, y0, rfl, e1.symm⟩
    | succ i => exact ih (i := i) (by simpa using e)
theorem keys_at {κ β : Type} {xs : List (κ × β)} {i : Nat} {y : κ} {b : β} (e : xs[i]? = some (y, b)) : (List.map (fun x => x.1) xs)[i]? = some y := by rw [List.getElem?_map, e]; rfl
theorem one_tup {H : Hp} {q : Addr} {xs : List V} (h : H q = some (.tup xs)) : ∀ b ∈ [q], ∃ xs, H b = some (.tup xs) := fun b hb => by rw [List.mem_singleton.mp hb]; exact ⟨_, h⟩
theorem key_R {F H : Hp} {q : Addr} {k : List Key} {y : Int × Int} (e : k = DK.kk y) (h : H q = some (.tup (k.map kV))) (hb : ∀ b ∈ [q], F b = H b) : R F (.ref q) y := by
  rw [e] at h
  have h2 : F q = some (.tup [.int y.1, .int y.2]) := (hb q (List.mem_singleton.mpr rfl)).trans h
  exact R.t2 h2 R.int R.int
theorem rd_klen {κ K' β : Type} [DK κ K'] [Py β] {F : Hp} {kvs : List (K' × V)} {xs : List (κ × β)} (h : RD F kvs xs) : kvs.length = (List.map (fun x => x.1) xs).length := by rw [List.length_map]; exact h.len
theorem drop_endK {a b : Type} {ys : List a} {xs : List b} (h : ys.length = xs.length) : xs.drop ys.length = [] := List.drop_eq_nil_of_le (by omega)
/-! ### the state told anew behind a name's binding (else Lean's unifier walks through all bindings again) -/
def gNameN (i : Nat) : TG := fun v σ H Q => ∃ σ' : L2.St, σ' = σ.set i (some v) ∧ Q σ' H
theorem gNameN_eq (i : Nat) : gNameN i = gName i := by
  funext v σ H Q
  exact propext ⟨fun ⟨_, e, q⟩ => by subst e; exact q, fun q => ⟨_, rfl, q⟩⟩
theorem ps_toN {X : Cx} {st : Stmt} {te : TE} {i : Nat} (h : PS X st (tAsg te (gName i))) : PS X st (tAsg te (gNameN i)) := by
  rw [gNameN_eq]
  exact h
/-! ### tuple(xs) of two, t[:2] of three -/
def twoL {a : Type} : List a → Option (a × a)
  | [x, y] => some (x, y)
  | _ => none
theorem RL.tw {a : Type} [Py a] {F : Hp} {vs : List V} {xs : List a} {y : a × a} (h : RL F vs xs) (e : twoL xs = some y) : ∃ v w, vs = [v, w] ∧ R F v y.1 ∧ R F w y.2 := by
  match xs, e with
  | [x1, x2], e =>
    have e := Option.some.inj e
    subst e
    obtain ⟨v, ws, rfl, h1, h2⟩ := RL.cons_ h
    obtain ⟨w, ws, rfl, h3, h4⟩ := RL.cons_ h2
    have := RL.nil_ h4
    subst this
    exact ⟨v, w, rfl, h1, h3⟩
theorem sl32 (a b c : V) : ¬ (HT.sIx [a, b, c].length 0 none = 0 ∧ HT.sIx [a, b, c].length [a, b, c].length (some (2 : Int)) = [a, b, c].length) := fun h => absurd h.2 (by show ¬ (2 : Nat) = 3; decide)
/-! ### d.get(k) -/
section
variable {β : Type} {H : Hp} {a b : Addr}
theorem dgo_T {kvs : List (List Key × V)} {i j : Int} (e : Rd H a (.dT kvs)) (eb : H b = some (.tup [.int i, .int j])) : DGet H a (.ref b) (valV kvs (DK.kk (i, j))) := dgt (k := [.inl i, .inl j]) e eb
theorem dgo_I {kvs : List (Key × V)} {i : Int} (e : Rd H a (.dK kvs)) : DGet H a (.int i) (valV kvs (DK.kk i)) := dgk (k := .inl i) e
theorem dgo_S {kvs : List (Key × V)} {i : Str} (e : Rd H a (.dK kvs)) : DGet H a (.str i) (valV kvs (DK.kk i)) := dgk (k := .inr i) e
end
theorem dget1 {κ K' β : Type} [DK κ K'] [DecidableEq κ] [DecidableEq K'] [Py β] {F : Hp} {kvs : List (K' × V)} {xs : List (κ × β)} (h : RD F kvs xs) (k : κ) : ∃ v, (valV kvs (DK.kk k)).getD .non = v ∧ R F v (dGet xs k) := by
  rcases h.get k with ⟨a, b⟩ | ⟨y, v, a, b, c⟩
  · rw [a, b]; exact ⟨_, rfl, R.non⟩
  · rw [a, b]; exact ⟨_, rfl, R.jst c⟩
theorem dget1J {κ K' β : Type} [DK κ K'] [DecidableEq κ] [DecidableEq K'] [Py β] {F : Hp} {kvs : List (K' × V)} {xs : List (κ × Option β)} (h : RD F kvs xs) (k : κ) : ∃ v, (valV kvs (DK.kk k)).getD .non = v ∧ R F v ((dGet xs k).join) := by
  rcases h.get k with ⟨a, b⟩ | ⟨y, v, a, b, c⟩
  · rw [a, b]; exact ⟨_, rfl, R.non⟩
  · rw [a, b]; exact ⟨_, rfl, c⟩
/-! ### t[::-1] of a pair -/
section
variable {prog : Program} {w : World} {A : Around} {E : Value → Shared → Prop} {s : Shared}
theorem pair_back {t sl : Addr} {u1 u2 vs : Value} {Q : Value → Shared → Prop} (ht : IsTup s.heap t #[u1, u2]) (hs : s.heap.IsSliceOf sl .none .none vs) (ps : IsPart vs (some (-1)))
    (h : Q (.ref s.heap.objs.size) { s with heap := s.heap.push { cls := .type "tuple", data := .seq #[u2, u1] } }) : wpAny (model prog w) A (getItem (.ref t) (.ref sl)) Q E s := by
  obtain ⟨os, hos, hcs, hds⟩ := id hs
  have hTs : s.TypeIs (.ref sl) "slice" := ⟨os, hos, hcs⟩
  unfold getItem
  try with_reducible refine wpAny_holding ?_
  first | refine wpAny_bind (wpAny_pure ?_) | skip
  refine wpAny_bind (wpAny_sequenceKey ht.typeIs (by decide) ?_)
  refine wpAny_bind (wpAny_callSpecial?_slot (name := Str.ofString "__getitem__") ht.typeIs PyProof.Rows.slot_tuple_getitem
    (wpAny_call_entry PyProof.Rows.slot_tuple_getitem ht.typeIs PyProof.Rows.entry_tuple_getitem ?_ (PyProof.Rows.args_tuple_getitem _ _)))
  show wpAny _ _ (Builtin.Tuple.tupleItemsOf (.ref t) >>= _) _ _ s
  refine wpAny_bind (tupleItemsOf_ ht ?_)
  refine wpAny_bind (wpAny_typeOf hTs ?_)
  rw [if_pos (by decide)]
  have hp : ∀ {A : Around} {Q : Option Int → Shared → Prop} {s : Shared}, Q (some (-1)) s → wpAny (model prog w) A (Builtin.Slice.slicePartIndex vs) Q E s := by
    intro A Q s hq
    cases ps with
    | int i t => exact slicePart_int hq
  have key : ∀ {A : Around} {Q : Int × Int × Nat → Shared → Prop}, Q (1, -1, 2) s → wpAny (model prog w) A (Builtin.Slice.sliceApplied (.ref sl) (pure (2 : Int))) Q E s := by
    intro A Q hq
    unfold Builtin.Slice.sliceApplied Builtin.Slice.sliceFields
    refine wpAny_bind (wpAny_bind (wpAny_field hos hds (x := .none) rfl (wpAny_bind (wpAny_field hos hds (x := .none) rfl (wpAny_bind (wpAny_field hos hds (x := vs) rfl (wpAny_pure ?_)))))))
    refine wpAny_bind (hp ?_)
    show wpAny _ _ (if ((-1 : Int) == 0) = true then _ else _) _ _ s
    rw [if_neg (by decide)]
    refine wpAny_bind (slicePart_none (wpAny_bind (slicePart_none (wpAny_bind (wpAny_pure ?_)))))
    exact wpAny_pure hq
  refine wpAny_bind (key ?_)
  show wpAny _ _ (if (((1 : Int) == 0 && (-1 : Int) == 1 && (2 : Nat) == 2) = true) then _ else _) _ _ s
  rw [if_neg (by decide)]
  first
    | exact wpAny_bind (m := Builtin.Tuple.tupleExact _) (wpAny_newObj_type (wpAny_pure ⟨_, rfl, wpAny_pure h⟩) (by show (2 : Nat) ≤ sizeLine; decide))
    | exact wpAny_bind (m := Builtin.Tuple.tupleExact _) (wpAny_newObj_type (wpAny_bind (wpAny_pure (wpAny_pure ⟨_, rfl, wpAny_pure h⟩))) (by show (2 : Nat) ≤ sizeLine; decide))
    | exact wpAny_bind (wpAny_bind (m := Builtin.Tuple.tupleExact _) (wpAny_newObj_type (wpAny_pure (wpAny_pure ⟨_, rfl, wpAny_pure h⟩)) (by show (2 : Nat) ≤ sizeLine; decide)))
end
def tRevT2 (K : PySem.W.Frag) (te : TE) : TE := fun σ H Q => te σ H fun x H1 => ∃ a v1 v2, x = .ref a ∧ SqT K H1 a [v1, v2] ∧ ∀ p, H1 p = none → Q (.ref p) (upd H1 p (.tup [v2, v1]))
theorem pe_revT2 {X : Cx} {K : PySem.W.Frag} (hK : X.K = K) {e : Expr} {te : TE} {k : Nat} {p1 p2 p3 pos : Pos} (he : PE X e te) : PE X (.Subscript e (.Slice none none (some (.UnaryOp .USub (.Constant (.int 1) k p1) p2)) p3) pos) (tRevT2 K te) := by
  subst hK
  constructor
  intro pins s σ H Q I hw
  refine Subscript_ (thn (he.run pins s σ H _ I hw) ?_)
  rintro v s1 ⟨x, H1, I1, r1, a, v1, v2, rfl, hx, q⟩
  cases r1
  have hst : PO X (some (.UnaryOp .USub (.Constant (.int 1) k p1) p2)) (tPart (tUn (rU fun i => .int (-i)) (tC (.int 1)))) := po_some (pe_un un_neg pe_int)
  refine wpAny_Slice (thn (po_none.run pins s1 σ H1 (fun o H2 => o = none ∧ H2 = H1) I1 ⟨rfl, rfl⟩) ?_)
  rintro vl s2 ⟨l, H2, I2, pl, rfl, rfl⟩
  refine thn (po_none.run pins s2 σ H2 (fun o H3 => o = none ∧ H3 = H2) I2 ⟨rfl, rfl⟩) ?_
  rintro vu s3 ⟨u, H3, I3, pu, rfl, rfl⟩
  refine thn (hst.run pins s3 σ H3 (fun o H4 => o = some (-1) ∧ H4 = H3) I3 ⟨1, rfl, -1, rfl, rfl, rfl⟩) ?_
  rintro vs s4 ⟨o, H4, I4, ps, rfl, rfl⟩
  cases pl
  cases pu
  have I5 : Inv X pins σ H4 { s4 with heap := s4.heap.push { cls := .type "slice", data := .fields #[.none, .none, vs] } } := I4.kept (t' := s4.toks) fun b ob q => Heap.get?_push_of_some _ q
  obtain ⟨its, r, ht, hz⟩ := I5.tuple hx
  obtain ⟨w1, w2, rfl, m1, m2⟩ : ∃ w1 w2, its = [w1, w2] ∧ RelV v1 w1 ∧ RelV v2 w2 := by
    cases r with
    | cons a b =>
      cases b with
      | cons c d =>
        cases d
        exact ⟨_, _, rfl, a, c⟩
  show wpAny (model X.prog X.w) X.A (subscriptTail e (.Slice none none (some (.UnaryOp .USub (.Constant (.int 1) k p1) p2)) p3) (.ref a) (.ref s4.heap.objs.size)) (EP X pins σ Q) X.xe { s4 with heap := s4.heap.push { cls := .type "slice", data := .fields #[.none, .none, vs] } }
  refine tail_any (ops := [.ref a, .ref s4.heap.objs.size]) ht.typeIs (PyProof.Rows.slot_tuple_getitem.lookup) ?_ (by with_unfolding_all rfl)
  refine pair_back ht (Heap.IsSliceOf.new _ .none .none vs) ps ?_
  refine ⟨.ref _, _, I5.laid (t' := s4.toks) (o := .tup [v2, v1]) (fun b ob q => Heap.get?_push_of_some _ q) (Nat.le_refl _) ?_, rfl, q _ (I5.hok.fresh (Nat.le_refl _))⟩
  exact ⟨by show (2 : Nat) ≤ sizeLine; decide, _, .cons m2 (.cons m1 .nil), IsTup.new _ _⟩
end PG

set_option Elab.async false
set_option linter.all false
set_option maxRecDepth 100000
set_option maxHeartbeats 4000000
/-! Plain mathematics over the monad M: no program in sight. -/
namespace PG
open PySem L2
open PySem.W (T3 T4 Datum DatumOrd)
section
variable {a b s i : Type}
theorem ok_b (x : a) (k : a → M b) : (Except.ok x >>= k) = k x := rfl
theorem okP_b (x : a) (k : a → M b) : ((Except.ok x : M a) >>= k) = k x := rfl
theorem ret_b (x : a) (k : a → M b) : (ret x >>= k) = k x := rfl
theorem chk_ok {c : Prop} [Decidable c] (h : c) : chk c = .ok () := by unfold chk; rw [if_pos h]
theorem chk_b {c : Prop} [Decidable c] (h : c) (k : Unit → M b) : (chk c >>= k) = k () := by rw [chk_ok h]; rfl
theorem opt_b {o : Option a} {x : a} (h : o = some x) (k : a → M b) : (opt o >>= k) = k x := by rw [h]; rfl
theorem bind_ok {m : M a} {x : a} (h : m = .ok x) (k : a → M b) : (m >>= k) = k x := by rw [h]; rfl
theorem appL_ok {xs : List a} {y : a} (h : xs.length < 16777216) : appL xs y = .ok (xs ++ [y]) := by unfold appL; rw [if_pos h]
theorem ixN_nat {n : Nat} {j : Int} (h0 : 0 ≤ j) (h : j < n) : ixN n j = some j.toNat := by unfold ixN; rw [if_pos h0, if_pos h]
theorem atI_of {xs : List a} {j : Int} {x : a} (h0 : 0 ≤ j) (h : xs[j.toNat]? = some x) : L2.atI xs j = some x := by
  have hl := (List.getElem?_eq_some_iff.mp h).1
  unfold L2.atI
  rw [ixN_nat h0 (by omega)]
  exact h
theorem atI_some {xs : List a} {j : Int} (h0 : 0 ≤ j) (h : j < xs.length) : ∃ x, L2.atI xs j = some x ∧ xs[j.toNat]? = some x := by
  have hl : j.toNat < xs.length := by omega
  exact ⟨xs[j.toNat], atI_of h0 (List.getElem?_eq_getElem hl), List.getElem?_eq_getElem hl⟩
theorem setI_ok {xs : List a} {j : Int} {y : a} (h0 : 0 ≤ j) (h : j < xs.length) : setI xs j y = .ok (xs.set j.toNat y) := by unfold setI; rw [ixN_nat h0 h]
theorem popI_ok {xs : List a} {j : Int} {y : a} (h0 : 0 ≤ j) (h : xs[j.toNat]? = some y) (hl : xs.length < 16777216) : popI xs j = .ok (y, xs.eraseIdx j.toNat) := by
  have h1 := (List.getElem?_eq_some_iff.mp h).1
  unfold popI
  rw [if_pos hl, ixN_nat h0 (by omega)]
  show (match xs[j.toNat]? with
    | some y => (Except.ok (y, xs.eraseIdx j.toNat) : M _)
    | none => bad) = _
  rw [h]
/-- loops by an invariant over the items gone through -/
theorem loopN_inv {f : i → s → M s} (P : List i → s → Prop) : ∀ {xs pre : List i} {x : s}, P pre x → (∀ pre y ys x, xs ++ [] = xs → P pre x → (∃ q, q ++ y :: ys = pre ++ y :: ys) → ∃ x', f y x = .ok x' ∧ P (pre ++ [y]) x') → ∃ x', loopN f xs x = .ok x' ∧ P (pre ++ xs) x' := by
  intro xs
  induction xs with
  | nil => intro pre x h _; exact ⟨x, rfl, by rw [List.append_nil]; exact h⟩
  | cons y ys ih =>
    intro pre x h hs
    obtain ⟨x1, e1, h1⟩ := hs pre y ys x (List.append_nil _) h ⟨pre, rfl⟩
    obtain ⟨x2, e2, h2⟩ := ih (pre := pre ++ [y]) h1 fun pre y ys x _ hp hq => hs pre y ys x (List.append_nil _) hp hq
    refine ⟨x2, ?_, by rw [List.append_assoc] at h2; exact h2⟩
    show (f y x >>= fun x' => loopN f ys x') = _
    rw [e1]
    exact e2
/-- .. with what is known of the items -/
theorem loopN_run {f : i → s → M s} {all : List i} (P : List i → s → Prop) {x : s} (h : P [] x) (hs : ∀ pre y post x, all = pre ++ y :: post → P pre x → ∃ x', f y x = .ok x' ∧ P (pre ++ [y]) x') : ∃ x', loopN f all x = .ok x' ∧ P all x' := by
  have go : ∀ (xs pre : List i) (x : s), all = pre ++ xs → P pre x → ∃ x', loopN f xs x = .ok x' ∧ P (pre ++ xs) x' := by
    intro xs
    induction xs with
    | nil => intro pre x _ h; exact ⟨x, rfl, by rw [List.append_nil]; exact h⟩
    | cons y ys ih =>
      intro pre x e h
      obtain ⟨x1, e1, h1⟩ := hs pre y ys x e h
      obtain ⟨x2, e2, h2⟩ := ih (pre ++ [y]) x1 (by rw [List.append_assoc]; exact e) h1
      refine ⟨x2, ?_, by rw [List.append_assoc] at h2; exact h2⟩
      show (f y x >>= fun x' => loopN f ys x') = _
      rw [e1]
      exact e2
  exact go all [] x rfl h
/-- a loop that goes on at each item -/
theorem loopM_run {r : Type} {f : i → s → M (Fl s r)} {all : List i} (P : List i → s → Prop) {x : s} (h : P [] x) (hs : ∀ pre y post x, all = pre ++ y :: post → P pre x → ∃ x', f y x = .ok (.nx x') ∧ P (pre ++ [y]) x') : ∃ x', loopM f all x = .ok (.nx x') ∧ P all x' := by
  have go : ∀ (xs pre : List i) (x : s), all = pre ++ xs → P pre x → ∃ x', loopM f xs x = .ok (.nx x') ∧ P (pre ++ xs) x' := by
    intro xs
    induction xs with
    | nil => intro pre x _ h; exact ⟨x, rfl, by rw [List.append_nil]; exact h⟩
    | cons y ys ih =>
      intro pre x e h
      obtain ⟨x1, e1, h1⟩ := hs pre y ys x e h
      obtain ⟨x2, e2, h2⟩ := ih (pre ++ [y]) x1 (by rw [List.append_assoc]; exact e) h1
      refine ⟨x2, ?_, by rw [List.append_assoc] at h2; exact h2⟩
      show (f y x >>= fun q => match q with
        | .nx x' => loopM f ys x'
        | .rt z => .ok (.rt z)) = _
      rw [e1]
      exact e2
  exact go all [] x rfl h
/-- .. that has no state -/
theorem loopM_all {r : Type} {f : i → Unit → M (Fl Unit r)} {all : List i} (hs : ∀ y ∈ all, f y () = .ok (.nx ())) : loopM f all () = .ok (.nx ()) := by
  obtain ⟨x, e, _⟩ := loopM_run (f := f) (all := all) (fun _ _ => True) (x := ()) trivial fun pre y post x e _ => ⟨(), by cases x; exact hs y (by rw [e]; simp), trivial⟩
  exact e
theorem compX_run {c : Type} {f : i → s → M (Option c × s)} {all : List i} (P : List i → List c → s → Prop) {x : s} (h : P [] [] x)
    (hs : ∀ pre y post acc x, all = pre ++ y :: post → P pre acc x → ∃ o x', f y x = .ok (o, x') ∧ P (pre ++ [y]) (match o with
      | some z => acc ++ [z]
      | none => acc) x') : ∃ acc x', compX f all [] x = .ok (acc, x') ∧ P all acc x' := by
  have go : ∀ (xs pre : List i) (acc : List c) (x : s), all = pre ++ xs → P pre acc x → ∃ acc' x', compX f xs acc x = .ok (acc', x') ∧ P (pre ++ xs) acc' x' := by
    intro xs
    induction xs with
    | nil => intro pre acc x _ h; exact ⟨acc, x, rfl, by rw [List.append_nil]; exact h⟩
    | cons y ys ih =>
      intro pre acc x e h
      obtain ⟨o, x1, e1, h1⟩ := hs pre y ys acc x e h
      obtain ⟨acc2, x2, e2, h2⟩ := ih (pre ++ [y]) _ x1 (by rw [List.append_assoc]; exact e) h1
      refine ⟨acc2, x2, ?_, by rw [List.append_assoc] at h2; exact h2⟩
      show (nox (f y x) >>= fun p => compX f ys (match p.1 with
        | some z => acc ++ [z]
        | none => acc) p.2) = _
      rw [e1]
      exact e2
  exact go all [] [] x rfl h
theorem compS_run {c : Type} {f : i → s → M (Option c × s)} {all : List i} (hl : all.length < 16777216) (P : List i → List c → s → Prop) {x : s} (h : P [] [] x)
    (hs : ∀ pre y post acc x, all = pre ++ y :: post → P pre acc x → ∃ o x', f y x = .ok (o, x') ∧ P (pre ++ [y]) (match o with
      | some z => acc ++ [z]
      | none => acc) x') : ∃ acc x', compS f all x = .ok (acc, x') ∧ P all acc x' := by
  unfold compS
  rw [chk_b hl]
  exact compX_run P h hs
/-- a plain map with a test -/
theorem compS_pure {c : Type} {f : i → Unit → M (Option c × Unit)} {all : List i} (g : i → Option c) (hl : all.length < 16777216) (hs : ∀ y ∈ all, f y () = .ok (g y, ())) : compS f all () = .ok (all.filterMap g, ()) := by
  obtain ⟨acc, x, e, h⟩ := compS_run (f := f) (all := all) hl (fun pre acc _ => acc = pre.filterMap g) (x := ()) rfl fun pre y post acc x e h => by
    refine ⟨g y, (), by cases x; exact hs y (by rw [e]; simp), ?_⟩
    rw [h, List.filterMap_append]
    cases e2 : g y with
    | none => simp [e2]
    | some z => simp [e2]
  rw [e, h]
end

/-! ### sorted lists -/
section
variable {a : Type}
/-- two sorted lists of the same things are one -/
theorem perm_sorted_eq {le : a → a → Bool} (anti : ∀ x y, le x y = true → le y x = true → x = y) : ∀ {xs ys : List a}, xs.Perm ys → xs.Pairwise (fun x y => le x y = true) → ys.Pairwise (fun x y => le x y = true) → xs = ys := by
  intro xs
  induction xs with
  | nil => intro ys h _ _; exact (List.nil_perm.mp h).symm
  | cons x xs ih =>
    intro ys h hx hy
    cases ys with
    | nil => exact absurd h.length_eq (by simp)
    | cons y ys =>
      rw [List.pairwise_cons] at hx hy
      have e : x = y := by
        have m1 : x ∈ y :: ys := h.mem_iff.mp List.mem_cons_self
        have m2 : y ∈ x :: xs := h.mem_iff.mpr List.mem_cons_self
        rcases List.mem_cons.mp m1 with r | r
        · exact r
        · rcases List.mem_cons.mp m2 with q | q
          · exact q.symm
          · exact anti x y (hx.1 y q) (hy.1 x r)
      subst e
      rw [ih (List.Perm.cons_inv h) hx.2 hy.2]
class LeOk (a : Type) [DecidableEq a] [DatumOrd a] : Prop where
  tr : ∀ x y z : a, leT x y = true → leT y z = true → leT x z = true
  tot : ∀ x y : a, (leT x y || leT y x) = true
  anti : ∀ x y : a, leT x y = true → leT y x = true → x = y
theorem leT_int (x y : Int) : leT x y = decide (x ≤ y) := by
  show (!decide (y < x)) = decide (x ≤ y)
  by_cases h : y < x
  · have : ¬ x ≤ y := by omega
    simp [h, this]
  · have : x ≤ y := by omega
    simp [h, this]
instance : LeOk Int where
  tr x y z h1 h2 := by
    rw [leT_int, decide_eq_true_eq] at h1 h2 ⊢
    omega
  tot x y := by
    rw [leT_int, leT_int, Bool.or_eq_true, decide_eq_true_eq, decide_eq_true_eq]
    omega
  anti x y h1 h2 := by
    rw [leT_int, decide_eq_true_eq] at h1 h2
    omega
theorem leT_p (x y : Int × Int) : leT x y = decide (x.1 < y.1 ∨ (x.1 = y.1 ∧ x.2 ≤ y.2)) := by
  show (!(if y.1 = x.1 then decide (y.2 < x.2) else decide (y.1 < x.1))) = _
  by_cases h : y.1 = x.1
  · rw [if_pos h]
    by_cases h2 : y.2 < x.2
    · have : ¬ (x.1 < y.1 ∨ (x.1 = y.1 ∧ x.2 ≤ y.2)) := by omega
      simp [h2, this]
    · have : (x.1 < y.1 ∨ (x.1 = y.1 ∧ x.2 ≤ y.2)) := by omega
      simp [h2, this]
  · rw [if_neg h]
    by_cases h2 : y.1 < x.1
    · have : ¬ (x.1 < y.1 ∨ (x.1 = y.1 ∧ x.2 ≤ y.2)) := by omega
      simp [h2, this]
    · have : (x.1 < y.1 ∨ (x.1 = y.1 ∧ x.2 ≤ y.2)) := by omega
      simp [h2, this]
instance : LeOk (Int × Int) where
  tr x y z h1 h2 := by
    rw [leT_p, decide_eq_true_eq] at h1 h2 ⊢
    omega
  tot x y := by
    rw [leT_p, leT_p, Bool.or_eq_true, decide_eq_true_eq, decide_eq_true_eq]
    omega
  anti x y h1 h2 := by
    rw [leT_p, decide_eq_true_eq] at h1 h2
    exact Prod.ext (by omega) (by omega)
theorem leT_3 (x y : T3 Int Int Int) : leT x y = decide (x.a < y.a ∨ (x.a = y.a ∧ (x.b < y.b ∨ (x.b = y.b ∧ x.c ≤ y.c)))) := by
  show (!DatumOrd.lt y x) = _
  have e : DatumOrd.lt y x = decide (y.a < x.a ∨ (y.a = x.a ∧ (y.b < x.b ∨ (y.b = x.b ∧ y.c < x.c)))) := by
    rw [Bool.eq_iff_iff, decide_eq_true_eq]
    show (if y.a = x.a then (if y.b = x.b then decide (y.c < x.c) else decide (y.b < x.b)) else decide (y.a < x.a)) = true ↔ _
    by_cases h : y.a = x.a
    · rw [if_pos h]
      by_cases h2 : y.b = x.b
      · rw [if_pos h2, decide_eq_true_eq]; omega
      · rw [if_neg h2, decide_eq_true_eq]; omega
    · rw [if_neg h, decide_eq_true_eq]; omega
  rw [e, Bool.eq_iff_iff, Bool.not_eq_true', decide_eq_false_iff_not, decide_eq_true_eq]
  omega
instance : LeOk (T3 Int Int Int) where
  tr x y z h1 h2 := by
    rw [leT_3, decide_eq_true_eq] at h1 h2 ⊢
    omega
  tot x y := by
    rw [leT_3, leT_3, Bool.or_eq_true, decide_eq_true_eq, decide_eq_true_eq]
    omega
  anti x y h1 h2 := by
    rw [leT_3, decide_eq_true_eq] at h1 h2
    exact PySem.W.T3.same (by omega) (by omega) (by omega)
variable [DecidableEq a] [DatumOrd a] [LeOk a]
theorem sortT_perm (xs : List a) : (sortT xs).Perm xs := List.mergeSort_perm xs _
theorem sortT_sorted (xs : List a) : (sortT xs).Pairwise (fun x y => leT x y = true) := List.pairwise_mergeSort (fun x y z => LeOk.tr x y z) (fun x y => LeOk.tot x y) xs
theorem sortT_eq {xs ys : List a} (h : xs.Perm ys) : sortT xs = sortT ys :=
  perm_sorted_eq LeOk.anti ((sortT_perm xs).trans (h.trans (sortT_perm ys).symm)) (sortT_sorted xs) (sortT_sorted ys)
theorem sortT_id {xs : List a} (h : xs.Pairwise (fun x y => leT x y = true)) : sortT xs = xs := perm_sorted_eq LeOk.anti (sortT_perm xs) (sortT_sorted xs) h
theorem sortT_idem (xs : List a) : sortT (sortT xs) = sortT xs := sortT_id (sortT_sorted xs)
theorem sortT_len (xs : List a) : (sortT xs).length = xs.length := (sortT_perm xs).length_eq
theorem sortT_mem {xs : List a} {x : a} : x ∈ sortT xs ↔ x ∈ xs := (sortT_perm xs).mem_iff
end
/-! ### numbers -/
theorem cdivW {i j : Int} (h : 0 < j) (h2 : j ≤ 10 ^ 40) : CDivW i j := by
  have h3 : j.natAbs ≤ 10 ^ 40 := by omega
  exact wide_div (b := 200) h (Nat.lt_of_le_of_lt h3 (by decide)) (by decide) (by decide)
theorem cmulW {i j : Int} (h1 : i.natAbs < 2 ^ 100000) (h2 : j.natAbs < 2 ^ 100000) : CMulW i j := wide_mul h1 h2 (by decide) (by decide) (by decide)

theorem erase_perm {a : Type} : ∀ {l : List a} {j : Nat} (h : j < l.length), (l[j] :: l.eraseIdx j).Perm l
  | x :: l, 0, _ => List.Perm.refl _
  | x :: l, j + 1, h => by
    have h' : j < l.length := by simpa using h
    show (l[j] :: x :: l.eraseIdx j).Perm (x :: l)
    exact (List.Perm.swap _ _ _).trans (List.Perm.cons _ (erase_perm h'))

/-! ### trees -/
abbrev Tie := T3 Int Int Int
abbrev Tr := List Int × List Tie
def tieOf (p q c : Int) : Tie := if p ≤ q then ⟨p, q, c⟩ else ⟨q, p, c⟩
/-- place by place, each new one tied to one that is there -/
inductive Grown : List Int → List Tie → Prop
  | one (p : Int) : Grown [p] []
  | more {ps : List Int} {ts : List Tie} (q p c : Int) : Grown ps ts → q ∈ ps → p ∉ ps → Grown (ps ++ [p]) (ts ++ [tieOf p q c])
theorem tieOf_lt {p q c : Int} (h : p ≠ q) : (tieOf p q c).a < (tieOf p q c).b ∧ ((tieOf p q c).a = p ∧ (tieOf p q c).b = q ∨ (tieOf p q c).a = q ∧ (tieOf p q c).b = p) ∧ (tieOf p q c).c = c := by
  unfold tieOf
  by_cases h1 : p ≤ q
  · rw [if_pos h1]; exact ⟨by show p < q; omega, .inl ⟨rfl, rfl⟩, rfl⟩
  · rw [if_neg h1]; exact ⟨by show q < p; omega, .inr ⟨rfl, rfl⟩, rfl⟩
theorem Grown.in {ps : List Int} {ts : List Tie} (g : Grown ps ts) : ∀ t ∈ ts, t.a ∈ ps ∧ t.b ∈ ps ∧ t.a < t.b := by
  induction g with
  | one p => intro t h; cases h
  | @more ps ts q p c g hq hp ih =>
    intro t h
    rcases List.mem_append.mp h with h | h
    · obtain ⟨h1, h2, h3⟩ := ih t h
      exact ⟨List.mem_append_left _ h1, List.mem_append_left _ h2, h3⟩
    · have e := List.mem_singleton.mp h
      subst e
      have hpq : p ≠ q := fun e => hp (e ▸ hq)
      obtain ⟨l, hab, _⟩ := tieOf_lt (c := c) hpq
      have mp : p ∈ ps ++ [p] := by simp
      have mq : q ∈ ps ++ [p] := List.mem_append_left _ hq
      rcases hab with ⟨h1, h2⟩ | ⟨h1, h2⟩
      · exact ⟨by rw [h1]; exact mp, by rw [h2]; exact mq, l⟩
      · exact ⟨by rw [h1]; exact mq, by rw [h2]; exact mp, l⟩
theorem Grown.len {ps : List Int} {ts : List Tie} (g : Grown ps ts) : ps.length = ts.length + 1 := by
  induction g with
  | one p => rfl
  | more q p c g hq hp ih => rw [List.length_append, List.length_append, ih]; rfl
theorem Grown.nd {ps : List Int} {ts : List Tie} (g : Grown ps ts) : ps.Nodup := by
  induction g with
  | one p => simp
  | more q p c g hq hp ih => exact List.nodup_append.mpr ⟨ih, by simp, fun x hx y hy e => by rw [List.mem_singleton.mp hy] at e; exact hp (e ▸ hx)⟩
/-- a tree: its worths, its ties sorted -/
structure TreeOk (t : Tr) : Prop where
  ex : ∃ ps ts, Grown ps ts ∧ ps.Perm (rangeL 0 (t.1.length : Int)) ∧ t.2 = sortT ts
theorem TreeOk.pos {t : Tr} (h : TreeOk t) : 1 ≤ t.1.length := by
  obtain ⟨ps, ts, g, p, e⟩ := h.ex
  have h1 := p.length_eq
  rw [rangeL_length] at h1
  have := g.len
  omega
theorem TreeOk.len {t : Tr} (h : TreeOk t) : t.1.length = t.2.length + 1 := by
  obtain ⟨ps, ts, g, p, e⟩ := h.ex
  have h1 := p.length_eq
  rw [rangeL_length] at h1
  have := g.len
  rw [e, sortT_len]
  omega
theorem rangeL_mem' {lo hi x : Int} : x ∈ rangeL lo hi ↔ lo ≤ x ∧ x < hi := by
  unfold rangeL
  rw [List.mem_map]
  constructor
  · rintro ⟨j, hj, rfl⟩
    have := List.mem_range.mp hj
    omega
  · rintro ⟨h1, h2⟩
    exact ⟨(x - lo).toNat, List.mem_range.mpr (by omega), by omega⟩
theorem TreeOk.tie {t : Tr} (h : TreeOk t) : ∀ x ∈ t.2, 0 ≤ x.a ∧ x.a < x.b ∧ x.b < (t.1.length : Int) := by
  obtain ⟨ps, ts, g, p, e⟩ := h.ex
  intro x hx
  rw [e, sortT_mem] at hx
  obtain ⟨h1, h2, h3⟩ := g.in x hx
  have a1 := rangeL_mem'.mp (p.mem_iff.mp h1)
  have a2 := rangeL_mem'.mp (p.mem_iff.mp h2)
  exact ⟨a1.1, h3, a2.2⟩
theorem TreeOk.sorted {t : Tr} (h : TreeOk t) : sortT t.2 = t.2 := by
  obtain ⟨ps, ts, g, p, e⟩ := h.ex
  rw [e, sortT_idem]
theorem sort2 (x y : Int) : sortT [x, y] = if x ≤ y then [x, y] else [y, x] := by
  by_cases h : x ≤ y
  · rw [if_pos h]
    exact sortT_id (by simp [leT_int, h])
  · rw [if_neg h]
    have e : sortT [x, y] = sortT [y, x] := sortT_eq (List.Perm.swap _ _ _)
    rw [e]
    exact sortT_id (by simp [leT_int]; omega)

theorem fm_congr {a b : Type} {f g : a → Option b} : ∀ {l : List a}, (∀ x ∈ l, f x = g x) → l.filterMap f = l.filterMap g
  | [], _ => rfl
  | x :: l, h => by
    have h1 := h x List.mem_cons_self
    have h2 := fm_congr (l := l) fun y hy => h y (List.mem_cons_of_mem _ hy)
    rw [List.filterMap_cons, List.filterMap_cons, h1, h2]
end PG

set_option Elab.async false
set_option linter.all false
set_option maxRecDepth 100000
namespace G
open PySem PySem.Spec PyProof.Rows L2 PG
open PySem.W (T3 T4 Datum DatumOrd)
def top (i : Nat) : Stmt := PySem.Challenge.pw_everyseat_k29_whole_named_rules.main.body.getD i (.Pass ⟨0, 0, 0, 0⟩)
structure Nb {K : PySem.W.Frag} [KF K] (mg : Str → Option Value) : Prop where
  b_abs : mg "abs" = none
  b_dict : mg "dict" = none
  b_enumerate : mg "enumerate" = none
  b_len : mg "len" = none
  b_list : mg "list" = none
  b_max : mg "max" = none
  b_min : mg "min" = none
  b_range : mg "range" = none
  b_sorted : mg "sorted" = none
  c_MOST : ∃ u, mg "MOST" = some u ∧ RelV (.int 3) u
  t_MORE : ∃ a, mg "MORE" = some (.ref a) ∧ KTup K a [V.str "more", V.int 0]
  t_MORE_MORE : ∃ a, mg "MORE_MORE" = some (.ref a) ∧ KTup K a [V.str "more", V.int 1]
  t_NOUGHT : ∃ a, mg "NOUGHT" = some (.ref a) ∧ KTup K a [V.str "number", V.int 0]
  t_ONE : ∃ a, mg "ONE" = some (.ref a) ∧ KTup K a [V.str "number", V.int 1]
  t_OWN : ∃ a, mg "OWN" = some (.ref a) ∧ KTup K a [V.str "own"]
  t_SO : ∃ a, mg "SO" = some (.ref a) ∧ KTup K a [V.str "so", V.int 0]
  t_SO_MORE : ∃ a, mg "SO_MORE" = some (.ref a) ∧ KTup K a [V.str "so", V.int 1]
  t_TIE : ∃ a, mg "TIE" = some (.ref a) ∧ KTup K a [V.str "tie"]
section
variable {P : Program} {w : World} {K : PySem.W.Frag} {mg : Str → Option Value} {base : Heap} [KF K]
abbrev s_farthest_rule : Stmt := top 13
theorem sc_farthest_rule : FnScope [] [] (defScope s_farthest_rule) := ⟨rfl, rfl, rfl, by decide +kernel, rfl, by decide +kernel, by decide +kernel⟩
def m_farthest_rule  : M ((T4 (List Sm) (List Sm) (List Sm) Sm)) :=
.ok (T4.mk ([(Sm.num ("number" : Str) (0 : Int))]) ([(Sm.two ("plus" : Str) (Sm.num ("more" : Str) (0 : Int)) (Sm.nam ("tie" : Str)))]) ([(Sm.two ("most" : Str) (Sm.num ("so" : Str) (0 : Int)) (Sm.num ("more" : Str) (0 : Int)))]) (Sm.num ("so" : Str) (0 : Int)))
def sp_farthest_rule (mg : Str → Option Value) : Sp := fun vs H Q E => ∃ (F : Hp), vs = [] ∧ Pre F [] H ∧
  wp (m_farthest_rule ) (fun r => ∀ (F' H' : Hp), Gr [] F H F' H' → ∀ v : V, R (a := (T4 (List Sm) (List Sm) (List Sm) Sm)) F' v r → Q v H')
  (fun n => ∀ (C : Addr) (H' : Hp), mg (Str.ofString n) = some (.ref C) → Kp [] H H' → E (.ref C) none H')
set_option maxHeartbeats 20000000 in
theorem ok_farthest_rule (nb : Nb mg) (D : Df K mg "farthest_rule" "farthest_rule" s_farthest_rule []) : Ca P w K mg base "farthest_rule" 1 [] (sp_farthest_rule mg) := by
  obtain ⟨c_MORE, g_MORE, kt_MORE⟩ := nb.t_MORE
  obtain ⟨c_NOUGHT, g_NOUGHT, kt_NOUGHT⟩ := nb.t_NOUGHT
  obtain ⟨c_SO, g_SO, kt_SO⟩ := nb.t_SO
  obtain ⟨c_TIE, g_TIE, kt_TIE⟩ := nb.t_TIE
  refine Ca.mk' D sc_farthest_rule (fun vs H Q E h => ?_) (fun q_ f_ cdv A outer s H vs Q E hr h => ?_)
  · obtain ⟨F, rfl, _⟩ := h
    rfl
  · obtain ⟨F, rfl, P0, hk⟩ := h
    have nd := sc_farthest_rule.nd
    have hu64 := hr.units
    have hu128 := hu128_of hr
    have O := P0.start
    refine ⟨_, (pss_one (ps_ret (pe_tup (pa_cons (pe_lst (pa_cons (C8.pe_gc (v := .ref c_NOUGHT) (by rfl) ⟨_, g_NOUGHT, rfl⟩) pa_nil)) (pa_cons (pe_lst (pa_cons (pe_tup (pa_cons pe_str (pa_cons (C8.pe_gc (v := .ref c_MORE) (by rfl) ⟨_, g_MORE, rfl⟩) (pa_cons (C8.pe_gc (v := .ref c_TIE) (by rfl) ⟨_, g_TIE, rfl⟩) pa_nil)))) pa_nil)) (pa_cons (pe_lst (pa_cons (pe_tup (pa_cons pe_str (pa_cons (C8.pe_gc (v := .ref c_SO) (by rfl) ⟨_, g_SO, rfl⟩) (pa_cons (C8.pe_gc (v := .ref c_MORE) (by rfl) ⟨_, g_MORE, rfl⟩) pa_nil)))) pa_nil)) (pa_cons (C8.pe_gc (v := .ref c_SO) (by rfl) ⟨_, g_SO, rfl⟩) pa_nil))))))), ?_⟩
    have r1 := R.k_num (F := F) kt_NOUGHT
    refine ⟨(by show 1 ≤ sizeLine; decide), fun p2 hp3 => ?_⟩
    have hl9 : RL (a := Sm) F ([V.ref c_NOUGHT]) ([(Sm.num ("number" : Str) (0 : Int))]) := RL.cons r1 RL.nil
    obtain ⟨F4, O5, S6, h7⟩ := O.putE hp3 (.lst ([V.ref c_NOUGHT]))
    have r1 := r1.mono S6
    have hl9 := hl9.mono S6
    have h8 := R.lst (a := Sm) h7 hl9
    have r10 := R.k_num (F := F4) kt_MORE
    have r11 := R.k_nam (F := F4) kt_TIE
    refine ⟨(by show 3 ≤ sizeLine; decide), fun p12 hp13 => ?_⟩
    obtain ⟨F14, O15, S16, h17⟩ := O5.putE hp13 (.tup [V.str ("plus" : Str), V.ref c_MORE, V.ref c_TIE])
    have r1 := r1.mono S16
    have h8 := h8.mono S16
    have r10 := r10.mono S16
    have r11 := r11.mono S16
    have h18 : R (a := (T3 Str Sm Sm)) F14 (.ref p12) (T3.mk ("plus" : Str) (Sm.num ("more" : Str) (0 : Int)) (Sm.nam ("tie" : Str))) := R.t3 h17 R.str r10 r11
    refine ⟨(by show 1 ≤ sizeLine; decide), fun p19 hp20 => ?_⟩
    have hl26 : RL (a := Sm) F14 ([V.ref p12]) ([(Sm.two ("plus" : Str) (Sm.num ("more" : Str) (0 : Int)) (Sm.nam ("tie" : Str)))]) := RL.cons (R.of_two h18) RL.nil
    obtain ⟨F21, O22, S23, h24⟩ := O15.putE hp20 (.lst ([V.ref p12]))
    have r1 := r1.mono S23
    have h8 := h8.mono S23
    have r10 := r10.mono S23
    have r11 := r11.mono S23
    have h18 := h18.mono S23
    have hl26 := hl26.mono S23
    have h25 := R.lst (a := Sm) h24 hl26
    have r27 := R.k_num (F := F21) kt_SO
    have r28 := R.k_num (F := F21) kt_MORE
    refine ⟨(by show 3 ≤ sizeLine; decide), fun p29 hp30 => ?_⟩
    obtain ⟨F31, O32, S33, h34⟩ := O22.putE hp30 (.tup [V.str ("most" : Str), V.ref c_SO, V.ref c_MORE])
    have r1 := r1.mono S33
    have h8 := h8.mono S33
    have r10 := r10.mono S33
    have r11 := r11.mono S33
    have h18 := h18.mono S33
    have h25 := h25.mono S33
    have r27 := r27.mono S33
    have r28 := r28.mono S33
    have h35 : R (a := (T3 Str Sm Sm)) F31 (.ref p29) (T3.mk ("most" : Str) (Sm.num ("so" : Str) (0 : Int)) (Sm.num ("more" : Str) (0 : Int))) := R.t3 h34 R.str r27 r28
    refine ⟨(by show 1 ≤ sizeLine; decide), fun p36 hp37 => ?_⟩
    have hl43 : RL (a := Sm) F31 ([V.ref p29]) ([(Sm.two ("most" : Str) (Sm.num ("so" : Str) (0 : Int)) (Sm.num ("more" : Str) (0 : Int)))]) := RL.cons (R.of_two h35) RL.nil
    obtain ⟨F38, O39, S40, h41⟩ := O32.putE hp37 (.lst ([V.ref p29]))
    have r1 := r1.mono S40
    have h8 := h8.mono S40
    have r10 := r10.mono S40
    have r11 := r11.mono S40
    have h18 := h18.mono S40
    have h25 := h25.mono S40
    have r27 := r27.mono S40
    have r28 := r28.mono S40
    have h35 := h35.mono S40
    have hl43 := hl43.mono S40
    have h42 := R.lst (a := Sm) h41 hl43
    have r44 := R.k_num (F := F38) kt_SO
    refine ⟨(by show 4 ≤ sizeLine; decide), fun p45 hp46 => ?_⟩
    obtain ⟨F47, O48, S49, h50⟩ := O39.putE hp46 (.tup [V.ref p2, V.ref p19, V.ref p36, V.ref c_SO])
    have r1 := r1.mono S49
    have h8 := h8.mono S49
    have r10 := r10.mono S49
    have r11 := r11.mono S49
    have h18 := h18.mono S49
    have h25 := h25.mono S49
    have r27 := r27.mono S49
    have r28 := r28.mono S49
    have h35 := h35.mono S49
    have h42 := h42.mono S49
    have r44 := r44.mono S49
    have h51 : R (a := (T4 (List Sm) (List Sm) (List Sm) Sm)) F47 (.ref p45) (T4.mk ([(Sm.num ("number" : Str) (0 : Int))]) ([(Sm.two ("plus" : Str) (Sm.num ("more" : Str) (0 : Int)) (Sm.nam ("tie" : Str)))]) ([(Sm.two ("most" : Str) (Sm.num ("so" : Str) (0 : Int)) (Sm.num ("more" : Str) (0 : Int)))]) (Sm.num ("so" : Str) (0 : Int))) := R.t4 h50 h8 h25 h42 r44
    exact hk _ _  O48.g  _ h51
abbrev s_sum_rule : Stmt := top 14
theorem sc_sum_rule : FnScope ["over"] [] (defScope s_sum_rule) := ⟨rfl, rfl, rfl, by decide +kernel, rfl, by decide +kernel, by decide +kernel⟩
def m_sum_rule  : M ((T4 (List Sm) (List Sm) (List Sm) Sm)) :=
.ok (T4.mk ([(Sm.num ("number" : Str) (0 : Int)), (Sm.num ("number" : Str) (1 : Int))]) ([(Sm.two ("plus" : Str) (Sm.num ("more" : Str) (0 : Int)) (Sm.two ("times" : Str) (Sm.nam ("tie" : Str)) (Sm.num ("more" : Str) (1 : Int)))), (Sm.num ("more" : Str) (1 : Int))]) ([(Sm.two ("plus" : Str) (Sm.num ("so" : Str) (0 : Int)) (Sm.num ("more" : Str) (0 : Int))), (Sm.two ("plus" : Str) (Sm.num ("so" : Str) (1 : Int)) (Sm.num ("more" : Str) (1 : Int)))]) (Sm.num ("so" : Str) (0 : Int)))
def sp_sum_rule (mg : Str → Option Value) : Sp := fun vs H Q E => ∃ (F : Hp), vs = [] ∧ Pre F [] H ∧
  wp (m_sum_rule ) (fun r => ∀ (F' H' : Hp), Gr [] F H F' H' → ∀ v : V, R (a := (T4 (List Sm) (List Sm) (List Sm) Sm)) F' v r → Q v H')
  (fun n => ∀ (C : Addr) (H' : Hp), mg (Str.ofString n) = some (.ref C) → Kp [] H H' → E (.ref C) none H')
set_option maxHeartbeats 20000000 in
theorem ok_sum_rule (nb : Nb mg) (D : Df K mg "sum_rule" "sum_rule" s_sum_rule []) : Ca P w K mg base "sum_rule" 1 [] (sp_sum_rule mg) := by
  obtain ⟨c_MORE, g_MORE, kt_MORE⟩ := nb.t_MORE
  obtain ⟨c_MORE_MORE, g_MORE_MORE, kt_MORE_MORE⟩ := nb.t_MORE_MORE
  obtain ⟨c_NOUGHT, g_NOUGHT, kt_NOUGHT⟩ := nb.t_NOUGHT
  obtain ⟨c_ONE, g_ONE, kt_ONE⟩ := nb.t_ONE
  obtain ⟨c_SO, g_SO, kt_SO⟩ := nb.t_SO
  obtain ⟨c_SO_MORE, g_SO_MORE, kt_SO_MORE⟩ := nb.t_SO_MORE
  obtain ⟨c_TIE, g_TIE, kt_TIE⟩ := nb.t_TIE
  refine Ca.mk' D sc_sum_rule (fun vs H Q E h => ?_) (fun q_ f_ cdv A outer s H vs Q E hr h => ?_)
  · obtain ⟨F, rfl, _⟩ := h
    rfl
  · obtain ⟨F, rfl, P0, hk⟩ := h
    have nd := sc_sum_rule.nd
    have hu64 := hr.units
    have hu128 := hu128_of hr
    have O := P0.start
    refine ⟨_, (pss_cons (ps_toN (ps_set (i := 0) nd rfl (Or.inl rfl) (pe_lst (pa_cons (pe_tup (pa_cons pe_str (pa_cons (C8.pe_gc (v := .ref c_MORE) (by rfl) ⟨_, g_MORE, rfl⟩) (pa_cons (pe_tup (pa_cons pe_str (pa_cons (C8.pe_gc (v := .ref c_TIE) (by rfl) ⟨_, g_TIE, rfl⟩) (pa_cons (C8.pe_gc (v := .ref c_MORE_MORE) (by rfl) ⟨_, g_MORE_MORE, rfl⟩) pa_nil)))) pa_nil)))) (pa_cons (C8.pe_gc (v := .ref c_MORE_MORE) (by rfl) ⟨_, g_MORE_MORE, rfl⟩) pa_nil)))))
  (pss_one (ps_ret (pe_tup (pa_cons (pe_lst (pa_cons (C8.pe_gc (v := .ref c_NOUGHT) (by rfl) ⟨_, g_NOUGHT, rfl⟩) (pa_cons (C8.pe_gc (v := .ref c_ONE) (by rfl) ⟨_, g_ONE, rfl⟩) pa_nil))) (pa_cons (pv 0) (pa_cons (pe_lst (pa_cons (pe_tup (pa_cons pe_str (pa_cons (C8.pe_gc (v := .ref c_SO) (by rfl) ⟨_, g_SO, rfl⟩) (pa_cons (C8.pe_gc (v := .ref c_MORE) (by rfl) ⟨_, g_MORE, rfl⟩) pa_nil)))) (pa_cons (pe_tup (pa_cons pe_str (pa_cons (C8.pe_gc (v := .ref c_SO_MORE) (by rfl) ⟨_, g_SO_MORE, rfl⟩) (pa_cons (C8.pe_gc (v := .ref c_MORE_MORE) (by rfl) ⟨_, g_MORE_MORE, rfl⟩) pa_nil)))) pa_nil))) (pa_cons (C8.pe_gc (v := .ref c_SO) (by rfl) ⟨_, g_SO, rfl⟩) pa_nil)))))))), ?_⟩
    have r1 := R.k_num (F := F) kt_MORE
    have r2 := R.k_nam (F := F) kt_TIE
    have r3 := R.k_num (F := F) kt_MORE_MORE
    refine ⟨(by show 3 ≤ sizeLine; decide), fun p4 hp5 => ?_⟩
    obtain ⟨F6, O7, S8, h9⟩ := O.putE hp5 (.tup [V.str ("times" : Str), V.ref c_TIE, V.ref c_MORE_MORE])
    have r1 := r1.mono S8
    have r2 := r2.mono S8
    have r3 := r3.mono S8
    have h10 : R (a := (T3 Str Sm Sm)) F6 (.ref p4) (T3.mk ("times" : Str) (Sm.nam ("tie" : Str)) (Sm.num ("more" : Str) (1 : Int))) := R.t3 h9 R.str r2 r3
    refine ⟨(by show 3 ≤ sizeLine; decide), fun p11 hp12 => ?_⟩
    have h18 := (R.of_two h10)
    obtain ⟨F13, O14, S15, h16⟩ := O7.putE hp12 (.tup [V.str ("plus" : Str), V.ref c_MORE, V.ref p4])
    have r1 := r1.mono S15
    have r2 := r2.mono S15
    have r3 := r3.mono S15
    have h10 := h10.mono S15
    have h18 := h18.mono S15
    have h17 : R (a := (T3 Str Sm Sm)) F13 (.ref p11) (T3.mk ("plus" : Str) (Sm.num ("more" : Str) (0 : Int)) (Sm.two ("times" : Str) (Sm.nam ("tie" : Str)) (Sm.num ("more" : Str) (1 : Int)))) := R.t3 h16 R.str r1 h18
    have r19 := R.k_num (F := F13) kt_MORE_MORE
    refine ⟨(by show 2 ≤ sizeLine; decide), fun p20 hp21 => ?_⟩
    have hl27 : RL (a := Sm) F13 ([V.ref p11, V.ref c_MORE_MORE]) ([(Sm.two ("plus" : Str) (Sm.num ("more" : Str) (0 : Int)) (Sm.two ("times" : Str) (Sm.nam ("tie" : Str)) (Sm.num ("more" : Str) (1 : Int)))), (Sm.num ("more" : Str) (1 : Int))]) := RL.cons (R.of_two h17) (RL.cons r19 RL.nil)
    obtain ⟨F22, O23, S24, h25⟩ := O14.putE hp21 (.lst ([V.ref p11, V.ref c_MORE_MORE]))
    have r1 := r1.mono S24
    have r2 := r2.mono S24
    have r3 := r3.mono S24
    have h10 := h10.mono S24
    have h18 := h18.mono S24
    have h17 := h17.mono S24
    have r19 := r19.mono S24
    have hl27 := hl27.mono S24
    have h26 := R.lst (a := Sm) h25 hl27
    have r28 := R.k_num (F := F22) kt_NOUGHT
    have r29 := R.k_num (F := F22) kt_ONE
    refine ⟨[some (V.ref p20)], rfl, (by show 2 ≤ sizeLine; decide), fun p30 hp31 => ?_⟩
    have hl37 : RL (a := Sm) F22 ([V.ref c_NOUGHT, V.ref c_ONE]) ([(Sm.num ("number" : Str) (0 : Int)), (Sm.num ("number" : Str) (1 : Int))]) := RL.cons r28 (RL.cons r29 RL.nil)
    obtain ⟨F32, O33, S34, h35⟩ := O23.putE hp31 (.lst ([V.ref c_NOUGHT, V.ref c_ONE]))
    have r1 := r1.mono S34
    have r2 := r2.mono S34
    have r3 := r3.mono S34
    have h10 := h10.mono S34
    have h18 := h18.mono S34
    have h17 := h17.mono S34
    have r19 := r19.mono S34
    have h26 := h26.mono S34
    have r28 := r28.mono S34
    have r29 := r29.mono S34
    have hl37 := hl37.mono S34
    have h36 := R.lst (a := Sm) h35 hl37
    have r38 := R.k_num (F := F32) kt_SO
    have r39 := R.k_num (F := F32) kt_MORE
    refine ⟨_, rfl, (by show 3 ≤ sizeLine; decide), fun p40 hp41 => ?_⟩
    obtain ⟨F42, O43, S44, h45⟩ := O33.putE hp41 (.tup [V.str ("plus" : Str), V.ref c_SO, V.ref c_MORE])
    have r1 := r1.mono S44
    have r2 := r2.mono S44
    have r3 := r3.mono S44
    have h10 := h10.mono S44
    have h18 := h18.mono S44
    have h17 := h17.mono S44
    have r19 := r19.mono S44
    have h26 := h26.mono S44
    have r28 := r28.mono S44
    have r29 := r29.mono S44
    have h36 := h36.mono S44
    have r38 := r38.mono S44
    have r39 := r39.mono S44
    have h46 : R (a := (T3 Str Sm Sm)) F42 (.ref p40) (T3.mk ("plus" : Str) (Sm.num ("so" : Str) (0 : Int)) (Sm.num ("more" : Str) (0 : Int))) := R.t3 h45 R.str r38 r39
    have r47 := R.k_num (F := F42) kt_SO_MORE
    have r48 := R.k_num (F := F42) kt_MORE_MORE
    refine ⟨(by show 3 ≤ sizeLine; decide), fun p49 hp50 => ?_⟩
    obtain ⟨F51, O52, S53, h54⟩ := O43.putE hp50 (.tup [V.str ("plus" : Str), V.ref c_SO_MORE, V.ref c_MORE_MORE])
    have r1 := r1.mono S53
    have r2 := r2.mono S53
    have r3 := r3.mono S53
    have h10 := h10.mono S53
    have h18 := h18.mono S53
    have h17 := h17.mono S53
    have r19 := r19.mono S53
    have h26 := h26.mono S53
    have r28 := r28.mono S53
    have r29 := r29.mono S53
    have h36 := h36.mono S53
    have r38 := r38.mono S53
    have r39 := r39.mono S53
    have h46 := h46.mono S53
    have r47 := r47.mono S53
    have r48 := r48.mono S53
    have h55 : R (a := (T3 Str Sm Sm)) F51 (.ref p49) (T3.mk ("plus" : Str) (Sm.num ("so" : Str) (1 : Int)) (Sm.num ("more" : Str) (1 : Int))) := R.t3 h54 R.str r47 r48
    refine ⟨(by show 2 ≤ sizeLine; decide), fun p56 hp57 => ?_⟩
    have hl63 : RL (a := Sm) F51 ([V.ref p40, V.ref p49]) ([(Sm.two ("plus" : Str) (Sm.num ("so" : Str) (0 : Int)) (Sm.num ("more" : Str) (0 : Int))), (Sm.two ("plus" : Str) (Sm.num ("so" : Str) (1 : Int)) (Sm.num ("more" : Str) (1 : Int)))]) := RL.cons (R.of_two h46) (RL.cons (R.of_two h55) RL.nil)
    obtain ⟨F58, O59, S60, h61⟩ := O52.putE hp57 (.lst ([V.ref p40, V.ref p49]))
    have r1 := r1.mono S60
    have r2 := r2.mono S60
    have r3 := r3.mono S60
    have h10 := h10.mono S60
    have h18 := h18.mono S60
    have h17 := h17.mono S60
    have r19 := r19.mono S60
    have h26 := h26.mono S60
    have r28 := r28.mono S60
    have r29 := r29.mono S60
    have h36 := h36.mono S60
    have r38 := r38.mono S60
    have r39 := r39.mono S60
    have h46 := h46.mono S60
    have r47 := r47.mono S60
    have r48 := r48.mono S60
    have h55 := h55.mono S60
    have hl63 := hl63.mono S60
    have h62 := R.lst (a := Sm) h61 hl63
    have r64 := R.k_num (F := F58) kt_SO
    refine ⟨(by show 4 ≤ sizeLine; decide), fun p65 hp66 => ?_⟩
    obtain ⟨F67, O68, S69, h70⟩ := O59.putE hp66 (.tup [V.ref p30, V.ref p20, V.ref p56, V.ref c_SO])
    have r1 := r1.mono S69
    have r2 := r2.mono S69
    have r3 := r3.mono S69
    have h10 := h10.mono S69
    have h18 := h18.mono S69
    have h17 := h17.mono S69
    have r19 := r19.mono S69
    have h26 := h26.mono S69
    have r28 := r28.mono S69
    have r29 := r29.mono S69
    have h36 := h36.mono S69
    have r38 := r38.mono S69
    have r39 := r39.mono S69
    have h46 := h46.mono S69
    have r47 := r47.mono S69
    have r48 := r48.mono S69
    have h55 := h55.mono S69
    have h62 := h62.mono S69
    have r64 := r64.mono S69
    have h71 : R (a := (T4 (List Sm) (List Sm) (List Sm) Sm)) F67 (.ref p65) (T4.mk ([(Sm.num ("number" : Str) (0 : Int)), (Sm.num ("number" : Str) (1 : Int))]) ([(Sm.two ("plus" : Str) (Sm.num ("more" : Str) (0 : Int)) (Sm.two ("times" : Str) (Sm.nam ("tie" : Str)) (Sm.num ("more" : Str) (1 : Int)))), (Sm.num ("more" : Str) (1 : Int))]) ([(Sm.two ("plus" : Str) (Sm.num ("so" : Str) (0 : Int)) (Sm.num ("more" : Str) (0 : Int))), (Sm.two ("plus" : Str) (Sm.num ("so" : Str) (1 : Int)) (Sm.num ("more" : Str) (1 : Int)))]) (Sm.num ("so" : Str) (0 : Int))) := R.t4 h70 h36 h26 h62 r64
    exact hk _ _  O68.g  _ h71
abbrev s_apart_rule : Stmt := top 15
theorem sc_apart_rule : FnScope ["join"] [] (defScope s_apart_rule) := ⟨rfl, rfl, rfl, by decide +kernel, rfl, by decide +kernel, by decide +kernel⟩
def m_apart_rule  : M ((T4 (List Sm) (List Sm) (List Sm) Sm)) :=
.ok (T4.mk ([(Sm.num ("number" : Str) (1 : Int)), (Sm.num ("number" : Str) (1 : Int))]) ([(Sm.num ("more" : Str) (0 : Int)), (Sm.num ("more" : Str) (1 : Int))]) ([(Sm.two ("times" : Str) (Sm.num ("so" : Str) (0 : Int)) (Sm.num ("more" : Str) (1 : Int))), (Sm.two ("times" : Str) (Sm.num ("so" : Str) (1 : Int)) (Sm.two ("plus" : Str) (Sm.num ("more" : Str) (0 : Int)) (Sm.num ("more" : Str) (1 : Int))))]) (Sm.two ("plus" : Str) (Sm.num ("so" : Str) (0 : Int)) (Sm.num ("so" : Str) (1 : Int))))
def sp_apart_rule (mg : Str → Option Value) : Sp := fun vs H Q E => ∃ (F : Hp), vs = [] ∧ Pre F [] H ∧
  wp (m_apart_rule ) (fun r => ∀ (F' H' : Hp), Gr [] F H F' H' → ∀ v : V, R (a := (T4 (List Sm) (List Sm) (List Sm) Sm)) F' v r → Q v H')
  (fun n => ∀ (C : Addr) (H' : Hp), mg (Str.ofString n) = some (.ref C) → Kp [] H H' → E (.ref C) none H')
set_option maxHeartbeats 20000000 in
theorem ok_apart_rule (nb : Nb mg) (D : Df K mg "apart_rule" "apart_rule" s_apart_rule []) : Ca P w K mg base "apart_rule" 1 [] (sp_apart_rule mg) := by
  obtain ⟨c_MORE, g_MORE, kt_MORE⟩ := nb.t_MORE
  obtain ⟨c_MORE_MORE, g_MORE_MORE, kt_MORE_MORE⟩ := nb.t_MORE_MORE
  obtain ⟨c_ONE, g_ONE, kt_ONE⟩ := nb.t_ONE
  obtain ⟨c_SO, g_SO, kt_SO⟩ := nb.t_SO
  obtain ⟨c_SO_MORE, g_SO_MORE, kt_SO_MORE⟩ := nb.t_SO_MORE
  refine Ca.mk' D sc_apart_rule (fun vs H Q E h => ?_) (fun q_ f_ cdv A outer s H vs Q E hr h => ?_)
  · obtain ⟨F, rfl, _⟩ := h
    rfl
  · obtain ⟨F, rfl, P0, hk⟩ := h
    have nd := sc_apart_rule.nd
    have hu64 := hr.units
    have hu128 := hu128_of hr
    have O := P0.start
    refine ⟨_, (pss_cons (ps_toN (ps_set (i := 0) nd rfl (Or.inl rfl) (pe_lst (pa_cons (pe_tup (pa_cons pe_str (pa_cons (C8.pe_gc (v := .ref c_SO) (by rfl) ⟨_, g_SO, rfl⟩) (pa_cons (C8.pe_gc (v := .ref c_MORE_MORE) (by rfl) ⟨_, g_MORE_MORE, rfl⟩) pa_nil)))) (pa_cons (pe_tup (pa_cons pe_str (pa_cons (C8.pe_gc (v := .ref c_SO_MORE) (by rfl) ⟨_, g_SO_MORE, rfl⟩) (pa_cons (pe_tup (pa_cons pe_str (pa_cons (C8.pe_gc (v := .ref c_MORE) (by rfl) ⟨_, g_MORE, rfl⟩) (pa_cons (C8.pe_gc (v := .ref c_MORE_MORE) (by rfl) ⟨_, g_MORE_MORE, rfl⟩) pa_nil)))) pa_nil)))) pa_nil)))))
  (pss_one (ps_ret (pe_tup (pa_cons (pe_lst (pa_cons (C8.pe_gc (v := .ref c_ONE) (by rfl) ⟨_, g_ONE, rfl⟩) (pa_cons (C8.pe_gc (v := .ref c_ONE) (by rfl) ⟨_, g_ONE, rfl⟩) pa_nil))) (pa_cons (pe_lst (pa_cons (C8.pe_gc (v := .ref c_MORE) (by rfl) ⟨_, g_MORE, rfl⟩) (pa_cons (C8.pe_gc (v := .ref c_MORE_MORE) (by rfl) ⟨_, g_MORE_MORE, rfl⟩) pa_nil))) (pa_cons (pv 0) (pa_cons (pe_tup (pa_cons pe_str (pa_cons (C8.pe_gc (v := .ref c_SO) (by rfl) ⟨_, g_SO, rfl⟩) (pa_cons (C8.pe_gc (v := .ref c_SO_MORE) (by rfl) ⟨_, g_SO_MORE, rfl⟩) pa_nil)))) pa_nil)))))))), ?_⟩
    have r1 := R.k_num (F := F) kt_SO
    have r2 := R.k_num (F := F) kt_MORE_MORE
    refine ⟨(by show 3 ≤ sizeLine; decide), fun p3 hp4 => ?_⟩
    obtain ⟨F5, O6, S7, h8⟩ := O.putE hp4 (.tup [V.str ("times" : Str), V.ref c_SO, V.ref c_MORE_MORE])
    have r1 := r1.mono S7
    have r2 := r2.mono S7
    have h9 : R (a := (T3 Str Sm Sm)) F5 (.ref p3) (T3.mk ("times" : Str) (Sm.num ("so" : Str) (0 : Int)) (Sm.num ("more" : Str) (1 : Int))) := R.t3 h8 R.str r1 r2
    have r10 := R.k_num (F := F5) kt_SO_MORE
    have r11 := R.k_num (F := F5) kt_MORE
    have r12 := R.k_num (F := F5) kt_MORE_MORE
    refine ⟨(by show 3 ≤ sizeLine; decide), fun p13 hp14 => ?_⟩
    obtain ⟨F15, O16, S17, h18⟩ := O6.putE hp14 (.tup [V.str ("plus" : Str), V.ref c_MORE, V.ref c_MORE_MORE])
    have r1 := r1.mono S17
    have r2 := r2.mono S17
    have h9 := h9.mono S17
    have r10 := r10.mono S17
    have r11 := r11.mono S17
    have r12 := r12.mono S17
    have h19 : R (a := (T3 Str Sm Sm)) F15 (.ref p13) (T3.mk ("plus" : Str) (Sm.num ("more" : Str) (0 : Int)) (Sm.num ("more" : Str) (1 : Int))) := R.t3 h18 R.str r11 r12
    refine ⟨(by show 3 ≤ sizeLine; decide), fun p20 hp21 => ?_⟩
    have h27 := (R.of_two h19)
    obtain ⟨F22, O23, S24, h25⟩ := O16.putE hp21 (.tup [V.str ("times" : Str), V.ref c_SO_MORE, V.ref p13])
    have r1 := r1.mono S24
    have r2 := r2.mono S24
    have h9 := h9.mono S24
    have r10 := r10.mono S24
    have r11 := r11.mono S24
    have r12 := r12.mono S24
    have h19 := h19.mono S24
    have h27 := h27.mono S24
    have h26 : R (a := (T3 Str Sm Sm)) F22 (.ref p20) (T3.mk ("times" : Str) (Sm.num ("so" : Str) (1 : Int)) (Sm.two ("plus" : Str) (Sm.num ("more" : Str) (0 : Int)) (Sm.num ("more" : Str) (1 : Int)))) := R.t3 h25 R.str r10 h27
    refine ⟨(by show 2 ≤ sizeLine; decide), fun p28 hp29 => ?_⟩
    have hl35 : RL (a := Sm) F22 ([V.ref p3, V.ref p20]) ([(Sm.two ("times" : Str) (Sm.num ("so" : Str) (0 : Int)) (Sm.num ("more" : Str) (1 : Int))), (Sm.two ("times" : Str) (Sm.num ("so" : Str) (1 : Int)) (Sm.two ("plus" : Str) (Sm.num ("more" : Str) (0 : Int)) (Sm.num ("more" : Str) (1 : Int))))]) := RL.cons (R.of_two h9) (RL.cons (R.of_two h26) RL.nil)
    obtain ⟨F30, O31, S32, h33⟩ := O23.putE hp29 (.lst ([V.ref p3, V.ref p20]))
    have r1 := r1.mono S32
    have r2 := r2.mono S32
    have h9 := h9.mono S32
    have r10 := r10.mono S32
    have r11 := r11.mono S32
    have r12 := r12.mono S32
    have h19 := h19.mono S32
    have h27 := h27.mono S32
    have h26 := h26.mono S32
    have hl35 := hl35.mono S32
    have h34 := R.lst (a := Sm) h33 hl35
    have r36 := R.k_num (F := F30) kt_ONE
    have r37 := R.k_num (F := F30) kt_ONE
    refine ⟨[some (V.ref p28)], rfl, (by show 2 ≤ sizeLine; decide), fun p38 hp39 => ?_⟩
    have hl45 : RL (a := Sm) F30 ([V.ref c_ONE, V.ref c_ONE]) ([(Sm.num ("number" : Str) (1 : Int)), (Sm.num ("number" : Str) (1 : Int))]) := RL.cons r36 (RL.cons r37 RL.nil)
    obtain ⟨F40, O41, S42, h43⟩ := O31.putE hp39 (.lst ([V.ref c_ONE, V.ref c_ONE]))
    have r1 := r1.mono S42
    have r2 := r2.mono S42
    have h9 := h9.mono S42
    have r10 := r10.mono S42
    have r11 := r11.mono S42
    have r12 := r12.mono S42
    have h19 := h19.mono S42
    have h27 := h27.mono S42
    have h26 := h26.mono S42
    have h34 := h34.mono S42
    have r36 := r36.mono S42
    have r37 := r37.mono S42
    have hl45 := hl45.mono S42
    have h44 := R.lst (a := Sm) h43 hl45
    have r46 := R.k_num (F := F40) kt_MORE
    have r47 := R.k_num (F := F40) kt_MORE_MORE
    refine ⟨(by show 2 ≤ sizeLine; decide), fun p48 hp49 => ?_⟩
    have hl55 : RL (a := Sm) F40 ([V.ref c_MORE, V.ref c_MORE_MORE]) ([(Sm.num ("more" : Str) (0 : Int)), (Sm.num ("more" : Str) (1 : Int))]) := RL.cons r46 (RL.cons r47 RL.nil)
    obtain ⟨F50, O51, S52, h53⟩ := O41.putE hp49 (.lst ([V.ref c_MORE, V.ref c_MORE_MORE]))
    have r1 := r1.mono S52
    have r2 := r2.mono S52
    have h9 := h9.mono S52
    have r10 := r10.mono S52
    have r11 := r11.mono S52
    have r12 := r12.mono S52
    have h19 := h19.mono S52
    have h27 := h27.mono S52
    have h26 := h26.mono S52
    have h34 := h34.mono S52
    have r36 := r36.mono S52
    have r37 := r37.mono S52
    have h44 := h44.mono S52
    have r46 := r46.mono S52
    have r47 := r47.mono S52
    have hl55 := hl55.mono S52
    have h54 := R.lst (a := Sm) h53 hl55
    have r56 := R.k_num (F := F50) kt_SO
    have r57 := R.k_num (F := F50) kt_SO_MORE
    refine ⟨_, rfl, (by show 3 ≤ sizeLine; decide), fun p58 hp59 => ?_⟩
    obtain ⟨F60, O61, S62, h63⟩ := O51.putE hp59 (.tup [V.str ("plus" : Str), V.ref c_SO, V.ref c_SO_MORE])
    have r1 := r1.mono S62
    have r2 := r2.mono S62
    have h9 := h9.mono S62
    have r10 := r10.mono S62
    have r11 := r11.mono S62
    have r12 := r12.mono S62
    have h19 := h19.mono S62
    have h27 := h27.mono S62
    have h26 := h26.mono S62
    have h34 := h34.mono S62
    have r36 := r36.mono S62
    have r37 := r37.mono S62
    have h44 := h44.mono S62
    have r46 := r46.mono S62
    have r47 := r47.mono S62
    have h54 := h54.mono S62
    have r56 := r56.mono S62
    have r57 := r57.mono S62
    have h64 : R (a := (T3 Str Sm Sm)) F60 (.ref p58) (T3.mk ("plus" : Str) (Sm.num ("so" : Str) (0 : Int)) (Sm.num ("so" : Str) (1 : Int))) := R.t3 h63 R.str r56 r57
    refine ⟨(by show 4 ≤ sizeLine; decide), fun p65 hp66 => ?_⟩
    have h72 := (R.of_two h64)
    obtain ⟨F67, O68, S69, h70⟩ := O61.putE hp66 (.tup [V.ref p38, V.ref p48, V.ref p28, V.ref p58])
    have r1 := r1.mono S69
    have r2 := r2.mono S69
    have h9 := h9.mono S69
    have r10 := r10.mono S69
    have r11 := r11.mono S69
    have r12 := r12.mono S69
    have h19 := h19.mono S69
    have h27 := h27.mono S69
    have h26 := h26.mono S69
    have h34 := h34.mono S69
    have r36 := r36.mono S69
    have r37 := r37.mono S69
    have h44 := h44.mono S69
    have r46 := r46.mono S69
    have r47 := r47.mono S69
    have h54 := h54.mono S69
    have r56 := r56.mono S69
    have r57 := r57.mono S69
    have h64 := h64.mono S69
    have h72 := h72.mono S69
    have h71 : R (a := (T4 (List Sm) (List Sm) (List Sm) Sm)) F67 (.ref p65) (T4.mk ([(Sm.num ("number" : Str) (1 : Int)), (Sm.num ("number" : Str) (1 : Int))]) ([(Sm.num ("more" : Str) (0 : Int)), (Sm.num ("more" : Str) (1 : Int))]) ([(Sm.two ("times" : Str) (Sm.num ("so" : Str) (0 : Int)) (Sm.num ("more" : Str) (1 : Int))), (Sm.two ("times" : Str) (Sm.num ("so" : Str) (1 : Int)) (Sm.two ("plus" : Str) (Sm.num ("more" : Str) (0 : Int)) (Sm.num ("more" : Str) (1 : Int))))]) (Sm.two ("plus" : Str) (Sm.num ("so" : Str) (0 : Int)) (Sm.num ("so" : Str) (1 : Int)))) := R.t4 h70 h44 h54 h34 h72
    exact hk _ _  O68.g  _ h71
abbrev s_best_rule : Stmt := top 16
theorem sc_best_rule : FnScope ["join"] [] (defScope s_best_rule) := ⟨rfl, rfl, rfl, by decide +kernel, rfl, by decide +kernel, by decide +kernel⟩
def m_best_rule  : M ((T4 (List Sm) (List Sm) (List Sm) Sm)) :=
.ok (T4.mk ([(Sm.nam ("own" : Str)), (Sm.num ("number" : Str) (0 : Int))]) ([(Sm.num ("more" : Str) (0 : Int)), (Sm.num ("more" : Str) (1 : Int))]) ([(Sm.two ("plus" : Str) (Sm.num ("so" : Str) (0 : Int)) (Sm.num ("more" : Str) (1 : Int))), (Sm.two ("plus" : Str) (Sm.num ("so" : Str) (1 : Int)) (Sm.two ("most" : Str) (Sm.num ("more" : Str) (0 : Int)) (Sm.num ("more" : Str) (1 : Int))))]) (Sm.two ("most" : Str) (Sm.num ("so" : Str) (0 : Int)) (Sm.num ("so" : Str) (1 : Int))))
def sp_best_rule (mg : Str → Option Value) : Sp := fun vs H Q E => ∃ (F : Hp), vs = [] ∧ Pre F [] H ∧
  wp (m_best_rule ) (fun r => ∀ (F' H' : Hp), Gr [] F H F' H' → ∀ v : V, R (a := (T4 (List Sm) (List Sm) (List Sm) Sm)) F' v r → Q v H')
  (fun n => ∀ (C : Addr) (H' : Hp), mg (Str.ofString n) = some (.ref C) → Kp [] H H' → E (.ref C) none H')
set_option maxHeartbeats 20000000 in
theorem ok_best_rule (nb : Nb mg) (D : Df K mg "best_rule" "best_rule" s_best_rule []) : Ca P w K mg base "best_rule" 1 [] (sp_best_rule mg) := by
  obtain ⟨c_MORE, g_MORE, kt_MORE⟩ := nb.t_MORE
  obtain ⟨c_MORE_MORE, g_MORE_MORE, kt_MORE_MORE⟩ := nb.t_MORE_MORE
  obtain ⟨c_NOUGHT, g_NOUGHT, kt_NOUGHT⟩ := nb.t_NOUGHT
  obtain ⟨c_OWN, g_OWN, kt_OWN⟩ := nb.t_OWN
  obtain ⟨c_SO, g_SO, kt_SO⟩ := nb.t_SO
  obtain ⟨c_SO_MORE, g_SO_MORE, kt_SO_MORE⟩ := nb.t_SO_MORE
  refine Ca.mk' D sc_best_rule (fun vs H Q E h => ?_) (fun q_ f_ cdv A outer s H vs Q E hr h => ?_)
  · obtain ⟨F, rfl, _⟩ := h
    rfl
  · obtain ⟨F, rfl, P0, hk⟩ := h
    have nd := sc_best_rule.nd
    have hu64 := hr.units
    have hu128 := hu128_of hr
    have O := P0.start
    refine ⟨_, (pss_cons (ps_toN (ps_set (i := 0) nd rfl (Or.inl rfl) (pe_lst (pa_cons (pe_tup (pa_cons pe_str (pa_cons (C8.pe_gc (v := .ref c_SO) (by rfl) ⟨_, g_SO, rfl⟩) (pa_cons (C8.pe_gc (v := .ref c_MORE_MORE) (by rfl) ⟨_, g_MORE_MORE, rfl⟩) pa_nil)))) (pa_cons (pe_tup (pa_cons pe_str (pa_cons (C8.pe_gc (v := .ref c_SO_MORE) (by rfl) ⟨_, g_SO_MORE, rfl⟩) (pa_cons (pe_tup (pa_cons pe_str (pa_cons (C8.pe_gc (v := .ref c_MORE) (by rfl) ⟨_, g_MORE, rfl⟩) (pa_cons (C8.pe_gc (v := .ref c_MORE_MORE) (by rfl) ⟨_, g_MORE_MORE, rfl⟩) pa_nil)))) pa_nil)))) pa_nil)))))
  (pss_one (ps_ret (pe_tup (pa_cons (pe_lst (pa_cons (C8.pe_gc (v := .ref c_OWN) (by rfl) ⟨_, g_OWN, rfl⟩) (pa_cons (C8.pe_gc (v := .ref c_NOUGHT) (by rfl) ⟨_, g_NOUGHT, rfl⟩) pa_nil))) (pa_cons (pe_lst (pa_cons (C8.pe_gc (v := .ref c_MORE) (by rfl) ⟨_, g_MORE, rfl⟩) (pa_cons (C8.pe_gc (v := .ref c_MORE_MORE) (by rfl) ⟨_, g_MORE_MORE, rfl⟩) pa_nil))) (pa_cons (pv 0) (pa_cons (pe_tup (pa_cons pe_str (pa_cons (C8.pe_gc (v := .ref c_SO) (by rfl) ⟨_, g_SO, rfl⟩) (pa_cons (C8.pe_gc (v := .ref c_SO_MORE) (by rfl) ⟨_, g_SO_MORE, rfl⟩) pa_nil)))) pa_nil)))))))), ?_⟩
    have r1 := R.k_num (F := F) kt_SO
    have r2 := R.k_num (F := F) kt_MORE_MORE
    refine ⟨(by show 3 ≤ sizeLine; decide), fun p3 hp4 => ?_⟩
    obtain ⟨F5, O6, S7, h8⟩ := O.putE hp4 (.tup [V.str ("plus" : Str), V.ref c_SO, V.ref c_MORE_MORE])
    have r1 := r1.mono S7
    have r2 := r2.mono S7
    have h9 : R (a := (T3 Str Sm Sm)) F5 (.ref p3) (T3.mk ("plus" : Str) (Sm.num ("so" : Str) (0 : Int)) (Sm.num ("more" : Str) (1 : Int))) := R.t3 h8 R.str r1 r2
    have r10 := R.k_num (F := F5) kt_SO_MORE
    have r11 := R.k_num (F := F5) kt_MORE
    have r12 := R.k_num (F := F5) kt_MORE_MORE
    refine ⟨(by show 3 ≤ sizeLine; decide), fun p13 hp14 => ?_⟩
    obtain ⟨F15, O16, S17, h18⟩ := O6.putE hp14 (.tup [V.str ("most" : Str), V.ref c_MORE, V.ref c_MORE_MORE])
    have r1 := r1.mono S17
    have r2 := r2.mono S17
    have h9 := h9.mono S17
    have r10 := r10.mono S17
    have r11 := r11.mono S17
    have r12 := r12.mono S17
    have h19 : R (a := (T3 Str Sm Sm)) F15 (.ref p13) (T3.mk ("most" : Str) (Sm.num ("more" : Str) (0 : Int)) (Sm.num ("more" : Str) (1 : Int))) := R.t3 h18 R.str r11 r12
    refine ⟨(by show 3 ≤ sizeLine; decide), fun p20 hp21 => ?_⟩
    have h27 := (R.of_two h19)
    obtain ⟨F22, O23, S24, h25⟩ := O16.putE hp21 (.tup [V.str ("plus" : Str), V.ref c_SO_MORE, V.ref p13])
    have r1 := r1.mono S24
    have r2 := r2.mono S24
    have h9 := h9.mono S24
    have r10 := r10.mono S24
    have r11 := r11.mono S24
    have r12 := r12.mono S24
    have h19 := h19.mono S24
    have h27 := h27.mono S24
    have h26 : R (a := (T3 Str Sm Sm)) F22 (.ref p20) (T3.mk ("plus" : Str) (Sm.num ("so" : Str) (1 : Int)) (Sm.two ("most" : Str) (Sm.num ("more" : Str) (0 : Int)) (Sm.num ("more" : Str) (1 : Int)))) := R.t3 h25 R.str r10 h27
    refine ⟨(by show 2 ≤ sizeLine; decide), fun p28 hp29 => ?_⟩
    have hl35 : RL (a := Sm) F22 ([V.ref p3, V.ref p20]) ([(Sm.two ("plus" : Str) (Sm.num ("so" : Str) (0 : Int)) (Sm.num ("more" : Str) (1 : Int))), (Sm.two ("plus" : Str) (Sm.num ("so" : Str) (1 : Int)) (Sm.two ("most" : Str) (Sm.num ("more" : Str) (0 : Int)) (Sm.num ("more" : Str) (1 : Int))))]) := RL.cons (R.of_two h9) (RL.cons (R.of_two h26) RL.nil)
    obtain ⟨F30, O31, S32, h33⟩ := O23.putE hp29 (.lst ([V.ref p3, V.ref p20]))
    have r1 := r1.mono S32
    have r2 := r2.mono S32
    have h9 := h9.mono S32
    have r10 := r10.mono S32
    have r11 := r11.mono S32
    have r12 := r12.mono S32
    have h19 := h19.mono S32
    have h27 := h27.mono S32
    have h26 := h26.mono S32
    have hl35 := hl35.mono S32
    have h34 := R.lst (a := Sm) h33 hl35
    have r36 := R.k_nam (F := F30) kt_OWN
    have r37 := R.k_num (F := F30) kt_NOUGHT
    refine ⟨[some (V.ref p28)], rfl, (by show 2 ≤ sizeLine; decide), fun p38 hp39 => ?_⟩
    have hl45 : RL (a := Sm) F30 ([V.ref c_OWN, V.ref c_NOUGHT]) ([(Sm.nam ("own" : Str)), (Sm.num ("number" : Str) (0 : Int))]) := RL.cons r36 (RL.cons r37 RL.nil)
    obtain ⟨F40, O41, S42, h43⟩ := O31.putE hp39 (.lst ([V.ref c_OWN, V.ref c_NOUGHT]))
    have r1 := r1.mono S42
    have r2 := r2.mono S42
    have h9 := h9.mono S42
    have r10 := r10.mono S42
    have r11 := r11.mono S42
    have r12 := r12.mono S42
    have h19 := h19.mono S42
    have h27 := h27.mono S42
    have h26 := h26.mono S42
    have h34 := h34.mono S42
    have r36 := r36.mono S42
    have r37 := r37.mono S42
    have hl45 := hl45.mono S42
    have h44 := R.lst (a := Sm) h43 hl45
    have r46 := R.k_num (F := F40) kt_MORE
    have r47 := R.k_num (F := F40) kt_MORE_MORE
    refine ⟨(by show 2 ≤ sizeLine; decide), fun p48 hp49 => ?_⟩
    have hl55 : RL (a := Sm) F40 ([V.ref c_MORE, V.ref c_MORE_MORE]) ([(Sm.num ("more" : Str) (0 : Int)), (Sm.num ("more" : Str) (1 : Int))]) := RL.cons r46 (RL.cons r47 RL.nil)
    obtain ⟨F50, O51, S52, h53⟩ := O41.putE hp49 (.lst ([V.ref c_MORE, V.ref c_MORE_MORE]))
    have r1 := r1.mono S52
    have r2 := r2.mono S52
    have h9 := h9.mono S52
    have r10 := r10.mono S52
    have r11 := r11.mono S52
    have r12 := r12.mono S52
    have h19 := h19.mono S52
    have h27 := h27.mono S52
    have h26 := h26.mono S52
    have h34 := h34.mono S52
    have r36 := r36.mono S52
    have r37 := r37.mono S52
    have h44 := h44.mono S52
    have r46 := r46.mono S52
    have r47 := r47.mono S52
    have hl55 := hl55.mono S52
    have h54 := R.lst (a := Sm) h53 hl55
    have r56 := R.k_num (F := F50) kt_SO
    have r57 := R.k_num (F := F50) kt_SO_MORE
    refine ⟨_, rfl, (by show 3 ≤ sizeLine; decide), fun p58 hp59 => ?_⟩
    obtain ⟨F60, O61, S62, h63⟩ := O51.putE hp59 (.tup [V.str ("most" : Str), V.ref c_SO, V.ref c_SO_MORE])
    have r1 := r1.mono S62
    have r2 := r2.mono S62
    have h9 := h9.mono S62
    have r10 := r10.mono S62
    have r11 := r11.mono S62
    have r12 := r12.mono S62
    have h19 := h19.mono S62
    have h27 := h27.mono S62
    have h26 := h26.mono S62
    have h34 := h34.mono S62
    have r36 := r36.mono S62
    have r37 := r37.mono S62
    have h44 := h44.mono S62
    have r46 := r46.mono S62
    have r47 := r47.mono S62
    have h54 := h54.mono S62
    have r56 := r56.mono S62
    have r57 := r57.mono S62
    have h64 : R (a := (T3 Str Sm Sm)) F60 (.ref p58) (T3.mk ("most" : Str) (Sm.num ("so" : Str) (0 : Int)) (Sm.num ("so" : Str) (1 : Int))) := R.t3 h63 R.str r56 r57
    refine ⟨(by show 4 ≤ sizeLine; decide), fun p65 hp66 => ?_⟩
    have h72 := (R.of_two h64)
    obtain ⟨F67, O68, S69, h70⟩ := O61.putE hp66 (.tup [V.ref p38, V.ref p48, V.ref p28, V.ref p58])
    have r1 := r1.mono S69
    have r2 := r2.mono S69
    have h9 := h9.mono S69
    have r10 := r10.mono S69
    have r11 := r11.mono S69
    have r12 := r12.mono S69
    have h19 := h19.mono S69
    have h27 := h27.mono S69
    have h26 := h26.mono S69
    have h34 := h34.mono S69
    have r36 := r36.mono S69
    have r37 := r37.mono S69
    have h44 := h44.mono S69
    have r46 := r46.mono S69
    have r47 := r47.mono S69
    have h54 := h54.mono S69
    have r56 := r56.mono S69
    have r57 := r57.mono S69
    have h64 := h64.mono S69
    have h72 := h72.mono S69
    have h71 : R (a := (T4 (List Sm) (List Sm) (List Sm) Sm)) F67 (.ref p65) (T4.mk ([(Sm.nam ("own" : Str)), (Sm.num ("number" : Str) (0 : Int))]) ([(Sm.num ("more" : Str) (0 : Int)), (Sm.num ("more" : Str) (1 : Int))]) ([(Sm.two ("plus" : Str) (Sm.num ("so" : Str) (0 : Int)) (Sm.num ("more" : Str) (1 : Int))), (Sm.two ("plus" : Str) (Sm.num ("so" : Str) (1 : Int)) (Sm.two ("most" : Str) (Sm.num ("more" : Str) (0 : Int)) (Sm.num ("more" : Str) (1 : Int))))]) (Sm.two ("most" : Str) (Sm.num ("so" : Str) (0 : Int)) (Sm.num ("so" : Str) (1 : Int)))) := R.t4 h70 h44 h54 h34 h72
    exact hk _ _  O68.g  _ h71
abbrev s_piece_rule : Stmt := top 17
theorem sc_piece_rule : FnScope [] [] (defScope s_piece_rule) := ⟨rfl, rfl, rfl, by decide +kernel, rfl, by decide +kernel, by decide +kernel⟩
def m_piece_rule  : M ((T4 (List Sm) (List Sm) (List Sm) Sm)) :=
.ok (T4.mk ([(Sm.nam ("own" : Str))]) ([(Sm.two ("most" : Str) (Sm.num ("number" : Str) (0 : Int)) (Sm.num ("more" : Str) (0 : Int)))]) ([(Sm.two ("plus" : Str) (Sm.num ("so" : Str) (0 : Int)) (Sm.num ("more" : Str) (0 : Int)))]) (Sm.num ("so" : Str) (0 : Int)))
def sp_piece_rule (mg : Str → Option Value) : Sp := fun vs H Q E => ∃ (F : Hp), vs = [] ∧ Pre F [] H ∧
  wp (m_piece_rule ) (fun r => ∀ (F' H' : Hp), Gr [] F H F' H' → ∀ v : V, R (a := (T4 (List Sm) (List Sm) (List Sm) Sm)) F' v r → Q v H')
  (fun n => ∀ (C : Addr) (H' : Hp), mg (Str.ofString n) = some (.ref C) → Kp [] H H' → E (.ref C) none H')
set_option maxHeartbeats 20000000 in
theorem ok_piece_rule (nb : Nb mg) (D : Df K mg "piece_rule" "piece_rule" s_piece_rule []) : Ca P w K mg base "piece_rule" 1 [] (sp_piece_rule mg) := by
  obtain ⟨c_MORE, g_MORE, kt_MORE⟩ := nb.t_MORE
  obtain ⟨c_NOUGHT, g_NOUGHT, kt_NOUGHT⟩ := nb.t_NOUGHT
  obtain ⟨c_OWN, g_OWN, kt_OWN⟩ := nb.t_OWN
  obtain ⟨c_SO, g_SO, kt_SO⟩ := nb.t_SO
  refine Ca.mk' D sc_piece_rule (fun vs H Q E h => ?_) (fun q_ f_ cdv A outer s H vs Q E hr h => ?_)
  · obtain ⟨F, rfl, _⟩ := h
    rfl
  · obtain ⟨F, rfl, P0, hk⟩ := h
    have nd := sc_piece_rule.nd
    have hu64 := hr.units
    have hu128 := hu128_of hr
    have O := P0.start
    refine ⟨_, (pss_one (ps_ret (pe_tup (pa_cons (pe_lst (pa_cons (C8.pe_gc (v := .ref c_OWN) (by rfl) ⟨_, g_OWN, rfl⟩) pa_nil)) (pa_cons (pe_lst (pa_cons (pe_tup (pa_cons pe_str (pa_cons (C8.pe_gc (v := .ref c_NOUGHT) (by rfl) ⟨_, g_NOUGHT, rfl⟩) (pa_cons (C8.pe_gc (v := .ref c_MORE) (by rfl) ⟨_, g_MORE, rfl⟩) pa_nil)))) pa_nil)) (pa_cons (pe_lst (pa_cons (pe_tup (pa_cons pe_str (pa_cons (C8.pe_gc (v := .ref c_SO) (by rfl) ⟨_, g_SO, rfl⟩) (pa_cons (C8.pe_gc (v := .ref c_MORE) (by rfl) ⟨_, g_MORE, rfl⟩) pa_nil)))) pa_nil)) (pa_cons (C8.pe_gc (v := .ref c_SO) (by rfl) ⟨_, g_SO, rfl⟩) pa_nil))))))), ?_⟩
    have r1 := R.k_nam (F := F) kt_OWN
    refine ⟨(by show 1 ≤ sizeLine; decide), fun p2 hp3 => ?_⟩
    have hl9 : RL (a := Sm) F ([V.ref c_OWN]) ([(Sm.nam ("own" : Str))]) := RL.cons r1 RL.nil
    obtain ⟨F4, O5, S6, h7⟩ := O.putE hp3 (.lst ([V.ref c_OWN]))
    have r1 := r1.mono S6
    have hl9 := hl9.mono S6
    have h8 := R.lst (a := Sm) h7 hl9
    have r10 := R.k_num (F := F4) kt_NOUGHT
    have r11 := R.k_num (F := F4) kt_MORE
    refine ⟨(by show 3 ≤ sizeLine; decide), fun p12 hp13 => ?_⟩
    obtain ⟨F14, O15, S16, h17⟩ := O5.putE hp13 (.tup [V.str ("most" : Str), V.ref c_NOUGHT, V.ref c_MORE])
    have r1 := r1.mono S16
    have h8 := h8.mono S16
    have r10 := r10.mono S16
    have r11 := r11.mono S16
    have h18 : R (a := (T3 Str Sm Sm)) F14 (.ref p12) (T3.mk ("most" : Str) (Sm.num ("number" : Str) (0 : Int)) (Sm.num ("more" : Str) (0 : Int))) := R.t3 h17 R.str r10 r11
    refine ⟨(by show 1 ≤ sizeLine; decide), fun p19 hp20 => ?_⟩
    have hl26 : RL (a := Sm) F14 ([V.ref p12]) ([(Sm.two ("most" : Str) (Sm.num ("number" : Str) (0 : Int)) (Sm.num ("more" : Str) (0 : Int)))]) := RL.cons (R.of_two h18) RL.nil
    obtain ⟨F21, O22, S23, h24⟩ := O15.putE hp20 (.lst ([V.ref p12]))
    have r1 := r1.mono S23
    have h8 := h8.mono S23
    have r10 := r10.mono S23
    have r11 := r11.mono S23
    have h18 := h18.mono S23
    have hl26 := hl26.mono S23
    have h25 := R.lst (a := Sm) h24 hl26
    have r27 := R.k_num (F := F21) kt_SO
    have r28 := R.k_num (F := F21) kt_MORE
    refine ⟨(by show 3 ≤ sizeLine; decide), fun p29 hp30 => ?_⟩
    obtain ⟨F31, O32, S33, h34⟩ := O22.putE hp30 (.tup [V.str ("plus" : Str), V.ref c_SO, V.ref c_MORE])
    have r1 := r1.mono S33
    have h8 := h8.mono S33
    have r10 := r10.mono S33
    have r11 := r11.mono S33
    have h18 := h18.mono S33
    have h25 := h25.mono S33
    have r27 := r27.mono S33
    have r28 := r28.mono S33
    have h35 : R (a := (T3 Str Sm Sm)) F31 (.ref p29) (T3.mk ("plus" : Str) (Sm.num ("so" : Str) (0 : Int)) (Sm.num ("more" : Str) (0 : Int))) := R.t3 h34 R.str r27 r28
    refine ⟨(by show 1 ≤ sizeLine; decide), fun p36 hp37 => ?_⟩
    have hl43 : RL (a := Sm) F31 ([V.ref p29]) ([(Sm.two ("plus" : Str) (Sm.num ("so" : Str) (0 : Int)) (Sm.num ("more" : Str) (0 : Int)))]) := RL.cons (R.of_two h35) RL.nil
    obtain ⟨F38, O39, S40, h41⟩ := O32.putE hp37 (.lst ([V.ref p29]))
    have r1 := r1.mono S40
    have h8 := h8.mono S40
    have r10 := r10.mono S40
    have r11 := r11.mono S40
    have h18 := h18.mono S40
    have h25 := h25.mono S40
    have r27 := r27.mono S40
    have r28 := r28.mono S40
    have h35 := h35.mono S40
    have hl43 := hl43.mono S40
    have h42 := R.lst (a := Sm) h41 hl43
    have r44 := R.k_num (F := F38) kt_SO
    refine ⟨(by show 4 ≤ sizeLine; decide), fun p45 hp46 => ?_⟩
    obtain ⟨F47, O48, S49, h50⟩ := O39.putE hp46 (.tup [V.ref p2, V.ref p19, V.ref p36, V.ref c_SO])
    have r1 := r1.mono S49
    have h8 := h8.mono S49
    have r10 := r10.mono S49
    have r11 := r11.mono S49
    have h18 := h18.mono S49
    have h25 := h25.mono S49
    have r27 := r27.mono S49
    have r28 := r28.mono S49
    have h35 := h35.mono S49
    have h42 := h42.mono S49
    have r44 := r44.mono S49
    have h51 : R (a := (T4 (List Sm) (List Sm) (List Sm) Sm)) F47 (.ref p45) (T4.mk ([(Sm.nam ("own" : Str))]) ([(Sm.two ("most" : Str) (Sm.num ("number" : Str) (0 : Int)) (Sm.num ("more" : Str) (0 : Int)))]) ([(Sm.two ("plus" : Str) (Sm.num ("so" : Str) (0 : Int)) (Sm.num ("more" : Str) (0 : Int)))]) (Sm.num ("so" : Str) (0 : Int))) := R.t4 h50 h8 h25 h42 r44
    exact hk _ _  O48.g  _ h51
abbrev s_pieces_rule : Stmt := top 18
theorem sc_pieces_rule : FnScope [] [] (defScope s_pieces_rule) := ⟨rfl, rfl, rfl, by decide +kernel, rfl, by decide +kernel, by decide +kernel⟩
def m_pieces_rule  : M ((T4 (List Sm) (List Sm) (List Sm) Sm)) :=
.ok (T4.mk ([(Sm.num ("number" : Str) (1 : Int))]) ([(Sm.two ("plus" : Str) (Sm.num ("more" : Str) (0 : Int)) (Sm.num ("number" : Str) (1 : Int)))]) ([(Sm.two ("times" : Str) (Sm.num ("so" : Str) (0 : Int)) (Sm.num ("more" : Str) (0 : Int)))]) (Sm.num ("so" : Str) (0 : Int)))
def sp_pieces_rule (mg : Str → Option Value) : Sp := fun vs H Q E => ∃ (F : Hp), vs = [] ∧ Pre F [] H ∧
  wp (m_pieces_rule ) (fun r => ∀ (F' H' : Hp), Gr [] F H F' H' → ∀ v : V, R (a := (T4 (List Sm) (List Sm) (List Sm) Sm)) F' v r → Q v H')
  (fun n => ∀ (C : Addr) (H' : Hp), mg (Str.ofString n) = some (.ref C) → Kp [] H H' → E (.ref C) none H')
set_option maxHeartbeats 20000000 in
theorem ok_pieces_rule (nb : Nb mg) (D : Df K mg "pieces_rule" "pieces_rule" s_pieces_rule []) : Ca P w K mg base "pieces_rule" 1 [] (sp_pieces_rule mg) := by
  obtain ⟨c_MORE, g_MORE, kt_MORE⟩ := nb.t_MORE
  obtain ⟨c_ONE, g_ONE, kt_ONE⟩ := nb.t_ONE
  obtain ⟨c_SO, g_SO, kt_SO⟩ := nb.t_SO
  refine Ca.mk' D sc_pieces_rule (fun vs H Q E h => ?_) (fun q_ f_ cdv A outer s H vs Q E hr h => ?_)
  · obtain ⟨F, rfl, _⟩ := h
    rfl
  · obtain ⟨F, rfl, P0, hk⟩ := h
    have nd := sc_pieces_rule.nd
    have hu64 := hr.units
    have hu128 := hu128_of hr
    have O := P0.start
    refine ⟨_, (pss_one (ps_ret (pe_tup (pa_cons (pe_lst (pa_cons (C8.pe_gc (v := .ref c_ONE) (by rfl) ⟨_, g_ONE, rfl⟩) pa_nil)) (pa_cons (pe_lst (pa_cons (pe_tup (pa_cons pe_str (pa_cons (C8.pe_gc (v := .ref c_MORE) (by rfl) ⟨_, g_MORE, rfl⟩) (pa_cons (C8.pe_gc (v := .ref c_ONE) (by rfl) ⟨_, g_ONE, rfl⟩) pa_nil)))) pa_nil)) (pa_cons (pe_lst (pa_cons (pe_tup (pa_cons pe_str (pa_cons (C8.pe_gc (v := .ref c_SO) (by rfl) ⟨_, g_SO, rfl⟩) (pa_cons (C8.pe_gc (v := .ref c_MORE) (by rfl) ⟨_, g_MORE, rfl⟩) pa_nil)))) pa_nil)) (pa_cons (C8.pe_gc (v := .ref c_SO) (by rfl) ⟨_, g_SO, rfl⟩) pa_nil))))))), ?_⟩
    have r1 := R.k_num (F := F) kt_ONE
    refine ⟨(by show 1 ≤ sizeLine; decide), fun p2 hp3 => ?_⟩
    have hl9 : RL (a := Sm) F ([V.ref c_ONE]) ([(Sm.num ("number" : Str) (1 : Int))]) := RL.cons r1 RL.nil
    obtain ⟨F4, O5, S6, h7⟩ := O.putE hp3 (.lst ([V.ref c_ONE]))
    have r1 := r1.mono S6
    have hl9 := hl9.mono S6
    have h8 := R.lst (a := Sm) h7 hl9
    have r10 := R.k_num (F := F4) kt_MORE
    have r11 := R.k_num (F := F4) kt_ONE
    refine ⟨(by show 3 ≤ sizeLine; decide), fun p12 hp13 => ?_⟩
    obtain ⟨F14, O15, S16, h17⟩ := O5.putE hp13 (.tup [V.str ("plus" : Str), V.ref c_MORE, V.ref c_ONE])
    have r1 := r1.mono S16
    have h8 := h8.mono S16
    have r10 := r10.mono S16
    have r11 := r11.mono S16
    have h18 : R (a := (T3 Str Sm Sm)) F14 (.ref p12) (T3.mk ("plus" : Str) (Sm.num ("more" : Str) (0 : Int)) (Sm.num ("number" : Str) (1 : Int))) := R.t3 h17 R.str r10 r11
    refine ⟨(by show 1 ≤ sizeLine; decide), fun p19 hp20 => ?_⟩
    have hl26 : RL (a := Sm) F14 ([V.ref p12]) ([(Sm.two ("plus" : Str) (Sm.num ("more" : Str) (0 : Int)) (Sm.num ("number" : Str) (1 : Int)))]) := RL.cons (R.of_two h18) RL.nil
    obtain ⟨F21, O22, S23, h24⟩ := O15.putE hp20 (.lst ([V.ref p12]))
    have r1 := r1.mono S23
    have h8 := h8.mono S23
    have r10 := r10.mono S23
    have r11 := r11.mono S23
    have h18 := h18.mono S23
    have hl26 := hl26.mono S23
    have h25 := R.lst (a := Sm) h24 hl26
    have r27 := R.k_num (F := F21) kt_SO
    have r28 := R.k_num (F := F21) kt_MORE
    refine ⟨(by show 3 ≤ sizeLine; decide), fun p29 hp30 => ?_⟩
    obtain ⟨F31, O32, S33, h34⟩ := O22.putE hp30 (.tup [V.str ("times" : Str), V.ref c_SO, V.ref c_MORE])
    have r1 := r1.mono S33
    have h8 := h8.mono S33
    have r10 := r10.mono S33
    have r11 := r11.mono S33
    have h18 := h18.mono S33
    have h25 := h25.mono S33
    have r27 := r27.mono S33
    have r28 := r28.mono S33
    have h35 : R (a := (T3 Str Sm Sm)) F31 (.ref p29) (T3.mk ("times" : Str) (Sm.num ("so" : Str) (0 : Int)) (Sm.num ("more" : Str) (0 : Int))) := R.t3 h34 R.str r27 r28
    refine ⟨(by show 1 ≤ sizeLine; decide), fun p36 hp37 => ?_⟩
    have hl43 : RL (a := Sm) F31 ([V.ref p29]) ([(Sm.two ("times" : Str) (Sm.num ("so" : Str) (0 : Int)) (Sm.num ("more" : Str) (0 : Int)))]) := RL.cons (R.of_two h35) RL.nil
    obtain ⟨F38, O39, S40, h41⟩ := O32.putE hp37 (.lst ([V.ref p29]))
    have r1 := r1.mono S40
    have h8 := h8.mono S40
    have r10 := r10.mono S40
    have r11 := r11.mono S40
    have h18 := h18.mono S40
    have h25 := h25.mono S40
    have r27 := r27.mono S40
    have r28 := r28.mono S40
    have h35 := h35.mono S40
    have hl43 := hl43.mono S40
    have h42 := R.lst (a := Sm) h41 hl43
    have r44 := R.k_num (F := F38) kt_SO
    refine ⟨(by show 4 ≤ sizeLine; decide), fun p45 hp46 => ?_⟩
    obtain ⟨F47, O48, S49, h50⟩ := O39.putE hp46 (.tup [V.ref p2, V.ref p19, V.ref p36, V.ref c_SO])
    have r1 := r1.mono S49
    have h8 := h8.mono S49
    have r10 := r10.mono S49
    have r11 := r11.mono S49
    have h18 := h18.mono S49
    have h25 := h25.mono S49
    have r27 := r27.mono S49
    have r28 := r28.mono S49
    have h35 := h35.mono S49
    have h42 := h42.mono S49
    have r44 := r44.mono S49
    have h51 : R (a := (T4 (List Sm) (List Sm) (List Sm) Sm)) F47 (.ref p45) (T4.mk ([(Sm.num ("number" : Str) (1 : Int))]) ([(Sm.two ("plus" : Str) (Sm.num ("more" : Str) (0 : Int)) (Sm.num ("number" : Str) (1 : Int)))]) ([(Sm.two ("times" : Str) (Sm.num ("so" : Str) (0 : Int)) (Sm.num ("more" : Str) (0 : Int)))]) (Sm.num ("so" : Str) (0 : Int))) := R.t4 h50 h8 h25 h42 r44
    exact hk _ _  O48.g  _ h51
abbrev s_all_rules : Stmt := top 19
theorem sc_all_rules : FnScope [] [] (defScope s_all_rules) := ⟨rfl, rfl, rfl, by decide +kernel, rfl, by decide +kernel, by decide +kernel⟩
def m_all_rules  : M ((List (Str × (T4 (List Sm) (List Sm) (List Sm) Sm)))) :=
m_farthest_rule  >>= fun r7 =>
m_sum_rule  >>= fun r15 =>
m_apart_rule  >>= fun r23 =>
m_best_rule  >>= fun r31 =>
m_piece_rule  >>= fun r39 =>
m_pieces_rule  >>= fun r47 =>
.ok (mergeDS [(("farthest" : Str), r7), (("sum" : Str), r15), (("apart" : Str), r23), (("best" : Str), r31), (("piece" : Str), r39), (("pieces" : Str), r47)])
def sp_all_rules (mg : Str → Option Value) : Sp := fun vs H Q E => ∃ (F : Hp), vs = [] ∧ Pre F [] H ∧
  wp (m_all_rules ) (fun r => ∀ (F' H' : Hp), Gr [] F H F' H' → ∀ v : V, RDv (κ := Str) (β := (T4 (List Sm) (List Sm) (List Sm) Sm)) F' v r → Q v H')
  (fun n => ∀ (C : Addr) (H' : Hp), mg (Str.ofString n) = some (.ref C) → Kp [] H H' → E (.ref C) none H')
set_option maxHeartbeats 20000000 in
theorem ok_all_rules (nb : Nb mg) (C_apart_rule : Ca P w K mg base "apart_rule" 1 [] (sp_apart_rule mg)) (C_best_rule : Ca P w K mg base "best_rule" 1 [] (sp_best_rule mg)) (C_farthest_rule : Ca P w K mg base "farthest_rule" 1 [] (sp_farthest_rule mg)) (C_piece_rule : Ca P w K mg base "piece_rule" 1 [] (sp_piece_rule mg)) (C_pieces_rule : Ca P w K mg base "pieces_rule" 1 [] (sp_pieces_rule mg)) (C_sum_rule : Ca P w K mg base "sum_rule" 1 [] (sp_sum_rule mg)) (D : Df K mg "all_rules" "all_rules" s_all_rules []) : Ca P w K mg base "all_rules" 2 [] (sp_all_rules mg) := by
  obtain ⟨fa_apart_rule, fd_apart_rule, G_apart_rule, M_apart_rule, K_apart_rule, B_apart_rule⟩ := C_apart_rule.ex
  obtain ⟨fa_best_rule, fd_best_rule, G_best_rule, M_best_rule, K_best_rule, B_best_rule⟩ := C_best_rule.ex
  obtain ⟨fa_farthest_rule, fd_farthest_rule, G_farthest_rule, M_farthest_rule, K_farthest_rule, B_farthest_rule⟩ := C_farthest_rule.ex
  obtain ⟨fa_piece_rule, fd_piece_rule, G_piece_rule, M_piece_rule, K_piece_rule, B_piece_rule⟩ := C_piece_rule.ex
  obtain ⟨fa_pieces_rule, fd_pieces_rule, G_pieces_rule, M_pieces_rule, K_pieces_rule, B_pieces_rule⟩ := C_pieces_rule.ex
  obtain ⟨fa_sum_rule, fd_sum_rule, G_sum_rule, M_sum_rule, K_sum_rule, B_sum_rule⟩ := C_sum_rule.ex
  refine Ca.mk' D sc_all_rules (fun vs H Q E h => ?_) (fun q_ f_ cdv A outer s H vs Q E hr h => ?_)
  · obtain ⟨F, rfl, _⟩ := h
    rfl
  · obtain ⟨F, rfl, P0, hk⟩ := h
    have nd := sc_all_rules.nd
    have hu64 := hr.units
    have hu128 := hu128_of hr
    have O := P0.start
    refine ⟨_, (pss_one (ps_ret (pe_disp (pps_cons pe_str (pe_call0 G_farthest_rule (hr.mono (by decide)) rfl M_farthest_rule K_farthest_rule B_farthest_rule .nil (passes_call (takes_of rfl rfl rfl rfl) fun _ _ _ _ h => h)) (pps_cons pe_str (pe_call0 G_sum_rule (hr.mono (by decide)) rfl M_sum_rule K_sum_rule B_sum_rule .nil (passes_call (takes_of rfl rfl rfl rfl) fun _ _ _ _ h => h)) (pps_cons pe_str (pe_call0 G_apart_rule (hr.mono (by decide)) rfl M_apart_rule K_apart_rule B_apart_rule .nil (passes_call (takes_of rfl rfl rfl rfl) fun _ _ _ _ h => h)) (pps_cons pe_str (pe_call0 G_best_rule (hr.mono (by decide)) rfl M_best_rule K_best_rule B_best_rule .nil (passes_call (takes_of rfl rfl rfl rfl) fun _ _ _ _ h => h)) (pps_cons pe_str (pe_call0 G_piece_rule (hr.mono (by decide)) rfl M_piece_rule K_piece_rule B_piece_rule .nil (passes_call (takes_of rfl rfl rfl rfl) fun _ _ _ _ h => h)) (pps_cons pe_str (pe_call0 G_pieces_rule (hr.mono (by decide)) rfl M_pieces_rule K_pieces_rule B_pieces_rule .nil (passes_call (takes_of rfl rfl rfl rfl) fun _ _ _ _ h => h)) pps_nil)))))) rfl rfl (fun h => nomatch h) (by show 6 ≤ 15; decide)))), ?_⟩
    refine fun p2 hp3 => ?_
    have hl5 : RD (κ := Str) (β := (T4 (List Sm) (List Sm) (List Sm) Sm)) F [] ([] : (List (Str × (T4 (List Sm) (List Sm) (List Sm) Sm)))) := RD.nil
    have z6 := O.was hp3
    have O4 := O.new (o := .dK []) hp3
    refine ⟨_, rfl, O4.pre0, wp_call hk (fun r7 er8 hk F9 H10 g11 v12 r13 => ?_) (fun n hn C H1 hC kp => hn C H1 hC (O4.kp0 kp))⟩
    have O14 := O4.call0 g11
    have S_ := g11.f
    have hl5 := hl5.mono S_
    refine ⟨_, rfl, O14.pre0, wp_call hk (fun r15 er16 hk F17 H18 g19 v20 r21 => ?_) (fun n hn C H1 hC kp => hn C H1 hC (O14.kp0 kp))⟩
    have O22 := O14.call0 g19
    have S_ := g19.f
    have hl5 := hl5.mono S_
    have r13 := r13.mono S_
    refine ⟨_, rfl, O22.pre0, wp_call hk (fun r23 er24 hk F25 H26 g27 v28 r29 => ?_) (fun n hn C H1 hC kp => hn C H1 hC (O22.kp0 kp))⟩
    have O30 := O22.call0 g27
    have S_ := g27.f
    have hl5 := hl5.mono S_
    have r13 := r13.mono S_
    have r21 := r21.mono S_
    refine ⟨_, rfl, O30.pre0, wp_call hk (fun r31 er32 hk F33 H34 g35 v36 r37 => ?_) (fun n hn C H1 hC kp => hn C H1 hC (O30.kp0 kp))⟩
    have O38 := O30.call0 g35
    have S_ := g35.f
    have hl5 := hl5.mono S_
    have r13 := r13.mono S_
    have r21 := r21.mono S_
    have r29 := r29.mono S_
    refine ⟨_, rfl, O38.pre0, wp_call hk (fun r39 er40 hk F41 H42 g43 v44 r45 => ?_) (fun n hn C H1 hC kp => hn C H1 hC (O38.kp0 kp))⟩
    have O46 := O38.call0 g43
    have S_ := g43.f
    have hl5 := hl5.mono S_
    have r13 := r13.mono S_
    have r21 := r21.mono S_
    have r29 := r29.mono S_
    have r37 := r37.mono S_
    refine ⟨_, rfl, O46.pre0, wp_call hk (fun r47 er48 hk F49 H50 g51 v52 r53 => ?_) (fun n hn C H1 hC kp => hn C H1 hC (O46.kp0 kp))⟩
    have O54 := O46.call0 g51
    have S_ := g51.f
    have hl5 := hl5.mono S_
    have r13 := r13.mono S_
    have r21 := r21.mono S_
    have r29 := r29.mono S_
    have r37 := r37.mono S_
    have r45 := r45.mono S_
    refine ⟨(O54.at 0 rfl), [(DK.kk ("farthest" : Str), v12), (DK.kk ("sum" : Str), v20), (DK.kk ("apart" : Str), v28), (DK.kk ("best" : Str), v36), (DK.kk ("piece" : Str), v44), (DK.kk ("pieces" : Str), v52)], rfl, (by show 6 ≤ 15; decide), ?_⟩
    have O55 := O54.set 0 (.dK (mergeK [] [(DK.kk ("farthest" : Str), v12), (DK.kk ("sum" : Str), v20), (DK.kk ("apart" : Str), v28), (DK.kk ("best" : Str), v36), (DK.kk ("piece" : Str), v44), (DK.kk ("pieces" : Str), v52)])) rfl
    have hl56 : RD (κ := Str) (β := (T4 (List Sm) (List Sm) (List Sm) Sm)) F49 (mergeK [] [(DK.kk ("farthest" : Str), v12), (DK.kk ("sum" : Str), v20), (DK.kk ("apart" : Str), v28), (DK.kk ("best" : Str), v36), (DK.kk ("piece" : Str), v44), (DK.kk ("pieces" : Str), v52)]) (mergeDS [(("farthest" : Str), r7), (("sum" : Str), r15), (("apart" : Str), r23), (("best" : Str), r31), (("piece" : Str), r39), (("pieces" : Str), r47)]) := merge_rdS (.cons (k := ("farthest" : Str)) r13 (.cons (k := ("sum" : Str)) r21 (.cons (k := ("apart" : Str)) r29 (.cons (k := ("best" : Str)) r37 (.cons (k := ("piece" : Str)) r45 (.cons (k := ("pieces" : Str)) r53 .nil)))))) .nil
    obtain ⟨F57, O58, S59, h60⟩ := O55.frzE 0 rfl z6
    have r13 := r13.mono S59
    have r21 := r21.mono S59
    have r29 := r29.mono S59
    have r37 := r37.mono S59
    have r45 := r45.mono S59
    have r53 := r53.mono S59
    have hl56 := hl56.mono S59
    have h61 := RDv.mk (κ := Str) (β := (T4 (List Sm) (List Sm) (List Sm) Sm)) (.inl h60) hl56
    exact hk _ _  O58.g  _ h61
abbrev s_rule_named : Stmt := top 20
theorem sc_rule_named : FnScope ["name", "found"] ["name"] (defScope s_rule_named) := ⟨rfl, rfl, rfl, by decide +kernel, rfl, by decide +kernel, by decide +kernel⟩
def m_rule_named (x_name : Str) : M ((T4 (List Sm) (List Sm) (List Sm) Sm)) :=
m_all_rules  >>= fun r1 =>
if dHas r1 x_name = true then (
opt (dGet r1 x_name) >>= fun y18 =>
.ok y18)
else (
raise "NoName")
def sp_rule_named (mg : Str → Option Value) : Sp := fun vs H Q E => ∃ (F : Hp) (x_name : Str), vs = [V.str x_name] ∧ Pre F [] H ∧
  wp (m_rule_named x_name) (fun r => ∀ (F' H' : Hp), Gr [] F H F' H' → ∀ v : V, R (a := (T4 (List Sm) (List Sm) (List Sm) Sm)) F' v r → Q v H')
  (fun n => ∀ (C : Addr) (H' : Hp), mg (Str.ofString n) = some (.ref C) → Kp [] H H' → E (.ref C) none H')
set_option maxHeartbeats 20000000 in
theorem ok_rule_named (nb : Nb mg) (C_all_rules : Ca P w K mg base "all_rules" 2 [] (sp_all_rules mg)) (E_NoName : ∃ C, Xc K mg "NoName" C) (D : Df K mg "rule_named" "rule_named" s_rule_named ["name"]) : Ca P w K mg base "rule_named" 3 ["name"] (sp_rule_named mg) := by
  obtain ⟨fa_all_rules, fd_all_rules, G_all_rules, M_all_rules, K_all_rules, B_all_rules⟩ := C_all_rules.ex
  obtain ⟨XC_NoName, X_NoName⟩ := E_NoName
  refine Ca.mk' D sc_rule_named (fun vs H Q E h => ?_) (fun q_ f_ cdv A outer s H vs Q E hr h => ?_)
  · obtain ⟨F, _, rfl, _⟩ := h
    rfl
  · obtain ⟨F, x_name, rfl, P0, hk⟩ := h
    have nd := sc_rule_named.nd
    have hu64 := hr.units
    have hu128 := hu128_of hr
    have O := P0.start
    refine ⟨_, (pss_cons (ps_toN (ps_set (i := 1) nd rfl (Or.inl rfl) (pe_call0 G_all_rules (hr.mono (by decide)) rfl M_all_rules K_all_rules B_all_rules .nil (passes_call (takes_of rfl rfl rfl rfl) fun _ _ _ _ h => h))))
  (pss_cons (ps_if (pt_cmp (pc_dnotin (u1_of hu64) (pv 0) (pv 1))) (pss_one (ps_raise rfl (takes_of rfl rfl rfl rfl) (pmk_own PySem.F.excBase_ValueError X_NoName.x X_NoName.g X_NoName.k (raises_own X_NoName.b X_NoName.t) rfl))) pss_nil)
  (pss_one (ps_ret (pe_dget (u1_of hu64) (pv 1) (pv 0) (fun _ _ => rfl)))))), ?_⟩
    refine ⟨_, rfl, O.pre0, wp_call hk (fun r1 er2 hk F3 H4 g5 v6 r7 => ?_) (fun n hn C H1 hC kp => hn C H1 hC (O.kp0 kp))⟩
    have O8 := O.call0 g5
    have S_ := g5.f
    obtain ⟨p9, w10, e11, h12, hl13⟩ := r7
    cases e11
    have h12 : Rd F3 _ (.dK w10) := h12
    have r7 := RDv.mk (κ := Str) (β := (T4 (List Sm) (List Sm) (List Sm) Sm)) h12 hl13
    obtain ⟨o14, hg15, ho16⟩ := din_S (rd_mono O8.s h12) hl13
    refine ⟨[some (V.str x_name), some (V.ref p9)], rfl, _, rfl, _, rfl, _, _, rfl, hg15, ?_⟩
    rw [ho16]
    refine ⟨_, rfl, ?_⟩
    refine iteBN (fun q17 => ?_) (fun q17 => ?_)
    · have hk := wp_if hk q17
      obtain ⟨y18, e19, hk⟩ := wp_opt hk
      obtain ⟨w20, e21, r22⟩ := RD.some hl13 (k := x_name) e19
      refine ⟨_, rfl, _, rfl, _, _, rfl, (dget_S (rd_mono O8.s h12) e21), ?_⟩
      exact hk _ _  O8.g  _ r22
    · have hk := wp_el hk q17
      exact hk _ _ X_NoName.g O8.kp
abbrev s_may_stand : Stmt := top 23
theorem sc_may_stand : FnScope ["told", "leaves", "many"] ["told", "leaves", "many"] (defScope s_may_stand) := ⟨rfl, rfl, rfl, by decide +kernel, rfl, by decide +kernel, by decide +kernel⟩
def m_may_stand : Nat → Sm → (Tp Str) → Int → M (Bool)
  | 0, _, _, _ => bad
  | k_ + 1, x_told, x_leaves, x_many =>
    if (Sm.word x_told) = ("number" : Str) then (
    .ok true)
    else (
    if (Sm.word x_told) ∈ ([(("own" : Str), ("tie" : Str)).1, (("own" : Str), ("tie" : Str)).2]) then (
    .ok (decide ((Sm.word x_told) ∈ (Tp.l x_leaves))))
    else (
    if (Sm.word x_told) ∈ ([(("so" : Str), ("more" : Str)).1, (("so" : Str), ("more" : Str)).2]) then (
    if (Sm.word x_told) ∈ (Tp.l x_leaves) then (
    opt (Sm.int? x_told) >>= fun y63 =>
    if (0 : Int) ≤ y63 then (
    .ok (decide (y63 < x_many)))
    else (
    .ok false))
    else (
    .ok false))
    else (
    opt (Sm.two? x_told) >>= fun y70 =>
    m_may_stand k_ y70.1 x_leaves x_many >>= fun r80 =>
    if r80 = true then (
    opt (Sm.two? x_told) >>= fun y87 =>
    m_may_stand k_ y87.2 x_leaves x_many >>= fun r97 =>
    .ok r97)
    else (
    .ok false))))
def sp_may_stand (k_ : Nat) (mg : Str → Option Value) : Sp := fun vs H Q E => ∃ (F : Hp) (v_told : V) (x_told : Sm) (v_leaves : V) (x_leaves : (Tp Str)) (x_many : Int), vs = [v_told, v_leaves, V.int x_many] ∧ Pre F [] H ∧ R (a := Sm) F v_told x_told ∧ R (a := (Tp Str)) F v_leaves x_leaves ∧
  wp (m_may_stand k_ x_told x_leaves x_many) (fun r => ∀ (F' H' : Hp), Gr [] F H F' H' → Q (V.bl r) H')
  (fun n => ∀ (C : Addr) (H' : Hp), mg (Str.ofString n) = some (.ref C) → Kp [] H H' → E (.ref C) none H')
set_option maxHeartbeats 20000000 in
theorem ok_may_stand (nb : Nb mg) (D : Df K mg "may_stand" "may_stand" s_may_stand ["told", "leaves", "many"]) : ∀ k_ : Nat, Ca P w K mg base "may_stand" (k_ + 1) ["told", "leaves", "many"] (sp_may_stand k_ mg) := by
  intro k_
  induction k_ with
  | zero =>
    refine Ca.mk' D sc_may_stand (fun vs H Q E h => ?_) (fun q_ f_ cdv A outer s H vs Q E hr h => ?_)
    · obtain ⟨F, _, _, _, _, _, rfl, _⟩ := h
      rfl
    · obtain ⟨F, _, _, _, _, _, rfl, _, _, _, hk⟩ := h
      exact hk.elim
  | succ k_ ih_ =>
    have C_may_stand := ih_
    obtain ⟨fa_may_stand, fd_may_stand, G_may_stand, M_may_stand, K_may_stand, B_may_stand⟩ := C_may_stand.ex
    refine Ca.mk' D sc_may_stand (fun vs H Q E h => ?_) (fun q_ f_ cdv A outer s H vs Q E hr h => ?_)
    · obtain ⟨F, _, _, _, _, _, rfl, _⟩ := h
      rfl
    · obtain ⟨F, v_told, x_told, v_leaves, x_leaves, x_many, rfl, P0, f_told, f_leaves, hk⟩ := h
      have nd := sc_may_stand.nd
      have hu64 := hr.units
      have hu128 := hu128_of hr
      have O := P0.start
      refine ⟨_, (pss_cons (ps_if (pt_cmpR (op_eqT Str hu64) (pe_ix (ixTupK (K := K) rfl) (pv 0) pe_int (fun _ _ => rfl)) pe_str (nomark _)) (pss_one (ps_ret pe_bl)) pss_nil)
  (pss_cons (ps_if (pt_cmpR (op_inT Str hu64) (pe_ix (ixTupK (K := K) rfl) (pv 0) pe_int (fun _ _ => rfl)) (pe_tup (pa_cons pe_str (pa_cons pe_str pa_nil))) rfl) (pss_one (ps_ret (pe_cmpR (op_inT Str hu64) (pe_ix (ixTupK (K := K) rfl) (pv 0) pe_int (fun _ _ => rfl)) (pv 1) rfl))) pss_nil)
  (pss_cons (ps_if (pt_cmpR (op_inT Str hu64) (pe_ix (ixTupK (K := K) rfl) (pv 0) pe_int (fun _ _ => rfl)) (pe_tup (pa_cons pe_str (pa_cons pe_str pa_nil))) rfl) (pss_one (ps_ret (pe_and (pe_cmpR (op_inT Str hu64) (pe_ix (ixTupK (K := K) rfl) (pv 0) pe_int (fun _ _ => rfl)) (pv 1) rfl) (pe_one (pe_chain op_le op_lt pe_int (pe_ix (ixTupK (K := K) rfl) (pv 0) pe_int (fun _ _ => rfl)) (pv 2)))))) pss_nil)
  (pss_one (ps_ret (pe_and (pe_call G_may_stand (hr.mono (by omega)) rfl M_may_stand K_may_stand B_may_stand .nil (passes_call (takes_of rfl rfl rfl rfl) fun _ _ _ _ h => h) (pa_cons (pe_ix (ixTupK (K := K) rfl) (pv 0) pe_int (fun _ _ => rfl)) (pa_cons (pv 1) (pa_cons (pv 2) pa_nil)))) (pe_one (pe_call G_may_stand (hr.mono (by omega)) rfl M_may_stand K_may_stand B_may_stand .nil (passes_call (takes_of rfl rfl rfl rfl) fun _ _ _ _ h => h) (pa_cons (pe_ix (ixTupK (K := K) rfl) (pv 0) pe_int (fun _ _ => rfl)) (pa_cons (pv 1) (pa_cons (pv 2) pa_nil))))))))))), ?_⟩
      obtain ⟨p1, w2, e3, h4⟩ := R.sm_ f_told
      cases e3
      refine ⟨_, rfl, _, _, _, _, rfl, rfl, (SqTK O.s h4), (atI0 _ _), _, _, R.str, R.str, _, rfl, ?_⟩
      refine iteD (fun q5 => ?_) (fun q5 => ?_)
      · have hk := wp_if hk q5
        exact hk _ _  O.g 
      · have hk := wp_el hk q5
        obtain ⟨p6, w7, e8, h9⟩ := R.sm_ f_told
        cases e8
        refine ⟨_, rfl, _, _, _, _, rfl, rfl, (SqTK O.s h9), (atI0 _ _), (by show 2 ≤ sizeLine; decide), fun p10 hp11 => ?_⟩
        obtain ⟨F12, O13, S14, h15⟩ := O.putE hp11 (.tup [V.str ("own" : Str), V.str ("tie" : Str)])
        have f_told := f_told.mono S14
        have f_leaves := f_leaves.mono S14
        have h4 := h4.mono S14
        have h9 := h9.mono S14
        have h16 : R (a := (Str × Str)) F12 (.ref p10) (("own" : Str), ("tie" : Str)) := R.t2 h15 R.str R.str
        obtain ⟨p17, v20, v21, e18, h19, r22, r23⟩ := R.t2T_ h16
        cases e18
        obtain rfl := R.str_ r22
        obtain rfl := R.str_ r23
        refine ⟨_, _, _, _, R.str, rfl, (.inr (h19.mono O13.s)), (RL.mono (RL.cons R.str (RL.cons R.str RL.nil)) O13.s), _, rfl, ?_⟩
        refine iteD (fun q24 => ?_) (fun q24 => ?_)
        · have hk := wp_if hk q24
          obtain ⟨p25, w26, e27, h28⟩ := R.sm_ f_told
          cases e27
          obtain ⟨p29, w30, e31, h32, hl33⟩ := R.tp_ f_leaves
          cases e31
          refine ⟨_, rfl, _, _, _, _, rfl, rfl, (SqTK O13.s h28), (atI0 _ _), _, rfl, _, _, _, _, R.str, rfl, (.inr (h32.mono O13.s)), (RL.mono (hl33) O13.s), ?_⟩
          exact hk _ _  O13.g 
        · have hk := wp_el hk q24
          obtain ⟨p34, w35, e36, h37⟩ := R.sm_ f_told
          cases e36
          refine ⟨_, rfl, _, _, _, _, rfl, rfl, (SqTK O13.s h37), (atI0 _ _), (by show 2 ≤ sizeLine; decide), fun p38 hp39 => ?_⟩
          obtain ⟨F40, O41, S42, h43⟩ := O13.putE hp39 (.tup [V.str ("so" : Str), V.str ("more" : Str)])
          have f_told := f_told.mono S42
          have f_leaves := f_leaves.mono S42
          have h4 := h4.mono S42
          have h9 := h9.mono S42
          have h16 := h16.mono S42
          have h19 := h19.mono S42
          have h37 := h37.mono S42
          have h44 : R (a := (Str × Str)) F40 (.ref p38) (("so" : Str), ("more" : Str)) := R.t2 h43 R.str R.str
          obtain ⟨p45, v48, v49, e46, h47, r50, r51⟩ := R.t2T_ h44
          cases e46
          obtain rfl := R.str_ r50
          obtain rfl := R.str_ r51
          refine ⟨_, _, _, _, R.str, rfl, (.inr (h47.mono O41.s)), (RL.mono (RL.cons R.str (RL.cons R.str RL.nil)) O41.s), _, rfl, ?_⟩
          refine iteD (fun q52 => ?_) (fun q52 => ?_)
          · have hk := wp_if hk q52
            obtain ⟨p53, w54, e55, h56⟩ := R.sm_ f_told
            cases e55
            obtain ⟨p57, w58, e59, h60, hl61⟩ := R.tp_ f_leaves
            cases e59
            refine ⟨_, rfl, _, _, _, _, rfl, rfl, (SqTK O41.s h56), (atI0 _ _), _, rfl, _, _, _, _, R.str, rfl, (.inr (h60.mono O41.s)), (RL.mono (hl61) O41.s), _, rfl, ?_⟩
            refine iteD (fun q62 => ?_) (fun q62 => ?_)
            · have hk := wp_if hk q62
              obtain ⟨y63, e64, hk⟩ := wp_opt hk
              obtain ⟨p65, w66, e67, h68⟩ := R.sm_int f_told e64
              cases e67
              refine ⟨_, rfl, _, _, _, _, rfl, rfl, (SqTK O41.s h68), rfl, _, _, rfl, rfl, _, rfl, ?_⟩
              refine iteD (fun q69 => ?_) (fun q69 => ?_)
              · have hk := wp_if hk q69
                refine ⟨_, rfl, _, _, rfl, rfl, ?_⟩
                exact hk _ _  O41.g 
              · have hk := wp_el hk q69
                exact hk _ _  O41.g 
            · have hk := wp_el hk q62
              exact hk _ _  O41.g 
          · have hk := wp_el hk q52
            obtain ⟨y70, e71, hk⟩ := wp_opt hk
            obtain ⟨p72, w73, v74, v75, e76, h77, r78, r79⟩ := R.sm_two f_told e71
            cases e76
            refine ⟨_, rfl, _, _, _, _, rfl, rfl, (SqTK O41.s h77), rfl, _, rfl, _, rfl, _, _, _, _, _, _, rfl, O41.pre0, r78, f_leaves, wp_call hk (fun r80 er81 hk F82 H83 g84 => ?_) (fun n hn C H1 hC kp => hn C H1 hC (O41.kp0 kp))⟩
            have O85 := O41.call0 g84
            have S_ := g84.f
            have f_told := f_told.mono S_
            have f_leaves := f_leaves.mono S_
            have h4 := h4.mono S_
            have h9 := h9.mono S_
            have h16 := h16.mono S_
            have h19 := h19.mono S_
            have h37 := h37.mono S_
            have h44 := h44.mono S_
            have h47 := h47.mono S_
            have h77 := h77.mono S_
            have r78 := r78.mono S_
            have r79 := r79.mono S_
            refine ⟨_, rfl, ?_⟩
            refine iteB (fun q86 => ?_) (fun q86 => ?_)
            · have hk := wp_if hk q86
              obtain ⟨y87, e88, hk⟩ := wp_opt hk
              obtain ⟨p89, w90, v91, v92, e93, h94, r95, r96⟩ := R.sm_two f_told e88
              cases e93
              refine ⟨_, rfl, _, _, _, _, rfl, rfl, (SqTK O85.s h94), rfl, _, rfl, _, rfl, _, _, _, _, _, _, rfl, O85.pre0, r96, f_leaves, wp_call hk (fun r97 er98 hk F99 H100 g101 => ?_) (fun n hn C H1 hC kp => hn C H1 hC (O85.kp0 kp))⟩
              have O102 := O85.call0 g101
              have S_ := g101.f
              have f_told := f_told.mono S_
              have f_leaves := f_leaves.mono S_
              have h4 := h4.mono S_
              have h9 := h9.mono S_
              have h16 := h16.mono S_
              have h19 := h19.mono S_
              have h37 := h37.mono S_
              have h44 := h44.mono S_
              have h47 := h47.mono S_
              have h77 := h77.mono S_
              have r78 := r78.mono S_
              have r79 := r79.mono S_
              have h94 := h94.mono S_
              have r95 := r95.mono S_
              have r96 := r96.mono S_
              exact hk _ _  O102.g 
            · have hk := wp_el hk q86
              exact hk _ _  O85.g 
abbrev s_is_rule : Stmt := top 24
theorem sc_is_rule : FnScope ["thing", "many", "begin", "over", "join", "told", "sums", "leaves", "one"] ["thing"] (defScope s_is_rule) := ⟨rfl, rfl, rfl, by decide +kernel, rfl, by decide +kernel, by decide +kernel⟩
def m_is_rule (x_thing : (T4 (List Sm) (List Sm) (List Sm) Sm)) : M (Bool) :=
if (1 : Int) ≤ (x_thing.a.length : Int) then (
if (x_thing.a.length : Int) ≤ (3 : Int) then (
if (x_thing.b.length : Int) ≠ (x_thing.a.length : Int) then (
.ok false)
else (
if (x_thing.c.length : Int) ≠ (x_thing.a.length : Int) then (
.ok false)
else (
loopM (fun (y93 : ((List Sm) × (Tp Str))) (st104 : Unit) =>
compS (fun (y123 : Sm) (st140 : Unit) =>
m_may_stand 60 y123 y93.2 (x_thing.a.length : Int) >>= fun r146 =>
if r146 = true then (
.ok (none, ()))
else (
.ok (some y123, ()))) y93.1 () >>= fun q164 =>
if q164.1 ≠ ([] : List Sm) then (
.ok (.rt false))
else (
.ok (.nx ()))) ([(T3.mk (x_thing.a, (Tp.mk [("own" : Str)])) (x_thing.b, (Tp.mk [(T3.mk ("own" : Str) ("tie" : Str) ("more" : Str)).a, (T3.mk ("own" : Str) ("tie" : Str) ("more" : Str)).b, (T3.mk ("own" : Str) ("tie" : Str) ("more" : Str)).c])) (x_thing.c, (Tp.mk [(T3.mk ("own" : Str) ("so" : Str) ("more" : Str)).a, (T3.mk ("own" : Str) ("so" : Str) ("more" : Str)).b, (T3.mk ("own" : Str) ("so" : Str) ("more" : Str)).c]))).a, (T3.mk (x_thing.a, (Tp.mk [("own" : Str)])) (x_thing.b, (Tp.mk [(T3.mk ("own" : Str) ("tie" : Str) ("more" : Str)).a, (T3.mk ("own" : Str) ("tie" : Str) ("more" : Str)).b, (T3.mk ("own" : Str) ("tie" : Str) ("more" : Str)).c])) (x_thing.c, (Tp.mk [(T3.mk ("own" : Str) ("so" : Str) ("more" : Str)).a, (T3.mk ("own" : Str) ("so" : Str) ("more" : Str)).b, (T3.mk ("own" : Str) ("so" : Str) ("more" : Str)).c]))).b, (T3.mk (x_thing.a, (Tp.mk [("own" : Str)])) (x_thing.b, (Tp.mk [(T3.mk ("own" : Str) ("tie" : Str) ("more" : Str)).a, (T3.mk ("own" : Str) ("tie" : Str) ("more" : Str)).b, (T3.mk ("own" : Str) ("tie" : Str) ("more" : Str)).c])) (x_thing.c, (Tp.mk [(T3.mk ("own" : Str) ("so" : Str) ("more" : Str)).a, (T3.mk ("own" : Str) ("so" : Str) ("more" : Str)).b, (T3.mk ("own" : Str) ("so" : Str) ("more" : Str)).c]))).c]) () >>= fun f188 => match f188 with
| .rt z_ => .ok z_
| .nx st182 =>
m_may_stand 60 x_thing.d (Tp.mk [(("own" : Str), ("so" : Str)).1, (("own" : Str), ("so" : Str)).2]) (x_thing.a.length : Int) >>= fun r196 =>
.ok r196)))
else (
.ok false))
else (
.ok false)
def sp_is_rule (mg : Str → Option Value) : Sp := fun vs H Q E => ∃ (F : Hp) (v_thing : V) (x_thing : (T4 (List Sm) (List Sm) (List Sm) Sm)), vs = [v_thing] ∧ Pre F [] H ∧ R (a := (T4 (List Sm) (List Sm) (List Sm) Sm)) F v_thing x_thing ∧
  wp (m_is_rule x_thing) (fun r => ∀ (F' H' : Hp), Gr [] F H F' H' → Q (V.bl r) H')
  (fun n => ∀ (C : Addr) (H' : Hp), mg (Str.ofString n) = some (.ref C) → Kp [] H H' → E (.ref C) none H')
set_option maxHeartbeats 20000000 in
theorem ok_is_rule (nb : Nb mg) (C_may_stand : Ca P w K mg base "may_stand" 61 ["told", "leaves", "many"] (sp_may_stand 60 mg)) (D : Df K mg "is_rule" "is_rule" s_is_rule ["thing"]) : Ca P w K mg base "is_rule" 62 ["thing"] (sp_is_rule mg) := by
  obtain ⟨fa_may_stand, fd_may_stand, G_may_stand, M_may_stand, K_may_stand, B_may_stand⟩ := C_may_stand.ex
  refine Ca.mk' D sc_is_rule (fun vs H Q E h => ?_) (fun q_ f_ cdv A outer s H vs Q E hr h => ?_)
  · obtain ⟨F, _, _, rfl, _⟩ := h
    rfl
  · obtain ⟨F, v_thing, x_thing, rfl, P0, f_thing, hk⟩ := h
    have nd := sc_is_rule.nd
    have hu64 := hr.units
    have hu128 := hu128_of hr
    have O := P0.start
    refine ⟨_, (pss_cons (ps_asg (pv 0) (pg_tup rfl (pgs_cons (pg_name (i := 2) nd rfl (Or.inl rfl)) (pgs_cons (pg_name (i := 3) nd rfl (Or.inl rfl)) (pgs_cons (pg_name (i := 4) nd rfl (Or.inl rfl)) (pgs_cons (pg_name (i := 5) nd rfl (Or.inl rfl)) pgs_nil))))))
  (pss_cons (ps_toN (ps_set (i := 1) nd rfl (Or.inr rfl) (pe_callB call_lenT (by rfl) nb.b_len PySem.boot_len (pa_cons (pv 2) pa_nil))))
  (pss_cons (ps_if (PW.pt (pw_or (pt_not (pt_chain op_le op_le pe_int (pv 1) (C8.pe_gc (by rfl) nb.c_MOST))) (pw_or (pt_cmpR (op_neT Int hu64) (pe_callB call_lenT (by rfl) nb.b_len PySem.boot_len (pa_cons (pv 3) pa_nil)) (pv 1) (nomark _)) (pw_or1 (pt_cmpR (op_neT Int hu64) (pe_callB call_lenT (by rfl) nb.b_len PySem.boot_len (pa_cons (pv 4) pa_nil)) (pv 1) (nomark _)))))) (pss_one (ps_ret pe_bl)) pss_nil)
  (pss_cons (ps_for (passes_of rfl) rfl (piTupK (K := K) rfl (pe_tup (pa_cons (pe_tup (pa_cons (pv 2) (pa_cons (pe_tup (pa_cons pe_str pa_nil)) pa_nil))) (pa_cons (pe_tup (pa_cons (pv 3) (pa_cons (pe_tup (pa_cons pe_str (pa_cons pe_str (pa_cons pe_str pa_nil)))) pa_nil))) (pa_cons (pe_tup (pa_cons (pv 4) (pa_cons (pe_tup (pa_cons pe_str (pa_cons pe_str (pa_cons pe_str pa_nil)))) pa_nil))) pa_nil))))) (pg_tup rfl (pgs_cons (pg_name (i := 6) nd rfl (Or.inl rfl)) (pgs_cons (pg_name (i := 7) nd rfl (Or.inr rfl)) pgs_nil))) (pss_one (ps_if (pt_cmpR (op_neX (List Sm) hu64) (pe_lc (own := [("one", 8)]) (g := gName 8) (tt := _) rfl nd (piListK (K := K) rfl (pv 6)) (blkOk_by (own := [("one", 8)]) (N := ["thing", "many", "begin", "over", "join", "told", "sums", "leaves", "one"]) (sc := defScope s_is_rule) (by decide +kernel)) (fun _ _ _ _ _ => (pg_name (i := 8) nd rfl (Or.inl rfl))) (fun _ _ _ _ _ => (pts_one (pt_not (pt_val (pe_call G_may_stand (hr.mono (by decide)) rfl M_may_stand K_may_stand B_may_stand .nil passL (pa_cons (pv 8) (pa_cons (pv 7) (pa_cons (pv 1) pa_nil)))))))) (fun _ _ _ _ _ => (pv 8))) (pe_lst pa_nil) (nomark _)) (pss_one (ps_ret pe_bl)) pss_nil)))
  (pss_one (ps_ret (pe_call G_may_stand (hr.mono (by decide)) rfl M_may_stand K_may_stand B_may_stand .nil (passes_call (takes_of rfl rfl rfl rfl) fun _ _ _ _ h => h) (pa_cons (pv 5) (pa_cons (pe_tup (pa_cons pe_str (pa_cons pe_str pa_nil))) (pa_cons (pv 1) pa_nil)))))))))), ?_⟩
    obtain ⟨p1, v4, v5, v6, v7, e2, h3, r8, r9, r10, r11⟩ := R.t4_ f_thing
    cases e2
    obtain ⟨p12, w13, e14, h15, hl16⟩ := R.lst_ r8
    cases e14
    refine ⟨_, rfl, _, _, rfl, (SqTF O.s h3), rfl, _, _, rfl, _, _, rfl, _, _, rfl, _, _, rfl, rfl, _, rfl, _, _, _, rfl, (.inl (O.s _ _ h15)), hl16.len, [some (V.ref p1), some (V.int (x_thing.a.length : Int)), some (V.ref p12), some v5, some v6, some v7, none, none, none], rfl, _, rfl, _, _, rfl, rfl, _, rfl, ?_⟩
    refine iteD (fun q17 => ?_) (fun q17 => ?_)
    · have hk := wp_if hk q17
      refine ⟨_, _, rfl, rfl, _, rfl, ?_⟩
      refine iteN (fun q18 => ?_) (fun q18 => ?_)
      · have hk := wp_if hk q18
        obtain ⟨p19, w20, e21, h22, hl23⟩ := R.lst_ r9
        cases e21
        refine ⟨_, rfl, _, _, _, rfl, (.inl (O.s _ _ h22)), hl23.len, _, rfl, _, _, R.int, R.int, _, rfl, ?_⟩
        refine iteD (fun q24 => ?_) (fun q24 => ?_)
        · have hk := wp_if hk q24
          refine iteT ?_
          exact hk _ _  O.g 
        · have hk := wp_el hk q24
          obtain ⟨p25, w26, e27, h28, hl29⟩ := R.lst_ r10
          cases e27
          refine ⟨_, rfl, _, _, _, rfl, (.inl (O.s _ _ h28)), hl29.len, _, rfl, _, _, R.int, R.int, _, rfl, ?_⟩
          refine iteD (fun q30 => ?_) (fun q30 => ?_)
          · have hk := wp_if hk q30
            exact hk _ _  O.g 
          · have hk := wp_el hk q30
            refine ⟨_, rfl, (by show 1 ≤ sizeLine; decide), fun p31 hp32 => ?_⟩
            obtain ⟨F33, O34, S35, h36⟩ := O.putE hp32 (.tup [V.str ("own" : Str)])
            have f_thing := f_thing.mono S35
            have h3 := S35 _ _ h3
            have r8 := r8.mono S35
            have r9 := r9.mono S35
            have r10 := r10.mono S35
            have r11 := r11.mono S35
            have h15 := S35 _ _ h15
            have hl16 := hl16.mono S35
            have h22 := S35 _ _ h22
            have hl23 := hl23.mono S35
            have h28 := S35 _ _ h28
            have hl29 := hl29.mono S35
            have h37 := R.of_nam h36
            refine ⟨(by show 2 ≤ sizeLine; decide), fun p38 hp39 => ?_⟩
            have h45 := (R.tp1 h37)
            obtain ⟨F40, O41, S42, h43⟩ := O34.putE hp39 (.tup [V.ref p12, V.ref p31])
            have f_thing := f_thing.mono S42
            have h3 := S42 _ _ h3
            have r8 := r8.mono S42
            have r9 := r9.mono S42
            have r10 := r10.mono S42
            have r11 := r11.mono S42
            have h15 := S42 _ _ h15
            have hl16 := hl16.mono S42
            have h22 := S42 _ _ h22
            have hl23 := hl23.mono S42
            have h28 := S42 _ _ h28
            have hl29 := hl29.mono S42
            have h37 := h37.mono S42
            have h45 := h45.mono S42
            have h44 : R (a := ((List Sm) × (Tp Str))) F40 (.ref p38) (x_thing.a, (Tp.mk [("own" : Str)])) := R.t2 h43 r8 h45
            refine ⟨_, rfl, (by show 3 ≤ sizeLine; decide), fun p46 hp47 => ?_⟩
            obtain ⟨F48, O49, S50, h51⟩ := O41.putE hp47 (.tup [V.str ("own" : Str), V.str ("tie" : Str), V.str ("more" : Str)])
            have f_thing := f_thing.mono S50
            have h3 := S50 _ _ h3
            have r8 := r8.mono S50
            have r9 := r9.mono S50
            have r10 := r10.mono S50
            have r11 := r11.mono S50
            have h15 := S50 _ _ h15
            have hl16 := hl16.mono S50
            have h22 := S50 _ _ h22
            have hl23 := hl23.mono S50
            have h28 := S50 _ _ h28
            have hl29 := hl29.mono S50
            have h37 := h37.mono S50
            have h45 := h45.mono S50
            have h44 := h44.mono S50
            have h52 : R (a := (T3 Str Str Str)) F48 (.ref p46) (T3.mk ("own" : Str) ("tie" : Str) ("more" : Str)) := R.t3 h51 R.str R.str R.str
            refine ⟨(by show 2 ≤ sizeLine; decide), fun p53 hp54 => ?_⟩
            have h60 := (R.tp3 h52)
            obtain ⟨F55, O56, S57, h58⟩ := O49.putE hp54 (.tup [V.ref p19, V.ref p46])
            have f_thing := f_thing.mono S57
            have h3 := S57 _ _ h3
            have r8 := r8.mono S57
            have r9 := r9.mono S57
            have r10 := r10.mono S57
            have r11 := r11.mono S57
            have h15 := S57 _ _ h15
            have hl16 := hl16.mono S57
            have h22 := S57 _ _ h22
            have hl23 := hl23.mono S57
            have h28 := S57 _ _ h28
            have hl29 := hl29.mono S57
            have h37 := h37.mono S57
            have h45 := h45.mono S57
            have h44 := h44.mono S57
            have h52 := h52.mono S57
            have h60 := h60.mono S57
            have h59 : R (a := ((List Sm) × (Tp Str))) F55 (.ref p53) (x_thing.b, (Tp.mk [(T3.mk ("own" : Str) ("tie" : Str) ("more" : Str)).a, (T3.mk ("own" : Str) ("tie" : Str) ("more" : Str)).b, (T3.mk ("own" : Str) ("tie" : Str) ("more" : Str)).c])) := R.t2 h58 r9 h60
            refine ⟨_, rfl, (by show 3 ≤ sizeLine; decide), fun p61 hp62 => ?_⟩
            obtain ⟨F63, O64, S65, h66⟩ := O56.putE hp62 (.tup [V.str ("own" : Str), V.str ("so" : Str), V.str ("more" : Str)])
            have f_thing := f_thing.mono S65
            have h3 := S65 _ _ h3
            have r8 := r8.mono S65
            have r9 := r9.mono S65
            have r10 := r10.mono S65
            have r11 := r11.mono S65
            have h15 := S65 _ _ h15
            have hl16 := hl16.mono S65
            have h22 := S65 _ _ h22
            have hl23 := hl23.mono S65
            have h28 := S65 _ _ h28
            have hl29 := hl29.mono S65
            have h37 := h37.mono S65
            have h45 := h45.mono S65
            have h44 := h44.mono S65
            have h52 := h52.mono S65
            have h60 := h60.mono S65
            have h59 := h59.mono S65
            have h67 : R (a := (T3 Str Str Str)) F63 (.ref p61) (T3.mk ("own" : Str) ("so" : Str) ("more" : Str)) := R.t3 h66 R.str R.str R.str
            refine ⟨(by show 2 ≤ sizeLine; decide), fun p68 hp69 => ?_⟩
            have h75 := (R.tp3 h67)
            obtain ⟨F70, O71, S72, h73⟩ := O64.putE hp69 (.tup [V.ref p25, V.ref p61])
            have f_thing := f_thing.mono S72
            have h3 := S72 _ _ h3
            have r8 := r8.mono S72
            have r9 := r9.mono S72
            have r10 := r10.mono S72
            have r11 := r11.mono S72
            have h15 := S72 _ _ h15
            have hl16 := hl16.mono S72
            have h22 := S72 _ _ h22
            have hl23 := hl23.mono S72
            have h28 := S72 _ _ h28
            have hl29 := hl29.mono S72
            have h37 := h37.mono S72
            have h45 := h45.mono S72
            have h44 := h44.mono S72
            have h52 := h52.mono S72
            have h60 := h60.mono S72
            have h59 := h59.mono S72
            have h67 := h67.mono S72
            have h75 := h75.mono S72
            have h74 : R (a := ((List Sm) × (Tp Str))) F70 (.ref p68) (x_thing.c, (Tp.mk [(T3.mk ("own" : Str) ("so" : Str) ("more" : Str)).a, (T3.mk ("own" : Str) ("so" : Str) ("more" : Str)).b, (T3.mk ("own" : Str) ("so" : Str) ("more" : Str)).c])) := R.t2 h73 r10 h75
            refine ⟨(by show 3 ≤ sizeLine; decide), fun p76 hp77 => ?_⟩
            obtain ⟨F78, O79, S80, h81⟩ := O71.putE hp77 (.tup [V.ref p38, V.ref p53, V.ref p68])
            have f_thing := f_thing.mono S80
            have h3 := S80 _ _ h3
            have r8 := r8.mono S80
            have r9 := r9.mono S80
            have r10 := r10.mono S80
            have r11 := r11.mono S80
            have h15 := S80 _ _ h15
            have hl16 := hl16.mono S80
            have h22 := S80 _ _ h22
            have hl23 := hl23.mono S80
            have h28 := S80 _ _ h28
            have hl29 := hl29.mono S80
            have h37 := h37.mono S80
            have h45 := h45.mono S80
            have h44 := h44.mono S80
            have h52 := h52.mono S80
            have h60 := h60.mono S80
            have h59 := h59.mono S80
            have h67 := h67.mono S80
            have h75 := h75.mono S80
            have h74 := h74.mono S80
            have h82 : R (a := (T3 ((List Sm) × (Tp Str)) ((List Sm) × (Tp Str)) ((List Sm) × (Tp Str)))) F78 (.ref p76) (T3.mk (x_thing.a, (Tp.mk [("own" : Str)])) (x_thing.b, (Tp.mk [(T3.mk ("own" : Str) ("tie" : Str) ("more" : Str)).a, (T3.mk ("own" : Str) ("tie" : Str) ("more" : Str)).b, (T3.mk ("own" : Str) ("tie" : Str) ("more" : Str)).c])) (x_thing.c, (Tp.mk [(T3.mk ("own" : Str) ("so" : Str) ("more" : Str)).a, (T3.mk ("own" : Str) ("so" : Str) ("more" : Str)).b, (T3.mk ("own" : Str) ("so" : Str) ("more" : Str)).c]))) := R.t3 h81 h44 h59 h74
            obtain ⟨p83, v86, v87, v88, e84, h85, r89, r90, r91⟩ := R.t3_ h82
            cases e84
            have hl92 : RL (a := ((List Sm) × (Tp Str))) F78 [v86, v87, v88] [(T3.mk (x_thing.a, (Tp.mk [("own" : Str)])) (x_thing.b, (Tp.mk [(T3.mk ("own" : Str) ("tie" : Str) ("more" : Str)).a, (T3.mk ("own" : Str) ("tie" : Str) ("more" : Str)).b, (T3.mk ("own" : Str) ("tie" : Str) ("more" : Str)).c])) (x_thing.c, (Tp.mk [(T3.mk ("own" : Str) ("so" : Str) ("more" : Str)).a, (T3.mk ("own" : Str) ("so" : Str) ("more" : Str)).b, (T3.mk ("own" : Str) ("so" : Str) ("more" : Str)).c]))).a, (T3.mk (x_thing.a, (Tp.mk [("own" : Str)])) (x_thing.b, (Tp.mk [(T3.mk ("own" : Str) ("tie" : Str) ("more" : Str)).a, (T3.mk ("own" : Str) ("tie" : Str) ("more" : Str)).b, (T3.mk ("own" : Str) ("tie" : Str) ("more" : Str)).c])) (x_thing.c, (Tp.mk [(T3.mk ("own" : Str) ("so" : Str) ("more" : Str)).a, (T3.mk ("own" : Str) ("so" : Str) ("more" : Str)).b, (T3.mk ("own" : Str) ("so" : Str) ("more" : Str)).c]))).b, (T3.mk (x_thing.a, (Tp.mk [("own" : Str)])) (x_thing.b, (Tp.mk [(T3.mk ("own" : Str) ("tie" : Str) ("more" : Str)).a, (T3.mk ("own" : Str) ("tie" : Str) ("more" : Str)).b, (T3.mk ("own" : Str) ("tie" : Str) ("more" : Str)).c])) (x_thing.c, (Tp.mk [(T3.mk ("own" : Str) ("so" : Str) ("more" : Str)).a, (T3.mk ("own" : Str) ("so" : Str) ("more" : Str)).b, (T3.mk ("own" : Str) ("so" : Str) ("more" : Str)).c]))).c] := RL.cons r89 (RL.cons r90 (RL.cons r91 RL.nil))
            obtain ⟨L94, hL95, hLs96, hLd97⟩ := loopM_L hk
            refine ⟨_, rfl, ⟨_, (SqTF O79.s h85)⟩, ?_⟩
            refine for_tup (K := K) (xs := [v86, v87, v88]) (fun i σ H_ => ∃ (F_ : Hp) (st : Unit) (t_0 : Option V) (t_1 : Option V), σ = [some (V.ref p1), some (V.int (x_thing.a.length : Int)), some (V.ref p12), some (V.ref p19), some (V.ref p25), some v7, t_0, t_1, none] ∧ Same F78 F_ ∧ Ow _ F_ [] H_ ∧ L94 (List.drop i ([(T3.mk (x_thing.a, (Tp.mk [("own" : Str)])) (x_thing.b, (Tp.mk [(T3.mk ("own" : Str) ("tie" : Str) ("more" : Str)).a, (T3.mk ("own" : Str) ("tie" : Str) ("more" : Str)).b, (T3.mk ("own" : Str) ("tie" : Str) ("more" : Str)).c])) (x_thing.c, (Tp.mk [(T3.mk ("own" : Str) ("so" : Str) ("more" : Str)).a, (T3.mk ("own" : Str) ("so" : Str) ("more" : Str)).b, (T3.mk ("own" : Str) ("so" : Str) ("more" : Str)).c]))).a, (T3.mk (x_thing.a, (Tp.mk [("own" : Str)])) (x_thing.b, (Tp.mk [(T3.mk ("own" : Str) ("tie" : Str) ("more" : Str)).a, (T3.mk ("own" : Str) ("tie" : Str) ("more" : Str)).b, (T3.mk ("own" : Str) ("tie" : Str) ("more" : Str)).c])) (x_thing.c, (Tp.mk [(T3.mk ("own" : Str) ("so" : Str) ("more" : Str)).a, (T3.mk ("own" : Str) ("so" : Str) ("more" : Str)).b, (T3.mk ("own" : Str) ("so" : Str) ("more" : Str)).c]))).b, (T3.mk (x_thing.a, (Tp.mk [("own" : Str)])) (x_thing.b, (Tp.mk [(T3.mk ("own" : Str) ("tie" : Str) ("more" : Str)).a, (T3.mk ("own" : Str) ("tie" : Str) ("more" : Str)).b, (T3.mk ("own" : Str) ("tie" : Str) ("more" : Str)).c])) (x_thing.c, (Tp.mk [(T3.mk ("own" : Str) ("so" : Str) ("more" : Str)).a, (T3.mk ("own" : Str) ("so" : Str) ("more" : Str)).b, (T3.mk ("own" : Str) ("so" : Str) ("more" : Str)).c]))).c])) st) ⟨F78, (), none, none, rfl, Same.refl _, O79, hL95⟩ (fun i_ σ_ H_ _ hp_ => ?_) ?_ ?_
            · obtain ⟨_, _, _, _, _, hS_, hO_, _⟩ := hp_
              exact SqTF hO_.s (hS_ _ _ h85)
            · rintro i98 x99 sg100 H101 hi102 ⟨F107, st104, t105, t106, rfl, S103, O108, hL95⟩
              have f_thing := f_thing.mono S103
              have h3 := S103 _ _ h3
              have r8 := r8.mono S103
              have r9 := r9.mono S103
              have r10 := r10.mono S103
              have r11 := r11.mono S103
              have h15 := S103 _ _ h15
              have hl16 := hl16.mono S103
              have h22 := S103 _ _ h22
              have hl23 := hl23.mono S103
              have h28 := S103 _ _ h28
              have hl29 := hl29.mono S103
              have h37 := h37.mono S103
              have h45 := h45.mono S103
              have h44 := h44.mono S103
              have h52 := h52.mono S103
              have h60 := h60.mono S103
              have h59 := h59.mono S103
              have h67 := h67.mono S103
              have h75 := h75.mono S103
              have h74 := h74.mono S103
              have h82 := h82.mono S103
              have h85 := S103 _ _ h85
              have r89 := r89.mono S103
              have r90 := r90.mono S103
              have r91 := r91.mono S103
              have hl92 := hl92.mono S103
              obtain ⟨y93, e109, r110⟩ := RL.got hl92 hi102
              rw [drop_at e109] at hL95
              have hk := hLs96 _ _ _ hL95
              obtain ⟨p111, v114, v115, e112, h113, r116, r117⟩ := R.t2_ r110
              cases e112
              obtain ⟨p118, w119, e120, h121, hl122⟩ := R.lst_ r116
              cases e120
              obtain ⟨c128, L124, hL125, hLs126, hLd127⟩ := compS_L hk
              refine ⟨_, _, rfl, (SqTF O108.s h113), rfl, _, _, rfl, _, _, rfl, rfl, _, rfl, _, rfl, ⟨_, (SqLF O108.s h121)⟩, fun p129 hp130 => ?_⟩
              have z153 := O108.was hp130
              refine lc_list (K := K) (xs := w119) (fun i H => ∃ (F_ : Hp) (st : Unit) (acc : List Sm) (wa : List V), Same F107 F_ ∧ Ow _ F_ [(p129, .lst wa)] H ∧ RL F_ wa acc ∧ wa.length ≤ i ∧ L124 (List.drop i y93.1) acc st) ⟨F107, (), [], [], Same.refl _, O108.new hp130, RL.nil, Nat.zero_le _, hL125⟩ (fun i_ H_ _ hp_ => ?_) ?_ ?_
              · obtain ⟨_, _, _, _, hS_, hO_, _⟩ := hp_
                exact SqLF hO_.s (hS_ _ _ h121)
              · rintro i131 x132 H133 hi134 ⟨F139, st140, acc136, wa137, S141, O143, hl142, la138, hL125⟩
                have f_thing := f_thing.mono S141
                have h3 := S141 _ _ h3
                have r8 := r8.mono S141
                have r9 := r9.mono S141
                have r10 := r10.mono S141
                have r11 := r11.mono S141
                have h15 := S141 _ _ h15
                have hl16 := hl16.mono S141
                have h22 := S141 _ _ h22
                have hl23 := hl23.mono S141
                have h28 := S141 _ _ h28
                have hl29 := hl29.mono S141
                have h37 := h37.mono S141
                have h45 := h45.mono S141
                have h44 := h44.mono S141
                have h52 := h52.mono S141
                have h60 := h60.mono S141
                have h59 := h59.mono S141
                have h67 := h67.mono S141
                have h75 := h75.mono S141
                have h74 := h74.mono S141
                have h82 := h82.mono S141
                have h85 := S141 _ _ h85
                have r89 := r89.mono S141
                have r90 := r90.mono S141
                have r91 := r91.mono S141
                have hl92 := hl92.mono S141
                have S103 := S103.trans S141
                have r110 := r110.mono S141
                have h113 := S141 _ _ h113
                have r116 := r116.mono S141
                have r117 := r117.mono S141
                have h121 := S141 _ _ h121
                have hl122 := hl122.mono S141
                obtain ⟨y123, e144, r145⟩ := RL.got hl122 hi134
                rw [drop_at e144] at hL125
                have hk := hLs126 _ _ _ _ hL125
                refine ⟨rfl, _, rfl, _, rfl, _, rfl, _, _, _, _, _, _, rfl, O143.pre0, r145, r117, wp_call hk (fun r146 er147 hk F148 H149 g150 => ?_) (fun n hn => hn.elim)⟩
                have O151 := O143.call0 g150
                have S_ := g150.f
                have f_thing := f_thing.mono S_
                have h3 := S_ _ _ h3
                have r8 := r8.mono S_
                have r9 := r9.mono S_
                have r10 := r10.mono S_
                have r11 := r11.mono S_
                have h15 := S_ _ _ h15
                have hl16 := hl16.mono S_
                have h22 := S_ _ _ h22
                have hl23 := hl23.mono S_
                have h28 := S_ _ _ h28
                have hl29 := hl29.mono S_
                have h37 := h37.mono S_
                have h45 := h45.mono S_
                have h44 := h44.mono S_
                have h52 := h52.mono S_
                have h60 := h60.mono S_
                have h59 := h59.mono S_
                have h67 := h67.mono S_
                have h75 := h75.mono S_
                have h74 := h74.mono S_
                have h82 := h82.mono S_
                have h85 := S_ _ _ h85
                have r89 := r89.mono S_
                have r90 := r90.mono S_
                have r91 := r91.mono S_
                have hl92 := hl92.mono S_
                have S103 := S103.trans S_
                have r110 := r110.mono S_
                have h113 := S_ _ _ h113
                have r116 := r116.mono S_
                have r117 := r117.mono S_
                have h121 := S_ _ _ h121
                have hl122 := hl122.mono S_
                have S141 := S141.trans S_
                have hl142 := hl142.mono S_
                have r145 := r145.mono S_
                refine ⟨_, rfl, ?_⟩
                refine iteBN (fun q152 => ?_) (fun q152 => ?_)
                · have hk := wp_if hk q152
                  exact ⟨F148, (), acc136, wa137, S141, O151, hl142, Nat.le_succ_of_le la138, hk⟩
                · have hk := wp_el hk q152
                  refine ⟨_, rfl, _, (O151.at 0 rfl), (comp_len la138 hi134 hl122.len c128), ?_⟩
                  exact ⟨F148, (), acc136 ++ [y123], wa137 ++ [x132], S141, O151.set 0 (.lst (wa137 ++ [x132])) rfl, RL.snoc hl142 r145, by rw [List.length_append]; exact Nat.succ_le_succ la138, hk⟩
              rintro H154 ⟨F155, st156, acc157, wa158, S159, O160, hl161, la162, hL163⟩
              rw [drop_end hl122.len] at hL163
              have hk := hLd127 _ _ hL163
              have f_thing := f_thing.mono S159
              have h3 := S159 _ _ h3
              have r8 := r8.mono S159
              have r9 := r9.mono S159
              have r10 := r10.mono S159
              have r11 := r11.mono S159
              have h15 := S159 _ _ h15
              have hl16 := hl16.mono S159
              have h22 := S159 _ _ h22
              have hl23 := hl23.mono S159
              have h28 := S159 _ _ h28
              have hl29 := hl29.mono S159
              have h37 := h37.mono S159
              have h45 := h45.mono S159
              have h44 := h44.mono S159
              have h52 := h52.mono S159
              have h60 := h60.mono S159
              have h59 := h59.mono S159
              have h67 := h67.mono S159
              have h75 := h75.mono S159
              have h74 := h74.mono S159
              have h82 := h82.mono S159
              have h85 := S159 _ _ h85
              have r89 := r89.mono S159
              have r90 := r90.mono S159
              have r91 := r91.mono S159
              have hl92 := hl92.mono S159
              have S103 := S103.trans S159
              have r110 := r110.mono S159
              have h113 := S159 _ _ h113
              have r116 := r116.mono S159
              have r117 := r117.mono S159
              have h121 := S159 _ _ h121
              have hl122 := hl122.mono S159
              obtain ⟨F165, O166, S167, h168⟩ := O160.frzE 0 rfl z153
              have f_thing := f_thing.mono S167
              have h3 := S167 _ _ h3
              have r8 := r8.mono S167
              have r9 := r9.mono S167
              have r10 := r10.mono S167
              have r11 := r11.mono S167
              have h15 := S167 _ _ h15
              have hl16 := hl16.mono S167
              have h22 := S167 _ _ h22
              have hl23 := hl23.mono S167
              have h28 := S167 _ _ h28
              have hl29 := hl29.mono S167
              have h37 := h37.mono S167
              have h45 := h45.mono S167
              have h44 := h44.mono S167
              have h52 := h52.mono S167
              have h60 := h60.mono S167
              have h59 := h59.mono S167
              have h67 := h67.mono S167
              have h75 := h75.mono S167
              have h74 := h74.mono S167
              have h82 := h82.mono S167
              have h85 := S167 _ _ h85
              have r89 := r89.mono S167
              have r90 := r90.mono S167
              have r91 := r91.mono S167
              have hl92 := hl92.mono S167
              have S103 := S103.trans S167
              have r110 := r110.mono S167
              have h113 := S167 _ _ h113
              have r116 := r116.mono S167
              have r117 := r117.mono S167
              have h121 := S167 _ _ h121
              have hl122 := hl122.mono S167
              have hl161 := hl161.mono S167
              have h169 := R.lst (a := Sm) h168 hl161
              refine ⟨(by show 0 ≤ sizeLine; decide), fun p170 hp171 => ?_⟩
              have hl177 : RL (a := Sm) F165 ([]) ([] : List Sm) := RL.nil
              obtain ⟨F172, O173, S174, h175⟩ := O166.putE hp171 (.lst ([]))
              have f_thing := f_thing.mono S174
              have h3 := S174 _ _ h3
              have r8 := r8.mono S174
              have r9 := r9.mono S174
              have r10 := r10.mono S174
              have r11 := r11.mono S174
              have h15 := S174 _ _ h15
              have hl16 := hl16.mono S174
              have h22 := S174 _ _ h22
              have hl23 := hl23.mono S174
              have h28 := S174 _ _ h28
              have hl29 := hl29.mono S174
              have h37 := h37.mono S174
              have h45 := h45.mono S174
              have h44 := h44.mono S174
              have h52 := h52.mono S174
              have h60 := h60.mono S174
              have h59 := h59.mono S174
              have h67 := h67.mono S174
              have h75 := h75.mono S174
              have h74 := h74.mono S174
              have h82 := h82.mono S174
              have h85 := S174 _ _ h85
              have r89 := r89.mono S174
              have r90 := r90.mono S174
              have r91 := r91.mono S174
              have hl92 := hl92.mono S174
              have S103 := S103.trans S174
              have r110 := r110.mono S174
              have h113 := S174 _ _ h113
              have r116 := r116.mono S174
              have r117 := r117.mono S174
              have h121 := S174 _ _ h121
              have hl122 := hl122.mono S174
              have h169 := h169.mono S174
              have hl177 := hl177.mono S174
              have h176 := R.lst (a := Sm) h175 hl177
              refine ⟨_, _, (R.mono h169 O173.s), (R.mono h176 O173.s), (Nat.le_trans (Nat.min_le_right _ _) (by decide)), _, rfl, ?_⟩
              refine iteD (fun q178 => ?_) (fun q178 => ?_)
              · have hk := wp_if hk q178
                exact hk _ _  O173.g 
              · have hk := wp_el hk q178
                exact ⟨F172, (), some (V.ref p118), some v115, rfl, S103, O173, hk⟩
            rintro sg179 H180 ⟨F186, st182, t184, t185, rfl, S181, O187, hL183⟩
            rw [drop_end hl92.len] at hL183
            have hk := hLd97 _ hL183
            have f_thing := f_thing.mono S181
            have h3 := S181 _ _ h3
            have r8 := r8.mono S181
            have r9 := r9.mono S181
            have r10 := r10.mono S181
            have r11 := r11.mono S181
            have h15 := S181 _ _ h15
            have hl16 := hl16.mono S181
            have h22 := S181 _ _ h22
            have hl23 := hl23.mono S181
            have h28 := S181 _ _ h28
            have hl29 := hl29.mono S181
            have h37 := h37.mono S181
            have h45 := h45.mono S181
            have h44 := h44.mono S181
            have h52 := h52.mono S181
            have h60 := h60.mono S181
            have h59 := h59.mono S181
            have h67 := h67.mono S181
            have h75 := h75.mono S181
            have h74 := h74.mono S181
            have h82 := h82.mono S181
            have h85 := S181 _ _ h85
            have r89 := r89.mono S181
            have r90 := r90.mono S181
            have r91 := r91.mono S181
            have hl92 := hl92.mono S181
            refine ⟨_, rfl, (by show 2 ≤ sizeLine; decide), fun p189 hp190 => ?_⟩
            obtain ⟨F191, O192, S193, h194⟩ := O187.putE hp190 (.tup [V.str ("own" : Str), V.str ("so" : Str)])
            have f_thing := f_thing.mono S193
            have h3 := S193 _ _ h3
            have r8 := r8.mono S193
            have r9 := r9.mono S193
            have r10 := r10.mono S193
            have r11 := r11.mono S193
            have h15 := S193 _ _ h15
            have hl16 := hl16.mono S193
            have h22 := S193 _ _ h22
            have hl23 := hl23.mono S193
            have h28 := S193 _ _ h28
            have hl29 := hl29.mono S193
            have h37 := h37.mono S193
            have h45 := h45.mono S193
            have h44 := h44.mono S193
            have h52 := h52.mono S193
            have h60 := h60.mono S193
            have h59 := h59.mono S193
            have h67 := h67.mono S193
            have h75 := h75.mono S193
            have h74 := h74.mono S193
            have h82 := h82.mono S193
            have h85 := S193 _ _ h85
            have r89 := r89.mono S193
            have r90 := r90.mono S193
            have r91 := r91.mono S193
            have hl92 := hl92.mono S193
            have h195 : R (a := (Str × Str)) F191 (.ref p189) (("own" : Str), ("so" : Str)) := R.t2 h194 R.str R.str
            refine ⟨_, rfl, _, _, _, _, _, _, rfl, O192.pre0, r11, (R.tp2 h195), wp_call hk (fun r196 er197 hk F198 H199 g200 => ?_) (fun n hn C H1 hC kp => hn C H1 hC (O192.kp0 kp))⟩
            have O201 := O192.call0 g200
            have S_ := g200.f
            have f_thing := f_thing.mono S_
            have h3 := S_ _ _ h3
            have r8 := r8.mono S_
            have r9 := r9.mono S_
            have r10 := r10.mono S_
            have r11 := r11.mono S_
            have h15 := S_ _ _ h15
            have hl16 := hl16.mono S_
            have h22 := S_ _ _ h22
            have hl23 := hl23.mono S_
            have h28 := S_ _ _ h28
            have hl29 := hl29.mono S_
            have h37 := h37.mono S_
            have h45 := h45.mono S_
            have h44 := h44.mono S_
            have h52 := h52.mono S_
            have h60 := h60.mono S_
            have h59 := h59.mono S_
            have h67 := h67.mono S_
            have h75 := h75.mono S_
            have h74 := h74.mono S_
            have h82 := h82.mono S_
            have h85 := S_ _ _ h85
            have r89 := r89.mono S_
            have r90 := r90.mono S_
            have r91 := r91.mono S_
            have hl92 := hl92.mono S_
            have h195 := h195.mono S_
            exact hk _ _  O201.g 
      · have hk := wp_el hk q18
        refine iteT ?_
        exact hk _ _  O.g 
    · have hk := wp_el hk q17
      refine ⟨_, rfl, ?_⟩
      refine iteNF ?_
      refine iteT ?_
      exact hk _ _  O.g 
abbrev s_need_rule : Stmt := top 25
theorem sc_need_rule : FnScope ["rule"] ["rule"] (defScope s_need_rule) := ⟨rfl, rfl, rfl, by decide +kernel, rfl, by decide +kernel, by decide +kernel⟩
def m_need_rule (x_rule : (T4 (List Sm) (List Sm) (List Sm) Sm)) : M (Unit) :=
m_is_rule x_rule >>= fun r1 =>
if r1 = true then (
.ok ())
else (
raise "NoRule")
def sp_need_rule (mg : Str → Option Value) : Sp := fun vs H Q E => ∃ (F : Hp) (v_rule : V) (x_rule : (T4 (List Sm) (List Sm) (List Sm) Sm)), vs = [v_rule] ∧ Pre F [] H ∧ R (a := (T4 (List Sm) (List Sm) (List Sm) Sm)) F v_rule x_rule ∧
  wp (m_need_rule x_rule) (fun r => ∀ (F' H' : Hp), Gr [] F H F' H' → Q .non H')
  (fun n => ∀ (C : Addr) (H' : Hp), mg (Str.ofString n) = some (.ref C) → Kp [] H H' → E (.ref C) none H')
set_option maxHeartbeats 20000000 in
theorem ok_need_rule (nb : Nb mg) (C_is_rule : Ca P w K mg base "is_rule" 62 ["thing"] (sp_is_rule mg)) (E_NoRule : ∃ C, Xc K mg "NoRule" C) (D : Df K mg "need_rule" "need_rule" s_need_rule ["rule"]) : Ca P w K mg base "need_rule" 63 ["rule"] (sp_need_rule mg) := by
  obtain ⟨fa_is_rule, fd_is_rule, G_is_rule, M_is_rule, K_is_rule, B_is_rule⟩ := C_is_rule.ex
  obtain ⟨XC_NoRule, X_NoRule⟩ := E_NoRule
  refine Ca.mk' D sc_need_rule (fun vs H Q E h => ?_) (fun q_ f_ cdv A outer s H vs Q E hr h => ?_)
  · obtain ⟨F, _, _, rfl, _⟩ := h
    rfl
  · obtain ⟨F, v_rule, x_rule, rfl, P0, f_rule, hk⟩ := h
    have nd := sc_need_rule.nd
    have hu64 := hr.units
    have hu128 := hu128_of hr
    have O := P0.start
    refine ⟨_, (pss_one (ps_if (pt_not (pt_val (pe_call G_is_rule (hr.mono (by decide)) rfl M_is_rule K_is_rule B_is_rule .nil (passes_call (takes_of rfl rfl rfl rfl) fun _ _ _ _ h => h) (pa_cons (pv 0) pa_nil)))) (pss_one (ps_raise rfl (takes_of rfl rfl rfl rfl) (pmk_own PySem.F.excBase_ValueError X_NoRule.x X_NoRule.g X_NoRule.k (raises_own X_NoRule.b X_NoRule.t) rfl))) pss_nil)), ?_⟩
    refine ⟨_, rfl, _, _, _, rfl, O.pre0, f_rule, wp_call hk (fun r1 er2 hk F3 H4 g5 => ?_) (fun n hn C H1 hC kp => hn C H1 hC (O.kp0 kp))⟩
    have O6 := O.call0 g5
    have S_ := g5.f
    have f_rule := f_rule.mono S_
    refine ⟨_, rfl, ?_⟩
    refine iteBN (fun q7 => ?_) (fun q7 => ?_)
    · have hk := wp_if hk q7
      exact hk _ _  O6.g 
    · have hk := wp_el hk q7
      exact hk _ _ X_NoRule.g O6.kp
abbrev s_sum_at : Stmt := top 26
theorem sc_sum_at : FnScope ["sum_told", "own", "tie", "so", "more", "word", "one", "other", "part"] ["sum_told", "own", "tie", "so", "more"] (defScope s_sum_at) := ⟨rfl, rfl, rfl, by decide +kernel, rfl, by decide +kernel, by decide +kernel⟩
def m_sum_at : Nat → Sm → Int → Int → (List Int) → (List Int) → M (Int)
  | 0, _, _, _, _, _ => bad
  | k_ + 1, x_sum_told, x_own, x_tie, x_so, x_more =>
    if (Sm.word x_sum_told) = ("number" : Str) then (
    opt (Sm.int? x_sum_told) >>= fun y6 =>
    .ok y6)
    else (
    if (Sm.word x_sum_told) = ("own" : Str) then (
    .ok x_own)
    else (
    if (Sm.word x_sum_told) = ("tie" : Str) then (
    .ok x_tie)
    else (
    if (Sm.word x_sum_told) = ("so" : Str) then (
    opt (Sm.int? x_sum_told) >>= fun y15 =>
    opt (atI x_so y15) >>= fun y26 =>
    .ok y26)
    else (
    if (Sm.word x_sum_told) = ("more" : Str) then (
    opt (Sm.int? x_sum_told) >>= fun y32 =>
    opt (atI x_more y32) >>= fun y43 =>
    .ok y43)
    else (
    opt (Sm.two? x_sum_told) >>= fun y48 =>
    compS (fun (y65 : Sm) (st82 : Unit) =>
    m_sum_at k_ y65 x_own x_tie x_so x_more >>= fun r88 =>
    .ok (some r88, ())) ([y48.1, y48.2]) () >>= fun q105 =>
    two2 q105.1 >>= fun (x116, x117) =>
    if (Sm.word x_sum_told) = ("plus" : Str) then (
    .ok (x116 + x117))
    else (
    if (Sm.word x_sum_told) = ("less" : Str) then (
    .ok (x116 - x117))
    else (
    if (Sm.word x_sum_told) = ("times" : Str) then (
    chk (CMulW x116 x117) >>= fun _ =>
    .ok (x116 * x117))
    else (
    if (Sm.word x_sum_told) = ("most" : Str) then (
    .ok (if x117 > x116 then x117 else x116))
    else (
    .ok (if x117 < x116 then x117 else x116))))))))))
def sp_sum_at (k_ : Nat) (mg : Str → Option Value) : Sp := fun vs H Q E => ∃ (F : Hp) (v_sum_told : V) (x_sum_told : Sm) (x_own : Int) (x_tie : Int) (v_so : V) (x_so : (List Int)) (v_more : V) (x_more : (List Int)), vs = [v_sum_told, V.int x_own, V.int x_tie, v_so, v_more] ∧ Pre F [] H ∧ R (a := Sm) F v_sum_told x_sum_told ∧ R (a := (List Int)) F v_so x_so ∧ R (a := (List Int)) F v_more x_more ∧
  wp (m_sum_at k_ x_sum_told x_own x_tie x_so x_more) (fun r => ∀ (F' H' : Hp), Gr [] F H F' H' → Q (V.int r) H')
  (fun n => ∀ (C : Addr) (H' : Hp), mg (Str.ofString n) = some (.ref C) → Kp [] H H' → E (.ref C) none H')
set_option maxHeartbeats 20000000 in
theorem ok_sum_at (nb : Nb mg) (D : Df K mg "sum_at" "sum_at" s_sum_at ["sum_told", "own", "tie", "so", "more"]) : ∀ k_ : Nat, Ca P w K mg base "sum_at" (k_ + 1) ["sum_told", "own", "tie", "so", "more"] (sp_sum_at k_ mg) := by
  intro k_
  induction k_ with
  | zero =>
    refine Ca.mk' D sc_sum_at (fun vs H Q E h => ?_) (fun q_ f_ cdv A outer s H vs Q E hr h => ?_)
    · obtain ⟨F, _, _, _, _, _, _, _, _, rfl, _⟩ := h
      rfl
    · obtain ⟨F, _, _, _, _, _, _, _, _, rfl, _, _, _, _, hk⟩ := h
      exact hk.elim
  | succ k_ ih_ =>
    have C_sum_at := ih_
    obtain ⟨fa_sum_at, fd_sum_at, G_sum_at, M_sum_at, K_sum_at, B_sum_at⟩ := C_sum_at.ex
    refine Ca.mk' D sc_sum_at (fun vs H Q E h => ?_) (fun q_ f_ cdv A outer s H vs Q E hr h => ?_)
    · obtain ⟨F, _, _, _, _, _, _, _, _, rfl, _⟩ := h
      rfl
    · obtain ⟨F, v_sum_told, x_sum_told, x_own, x_tie, v_so, x_so, v_more, x_more, rfl, P0, f_sum_told, f_so, f_more, hk⟩ := h
      have nd := sc_sum_at.nd
      have hu64 := hr.units
      have hu128 := hu128_of hr
      have O := P0.start
      refine ⟨_, (pss_cons (ps_toN (ps_set (i := 5) nd rfl (Or.inl rfl) (pe_ix (ixTupK (K := K) rfl) (pv 0) pe_int (fun _ _ => rfl))))
  (pss_cons (ps_if (pt_cmpR (op_eqT Str hu64) (pv 5) pe_str (nomark _)) (pss_one (ps_ret (pe_ix (ixTupK (K := K) rfl) (pv 0) pe_int (fun _ _ => rfl)))) pss_nil)
  (pss_cons (ps_if (pt_cmpR (op_eqT Str hu64) (pv 5) pe_str (nomark _)) (pss_one (ps_ret (pv 1))) pss_nil)
  (pss_cons (ps_if (pt_cmpR (op_eqT Str hu64) (pv 5) pe_str (nomark _)) (pss_one (ps_ret (pv 2))) pss_nil)
  (pss_cons (ps_if (pt_cmpR (op_eqT Str hu64) (pv 5) pe_str (nomark _)) (pss_one (ps_ret (pe_ix (ixListK (K := K) rfl) (pv 3) (pe_ix (ixTupK (K := K) rfl) (pv 0) pe_int (fun _ _ => rfl)) (fun _ _ => rfl)))) pss_nil)
  (pss_cons (ps_if (pt_cmpR (op_eqT Str hu64) (pv 5) pe_str (nomark _)) (pss_one (ps_ret (pe_ix (ixListK (K := K) rfl) (pv 4) (pe_ix (ixTupK (K := K) rfl) (pv 0) pe_int (fun _ _ => rfl)) (fun _ _ => rfl)))) pss_nil)
  (pss_cons (ps_asg (pe_lc (own := [("part", 8)]) (g := gName 8) (tt := _) rfl nd (piTupK (K := K) rfl (pe_slice (slTupK (K := K) rfl) (pv 0) (po_some pe_int) po_none)) (blkOk_by (own := [("part", 8)]) (N := ["sum_told", "own", "tie", "so", "more", "word", "one", "other", "part"]) (sc := defScope s_sum_at) (by decide +kernel)) (fun _ _ _ _ _ => (pg_name (i := 8) nd rfl (Or.inl rfl))) (fun _ _ _ _ _ => pts_nil) (fun _ _ _ _ _ => (pe_call G_sum_at (hr.mono (by omega)) rfl M_sum_at K_sum_at B_sum_at .nil passL (pa_cons (pv 8) (pa_cons (pv 1) (pa_cons (pv 2) (pa_cons (pv 3) (pa_cons (pv 4) pa_nil)))))))) (pgLstK (K := K) rfl rfl (pgs_cons (pg_name (i := 6) nd rfl (Or.inl rfl)) (pgs_cons (pg_name (i := 7) nd rfl (Or.inl rfl)) pgs_nil))))
  (pss_cons (ps_if (pt_cmpR (op_eqT Str hu64) (pv 5) pe_str (nomark _)) (pss_one (ps_ret (pe_op op_add (pv 6) (pv 7)))) pss_nil)
  (pss_cons (ps_if (pt_cmpR (op_eqT Str hu64) (pv 5) pe_str (nomark _)) (pss_one (ps_ret (pe_op op_sub (pv 6) (pv 7)))) pss_nil)
  (pss_cons (ps_if (pt_cmpR (op_eqT Str hu64) (pv 5) pe_str (nomark _)) (pss_one (ps_ret (pe_op op_mulW (pv 6) (pv 7)))) pss_nil)
  (pss_cons (ps_if (pt_cmpR (op_eqT Str hu64) (pv 5) pe_str (nomark _)) (pss_one (ps_ret (pe_callB (call_max2 rfl) (by rfl) nb.b_max (by decide +kernel) (pa_cons (pv 6) (pa_cons (pv 7) pa_nil))))) pss_nil)
  (pss_one (ps_ret (pe_callB (call_min2 rfl) (by rfl) nb.b_min (by decide +kernel) (pa_cons (pv 6) (pa_cons (pv 7) pa_nil)))))))))))))))), ?_⟩
      obtain ⟨p1, w2, e3, h4⟩ := R.sm_ f_sum_told
      cases e3
      refine ⟨_, rfl, _, _, _, _, rfl, rfl, (SqTK O.s h4), (atI0 _ _), [some (V.ref p1), some (V.int x_own), some (V.int x_tie), some v_so, some v_more, some (V.str (Sm.word x_sum_told)), none, none, none], rfl, _, rfl, _, _, R.str, R.str, _, rfl, ?_⟩
      refine iteD (fun q5 => ?_) (fun q5 => ?_)
      · have hk := wp_if hk q5
        obtain ⟨y6, e7, hk⟩ := wp_opt hk
        obtain ⟨p8, w9, e10, h11⟩ := R.sm_int f_sum_told e7
        cases e10
        refine ⟨_, rfl, _, _, _, _, rfl, rfl, (SqTK O.s h11), rfl, ?_⟩
        exact hk _ _  O.g 
      · have hk := wp_el hk q5
        refine ⟨_, rfl, _, _, R.str, R.str, _, rfl, ?_⟩
        refine iteD (fun q12 => ?_) (fun q12 => ?_)
        · have hk := wp_if hk q12
          refine ⟨_, rfl, ?_⟩
          exact hk _ _  O.g 
        · have hk := wp_el hk q12
          refine ⟨_, rfl, _, _, R.str, R.str, _, rfl, ?_⟩
          refine iteD (fun q13 => ?_) (fun q13 => ?_)
          · have hk := wp_if hk q13
            refine ⟨_, rfl, ?_⟩
            exact hk _ _  O.g 
          · have hk := wp_el hk q13
            refine ⟨_, rfl, _, _, R.str, R.str, _, rfl, ?_⟩
            refine iteD (fun q14 => ?_) (fun q14 => ?_)
            · have hk := wp_if hk q14
              obtain ⟨y15, e16, hk⟩ := wp_opt hk
              obtain ⟨p17, w18, e19, h20⟩ := R.sm_int f_sum_told e16
              cases e19
              obtain ⟨p21, w22, e23, h24, hl25⟩ := R.lst_ f_so
              cases e23
              obtain ⟨y26, e27, hk⟩ := wp_opt hk
              obtain ⟨w28, e29, r30⟩ := hl25.atI e27
              obtain rfl := R.int_ r30
              refine ⟨_, rfl, _, rfl, _, _, _, _, rfl, rfl, (SqTK O.s h20), rfl, _, _, _, _, rfl, rfl, (SqLF O.s h24), e29, ?_⟩
              exact hk _ _  O.g 
            · have hk := wp_el hk q14
              refine ⟨_, rfl, _, _, R.str, R.str, _, rfl, ?_⟩
              refine iteD (fun q31 => ?_) (fun q31 => ?_)
              · have hk := wp_if hk q31
                obtain ⟨y32, e33, hk⟩ := wp_opt hk
                obtain ⟨p34, w35, e36, h37⟩ := R.sm_int f_sum_told e33
                cases e36
                obtain ⟨p38, w39, e40, h41, hl42⟩ := R.lst_ f_more
                cases e40
                obtain ⟨y43, e44, hk⟩ := wp_opt hk
                obtain ⟨w45, e46, r47⟩ := hl42.atI e44
                obtain rfl := R.int_ r47
                refine ⟨_, rfl, _, rfl, _, _, _, _, rfl, rfl, (SqTK O.s h37), rfl, _, _, _, _, rfl, rfl, (SqLF O.s h41), e46, ?_⟩
                exact hk _ _  O.g 
              · have hk := wp_el hk q31
                obtain ⟨y48, e49, hk⟩ := wp_opt hk
                obtain ⟨p50, w51, v52, v53, e54, h55, r56, r57⟩ := R.sm_two f_sum_told e49
                cases e54
                refine ⟨_, rfl, _, rfl, _, _, rfl, (SqTK O.s h55), (sl3 _ _ _), fun p58 hp59 => ?_⟩
                obtain ⟨F60, O61, S62, h63⟩ := O.putE hp59 (.tup [v52, v53])
                have f_sum_told := f_sum_told.mono S62
                have f_so := f_so.mono S62
                have f_more := f_more.mono S62
                have h4 := h4.mono S62
                have h55 := h55.mono S62
                have r56 := r56.mono S62
                have r57 := r57.mono S62
                have hl64 : RL (a := Sm) F60 [v52, v53] [y48.1, y48.2] := RL.cons r56 (RL.cons r57 RL.nil)
                obtain ⟨c70, L66, hL67, hLs68, hLd69⟩ := compS_L hk
                refine ⟨_, rfl, ⟨_, (SqTF O61.s h63)⟩, fun p71 hp72 => ?_⟩
                have z94 := O61.was hp72
                refine lc_tup (K := K) (xs := [v52, v53]) (fun i H => ∃ (F_ : Hp) (st : Unit) (acc : List Int) (wa : List V), Same F60 F_ ∧ Ow _ F_ [(p71, .lst wa)] H ∧ RL F_ wa acc ∧ wa.length ≤ i ∧ L66 (List.drop i ([y48.1, y48.2])) acc st) ⟨F60, (), [], [], Same.refl _, O61.new hp72, RL.nil, Nat.zero_le _, hL67⟩ (fun i_ H_ _ hp_ => ?_) ?_ ?_
                · obtain ⟨_, _, _, _, hS_, hO_, _⟩ := hp_
                  exact SqTF hO_.s (hS_ _ _ h63)
                · rintro i73 x74 H75 hi76 ⟨F81, st82, acc78, wa79, S83, O85, hl84, la80, hL67⟩
                  have f_sum_told := f_sum_told.mono S83
                  have f_so := f_so.mono S83
                  have f_more := f_more.mono S83
                  have h4 := h4.mono S83
                  have h55 := h55.mono S83
                  have r56 := r56.mono S83
                  have r57 := r57.mono S83
                  have h63 := S83 _ _ h63
                  have hl64 := hl64.mono S83
                  obtain ⟨y65, e86, r87⟩ := RL.got hl64 hi76
                  rw [drop_at e86] at hL67
                  have hk := hLs68 _ _ _ _ hL67
                  refine ⟨rfl, ?_⟩
                  refine ⟨_, rfl, _, rfl, _, rfl, _, rfl, _, rfl, _, _, _, _, _, _, _, _, _, rfl, O85.pre0, r87, f_so, f_more, wp_call hk (fun r88 er89 hk F90 H91 g92 => ?_) (fun n hn => hn.elim)⟩
                  have O93 := O85.call0 g92
                  have S_ := g92.f
                  have f_sum_told := f_sum_told.mono S_
                  have f_so := f_so.mono S_
                  have f_more := f_more.mono S_
                  have h4 := h4.mono S_
                  have h55 := h55.mono S_
                  have r56 := r56.mono S_
                  have r57 := r57.mono S_
                  have h63 := S_ _ _ h63
                  have hl64 := hl64.mono S_
                  have S83 := S83.trans S_
                  have hl84 := hl84.mono S_
                  have r87 := r87.mono S_
                  refine ⟨_, (O93.at 0 rfl), (comp_len la80 hi76 hl64.len c70), ?_⟩
                  exact ⟨F90, (), acc78 ++ [r88], wa79 ++ [V.int r88], S83, O93.set 0 (.lst (wa79 ++ [V.int r88])) rfl, RL.snoc hl84 R.int, by rw [List.length_append]; exact Nat.succ_le_succ la80, hk⟩
                rintro H95 ⟨F96, st97, acc98, wa99, S100, O101, hl102, la103, hL104⟩
                rw [drop_end hl64.len] at hL104
                have hk := hLd69 _ _ hL104
                have f_sum_told := f_sum_told.mono S100
                have f_so := f_so.mono S100
                have f_more := f_more.mono S100
                have h4 := h4.mono S100
                have h55 := h55.mono S100
                have r56 := r56.mono S100
                have r57 := r57.mono S100
                have h63 := S100 _ _ h63
                have hl64 := hl64.mono S100
                obtain ⟨F106, O107, S108, h109⟩ := O101.frzE 0 rfl z94
                have f_sum_told := f_sum_told.mono S108
                have f_so := f_so.mono S108
                have f_more := f_more.mono S108
                have h4 := h4.mono S108
                have h55 := h55.mono S108
                have r56 := r56.mono S108
                have r57 := r57.mono S108
                have h63 := S108 _ _ h63
                have hl64 := hl64.mono S108
                have hl102 := hl102.mono S108
                have h110 := R.lst (a := Int) h109 hl102
                obtain ⟨p111, w112, e113, h114, hl115⟩ := R.lst_ h110
                cases e113
                obtain ⟨x116, x117, e118, hk⟩ := wp_two2 hk
                have hl119 : RL (a := Int) F106 w112 [x116, x117] := by rw [← e118]; exact hl115
                obtain ⟨w120, w121, e122, r123, q124⟩ := RL.cons_ hl119
                obtain ⟨w125, w126, e127, r128, q129⟩ := RL.cons_ q124
                rw [e127, RL.nil_ q129] at e122
                obtain rfl := R.int_ r123
                obtain rfl := R.int_ r128
                refine ⟨_, _, rfl, (SqLF O107.s h114), (by rw [e122]; rfl), ?_⟩
                rw [e122]
                refine ⟨_, _, rfl, _, _, rfl, rfl, _, rfl, _, _, R.str, R.str, _, rfl, ?_⟩
                refine iteD (fun q130 => ?_) (fun q130 => ?_)
                · have hk := wp_if hk q130
                  refine ⟨_, rfl, _, rfl, _, _, rfl, rfl, ?_⟩
                  exact hk _ _  O107.g 
                · have hk := wp_el hk q130
                  refine ⟨_, rfl, _, _, R.str, R.str, _, rfl, ?_⟩
                  refine iteD (fun q131 => ?_) (fun q131 => ?_)
                  · have hk := wp_if hk q131
                    refine ⟨_, rfl, _, rfl, _, _, rfl, rfl, ?_⟩
                    exact hk _ _  O107.g 
                  · have hk := wp_el hk q131
                    refine ⟨_, rfl, _, _, R.str, R.str, _, rfl, ?_⟩
                    refine iteD (fun q132 => ?_) (fun q132 => ?_)
                    · have hk := wp_if hk q132
                      obtain ⟨c133, hk⟩ := wp_chk hk
                      refine ⟨_, rfl, _, rfl, _, _, rfl, rfl, c133, ?_⟩
                      exact hk _ _  O107.g 
                    · have hk := wp_el hk q132
                      refine ⟨_, rfl, _, _, R.str, R.str, _, rfl, ?_⟩
                      refine iteD (fun q134 => ?_) (fun q134 => ?_)
                      · have hk := wp_if hk q134
                        refine ⟨_, rfl, _, rfl, _, _, rfl, ?_⟩
                        exact hk _ _  O107.g 
                      · have hk := wp_el hk q134
                        refine ⟨_, rfl, _, rfl, _, _, rfl, ?_⟩
                        exact hk _ _  O107.g 
abbrev s_begun : Stmt := top 27
theorem sc_begun : FnScope ["rule", "own", "one"] ["rule", "own"] (defScope s_begun) := ⟨rfl, rfl, rfl, by decide +kernel, rfl, by decide +kernel, by decide +kernel⟩
def m_begun (x_rule : (T4 (List Sm) (List Sm) (List Sm) Sm)) (x_own : Int) : M ((List Int)) :=
compS (fun (y18 : Sm) (st35 : Unit) =>
m_sum_at 12 y18 x_own (0 : Int) ([] : List Int) ([] : List Int) >>= fun r57 =>
.ok (some r57, ())) x_rule.a () >>= fun q74 =>
.ok q74.1
def sp_begun (mg : Str → Option Value) : Sp := fun vs H Q E => ∃ (F : Hp) (v_rule : V) (x_rule : (T4 (List Sm) (List Sm) (List Sm) Sm)) (x_own : Int), vs = [v_rule, V.int x_own] ∧ Pre F [] H ∧ R (a := (T4 (List Sm) (List Sm) (List Sm) Sm)) F v_rule x_rule ∧
  wp (m_begun x_rule x_own) (fun r => ∀ (F' H' : Hp), Gr [] F H F' H' → ∀ (p : Addr) (w : (List V)), H p = none → F' p = none → H' p = some (.lst w) → RL (a := Int) F' w r → Q (.ref p) H')
  (fun n => ∀ (C : Addr) (H' : Hp), mg (Str.ofString n) = some (.ref C) → Kp [] H H' → E (.ref C) none H')
set_option maxHeartbeats 20000000 in
theorem ok_begun (nb : Nb mg) (C_sum_at : Ca P w K mg base "sum_at" 13 ["sum_told", "own", "tie", "so", "more"] (sp_sum_at 12 mg)) (D : Df K mg "begun" "begun" s_begun ["rule", "own"]) : Ca P w K mg base "begun" 14 ["rule", "own"] (sp_begun mg) := by
  obtain ⟨fa_sum_at, fd_sum_at, G_sum_at, M_sum_at, K_sum_at, B_sum_at⟩ := C_sum_at.ex
  refine Ca.mk' D sc_begun (fun vs H Q E h => ?_) (fun q_ f_ cdv A outer s H vs Q E hr h => ?_)
  · obtain ⟨F, _, _, _, rfl, _⟩ := h
    rfl
  · obtain ⟨F, v_rule, x_rule, x_own, rfl, P0, f_rule, hk⟩ := h
    have nd := sc_begun.nd
    have hu64 := hr.units
    have hu128 := hu128_of hr
    have O := P0.start
    refine ⟨_, (pss_one (ps_ret (pe_lc (own := [("one", 2)]) (g := gName 2) (tt := _) rfl nd (piListK (K := K) rfl (pe_ix (ixTupK (K := K) rfl) (pv 0) pe_int (fun _ _ => rfl))) (blkOk_by (own := [("one", 2)]) (N := ["rule", "own", "one"]) (sc := defScope s_begun) (by decide +kernel)) (fun _ _ _ _ _ => (pg_name (i := 2) nd rfl (Or.inl rfl))) (fun _ _ _ _ _ => pts_nil) (fun _ _ _ _ _ => (pe_call G_sum_at (hr.mono (by decide)) rfl M_sum_at K_sum_at B_sum_at .nil passL (pa_cons (pv 2) (pa_cons (pv 1) (pa_cons pe_int (pa_cons (pe_lst pa_nil) (pa_cons (pe_lst pa_nil) pa_nil)))))))))), ?_⟩
    obtain ⟨p2, v5, v6, v7, v8, e3, h4, r9, r10, r11, r12⟩ := R.t4_ f_rule
    cases e3
    obtain ⟨p13, w14, e15, h16, hl17⟩ := R.lst_ r9
    cases e15
    obtain ⟨c23, L19, hL20, hLs21, hLd22⟩ := compS_L hk
    refine ⟨_, rfl, _, _, _, _, rfl, rfl, (SqTF O.s h4), rfl, _, rfl, ⟨_, (SqLF O.s h16)⟩, fun p24 hp25 => ?_⟩
    have z63 := O.was hp25
    refine lc_list (K := K) (xs := w14) (fun i H => ∃ (F_ : Hp) (st : Unit) (acc : List Int) (wa : List V), Same F F_ ∧ Ow _ F_ [(p24, .lst wa)] H ∧ RL F_ wa acc ∧ wa.length ≤ i ∧ L19 (List.drop i x_rule.a) acc st) ⟨F, (), [], [], Same.refl _, O.new hp25, RL.nil, Nat.zero_le _, hL20⟩ (fun i_ H_ _ hp_ => ?_) ?_ ?_
    · obtain ⟨_, _, _, _, hS_, hO_, _⟩ := hp_
      exact SqLF hO_.s (hS_ _ _ h16)
    · rintro i26 x27 H28 hi29 ⟨F34, st35, acc31, wa32, S36, O38, hl37, la33, hL20⟩
      have f_rule := f_rule.mono S36
      have h4 := S36 _ _ h4
      have r9 := r9.mono S36
      have r10 := r10.mono S36
      have r11 := r11.mono S36
      have r12 := r12.mono S36
      have h16 := S36 _ _ h16
      have hl17 := hl17.mono S36
      obtain ⟨y18, e39, r40⟩ := RL.got hl17 hi29
      rw [drop_at e39] at hL20
      have hk := hLs21 _ _ _ _ hL20
      refine ⟨rfl, ?_⟩
      refine ⟨_, rfl, _, rfl, (by show 0 ≤ sizeLine; decide), fun p41 hp42 => ?_⟩
      have hl48 : RL (a := Int) F34 ([]) ([] : List Int) := RL.nil
      obtain ⟨F43, O44, S45, h46⟩ := O38.putE hp42 (.lst ([]))
      have f_rule := f_rule.mono S45
      have h4 := S45 _ _ h4
      have r9 := r9.mono S45
      have r10 := r10.mono S45
      have r11 := r11.mono S45
      have r12 := r12.mono S45
      have h16 := S45 _ _ h16
      have hl17 := hl17.mono S45
      have S36 := S36.trans S45
      have hl37 := hl37.mono S45
      have r40 := r40.mono S45
      have hl48 := hl48.mono S45
      have h47 := R.lst (a := Int) h46 hl48
      refine ⟨(by show 0 ≤ sizeLine; decide), fun p49 hp50 => ?_⟩
      have hl56 : RL (a := Int) F43 ([]) ([] : List Int) := RL.nil
      obtain ⟨F51, O52, S53, h54⟩ := O44.putE hp50 (.lst ([]))
      have f_rule := f_rule.mono S53
      have h4 := S53 _ _ h4
      have r9 := r9.mono S53
      have r10 := r10.mono S53
      have r11 := r11.mono S53
      have r12 := r12.mono S53
      have h16 := S53 _ _ h16
      have hl17 := hl17.mono S53
      have S36 := S36.trans S53
      have hl37 := hl37.mono S53
      have r40 := r40.mono S53
      have h47 := h47.mono S53
      have hl56 := hl56.mono S53
      have h55 := R.lst (a := Int) h54 hl56
      refine ⟨_, _, _, _, _, _, _, _, _, rfl, O52.pre0, r40, h47, h55, wp_call hk (fun r57 er58 hk F59 H60 g61 => ?_) (fun n hn => hn.elim)⟩
      have O62 := O52.call0 g61
      have S_ := g61.f
      have f_rule := f_rule.mono S_
      have h4 := S_ _ _ h4
      have r9 := r9.mono S_
      have r10 := r10.mono S_
      have r11 := r11.mono S_
      have r12 := r12.mono S_
      have h16 := S_ _ _ h16
      have hl17 := hl17.mono S_
      have S36 := S36.trans S_
      have hl37 := hl37.mono S_
      have r40 := r40.mono S_
      have h47 := h47.mono S_
      have h55 := h55.mono S_
      refine ⟨_, (O62.at 0 rfl), (comp_len la33 hi29 hl17.len c23), ?_⟩
      exact ⟨F59, (), acc31 ++ [r57], wa32 ++ [V.int r57], S36, O62.set 0 (.lst (wa32 ++ [V.int r57])) rfl, RL.snoc hl37 R.int, by rw [List.length_append]; exact Nat.succ_le_succ la33, hk⟩
    rintro H64 ⟨F65, st66, acc67, wa68, S69, O70, hl71, la72, hL73⟩
    rw [drop_end hl17.len] at hL73
    have hk := hLd22 _ _ hL73
    have f_rule := f_rule.mono S69
    have h4 := S69 _ _ h4
    have r9 := r9.mono S69
    have r10 := r10.mono S69
    have r11 := r11.mono S69
    have r12 := r12.mono S69
    have h16 := S69 _ _ h16
    have hl17 := hl17.mono S69
    exact hk _ _  O70.g  _ _ z63 (O70.cf _ (List.mem_of_getElem? (i := 0) rfl)) (O70.at 0 rfl) hl71
abbrev s_joined : Stmt := top 28
theorem sc_joined : FnScope ["rule", "so", "more", "own", "one"] ["rule", "so", "more", "own"] (defScope s_joined) := ⟨rfl, rfl, rfl, by decide +kernel, rfl, by decide +kernel, by decide +kernel⟩
def m_joined (x_rule : (T4 (List Sm) (List Sm) (List Sm) Sm)) (x_so : (List Int)) (x_more : (List Int)) (x_own : Int) : M ((List Int)) :=
compS (fun (y18 : Sm) (st35 : Unit) =>
m_sum_at 12 y18 x_own (0 : Int) x_so x_more >>= fun r41 =>
.ok (some r41, ())) x_rule.c () >>= fun q58 =>
.ok q58.1
def sp_joined (mg : Str → Option Value) : Sp := fun vs H Q E => ∃ (F : Hp) (v_rule : V) (x_rule : (T4 (List Sm) (List Sm) (List Sm) Sm)) (v_so : V) (x_so : (List Int)) (v_more : V) (x_more : (List Int)) (x_own : Int), vs = [v_rule, v_so, v_more, V.int x_own] ∧ Pre F [] H ∧ R (a := (T4 (List Sm) (List Sm) (List Sm) Sm)) F v_rule x_rule ∧ R (a := (List Int)) F v_so x_so ∧ R (a := (List Int)) F v_more x_more ∧
  wp (m_joined x_rule x_so x_more x_own) (fun r => ∀ (F' H' : Hp), Gr [] F H F' H' → ∀ (p : Addr) (w : (List V)), H p = none → F' p = none → H' p = some (.lst w) → RL (a := Int) F' w r → Q (.ref p) H')
  (fun n => ∀ (C : Addr) (H' : Hp), mg (Str.ofString n) = some (.ref C) → Kp [] H H' → E (.ref C) none H')
set_option maxHeartbeats 20000000 in
theorem ok_joined (nb : Nb mg) (C_sum_at : Ca P w K mg base "sum_at" 13 ["sum_told", "own", "tie", "so", "more"] (sp_sum_at 12 mg)) (D : Df K mg "joined" "joined" s_joined ["rule", "so", "more", "own"]) : Ca P w K mg base "joined" 14 ["rule", "so", "more", "own"] (sp_joined mg) := by
  obtain ⟨fa_sum_at, fd_sum_at, G_sum_at, M_sum_at, K_sum_at, B_sum_at⟩ := C_sum_at.ex
  refine Ca.mk' D sc_joined (fun vs H Q E h => ?_) (fun q_ f_ cdv A outer s H vs Q E hr h => ?_)
  · obtain ⟨F, _, _, _, _, _, _, _, rfl, _⟩ := h
    rfl
  · obtain ⟨F, v_rule, x_rule, v_so, x_so, v_more, x_more, x_own, rfl, P0, f_rule, f_so, f_more, hk⟩ := h
    have nd := sc_joined.nd
    have hu64 := hr.units
    have hu128 := hu128_of hr
    have O := P0.start
    refine ⟨_, (pss_one (ps_ret (pe_lc (own := [("one", 4)]) (g := gName 4) (tt := _) rfl nd (piListK (K := K) rfl (pe_ix (ixTupK (K := K) rfl) (pv 0) pe_int (fun _ _ => rfl))) (blkOk_by (own := [("one", 4)]) (N := ["rule", "so", "more", "own", "one"]) (sc := defScope s_joined) (by decide +kernel)) (fun _ _ _ _ _ => (pg_name (i := 4) nd rfl (Or.inl rfl))) (fun _ _ _ _ _ => pts_nil) (fun _ _ _ _ _ => (pe_call G_sum_at (hr.mono (by decide)) rfl M_sum_at K_sum_at B_sum_at .nil passL (pa_cons (pv 4) (pa_cons (pv 3) (pa_cons pe_int (pa_cons (pv 1) (pa_cons (pv 2) pa_nil)))))))))), ?_⟩
    obtain ⟨p2, v5, v6, v7, v8, e3, h4, r9, r10, r11, r12⟩ := R.t4_ f_rule
    cases e3
    obtain ⟨p13, w14, e15, h16, hl17⟩ := R.lst_ r11
    cases e15
    obtain ⟨c23, L19, hL20, hLs21, hLd22⟩ := compS_L hk
    refine ⟨_, rfl, _, _, _, _, rfl, rfl, (SqTF O.s h4), rfl, _, rfl, ⟨_, (SqLF O.s h16)⟩, fun p24 hp25 => ?_⟩
    have z47 := O.was hp25
    refine lc_list (K := K) (xs := w14) (fun i H => ∃ (F_ : Hp) (st : Unit) (acc : List Int) (wa : List V), Same F F_ ∧ Ow _ F_ [(p24, .lst wa)] H ∧ RL F_ wa acc ∧ wa.length ≤ i ∧ L19 (List.drop i x_rule.c) acc st) ⟨F, (), [], [], Same.refl _, O.new hp25, RL.nil, Nat.zero_le _, hL20⟩ (fun i_ H_ _ hp_ => ?_) ?_ ?_
    · obtain ⟨_, _, _, _, hS_, hO_, _⟩ := hp_
      exact SqLF hO_.s (hS_ _ _ h16)
    · rintro i26 x27 H28 hi29 ⟨F34, st35, acc31, wa32, S36, O38, hl37, la33, hL20⟩
      have f_rule := f_rule.mono S36
      have f_so := f_so.mono S36
      have f_more := f_more.mono S36
      have h4 := S36 _ _ h4
      have r9 := r9.mono S36
      have r10 := r10.mono S36
      have r11 := r11.mono S36
      have r12 := r12.mono S36
      have h16 := S36 _ _ h16
      have hl17 := hl17.mono S36
      obtain ⟨y18, e39, r40⟩ := RL.got hl17 hi29
      rw [drop_at e39] at hL20
      have hk := hLs21 _ _ _ _ hL20
      refine ⟨rfl, ?_⟩
      refine ⟨_, rfl, _, rfl, _, rfl, _, rfl, _, _, _, _, _, _, _, _, _, rfl, O38.pre0, r40, f_so, f_more, wp_call hk (fun r41 er42 hk F43 H44 g45 => ?_) (fun n hn => hn.elim)⟩
      have O46 := O38.call0 g45
      have S_ := g45.f
      have f_rule := f_rule.mono S_
      have f_so := f_so.mono S_
      have f_more := f_more.mono S_
      have h4 := S_ _ _ h4
      have r9 := r9.mono S_
      have r10 := r10.mono S_
      have r11 := r11.mono S_
      have r12 := r12.mono S_
      have h16 := S_ _ _ h16
      have hl17 := hl17.mono S_
      have S36 := S36.trans S_
      have hl37 := hl37.mono S_
      have r40 := r40.mono S_
      refine ⟨_, (O46.at 0 rfl), (comp_len la33 hi29 hl17.len c23), ?_⟩
      exact ⟨F43, (), acc31 ++ [r41], wa32 ++ [V.int r41], S36, O46.set 0 (.lst (wa32 ++ [V.int r41])) rfl, RL.snoc hl37 R.int, by rw [List.length_append]; exact Nat.succ_le_succ la33, hk⟩
    rintro H48 ⟨F49, st50, acc51, wa52, S53, O54, hl55, la56, hL57⟩
    rw [drop_end hl17.len] at hL57
    have hk := hLd22 _ _ hL57
    have f_rule := f_rule.mono S53
    have f_so := f_so.mono S53
    have f_more := f_more.mono S53
    have h4 := S53 _ _ h4
    have r9 := r9.mono S53
    have r10 := r10.mono S53
    have r11 := r11.mono S53
    have r12 := r12.mono S53
    have h16 := S53 _ _ h16
    have hl17 := hl17.mono S53
    exact hk _ _  O54.g  _ _ z47 (O54.cf _ (List.mem_of_getElem? (i := 0) rfl)) (O54.at 0 rfl) hl55
abbrev s_over_tie : Stmt := top 29
theorem sc_over_tie : FnScope ["rule", "more", "own", "tie", "one"] ["rule", "more", "own", "tie"] (defScope s_over_tie) := ⟨rfl, rfl, rfl, by decide +kernel, rfl, by decide +kernel, by decide +kernel⟩
def m_over_tie (x_rule : (T4 (List Sm) (List Sm) (List Sm) Sm)) (x_more : (List Int)) (x_own : Int) (x_tie : Int) : M ((List Int)) :=
compS (fun (y18 : Sm) (st35 : Unit) =>
m_sum_at 12 y18 x_own x_tie ([] : List Int) x_more >>= fun r49 =>
.ok (some r49, ())) x_rule.b () >>= fun q66 =>
.ok q66.1
def sp_over_tie (mg : Str → Option Value) : Sp := fun vs H Q E => ∃ (F : Hp) (v_rule : V) (x_rule : (T4 (List Sm) (List Sm) (List Sm) Sm)) (v_more : V) (x_more : (List Int)) (x_own : Int) (x_tie : Int), vs = [v_rule, v_more, V.int x_own, V.int x_tie] ∧ Pre F [] H ∧ R (a := (T4 (List Sm) (List Sm) (List Sm) Sm)) F v_rule x_rule ∧ R (a := (List Int)) F v_more x_more ∧
  wp (m_over_tie x_rule x_more x_own x_tie) (fun r => ∀ (F' H' : Hp), Gr [] F H F' H' → ∀ (p : Addr) (w : (List V)), H p = none → F' p = none → H' p = some (.lst w) → RL (a := Int) F' w r → Q (.ref p) H')
  (fun n => ∀ (C : Addr) (H' : Hp), mg (Str.ofString n) = some (.ref C) → Kp [] H H' → E (.ref C) none H')
set_option maxHeartbeats 20000000 in
theorem ok_over_tie (nb : Nb mg) (C_sum_at : Ca P w K mg base "sum_at" 13 ["sum_told", "own", "tie", "so", "more"] (sp_sum_at 12 mg)) (D : Df K mg "over_tie" "over_tie" s_over_tie ["rule", "more", "own", "tie"]) : Ca P w K mg base "over_tie" 14 ["rule", "more", "own", "tie"] (sp_over_tie mg) := by
  obtain ⟨fa_sum_at, fd_sum_at, G_sum_at, M_sum_at, K_sum_at, B_sum_at⟩ := C_sum_at.ex
  refine Ca.mk' D sc_over_tie (fun vs H Q E h => ?_) (fun q_ f_ cdv A outer s H vs Q E hr h => ?_)
  · obtain ⟨F, _, _, _, _, _, _, rfl, _⟩ := h
    rfl
  · obtain ⟨F, v_rule, x_rule, v_more, x_more, x_own, x_tie, rfl, P0, f_rule, f_more, hk⟩ := h
    have nd := sc_over_tie.nd
    have hu64 := hr.units
    have hu128 := hu128_of hr
    have O := P0.start
    refine ⟨_, (pss_one (ps_ret (pe_lc (own := [("one", 4)]) (g := gName 4) (tt := _) rfl nd (piListK (K := K) rfl (pe_ix (ixTupK (K := K) rfl) (pv 0) pe_int (fun _ _ => rfl))) (blkOk_by (own := [("one", 4)]) (N := ["rule", "more", "own", "tie", "one"]) (sc := defScope s_over_tie) (by decide +kernel)) (fun _ _ _ _ _ => (pg_name (i := 4) nd rfl (Or.inl rfl))) (fun _ _ _ _ _ => pts_nil) (fun _ _ _ _ _ => (pe_call G_sum_at (hr.mono (by decide)) rfl M_sum_at K_sum_at B_sum_at .nil passL (pa_cons (pv 4) (pa_cons (pv 2) (pa_cons (pv 3) (pa_cons (pe_lst pa_nil) (pa_cons (pv 1) pa_nil)))))))))), ?_⟩
    obtain ⟨p2, v5, v6, v7, v8, e3, h4, r9, r10, r11, r12⟩ := R.t4_ f_rule
    cases e3
    obtain ⟨p13, w14, e15, h16, hl17⟩ := R.lst_ r10
    cases e15
    obtain ⟨c23, L19, hL20, hLs21, hLd22⟩ := compS_L hk
    refine ⟨_, rfl, _, _, _, _, rfl, rfl, (SqTF O.s h4), rfl, _, rfl, ⟨_, (SqLF O.s h16)⟩, fun p24 hp25 => ?_⟩
    have z55 := O.was hp25
    refine lc_list (K := K) (xs := w14) (fun i H => ∃ (F_ : Hp) (st : Unit) (acc : List Int) (wa : List V), Same F F_ ∧ Ow _ F_ [(p24, .lst wa)] H ∧ RL F_ wa acc ∧ wa.length ≤ i ∧ L19 (List.drop i x_rule.b) acc st) ⟨F, (), [], [], Same.refl _, O.new hp25, RL.nil, Nat.zero_le _, hL20⟩ (fun i_ H_ _ hp_ => ?_) ?_ ?_
    · obtain ⟨_, _, _, _, hS_, hO_, _⟩ := hp_
      exact SqLF hO_.s (hS_ _ _ h16)
    · rintro i26 x27 H28 hi29 ⟨F34, st35, acc31, wa32, S36, O38, hl37, la33, hL20⟩
      have f_rule := f_rule.mono S36
      have f_more := f_more.mono S36
      have h4 := S36 _ _ h4
      have r9 := r9.mono S36
      have r10 := r10.mono S36
      have r11 := r11.mono S36
      have r12 := r12.mono S36
      have h16 := S36 _ _ h16
      have hl17 := hl17.mono S36
      obtain ⟨y18, e39, r40⟩ := RL.got hl17 hi29
      rw [drop_at e39] at hL20
      have hk := hLs21 _ _ _ _ hL20
      refine ⟨rfl, ?_⟩
      refine ⟨_, rfl, _, rfl, _, rfl, (by show 0 ≤ sizeLine; decide), fun p41 hp42 => ?_⟩
      have hl48 : RL (a := Int) F34 ([]) ([] : List Int) := RL.nil
      obtain ⟨F43, O44, S45, h46⟩ := O38.putE hp42 (.lst ([]))
      have f_rule := f_rule.mono S45
      have f_more := f_more.mono S45
      have h4 := S45 _ _ h4
      have r9 := r9.mono S45
      have r10 := r10.mono S45
      have r11 := r11.mono S45
      have r12 := r12.mono S45
      have h16 := S45 _ _ h16
      have hl17 := hl17.mono S45
      have S36 := S36.trans S45
      have hl37 := hl37.mono S45
      have r40 := r40.mono S45
      have hl48 := hl48.mono S45
      have h47 := R.lst (a := Int) h46 hl48
      refine ⟨_, rfl, _, _, _, _, _, _, _, _, _, rfl, O44.pre0, r40, h47, f_more, wp_call hk (fun r49 er50 hk F51 H52 g53 => ?_) (fun n hn => hn.elim)⟩
      have O54 := O44.call0 g53
      have S_ := g53.f
      have f_rule := f_rule.mono S_
      have f_more := f_more.mono S_
      have h4 := S_ _ _ h4
      have r9 := r9.mono S_
      have r10 := r10.mono S_
      have r11 := r11.mono S_
      have r12 := r12.mono S_
      have h16 := S_ _ _ h16
      have hl17 := hl17.mono S_
      have S36 := S36.trans S_
      have hl37 := hl37.mono S_
      have r40 := r40.mono S_
      have h47 := h47.mono S_
      refine ⟨_, (O54.at 0 rfl), (comp_len la33 hi29 hl17.len c23), ?_⟩
      exact ⟨F51, (), acc31 ++ [r49], wa32 ++ [V.int r49], S36, O54.set 0 (.lst (wa32 ++ [V.int r49])) rfl, RL.snoc hl37 R.int, by rw [List.length_append]; exact Nat.succ_le_succ la33, hk⟩
    rintro H56 ⟨F57, st58, acc59, wa60, S61, O62, hl63, la64, hL65⟩
    rw [drop_end hl17.len] at hL65
    have hk := hLd22 _ _ hL65
    have f_rule := f_rule.mono S61
    have f_more := f_more.mono S61
    have h4 := S61 _ _ h4
    have r9 := r9.mono S61
    have r10 := r10.mono S61
    have r11 := r11.mono S61
    have r12 := r12.mono S61
    have h16 := S61 _ _ h16
    have hl17 := hl17.mono S61
    exact hk _ _  O62.g  _ _ z55 (O62.cf _ (List.mem_of_getElem? (i := 0) rfl)) (O62.at 0 rfl) hl63
abbrev s_told_by : Stmt := top 30
theorem sc_told_by : FnScope ["rule", "so", "own"] ["rule", "so", "own"] (defScope s_told_by) := ⟨rfl, rfl, rfl, by decide +kernel, rfl, by decide +kernel, by decide +kernel⟩
def m_told_by (x_rule : (T4 (List Sm) (List Sm) (List Sm) Sm)) (x_so : (List Int)) (x_own : Int) : M (Int) :=
m_sum_at 12 x_rule.d x_own (0 : Int) x_so ([] : List Int) >>= fun r20 =>
.ok r20
def sp_told_by (mg : Str → Option Value) : Sp := fun vs H Q E => ∃ (F : Hp) (v_rule : V) (x_rule : (T4 (List Sm) (List Sm) (List Sm) Sm)) (v_so : V) (x_so : (List Int)) (x_own : Int), vs = [v_rule, v_so, V.int x_own] ∧ Pre F [] H ∧ R (a := (T4 (List Sm) (List Sm) (List Sm) Sm)) F v_rule x_rule ∧ R (a := (List Int)) F v_so x_so ∧
  wp (m_told_by x_rule x_so x_own) (fun r => ∀ (F' H' : Hp), Gr [] F H F' H' → Q (V.int r) H')
  (fun n => ∀ (C : Addr) (H' : Hp), mg (Str.ofString n) = some (.ref C) → Kp [] H H' → E (.ref C) none H')
set_option maxHeartbeats 20000000 in
theorem ok_told_by (nb : Nb mg) (C_sum_at : Ca P w K mg base "sum_at" 13 ["sum_told", "own", "tie", "so", "more"] (sp_sum_at 12 mg)) (D : Df K mg "told_by" "told_by" s_told_by ["rule", "so", "own"]) : Ca P w K mg base "told_by" 14 ["rule", "so", "own"] (sp_told_by mg) := by
  obtain ⟨fa_sum_at, fd_sum_at, G_sum_at, M_sum_at, K_sum_at, B_sum_at⟩ := C_sum_at.ex
  refine Ca.mk' D sc_told_by (fun vs H Q E h => ?_) (fun q_ f_ cdv A outer s H vs Q E hr h => ?_)
  · obtain ⟨F, _, _, _, _, _, rfl, _⟩ := h
    rfl
  · obtain ⟨F, v_rule, x_rule, v_so, x_so, x_own, rfl, P0, f_rule, f_so, hk⟩ := h
    have nd := sc_told_by.nd
    have hu64 := hr.units
    have hu128 := hu128_of hr
    have O := P0.start
    refine ⟨_, (pss_one (ps_ret (pe_call G_sum_at (hr.mono (by decide)) rfl M_sum_at K_sum_at B_sum_at .nil (passes_call (takes_of rfl rfl rfl rfl) fun _ _ _ _ h => h) (pa_cons (pe_ix (ixTupK (K := K) rfl) (pv 0) pe_int (fun _ _ => rfl)) (pa_cons (pv 2) (pa_cons pe_int (pa_cons (pv 1) (pa_cons (pe_lst pa_nil) pa_nil)))))))), ?_⟩
    obtain ⟨p1, v4, v5, v6, v7, e2, h3, r8, r9, r10, r11⟩ := R.t4_ f_rule
    cases e2
    refine ⟨_, rfl, _, _, _, _, rfl, rfl, (SqTF O.s h3), rfl, _, rfl, _, rfl, (by show 0 ≤ sizeLine; decide), fun p12 hp13 => ?_⟩
    have hl19 : RL (a := Int) F ([]) ([] : List Int) := RL.nil
    obtain ⟨F14, O15, S16, h17⟩ := O.putE hp13 (.lst ([]))
    have f_rule := f_rule.mono S16
    have f_so := f_so.mono S16
    have h3 := S16 _ _ h3
    have r8 := r8.mono S16
    have r9 := r9.mono S16
    have r10 := r10.mono S16
    have r11 := r11.mono S16
    have hl19 := hl19.mono S16
    have h18 := R.lst (a := Int) h17 hl19
    refine ⟨_, _, _, _, _, _, _, _, _, rfl, O15.pre0, r11, f_so, h18, wp_call hk (fun r20 er21 hk F22 H23 g24 => ?_) (fun n hn C H1 hC kp => hn C H1 hC (O15.kp0 kp))⟩
    have O25 := O15.call0 g24
    have S_ := g24.f
    have f_rule := f_rule.mono S_
    have f_so := f_so.mono S_
    have h3 := S_ _ _ h3
    have r8 := r8.mono S_
    have r9 := r9.mono S_
    have r10 := r10.mono S_
    have r11 := r11.mono S_
    have h18 := h18.mono S_
    exact hk _ _  O25.g 
abbrev s_tied_places : Stmt := top 32
theorem sc_tied_places : FnScope ["many", "ties", "found", "a", "b", "length", "near", "place"] ["many", "ties"] (defScope s_tied_places) := ⟨rfl, rfl, rfl, by decide +kernel, rfl, by decide +kernel, by decide +kernel⟩
def addAt (fs : List (List Int)) (a b : Int) : M (List (List Int)) := match ixN fs.length a with
  | some j => (match fs[j]? with
    | some x => appL x b >>= fun y => .ok (fs.set j y)
    | none => bad)
  | none => bad
def m_tied_places (x_many : Int) (x_ties : List (T3 Int Int Int)) : M (List (List Int)) :=
  chk (okR x_many) >>= fun _ =>
  loopN (fun (t : T3 Int Int Int) (fs : List (List Int)) => addAt fs t.a t.b >>= fun f1 => addAt f1 t.b t.a) (sortT x_ties) (List.replicate x_many.toNat []) >>= fun fs =>
  .ok (fs.map sortT)
theorem wp_addAt {b : Type} {Q : b → Prop} {E : String → Prop} {fs : List (List Int)} {a y : Int} {k : List (List Int) → M b} (h : wp (addAt fs a y >>= k) Q E) :
    ∃ j x, ixN fs.length a = some j ∧ fs[j]? = some x ∧ x.length < sizeLine ∧ wp (k (fs.set j (x ++ [y]))) Q E := by
  unfold addAt at h
  cases e : ixN fs.length a with
  | none => rw [e] at h; exact h.elim
  | some j =>
    rw [e] at h
    have h : wp ((match fs[j]? with
      | some x => appL x y >>= fun y => .ok (fs.set j y)
      | none => bad) >>= k) Q E := h
    cases e2 : fs[j]? with
    | none => rw [e2] at h; exact h.elim
    | some x =>
      rw [e2] at h
      have h : wp ((appL x y >>= fun y => .ok (fs.set j y)) >>= k) Q E := h
      rw [wp_bind] at h
      obtain ⟨c, h⟩ := wp_appL h
      exact ⟨j, x, rfl, e2, c, h⟩
/-- all lists are new -/
def sp_tied_places_own (mg : Str → Option Value) : Sp := fun vs H Q E => ∃ (F : Hp) (x_many : Int) (v_ties : V) (x_ties : List (T3 Int Int Int)), vs = [.int x_many, v_ties] ∧ Pre F [] H ∧ R F v_ties x_ties ∧
  wp (m_tied_places x_many x_ties) (fun r => ∀ (F' H' : Hp) (p : Addr) (ps : List LC), Gr [] F H F' H' → OwnLL H F' H' p ps → ps.map (·.2) = r → Q (.ref p) H')
  (fun n => ∀ (C : Addr) (H' : Hp), mg (Str.ofString n) = some (.ref C) → Kp [] H H' → E (.ref C) none H')
def sp_tied_places (mg : Str → Option Value) : Sp := fun vs H Q E => ∃ (F : Hp) (x_many : Int) (v_ties : V) (x_ties : (List (T3 Int Int Int))), vs = [.int x_many, v_ties] ∧ Pre F [] H ∧ R (a := (List (T3 Int Int Int))) F v_ties x_ties ∧
  wp (m_tied_places x_many x_ties) (fun r => ∀ (F' H' : Hp), Gr [] F H F' H' → ∀ (p : Addr) (w : List V), H p = none → F' p = none → H' p = some (.lst w) → RL (a := (List Int)) F' w r → Q (.ref p) H')
  (fun n => ∀ (C : Addr) (H' : Hp), mg (Str.ofString n) = some (.ref C) → Kp [] H H' → E (.ref C) none H')
theorem lc_set {ps : List LC} {j : Nat} {c : LC} {y : List Int} (h : ps[j]? = some c) : (ps.set j (c.1, y)).map (·.1) = ps.map (·.1) ∧ (ps.set j (c.1, y)).map (·.2) = (ps.map (·.2)).set j y := by
  refine ⟨?_, by rw [List.map_set]⟩
  rw [List.map_set]
  refine List.ext_getElem? fun k => ?_
  by_cases hk : j = k
  · subst hk
    have hl := (List.getElem?_eq_some_iff.mp h).1
    rw [List.getElem?_set_self (by simpa using hl), List.getElem?_map, h]
    rfl
  · rw [List.getElem?_set_ne hk]
/-- one append -/
theorem tp_app {Z : Ent} {F H : Hp} {D : Addr} {o : HO} {rest : List (Addr × HO)} {ps : List LC} (O : Ow Z F ((D, o) :: ps.map lcell) H) {j : Nat} {c : LC} (h : ps[j]? = some c) (y : Int) :
    Ow Z F ((D, o) :: (ps.set j (c.1, c.2 ++ [y])).map lcell) (upd H c.1 (.lst (c.2.map V.int ++ [V.int y]))) ∧ H c.1 = some (.lst (c.2.map V.int)) := by
  have e : ((D, o) :: ps.map lcell)[j + 1]? = some (c.1, .lst (c.2.map V.int)) := by
    rw [List.getElem?_cons_succ, List.getElem?_map, h]
    rfl
  refine ⟨?_, O.at (j + 1) e⟩
  have q := O.set (j + 1) (.lst (c.2.map V.int ++ [V.int y])) e
  have e2 : ((D, o) :: ps.map lcell).set (j + 1) (c.1, .lst (c.2.map V.int ++ [V.int y])) = (D, o) :: (ps.set j (c.1, c.2 ++ [y])).map lcell := by
    rw [List.set_cons_succ, List.map_set]
    unfold lcell
    rw [List.map_append]
    rfl
  rw [e2] at q
  exact q
theorem tp_at {ps : List LC} {j : Nat} {x : List Int} (h : (ps.map (·.2))[j]? = some x) : ∃ c, ps[j]? = some c ∧ c.2 = x := by
  rw [List.getElem?_map] at h
  cases e : ps[j]? with
  | none => rw [e] at h; cases h
  | some c => rw [e] at h; exact ⟨c, rfl, Option.some.inj h⟩
theorem tp_ix {ps : List LC} {a : Int} {j : Nat} {c : LC} (e : ixN (ps.map (·.2)).length a = some j) (h : ps[j]? = some c) : atI (lrefs ps) a = some (.ref c.1) := by
  unfold atI lrefs
  rw [List.length_map] at e ⊢
  rw [e]
  show (lrefs ps)[j]? = _
  rw [List.getElem?_map, h]
  rfl
set_option maxHeartbeats 4000000 in
theorem ok_tied_places_own (nb : Nb mg) (D : Df K mg "tied_places" "tied_places" s_tied_places ["many", "ties"]) : Ca P w K mg base "tied_places" 1 ["many", "ties"] (sp_tied_places_own mg) := by
  refine Ca.mk' D sc_tied_places (fun vs H Q E h => ?_) (fun q_ f_ cdv A outer s H vs Q E hr h => ?_)
  · obtain ⟨F, _, _, _, rfl, _⟩ := h
    rfl
  · obtain ⟨F, x_many, v_ties, x_ties, rfl, P0, f_ties, hk⟩ := h
    have nd := sc_tied_places.nd
    have hu128 := hu128_of hr
    have O := P0.start
    refine ⟨_, pss_cons (ps_setLc (i := 2) (own := [("place", 7)]) (g := _) (tt := _) rfl nd rfl rfl (sw_true rfl rfl rfl (by decide +kernel)) (pi_range1 rfl nb.b_range (pa_cons (pv 0) pa_nil))
        (blkOk_by (own := [("place", 7)]) (N := ["many", "ties", "found", "a", "b", "length", "near", "place"]) (sc := defScope s_tied_places) (by decide +kernel)) (fun _ _ _ _ _ => (pg_name (i := 7) nd rfl (Or.inl rfl))) (fun _ _ _ _ _ => pts_nil) (fun _ _ _ _ _ => pe_lst pa_nil))
      (pss_cons (ps_for (passes_of rfl) rfl (pi_list (pe_callB (cr_sortedT (T3 Int Int Int) hu128) (by rfl) nb.b_sorted (by decide +kernel) (pa_cons (pv 1) pa_nil)))
        (pg_tup rfl (pgs_cons (pg_name (i := 3) nd rfl (Or.inl rfl)) (pgs_cons (pg_name (i := 4) nd rfl (Or.inl rfl)) (pgs_cons (pg_name (i := 5) nd rfl (Or.inl rfl)) pgs_nil))))
        (pss_cons (ps_expr (pe_bm PySem.F.plainAttrs_list PySem.F.slot_list_append PySem.F.type_list_append mt_append (pe_ix ix_list (pv 2) (pv 3) (fun _ _ => rfl)) (pa_cons (pv 4) pa_nil)))
          (pss_one (ps_expr (pe_bm PySem.F.plainAttrs_list PySem.F.slot_list_append PySem.F.type_list_append mt_append (pe_ix ix_list (pv 2) (pv 4) (fun _ _ => rfl)) (pa_cons (pv 3) pa_nil))))))
      (pss_one (ps_ret (pe_lc (own := [("near", 6)]) (g := _) (tt := _) rfl nd (pi_list (pv 2))
        (blkOk_by (own := [("near", 6)]) (N := ["many", "ties", "found", "a", "b", "length", "near", "place"]) (sc := defScope s_tied_places) (by decide +kernel)) (fun _ _ _ _ _ => (pg_name (i := 6) nd rfl (Or.inl rfl))) (fun _ _ _ _ _ => pts_nil)
        (fun _ _ _ _ _ => pe_callB (cr_sortedT Int hu128) (by rfl) nb.b_sorted (by decide +kernel) (pa_cons (pv 6) pa_nil)))))), ?_⟩
    obtain ⟨c1, hk⟩ := wp_chk hk
    obtain ⟨L, hL, hLs, hLd⟩ := loopN_L hk
    refine ⟨_, rfl, _, rfl, c1.lo, c1.hi, fun D hD => ?_⟩
    refine lc_range (lo := 0) (n := x_many.toNat) (fun i H => ∃ ps : List LC, Ow _ F ((D, .lst (lrefs ps)) :: ps.map lcell) H ∧ ps.map (·.2) = List.replicate i []) ⟨[], O.new hD, rfl⟩ ?_ ?_
    · rintro i H1 hi ⟨ps, O1, e1⟩
      refine ⟨rfl, (by show 0 ≤ sizeLine; decide), fun q hq => ?_⟩
      have O2 := O1.new (o := .lst []) hq
      have hlen : ps.length = i := by
        have := congrArg List.length e1
        simpa using this
      have b := c1.2
      refine ⟨_, O2.at 1 rfl, lt_line (by rw [List.length_map]; omega), ps ++ [(q, [])], ?_, by rw [List.map_append, e1, List.replicate_succ']; rfl⟩
      have O3 := O2.set 1 (.lst ((lrefs ps) ++ [V.ref q])) rfl
      have ea : lrefs (ps ++ [(q, [])]) = lrefs ps ++ [V.ref q] := List.map_append
      rw [ea, List.map_append]
      refine O3.perm ?_
      show ((q, HO.lst []) :: (D, _) :: ps.map lcell).Perm ((D, _) :: (ps.map lcell ++ [(q, HO.lst [])]))
      refine (List.Perm.swap _ _ _).trans (List.Perm.cons _ ?_)
      exact (List.perm_append_comm (l₁ := [(q, HO.lst [])]) (l₂ := ps.map lcell))
    · rintro H1 ⟨ps, O1, e1⟩
      obtain ⟨p1, w1, e2, h2, hl2⟩ := R.lst_ f_ties
      cases e2
      refine ⟨_, rfl, _, _, _, rfl, O1.s _ _ h2, RL.mono hl2 O1.s, fun p3 hp3 => ?_⟩
      obtain ⟨F4, O4, S4, h4⟩ := O1.putE hp3 (.lst (sortV w1 x_ties))
      have hl4 := (RL.sorted hl2).mono S4
      refine ⟨_, rfl, ⟨_, SqLF O4.s h4⟩, ?_⟩
      rw [← e1] at hL
      refine for_list (K := K) (xs := sortV w1 x_ties) (fun i σ H => ∃ (ps' : List LC) (t3 t4 t5 : Option V), σ = [some (V.int x_many), some (V.ref p1), some (V.ref D), t3, t4, t5, none, none] ∧ Ow _ F4 ((D, .lst (lrefs ps')) :: ps'.map lcell) H ∧ ps'.length = x_many.toNat ∧ L (List.drop i (sortT x_ties)) (ps'.map fun (c : LC) => c.2))
        ⟨ps, none, none, none, rfl, O4, (by have := congrArg List.length e1; simpa using this), hL⟩ (fun i_ σ_ H_ _ hp_ => ?_) ?_ ?_
      · obtain ⟨_, _, _, _, _, hO_, _⟩ := hp_
        exact SqLF hO_.s h4
      · rintro i x σ H5 hi ⟨ps', t3, t4, t5, rfl, O5, hl5, hL5⟩
        obtain ⟨y, ey, hy⟩ := RL.got hl4 hi
        rw [drop_at ey] at hL5
        have hk := hLs _ _ _ hL5
        obtain ⟨p6, v1, v2, v3, e6, h6, r1, r2, r3⟩ := R.t3_ hy
        cases e6
        obtain rfl := R.int_ r1
        obtain rfl := R.int_ r2
        obtain rfl := R.int_ r3
        obtain ⟨j, x, ej, ex, cl, hk⟩ := wp_addAt hk
        have hk := wp_bind (k := fun r => Except.ok r) |>.mpr hk
        obtain ⟨j2, x2, ej2, ex2, cl2, hk⟩ := wp_addAt hk
        obtain ⟨c, hc, rfl⟩ := tp_at ex
        obtain ⟨O6, hq6⟩ := tp_app (rest := []) O5 hc y.b
        obtain ⟨l1, l2⟩ := lc_set (y := c.2 ++ [y.b]) hc
        rw [← l2] at ex2 ej2
        obtain ⟨c', hc', rfl⟩ := tp_at ex2
        obtain ⟨O7, hq7⟩ := tp_app (rest := []) O6 hc' y.a
        obtain ⟨l3, l4⟩ := lc_set (y := c'.2 ++ [y.a]) hc'
        have eD : lrefs (ps'.set j (c.1, c.2 ++ [y.b])) = lrefs ps' := by
          have := congrArg (List.map V.ref) l1
          rw [List.map_map, List.map_map] at this
          exact this
        have eD2 : lrefs ((ps'.set j (c.1, c.2 ++ [y.b])).set j2 (c'.1, c'.2 ++ [y.a])) = lrefs (ps'.set j (c.1, c.2 ++ [y.b])) := by
          have := congrArg (List.map V.ref) l3
          rw [List.map_map, List.map_map] at this
          exact this
        have i2 : atI (lrefs ps') y.b = some (.ref c'.1) := by
          rw [← eD]
          exact tp_ix ej2 hc'
        refine ⟨_, _, rfl, SqTF O5.s h6, rfl, _, _, rfl, _, _, rfl, _, _, rfl, rfl, _, rfl, _, rfl, _, _, _, _, rfl, rfl, SqL.of (O5.at 0 rfl), tp_ix ej hc, .inl ⟨rfl, _, SqL.of hq6⟩, _, rfl, _, _, _, rfl, rfl, hq6, by rw [List.length_map]; exact cl, ?_⟩
        refine ⟨_, rfl, _, rfl, _, _, _, _, rfl, rfl, SqL.of (O6.at 0 rfl), i2, .inl ⟨rfl, _, SqL.of hq7⟩, _, rfl, _, _, _, rfl, rfl, hq7, by rw [List.length_map]; exact cl2, ?_⟩
        refine ⟨_, _, _, _, rfl, by rw [eD2, eD]; exact O7, by rw [List.length_set, List.length_set]; exact hl5, ?_⟩
        rw [l4, l2]
        exact hk
      · rintro σ H5 ⟨ps', t3, t4, t5, rfl, O5, hl5, hL5⟩
        rw [drop_end hl4.len] at hL5
        have hk := hLd _ hL5
        refine ⟨_, rfl, _, rfl, ⟨_, SqL.of (O5.at 0 rfl)⟩, fun D2 hD2 => ?_⟩
        have b1 := c1.2
        refine lc_list (K := K) (xs := lrefs ps') (fun i H => ∃ qs : List LC, Ow _ F4 ((D2, .lst (lrefs qs)) :: (qs.map lcell ++ ((D, .lst (lrefs ps')) :: ps'.map lcell))) H ∧ qs.map (·.2) = ((ps'.map (·.2)).take i).map sortT)
          ⟨[], O5.new hD2, by simp⟩ (fun i_ H_ _ hp_ => ?_) ?_ ?_
        · obtain ⟨qs, hO_, _⟩ := hp_
          exact SqL.of (hO_.ch (D, _) (List.mem_cons_of_mem _ (List.mem_append_right _ List.mem_cons_self)))
        · rintro i x H6 hi ⟨qs, O6, e6⟩
          obtain ⟨c, hc, rfl⟩ : ∃ c, ps'[i]? = some c ∧ x = V.ref c.1 := by
            have hi : (ps'.map fun (c : LC) => V.ref c.1)[i]? = some x := hi
            rw [List.getElem?_map] at hi
            cases e : ps'[i]? with
            | none => rw [e] at hi; cases hi
            | some c => rw [e] at hi; exact ⟨c, rfl, (Option.some.inj hi).symm⟩
          have hm : lcell c ∈ ps'.map lcell := List.mem_map.mpr ⟨c, List.mem_of_getElem? hc, rfl⟩
          have hq := O6.ch (lcell c) (List.mem_cons_of_mem _ (List.mem_append_right _ (List.mem_cons_of_mem _ hm)))
          have hil := (List.getElem?_eq_some_iff.mp hc).1
          have hql : qs.length ≤ i := by
            have := congrArg List.length e6
            simp at this
            omega
          have es : sortV (c.2.map V.int) c.2 = (sortT c.2).map V.int := (RL.sorted (H := F) RL.of_ints).ints
          refine ⟨rfl, _, rfl, _, _, c.2, rfl, hq, RL.of_ints, fun p hp => ?_⟩
          have O7 := O6.new (o := .lst (sortV (c.2.map V.int) c.2)) hp
          refine ⟨_, O7.at 1 rfl, lt_line (by rw [List.length_map]; omega), qs ++ [(p, sortT c.2)], ?_, ?_⟩
          · have O8 := O7.set 1 (.lst (lrefs qs ++ [V.ref p])) rfl
            have ea : lrefs (qs ++ [(p, sortT c.2)]) = lrefs qs ++ [V.ref p] := List.map_append
            rw [ea, List.map_append]
            refine O8.perm ?_
            rw [es]
            show ((p, HO.lst _) :: (D2, _) :: (qs.map lcell ++ _)).Perm ((D2, _) :: (qs.map lcell ++ [(p, HO.lst _)] ++ _))
            refine (List.Perm.swap _ _ _).trans (List.Perm.cons _ ?_)
            rw [List.append_assoc]
            exact List.perm_middle.symm
          · rw [List.map_append, e6]
            have e7 : (ps'.map (·.2))[i]? = some c.2 := by rw [List.getElem?_map, hc]; rfl
            rw [List.take_succ, e7, List.map_append]
            rfl
        · rintro H6 ⟨qs, O6, e6⟩
          have el : (lrefs ps').length = (ps'.map (·.2)).length := by rw [List.length_map, List.length_map]
          rw [el, List.take_length] at e6
          have hsub : ∀ c ∈ qs, lcell c ∈ (D2, HO.lst (lrefs qs)) :: (qs.map lcell ++ ((D, .lst (lrefs ps')) :: ps'.map lcell)) := fun c hc => List.mem_cons_of_mem _ (List.mem_append_left _ (List.mem_map.mpr ⟨c, hc, rfl⟩))
          have nas : ∀ b : Addr, ¬ b ∈ ([] : List Addr) := fun b h => nomatch h
          refine hk F4 H6 D2 qs O6.g ⟨O5.was hD2, O6.cf _ List.mem_cons_self, O6.ch _ List.mem_cons_self, fun c hc => (O6.ca _ (hsub c hc)).resolve_left (nas _), fun c hc => O6.cf _ (hsub c hc), fun c hc => O6.ch _ (hsub c hc), ?_⟩ e6
          have n := O6.nd
          rw [List.map_cons, List.map_append, List.nodup_cons, List.nodup_append] at n
          rw [List.nodup_cons]
          have em : (qs.map lcell).map (·.1) = qs.map (·.1) := by
            rw [List.map_map]
            rfl
          rw [em] at n
          exact ⟨fun h => n.1 (List.mem_append_left _ h), n.2.1⟩
theorem ok_tied_places (nb : Nb mg) (D : Df K mg "tied_places" "tied_places" s_tied_places ["many", "ties"]) : Ca P w K mg base "tied_places" 1 ["many", "ties"] (sp_tied_places mg) := by
  refine FnOk.impC (ok_tied_places_own nb D) fun vs H Q E h => ?_
  obtain ⟨F, x_many, v_ties, x_ties, rfl, P0, f_ties, hk⟩ := h
  refine ⟨F, x_many, v_ties, x_ties, rfl, P0, f_ties, wp_mono hk fun r k F' H' p ps g L e => ?_⟩
  obtain ⟨F2, g2, n2, rl⟩ := L.frz g
  rw [e] at rl
  exact k F2 H' g2 p _ L.pn n2 L.ph rl

abbrev s_lengths_of : Stmt := top 33
theorem sc_lengths_of : FnScope ["tree", "found", "a", "b", "length"] ["tree"] (defScope s_lengths_of) := ⟨rfl, rfl, rfl, by decide +kernel, rfl, by decide +kernel, by decide +kernel⟩
def m_lengths_of (x_tree : ((List Int) × (List (T3 Int Int Int)))) : M ((List ((Int × Int) × Int))) :=
loopN (fun (y19 : (T3 Int Int Int)) (st30 : (List ((Int × Int) × Int))) =>
putD st30 ((y19.a, y19.b).1, (y19.a, y19.b).2) y19.c >>= fun z64 =>
putD z64 ((y19.b, y19.a).1, (y19.b, y19.a).2) y19.c >>= fun z82 =>
.ok z82) x_tree.2 ([] : (List ((Int × Int) × Int))) >>= fun st88 =>
.ok st88
def sp_lengths_of (mg : Str → Option Value) : Sp := fun vs H Q E => ∃ (F : Hp) (v_tree : V) (x_tree : ((List Int) × (List (T3 Int Int Int)))), vs = [v_tree] ∧ Pre F [] H ∧ R (a := ((List Int) × (List (T3 Int Int Int)))) F v_tree x_tree ∧
  wp (m_lengths_of x_tree) (fun r => ∀ (F' H' : Hp), Gr [] F H F' H' → ∀ v : V, RDv (κ := (Int × Int)) (β := Int) F' v r → Q v H')
  (fun n => ∀ (C : Addr) (H' : Hp), mg (Str.ofString n) = some (.ref C) → Kp [] H H' → E (.ref C) none H')
set_option maxHeartbeats 20000000 in
theorem ok_lengths_of (nb : Nb mg) (D : Df K mg "lengths_of" "lengths_of" s_lengths_of ["tree"]) : Ca P w K mg base "lengths_of" 1 ["tree"] (sp_lengths_of mg) := by
  refine Ca.mk' D sc_lengths_of (fun vs H Q E h => ?_) (fun q_ f_ cdv A outer s H vs Q E hr h => ?_)
  · obtain ⟨F, _, _, rfl, _⟩ := h
    rfl
  · obtain ⟨F, v_tree, x_tree, rfl, P0, f_tree, hk⟩ := h
    have nd := sc_lengths_of.nd
    have hu64 := hr.units
    have hu128 := hu128_of hr
    have O := P0.start
    refine ⟨_, (pss_cons (ps_toN (ps_set (i := 1) nd rfl (Or.inl rfl) pe_dnewT))
  (pss_cons (ps_for (passes_of rfl) rfl (piListK (K := K) rfl (pe_ix (ixTupK (K := K) rfl) (pv 0) pe_int (fun _ _ => rfl))) (pg_tup rfl (pgs_cons (pg_name (i := 2) nd rfl (Or.inl rfl)) (pgs_cons (pg_name (i := 3) nd rfl (Or.inl rfl)) (pgs_cons (pg_name (i := 4) nd rfl (Or.inl rfl)) pgs_nil)))) (pss_cons (ps_dput (u1_of hu64) (pv 1) (pe_tup (pa_cons (pv 2) (pa_cons (pv 3) pa_nil))) (pv 4) rfl)
  (pss_one (ps_dput (u1_of hu64) (pv 1) (pe_tup (pa_cons (pv 3) (pa_cons (pv 2) pa_nil))) (pv 4) rfl))))
  (pss_one (ps_ret (pv 1))))), ?_⟩
    refine fun p2 hp3 => ?_
    have hl5 : RD (κ := (Int × Int)) (β := Int) F [] ([] : (List ((Int × Int) × Int))) := RD.nil
    have z6 := O.was hp3
    have O4 := O.new (o := .dT []) hp3
    obtain ⟨p7, v10, v11, e8, h9, r12, r13⟩ := R.t2_ f_tree
    cases e8
    obtain ⟨p14, w15, e16, h17, hl18⟩ := R.lst_ r13
    cases e16
    obtain ⟨L20, hL21, hLs22, hLd23⟩ := loopN_L hk
    refine ⟨[some (V.ref p7), some (V.ref p2), none, none, none], rfl, _, rfl, _, _, _, _, rfl, rfl, (SqTF O4.s h9), rfl, _, rfl, ⟨_, (SqLF O4.s h17)⟩, ?_⟩
    refine for_list (K := K) (xs := w15) (fun i σ H_ => ∃ (F_ : Hp) (st : (List ((Int × Int) × Int))) (w_0 : (List (List Key × V))) (t_0 : Option V) (t_1 : Option V) (t_2 : Option V), σ = [some (V.ref p7), some (V.ref p2), t_0, t_1, t_2] ∧ Same F F_ ∧ Ow _ F_ [(p2, .dT w_0)] H_ ∧ RD (κ := (Int × Int)) (β := Int) F_ w_0 st ∧ L20 (List.drop i x_tree.2) st) ⟨F, ([] : (List ((Int × Int) × Int))), [], none, none, none, rfl, Same.refl _, O4, hl5, hL21⟩ (fun i_ σ_ H_ _ hp_ => ?_) ?_ ?_
    · obtain ⟨_, _, _, _, _, _, _, hS_, hO_, _⟩ := hp_
      exact SqLF hO_.s (hS_ _ _ h17)
    · rintro i24 x25 sg26 H27 hi28 ⟨F36, st30, w31, t33, t34, t35, rfl, S29, O37, hl32, hL21⟩
      have f_tree := f_tree.mono S29
      have h9 := S29 _ _ h9
      have r12 := r12.mono S29
      have r13 := r13.mono S29
      have h17 := S29 _ _ h17
      have hl18 := hl18.mono S29
      obtain ⟨y19, e38, r39⟩ := RL.got hl18 hi28
      rw [drop_at e38] at hL21
      have hk := hLs22 _ _ _ hL21
      obtain ⟨p40, v43, v44, v45, e41, h42, r46, r47, r48⟩ := R.t3_ r39
      cases e41
      obtain rfl := R.int_ r46
      obtain rfl := R.int_ r47
      obtain rfl := R.int_ r48
      refine ⟨_, _, rfl, (SqTF O37.s h42), rfl, _, _, rfl, _, _, rfl, _, _, rfl, rfl, _, rfl, _, rfl, _, rfl, _, rfl, (by show 2 ≤ sizeLine; decide), fun p49 hp50 => ?_⟩
      obtain ⟨F51, O52, S53, h54⟩ := O37.putE hp50 (.tup [V.int y19.a, V.int y19.b])
      have f_tree := f_tree.mono S53
      have h9 := S53 _ _ h9
      have r12 := r12.mono S53
      have r13 := r13.mono S53
      have h17 := S53 _ _ h17
      have hl18 := hl18.mono S53
      have hl32 := hl32.mono S53
      have S29 := S29.trans S53
      have r39 := r39.mono S53
      have h42 := S53 _ _ h42
      have h55 : R (a := (Int × Int)) F51 (.ref p49) (y19.a, y19.b) := R.t2 h54 R.int R.int
      obtain ⟨p56, v59, v60, e57, h58, r61, r62⟩ := R.t2_ h55
      cases e57
      obtain rfl := R.int_ r61
      obtain rfl := R.int_ r62
      obtain ⟨c63, hk⟩ := wp_putD hk
      refine ⟨_, _, rfl, (dput_T (v := (V.int y19.c)) (O52.at 0 rfl) (O52.s _ _ h58) (by rw [RD.len hl32]; exact c63)), ?_⟩
      have O65 := O52.set 0 (.dT (putK w31 (DK.kk ((y19.a, y19.b).1, (y19.a, y19.b).2)) (V.int y19.c))) rfl
      have hl66 : RD (κ := (Int × Int)) (β := Int) F51 (putK w31 (DK.kk ((y19.a, y19.b).1, (y19.a, y19.b).2)) (V.int y19.c)) (dPut st30 ((y19.a, y19.b).1, (y19.a, y19.b).2) y19.c) := RD.put hl32 ((y19.a, y19.b).1, (y19.a, y19.b).2) R.int
      refine ⟨_, rfl, _, rfl, _, rfl, _, rfl, (by show 2 ≤ sizeLine; decide), fun p67 hp68 => ?_⟩
      obtain ⟨F69, O70, S71, h72⟩ := O65.putE hp68 (.tup [V.int y19.b, V.int y19.a])
      have f_tree := f_tree.mono S71
      have h9 := S71 _ _ h9
      have r12 := r12.mono S71
      have r13 := r13.mono S71
      have h17 := S71 _ _ h17
      have hl18 := hl18.mono S71
      have S29 := S29.trans S71
      have r39 := r39.mono S71
      have h42 := S71 _ _ h42
      have h55 := h55.mono S71
      have h58 := S71 _ _ h58
      have hl66 := hl66.mono S71
      have h73 : R (a := (Int × Int)) F69 (.ref p67) (y19.b, y19.a) := R.t2 h72 R.int R.int
      obtain ⟨p74, v77, v78, e75, h76, r79, r80⟩ := R.t2_ h73
      cases e75
      obtain rfl := R.int_ r79
      obtain rfl := R.int_ r80
      obtain ⟨c81, hk⟩ := wp_putD hk
      refine ⟨_, _, rfl, (dput_T (v := (V.int y19.c)) (O70.at 0 rfl) (O70.s _ _ h76) (by rw [RD.len hl66]; exact c81)), ?_⟩
      have O83 := O70.set 0 (.dT (putK (putK w31 (DK.kk ((y19.a, y19.b).1, (y19.a, y19.b).2)) (V.int y19.c)) (DK.kk ((y19.b, y19.a).1, (y19.b, y19.a).2)) (V.int y19.c))) rfl
      have hl84 : RD (κ := (Int × Int)) (β := Int) F69 (putK (putK w31 (DK.kk ((y19.a, y19.b).1, (y19.a, y19.b).2)) (V.int y19.c)) (DK.kk ((y19.b, y19.a).1, (y19.b, y19.a).2)) (V.int y19.c)) (dPut (dPut st30 ((y19.a, y19.b).1, (y19.a, y19.b).2) y19.c) ((y19.b, y19.a).1, (y19.b, y19.a).2) y19.c) := RD.put hl66 ((y19.b, y19.a).1, (y19.b, y19.a).2) R.int
      exact ⟨F69, (dPut (dPut st30 ((y19.a, y19.b).1, (y19.a, y19.b).2) y19.c) ((y19.b, y19.a).1, (y19.b, y19.a).2) y19.c), (putK (putK w31 (DK.kk ((y19.a, y19.b).1, (y19.a, y19.b).2)) (V.int y19.c)) (DK.kk ((y19.b, y19.a).1, (y19.b, y19.a).2)) (V.int y19.c)), some (V.int y19.a), some (V.int y19.b), some (V.int y19.c), rfl, S29, O83, hl84, hk⟩
    rintro sg85 H86 ⟨F95, st88, w90, t92, t93, t94, rfl, S87, O96, hl91, hL89⟩
    rw [drop_end hl18.len] at hL89
    have hk := hLd23 _ hL89
    have f_tree := f_tree.mono S87
    have h9 := S87 _ _ h9
    have r12 := r12.mono S87
    have r13 := r13.mono S87
    have h17 := S87 _ _ h17
    have hl18 := hl18.mono S87
    refine ⟨_, rfl, ?_⟩
    obtain ⟨F97, O98, S99, h100⟩ := O96.frzE 0 rfl z6
    have f_tree := f_tree.mono S99
    have h9 := S99 _ _ h9
    have r12 := r12.mono S99
    have r13 := r13.mono S99
    have h17 := S99 _ _ h17
    have hl18 := hl18.mono S99
    have hl91 := hl91.mono S99
    have h101 := RDv.mk (κ := (Int × Int)) (β := Int) (.inl h100) hl91
    exact hk _ _  O98.g  _ h101
abbrev s_every_branch : Stmt := top 35
theorem sc_every_branch : FnScope ["tree"] ["tree"] (defScope s_every_branch) := ⟨rfl, rfl, rfl, by decide +kernel, rfl, by decide +kernel, by decide +kernel⟩
def m_every_branch (x_tree : ((List Int) × (List (T3 Int Int Int)))) : M ((List (Int × Int))) :=
m_lengths_of x_tree >>= fun r2 =>
.ok (sortT (List.map (fun (x : (Int × Int) × Int) => x.1) r2))
def sp_every_branch (mg : Str → Option Value) : Sp := fun vs H Q E => ∃ (F : Hp) (v_tree : V) (x_tree : ((List Int) × (List (T3 Int Int Int)))), vs = [v_tree] ∧ Pre F [] H ∧ R (a := ((List Int) × (List (T3 Int Int Int)))) F v_tree x_tree ∧
  wp (m_every_branch x_tree) (fun r => ∀ (F' H' : Hp), Gr [] F H F' H' → ∀ (p : Addr) (w : (List V)), H p = none → F' p = none → H' p = some (.lst w) → RL (a := (Int × Int)) F' w r → Q (.ref p) H')
  (fun n => ∀ (C : Addr) (H' : Hp), mg (Str.ofString n) = some (.ref C) → Kp [] H H' → E (.ref C) none H')
set_option maxHeartbeats 20000000 in
theorem ok_every_branch (nb : Nb mg) (C_lengths_of : Ca P w K mg base "lengths_of" 1 ["tree"] (sp_lengths_of mg)) (D : Df K mg "every_branch" "every_branch" s_every_branch ["tree"]) : Ca P w K mg base "every_branch" 2 ["tree"] (sp_every_branch mg) := by
  obtain ⟨fa_lengths_of, fd_lengths_of, G_lengths_of, M_lengths_of, K_lengths_of, B_lengths_of⟩ := C_lengths_of.ex
  refine Ca.mk' D sc_every_branch (fun vs H Q E h => ?_) (fun q_ f_ cdv A outer s H vs Q E hr h => ?_)
  · obtain ⟨F, _, _, rfl, _⟩ := h
    rfl
  · obtain ⟨F, v_tree, x_tree, rfl, P0, f_tree, hk⟩ := h
    have nd := sc_every_branch.nd
    have hu64 := hr.units
    have hu128 := hu128_of hr
    have O := P0.start
    refine ⟨_, (pss_one (ps_ret (pe_callB (cr_sortedDT rfl hu128) (by rfl) nb.b_sorted (by decide +kernel) (pa_cons (pe_call G_lengths_of (hr.mono (by decide)) rfl M_lengths_of K_lengths_of B_lengths_of .nil (passes_call (takes_of rfl rfl rfl rfl) fun _ _ _ _ h => h) (pa_cons (pv 0) pa_nil)) pa_nil)))), ?_⟩
    refine ⟨_, rfl, _, _, _, rfl, O.pre0, f_tree, wp_call hk (fun r2 er3 hk F4 H5 g6 v7 r8 => ?_) (fun n hn C H1 hC kp => hn C H1 hC (O.kp0 kp))⟩
    have O9 := O.call0 g6
    have S_ := g6.f
    have f_tree := f_tree.mono S_
    obtain ⟨p10, w11, e12, h13, hl14⟩ := r8
    cases e12
    have h13 : Rd F4 _ (.dT w11) := h13
    have r8 := RDv.mk (κ := (Int × Int)) (β := Int) h13 hl14
    refine ⟨_, _, _, rfl, (rd_mono O9.s h13), (RD.keys hl14), fun bs17 p15 hks18 hp16 => ?_⟩
    obtain ⟨F19, O20, S21, hb22⟩ := O9.tups bs17 (keys_tups hks18)
    have f_tree := f_tree.mono S21
    have r8 := r8.mono S21
    have h13 := rd_mono S21 h13
    have hl14 := hl14.mono S21
    have hl23 := keys_in hks18 hb22 (RD.keys hl14)
    have hl25 : RL (a := (Int × Int)) F19 (sortV (List.map V.ref bs17) (List.map (fun (x : (Int × Int) × Int) => x.1) r2)) (sortT (List.map (fun (x : (Int × Int) × Int) => x.1) r2)) := (RL.sorted hl23)
    have z26 := O20.was hp16
    have O24 := O20.new (o := .lst (sortV (List.map V.ref bs17) (List.map (fun (x : (Int × Int) × Int) => x.1) r2))) hp16
    exact hk _ _  O24.g  _ _ z26 (O24.cf _ (List.mem_of_getElem? (i := 0) rfl)) (O24.at 0 rfl) hl25
abbrev s_row_with : Stmt := top 36
theorem sc_row_with : FnScope ["tree", "rule", "place", "near", "own", "so", "more"] ["tree", "rule", "place", "near"] (defScope s_row_with) := ⟨rfl, rfl, rfl, by decide +kernel, rfl, by decide +kernel, by decide +kernel⟩
def m_row_with (x_tree : ((List Int) × (List (T3 Int Int Int)))) (x_rule : (T4 (List Sm) (List Sm) (List Sm) Sm)) (x_place : Int) (x_near : (List (List Int))) : M ((List Int)) :=
opt (atI x_tree.1 x_place) >>= fun y13 =>
m_begun x_rule y13 >>= fun r18 =>
loopN (fun (y42 : (List Int)) (st53 : (List Int)) =>
m_joined x_rule st53 y42 y13 >>= fun r61 =>
.ok r61) x_near r18 >>= fun st83 =>
.ok st83
def sp_row_with (mg : Str → Option Value) : Sp := fun vs H Q E => ∃ (F : Hp) (v_tree : V) (x_tree : ((List Int) × (List (T3 Int Int Int)))) (v_rule : V) (x_rule : (T4 (List Sm) (List Sm) (List Sm) Sm)) (x_place : Int) (v_near : V) (x_near : (List (List Int))), vs = [v_tree, v_rule, V.int x_place, v_near] ∧ Pre F [] H ∧ R (a := ((List Int) × (List (T3 Int Int Int)))) F v_tree x_tree ∧ R (a := (T4 (List Sm) (List Sm) (List Sm) Sm)) F v_rule x_rule ∧ R (a := (List (List Int))) F v_near x_near ∧
  wp (m_row_with x_tree x_rule x_place x_near) (fun r => ∀ (F' H' : Hp), Gr [] F H F' H' → ∀ v : V, R (a := (List Int)) F' v r → Q v H')
  (fun n => ∀ (C : Addr) (H' : Hp), mg (Str.ofString n) = some (.ref C) → Kp [] H H' → E (.ref C) none H')
set_option maxHeartbeats 20000000 in
theorem ok_row_with (nb : Nb mg) (C_begun : Ca P w K mg base "begun" 14 ["rule", "own"] (sp_begun mg)) (C_joined : Ca P w K mg base "joined" 14 ["rule", "so", "more", "own"] (sp_joined mg)) (D : Df K mg "row_with" "row_with" s_row_with ["tree", "rule", "place", "near"]) : Ca P w K mg base "row_with" 15 ["tree", "rule", "place", "near"] (sp_row_with mg) := by
  obtain ⟨fa_begun, fd_begun, G_begun, M_begun, K_begun, B_begun⟩ := C_begun.ex
  obtain ⟨fa_joined, fd_joined, G_joined, M_joined, K_joined, B_joined⟩ := C_joined.ex
  refine Ca.mk' D sc_row_with (fun vs H Q E h => ?_) (fun q_ f_ cdv A outer s H vs Q E hr h => ?_)
  · obtain ⟨F, _, _, _, _, _, _, _, rfl, _⟩ := h
    rfl
  · obtain ⟨F, v_tree, x_tree, v_rule, x_rule, x_place, v_near, x_near, rfl, P0, f_tree, f_rule, f_near, hk⟩ := h
    have nd := sc_row_with.nd
    have hu64 := hr.units
    have hu128 := hu128_of hr
    have O := P0.start
    refine ⟨_, (pss_cons (ps_toN (ps_set (i := 4) nd rfl (Or.inl rfl) (pe_ix (ixListK (K := K) rfl) (pe_ix (ixTupK (K := K) rfl) (pv 0) pe_int (fun _ _ => rfl)) (pv 2) (fun _ _ => rfl))))
  (pss_cons (ps_toN (ps_set (i := 5) nd rfl (Or.inl rfl) (pe_call G_begun (hr.mono (by decide)) rfl M_begun K_begun B_begun .nil (passes_call (takes_of rfl rfl rfl rfl) fun _ _ _ _ h => h) (pa_cons (pv 1) (pa_cons (pv 4) pa_nil)))))
  (pss_cons (ps_for (passes_of rfl) rfl (piListK (K := K) rfl (pv 3)) (pg_name (i := 6) nd rfl (Or.inl rfl)) (pss_one (ps_toN (ps_set (i := 5) nd rfl (Or.inl rfl) (pe_call G_joined (hr.mono (by decide)) rfl M_joined K_joined B_joined .nil (passes_call (takes_of rfl rfl rfl rfl) fun _ _ _ _ h => h) (pa_cons (pv 1) (pa_cons (pv 5) (pa_cons (pv 6) (pa_cons (pv 4) pa_nil)))))))))
  (pss_one (ps_ret (pv 5)))))), ?_⟩
    obtain ⟨p1, v4, v5, e2, h3, r6, r7⟩ := R.t2_ f_tree
    cases e2
    obtain ⟨p8, w9, e10, h11, hl12⟩ := R.lst_ r6
    cases e10
    obtain ⟨y13, e14, hk⟩ := wp_opt hk
    obtain ⟨w15, e16, r17⟩ := hl12.atI e14
    obtain rfl := R.int_ r17
    refine ⟨_, rfl, _, _, _, _, rfl, rfl, (SqTF O.s h3), rfl, _, rfl, _, _, _, _, rfl, rfl, (SqLF O.s h11), e16, [some (V.ref p1), some v_rule, some (V.int x_place), some v_near, some (V.int y13), none, none], rfl, _, rfl, _, rfl, _, _, _, _, rfl, O.pre0, f_rule, wp_call hk (fun r18 er19 hk F20 H21 g22 p23 w24 hn25 hf26 h27 hl28 => ?_) (fun n hn C H1 hC kp => hn C H1 hC (O.kp0 kp))⟩
    have O29 := O.call0 g22
    have S_ := g22.f
    have f_tree := f_tree.mono S_
    have f_rule := f_rule.mono S_
    have f_near := f_near.mono S_
    have h3 := S_ _ _ h3
    have r6 := r6.mono S_
    have r7 := r7.mono S_
    have h11 := S_ _ _ h11
    have hl12 := hl12.mono S_
    have O30 := O.got O29 rfl hn25 hf26 h27
    have z31 := O.was hn25
    obtain ⟨F32, O33, S34, h35⟩ := O30.frzE 0 rfl z31
    have f_tree := f_tree.mono S34
    have f_rule := f_rule.mono S34
    have f_near := f_near.mono S34
    have h3 := S34 _ _ h3
    have r6 := r6.mono S34
    have r7 := r7.mono S34
    have h11 := S34 _ _ h11
    have hl12 := hl12.mono S34
    have hl28 := hl28.mono S34
    have h36 := R.lst (a := Int) h35 hl28
    obtain ⟨p37, w38, e39, h40, hl41⟩ := R.lst_ f_near
    cases e39
    obtain ⟨L43, hL44, hLs45, hLd46⟩ := loopN_L hk
    refine ⟨[some (V.ref p1), some v_rule, some (V.int x_place), some (V.ref p37), some (V.int y13), some (V.ref p23), none], rfl, _, rfl, _, rfl, ⟨_, (SqLF O33.s h40)⟩, ?_⟩
    refine for_list (K := K) (xs := w38) (fun i σ H_ => ∃ (F_ : Hp) (st : (List Int)) (v_0 : V) (t_0 : Option V), σ = [some (V.ref p1), some v_rule, some (V.int x_place), some (V.ref p37), some (V.int y13), some v_0, t_0] ∧ Same F32 F_ ∧ Ow _ F_ [] H_ ∧ R (a := (List Int)) F_ v_0 st ∧ L43 (List.drop i x_near) st) ⟨F32, r18, V.ref p23, none, rfl, Same.refl _, O33, h36, hL44⟩ (fun i_ σ_ H_ _ hp_ => ?_) ?_ ?_
    · obtain ⟨_, _, _, _, _, hS_, hO_, _⟩ := hp_
      exact SqLF hO_.s (hS_ _ _ h40)
    · rintro i47 x48 sg49 H50 hi51 ⟨F57, st53, v54, t56, rfl, S52, O58, r55, hL44⟩
      have f_tree := f_tree.mono S52
      have f_rule := f_rule.mono S52
      have f_near := f_near.mono S52
      have h3 := S52 _ _ h3
      have r6 := r6.mono S52
      have r7 := r7.mono S52
      have h11 := S52 _ _ h11
      have hl12 := hl12.mono S52
      have h36 := h36.mono S52
      have h40 := S52 _ _ h40
      have hl41 := hl41.mono S52
      obtain ⟨y42, e59, r60⟩ := RL.got hl41 hi51
      rw [drop_at e59] at hL44
      have hk := hLs45 _ _ _ hL44
      refine ⟨_, rfl, _, rfl, _, rfl, _, rfl, _, _, _, _, _, _, _, _, rfl, O58.pre0, f_rule, r55, r60, wp_call hk (fun r61 er62 hk F63 H64 g65 p66 w67 hn68 hf69 h70 hl71 => ?_) (fun n hn C H1 hC kp => hn C H1 hC (O58.kp0 kp))⟩
      have O72 := O58.call0 g65
      have S_ := g65.f
      have f_tree := f_tree.mono S_
      have f_rule := f_rule.mono S_
      have f_near := f_near.mono S_
      have h3 := S_ _ _ h3
      have r6 := r6.mono S_
      have r7 := r7.mono S_
      have h11 := S_ _ _ h11
      have hl12 := hl12.mono S_
      have h36 := h36.mono S_
      have h40 := S_ _ _ h40
      have hl41 := hl41.mono S_
      have r55 := r55.mono S_
      have S52 := S52.trans S_
      have r60 := r60.mono S_
      have O73 := O58.got O72 rfl hn68 hf69 h70
      have z74 := O58.was hn68
      obtain ⟨F75, O76, S77, h78⟩ := O73.frzE 0 rfl z74
      have f_tree := f_tree.mono S77
      have f_rule := f_rule.mono S77
      have f_near := f_near.mono S77
      have h3 := S77 _ _ h3
      have r6 := r6.mono S77
      have r7 := r7.mono S77
      have h11 := S77 _ _ h11
      have hl12 := hl12.mono S77
      have h36 := h36.mono S77
      have h40 := S77 _ _ h40
      have hl41 := hl41.mono S77
      have r55 := r55.mono S77
      have S52 := S52.trans S77
      have r60 := r60.mono S77
      have hl71 := hl71.mono S77
      have h79 := R.lst (a := Int) h78 hl71
      refine ⟨[some (V.ref p1), some v_rule, some (V.int x_place), some (V.ref p37), some (V.int y13), some (V.ref p66), some x48], rfl, ?_⟩
      exact ⟨F75, r61, V.ref p66, some x48, rfl, S52, O76, h79, hk⟩
    rintro sg80 H81 ⟨F88, st83, v85, t87, rfl, S82, O89, r86, hL84⟩
    rw [drop_end hl41.len] at hL84
    have hk := hLd46 _ hL84
    have f_tree := f_tree.mono S82
    have f_rule := f_rule.mono S82
    have f_near := f_near.mono S82
    have h3 := S82 _ _ h3
    have r6 := r6.mono S82
    have r7 := r7.mono S82
    have h11 := S82 _ _ h11
    have hl12 := hl12.mono S82
    have h36 := h36.mono S82
    have h40 := S82 _ _ h40
    have hl41 := hl41.mono S82
    refine ⟨_, rfl, ?_⟩
    exact hk _ _  O89.g  _ r86
abbrev s_order_of : Stmt := top 38
theorem sc_order_of : FnScope ["near", "branches", "left", "found", "at", "c", "branch", "a", "b"] ["near", "branches"] (defScope s_order_of) := ⟨rfl, rfl, rfl, by decide +kernel, rfl, by decide +kernel, by decide +kernel⟩
def m_order_of (x_near : (List (List Int))) (x_branches : (List (Int × Int))) : M ((List (Int × Int))) :=
compS (fun (y7 : (Int × Int)) (st24 : Unit) =>
opt (atI x_near y7.2) >>= fun y49 =>
.ok (some ((y7.1, y7.2), ((y49.length : Int) - (1 : Int))), ())) x_branches () >>= fun q77 =>
compS (fun (y104 : (Int × Int)) (st121 : Unit) =>
opt (dGet (mergeDT q77.1) y104) >>= fun y127 =>
if y127 = (0 : Int) then (
.ok (some y104, ()))
else (
.ok (none, ()))) x_branches () >>= fun q151 =>
whL (r := Unit) (fun (st162 : Int × (List ((Int × Int) × Int)) × (List (Int × Int))) =>
if st162.1 < (st162.2.2.length : Int) then (
opt (atI st162.2.2 st162.1) >>= fun y174 =>
opt (atI x_near y174.1) >>= fun y191 =>
loopN (fun (y201 : Int) (st212 : (List ((Int × Int) × Int)) × (List (Int × Int))) =>
if y201 ≠ y174.2 then (
opt (dGet st212.1 ((y201, y174.1).1, (y201, y174.1).2)) >>= fun y230 =>
putD st212.1 ((y201, y174.1).1, (y201, y174.1).2) (y230 - (1 : Int)) >>= fun z243 =>
opt (dGet z243 (y201, y174.1)) >>= fun y253 =>
if y253 = (0 : Int) then (
appL st212.2 (y201, y174.1) >>= fun _ =>
.ok (z243, (st212.2 ++ [(y201, y174.1)])))
else (
.ok (z243, st212.2)))
else (
.ok (st212.1, st212.2))) y191 (st162.2.1, st162.2.2) >>= fun st280 =>
.ok (.go ((st162.1 + (1 : Int)), st280.1, st280.2)))
else (
.ok (.stop (st162.1, st162.2.1, st162.2.2)))) 1000000 ((0 : Int), (mergeDT q77.1), q151.1) >>= fun f303 => match f303 with
| .rt _ => bad
| .nx st292 =>
.ok st292.2.2
def sp_order_of (mg : Str → Option Value) : Sp := fun vs H Q E => ∃ (F : Hp) (v_near : V) (x_near : (List (List Int))) (v_branches : V) (x_branches : (List (Int × Int))), vs = [v_near, v_branches] ∧ Pre F [] H ∧ R (a := (List (List Int))) F v_near x_near ∧ R (a := (List (Int × Int))) F v_branches x_branches ∧
  wp (m_order_of x_near x_branches) (fun r => ∀ (F' H' : Hp), Gr [] F H F' H' → ∀ (p : Addr) (w : (List V)), H p = none → F' p = none → H' p = some (.lst w) → RL (a := (Int × Int)) F' w r → Q (.ref p) H')
  (fun n => ∀ (C : Addr) (H' : Hp), mg (Str.ofString n) = some (.ref C) → Kp [] H H' → E (.ref C) none H')
set_option maxHeartbeats 20000000 in
theorem ok_order_of (nb : Nb mg) (D : Df K mg "order_of" "order_of" s_order_of ["near", "branches"]) : Ca P w K mg base "order_of" 1 ["near", "branches"] (sp_order_of mg) := by
  refine Ca.mk' D sc_order_of (fun vs H Q E h => ?_) (fun q_ f_ cdv A outer s H vs Q E hr h => ?_)
  · obtain ⟨F, _, _, _, _, rfl, _⟩ := h
    rfl
  · obtain ⟨F, v_near, x_near, v_branches, x_branches, rfl, P0, f_near, f_branches, hk⟩ := h
    have nd := sc_order_of.nd
    have hu64 := hr.units
    have hu128 := hu128_of hr
    have O := P0.start
    refine ⟨_, (pss_cons (ps_toN (ps_set (i := 2) nd rfl (Or.inr rfl) (pe_callTy (call_dictT rfl hu64) (by rfl) nb.b_dict (by decide +kernel) (pa_cons (pe_lc (own := [("a", 7), ("b", 8)]) (g := gTup K 2 (gCons (gName 7) (gCons (gName 8) (gNil)))) (tt := _) rfl nd (piListK (K := K) rfl (pv 1)) (blkOk_by (own := [("a", 7), ("b", 8)]) (N := ["near", "branches", "left", "found", "at", "c", "branch", "a", "b"]) (sc := defScope s_order_of) (by decide +kernel)) (fun _ _ _ _ _ => (pg_tup rfl (pgs_cons (pg_name (i := 7) nd rfl (Or.inl rfl)) (pgs_cons (pg_name (i := 8) nd rfl (Or.inl rfl)) pgs_nil)))) (fun _ _ _ _ _ => pts_nil) (fun _ _ _ _ _ => (pe_tup (pa_cons (pe_tup (pa_cons (pv 7) (pa_cons (pv 8) pa_nil))) (pa_cons (pe_op op_sub (pe_callB call_lenT (by rfl) nb.b_len PySem.boot_len (pa_cons (pe_ix (ixListK (K := K) rfl) (pv 0) (pv 8) (fun _ _ => rfl)) pa_nil)) pe_int) pa_nil))))) pa_nil))))
  (pss_cons (ps_toN (ps_setLc (i := 3) (own := [("branch", 6)]) (g := gName 6) (tt := _) rfl nd rfl rfl (sw_true rfl rfl rfl (by decide +kernel)) (piListK (K := K) rfl (pv 1)) (blkOk_by (own := [("branch", 6)]) (N := ["near", "branches", "left", "found", "at", "c", "branch", "a", "b"]) (sc := defScope s_order_of) (by decide +kernel)) (fun _ _ _ _ _ => (pg_name (i := 6) nd rfl (Or.inl rfl))) (fun _ _ _ _ _ => (pts_one (pt_cmpR (op_eqT Int hu64) (pe_dget (u1_of hu64) (pv 2) (pv 6) (fun _ _ => rfl)) pe_int (nomark _)))) (fun _ _ _ _ _ => (pv 6))))
  (pss_cons (ps_toN (ps_set (i := 4) nd rfl (Or.inl rfl) pe_int))
  (pss_cons (ps_while (passes_of rfl) (pt_cmpR op_lt (pv 4) (pe_callB call_lenT (by rfl) nb.b_len PySem.boot_len (pa_cons (pv 3) pa_nil)) (nomark _)) (pss_cons (ps_asg (pe_ix (ixListK (K := K) rfl) (pv 3) (pv 4) (fun _ _ => rfl)) (pg_tup rfl (pgs_cons (pg_name (i := 7) nd rfl (Or.inl rfl)) (pgs_cons (pg_name (i := 8) nd rfl (Or.inl rfl)) pgs_nil))))
  (pss_cons (ps_for (passes_of rfl) rfl (piListK (K := K) rfl (pe_ix (ixListK (K := K) rfl) (pv 0) (pv 7) (fun _ _ => rfl))) (pg_name (i := 5) nd rfl (Or.inl rfl)) (pss_one (ps_if (pt_cmpR (op_neT Int hu64) (pv 5) (pv 8) (nomark _)) (pss_cons (ps_daug (u1_of hu64) (pv 2) (pe_tup (pa_cons (pv 5) (pa_cons (pv 7) pa_nil))) pe_int in_sub (by intros; rfl))
  (pss_one (ps_if (pt_cmpR (op_eqT Int hu64) (pe_dget (u1_of hu64) (pv 2) (pe_tup (pa_cons (pv 5) (pa_cons (pv 7) pa_nil))) (fun _ _ => rfl)) pe_int (nomark _)) (pss_one (ps_expr (bmK (K := K) rfl (pe_bm PySem.F.plainAttrs_list PySem.F.slot_list_append PySem.F.type_list_append mt_append (pv 3) (pa_cons (pe_tup (pa_cons (pv 5) (pa_cons (pv 7) pa_nil))) pa_nil))))) pss_nil))) pss_nil)))
  (pss_one (ps_aug (i := 4) nd rfl (Or.inl rfl) pe_int ip_add)))))
  (pss_one (ps_ret (pv 3))))))), ?_⟩
    obtain ⟨p2, w3, e4, h5, hl6⟩ := R.lst_ f_branches
    cases e4
    obtain ⟨c12, L8, hL9, hLs10, hLd11⟩ := compS_L hk
    refine ⟨_, rfl, _, rfl, ⟨_, (SqLF O.s h5)⟩, fun p13 hp14 => ?_⟩
    have z66 := O.was hp14
    refine lc_list (K := K) (xs := w3) (fun i H => ∃ (F_ : Hp) (st : Unit) (acc : List ((Int × Int) × Int)) (wa : List V), Same F F_ ∧ Ow _ F_ [(p13, .lst wa)] H ∧ RL F_ wa acc ∧ wa.length ≤ i ∧ L8 (List.drop i x_branches) acc st) ⟨F, (), [], [], Same.refl _, O.new hp14, RL.nil, Nat.zero_le _, hL9⟩ (fun i_ H_ _ hp_ => ?_) ?_ ?_
    · obtain ⟨_, _, _, _, hS_, hO_, _⟩ := hp_
      exact SqLF hO_.s (hS_ _ _ h5)
    · rintro i15 x16 H17 hi18 ⟨F23, st24, acc20, wa21, S25, O27, hl26, la22, hL9⟩
      have f_near := f_near.mono S25
      have f_branches := f_branches.mono S25
      have h5 := S25 _ _ h5
      have hl6 := hl6.mono S25
      obtain ⟨y7, e28, r29⟩ := RL.got hl6 hi18
      rw [drop_at e28] at hL9
      have hk := hLs10 _ _ _ _ hL9
      obtain ⟨p30, v33, v34, e31, h32, r35, r36⟩ := R.t2_ r29
      cases e31
      obtain rfl := R.int_ r35
      obtain rfl := R.int_ r36
      refine ⟨_, _, rfl, (SqTF O27.s h32), rfl, _, _, rfl, _, _, rfl, rfl, rfl, ?_⟩
      refine ⟨_, rfl, _, rfl, (by show 2 ≤ sizeLine; decide), fun p37 hp38 => ?_⟩
      obtain ⟨F39, O40, S41, h42⟩ := O27.putE hp38 (.tup [V.int y7.1, V.int y7.2])
      have f_near := f_near.mono S41
      have f_branches := f_branches.mono S41
      have h5 := S41 _ _ h5
      have hl6 := hl6.mono S41
      have S25 := S25.trans S41
      have hl26 := hl26.mono S41
      have r29 := r29.mono S41
      have h32 := S41 _ _ h32
      have h43 : R (a := (Int × Int)) F39 (.ref p37) (y7.1, y7.2) := R.t2 h42 R.int R.int
      obtain ⟨p44, w45, e46, h47, hl48⟩ := R.lst_ f_near
      cases e46
      obtain ⟨y49, e50, hk⟩ := wp_opt hk
      obtain ⟨w51, e52, r53⟩ := hl48.atI e50
      obtain ⟨p54, w55, e56, h57, hl58⟩ := R.lst_ r53
      cases e56
      refine ⟨_, rfl, _, rfl, _, _, _, _, rfl, rfl, (SqLF O40.s h47), e52, _, _, _, rfl, (.inl (O40.s _ _ h57)), hl58.len, _, _, rfl, rfl, (by show 2 ≤ sizeLine; decide), fun p59 hp60 => ?_⟩
      obtain ⟨F61, O62, S63, h64⟩ := O40.putE hp60 (.tup [V.ref p37, V.int ((y49.length : Int) - (1 : Int))])
      have f_near := f_near.mono S63
      have f_branches := f_branches.mono S63
      have h5 := S63 _ _ h5
      have hl6 := hl6.mono S63
      have S25 := S25.trans S63
      have hl26 := hl26.mono S63
      have r29 := r29.mono S63
      have h32 := S63 _ _ h32
      have h43 := h43.mono S63
      have h47 := S63 _ _ h47
      have hl48 := hl48.mono S63
      have r53 := r53.mono S63
      have h57 := S63 _ _ h57
      have hl58 := hl58.mono S63
      have h65 : R (a := ((Int × Int) × Int)) F61 (.ref p59) ((y7.1, y7.2), ((y49.length : Int) - (1 : Int))) := R.t2 h64 h43 R.int
      refine ⟨_, (O62.at 0 rfl), (comp_len la22 hi18 hl6.len c12), ?_⟩
      exact ⟨F61, (), acc20 ++ [((y7.1, y7.2), ((y49.length : Int) - (1 : Int)))], wa21 ++ [V.ref p59], S25, O62.set 0 (.lst (wa21 ++ [V.ref p59])) rfl, RL.snoc hl26 h65, by rw [List.length_append]; exact Nat.succ_le_succ la22, hk⟩
    rintro H67 ⟨F68, st69, acc70, wa71, S72, O73, hl74, la75, hL76⟩
    rw [drop_end hl6.len] at hL76
    have hk := hLd11 _ _ hL76
    have f_near := f_near.mono S72
    have f_branches := f_branches.mono S72
    have h5 := S72 _ _ h5
    have hl6 := hl6.mono S72
    obtain ⟨F78, O79, S80, h81⟩ := O73.frzE 0 rfl z66
    have f_near := f_near.mono S80
    have f_branches := f_branches.mono S80
    have h5 := S80 _ _ h5
    have hl6 := hl6.mono S80
    have hl74 := hl74.mono S80
    have h82 := R.lst (a := ((Int × Int) × Int)) h81 hl74
    obtain ⟨p83, w84, e85, h86, hl87⟩ := R.lst_ h82
    cases e85
    obtain ⟨ps88, kvs89, e90, hps91, hl92⟩ := pairsT_of_rl (K := K) O79.s hl87
    refine ⟨_, ps88, kvs89, rfl, (by rw [← e90]; exact (SqLF O79.s h86)), hps91, fun p93 hp94 => ?_⟩
    have hl95 : RD (κ := (Int × Int)) (β := Int) F78 (mergeT [] kvs89) (mergeDT acc70) := mergeT_rd hl92 .nil
    have z97 := O79.was hp94
    have O96 := O79.new (o := .dT (mergeT [] kvs89)) hp94
    obtain ⟨p99, w100, e101, h102, hl103⟩ := R.lst_ f_branches
    cases e101
    obtain ⟨c109, L105, hL106, hLs107, hLd108⟩ := compS_L hk
    refine ⟨[some v_near, some (V.ref p2), some (V.ref p93), none, none, none, none, none, none], rfl, _, rfl, _, rfl, ⟨_, (SqLF O96.s h102)⟩, fun p110 hp111 => ?_⟩
    have z140 := O96.was hp111
    refine lc_list (K := K) (xs := w100) (fun i H => ∃ (F_ : Hp) (st : Unit) (acc : List (Int × Int)) (wa : List V), Same F78 F_ ∧ Ow _ F_ [(p110, .lst wa), (p93, .dT (mergeT [] kvs89))] H ∧ RL F_ wa acc ∧ wa.length ≤ i ∧ L105 (List.drop i x_branches) acc st) ⟨F78, (), [], [], Same.refl _, O96.new hp111, RL.nil, Nat.zero_le _, hL106⟩ (fun i_ H_ _ hp_ => ?_) ?_ ?_
    · obtain ⟨_, _, _, _, hS_, hO_, _⟩ := hp_
      exact SqLF hO_.s (hS_ _ _ h102)
    · rintro i112 x113 H114 hi115 ⟨F120, st121, acc117, wa118, S122, O124, hl123, la119, hL106⟩
      have f_near := f_near.mono S122
      have f_branches := f_branches.mono S122
      have h5 := S122 _ _ h5
      have hl6 := hl6.mono S122
      have h82 := h82.mono S122
      have h86 := S122 _ _ h86
      have hl87 := hl87.mono S122
      have hl92 := hl92.mono S122
      have hl95 := hl95.mono S122
      have h102 := S122 _ _ h102
      have hl103 := hl103.mono S122
      obtain ⟨y104, e125, r126⟩ := RL.got hl103 hi115
      rw [drop_at e125] at hL106
      have hk := hLs107 _ _ _ _ hL106
      obtain ⟨p132, v135, v136, e133, h134, r137, r138⟩ := R.t2_ r126
      cases e133
      obtain rfl := R.int_ r137
      obtain rfl := R.int_ r138
      obtain ⟨y127, e128, hk⟩ := wp_opt hk
      obtain ⟨w129, e130, r131⟩ := RD.some hl95 (k := (y104.1, y104.2)) e128
      obtain rfl := R.int_ r131
      refine ⟨rfl, _, rfl, _, rfl, _, _, rfl, (dget_T (.inl (O124.at 1 rfl)) (O124.s _ _ h134) e130), _, _, R.int, R.int, _, rfl, ?_⟩
      refine iteD (fun q139 => ?_) (fun q139 => ?_)
      · have hk := wp_if hk q139
        refine ⟨_, rfl, _, (O124.at 0 rfl), (comp_len la119 hi115 hl103.len c109), ?_⟩
        exact ⟨F120, (), acc117 ++ [y104], wa118 ++ [V.ref p132], S122, O124.set 0 (.lst (wa118 ++ [V.ref p132])) rfl, RL.snoc hl123 r126, by rw [List.length_append]; exact Nat.succ_le_succ la119, hk⟩
      · have hk := wp_el hk q139
        exact ⟨F120, (), acc117, wa118, S122, O124, hl123, Nat.le_succ_of_le la119, hk⟩
    rintro H141 ⟨F142, st143, acc144, wa145, S146, O147, hl148, la149, hL150⟩
    rw [drop_end hl103.len] at hL150
    have hk := hLd108 _ _ hL150
    have f_near := f_near.mono S146
    have f_branches := f_branches.mono S146
    have h5 := S146 _ _ h5
    have hl6 := hl6.mono S146
    have h82 := h82.mono S146
    have h86 := S146 _ _ h86
    have hl87 := hl87.mono S146
    have hl92 := hl92.mono S146
    have hl95 := hl95.mono S146
    have h102 := S146 _ _ h102
    have hl103 := hl103.mono S146
    obtain ⟨L152, X153, hL154, hLs155, hLd156⟩ := whL_L hk
    refine ⟨[some v_near, some (V.ref p2), some (V.ref p93), some (V.ref p110), none, none, none, none, none], rfl, [some v_near, some (V.ref p2), some (V.ref p93), some (V.ref p110), some (V.int (0 : Int)), none, none, none, none], rfl, ?_⟩
    refine while_P (fun n σ H_ => ∃ (F_ : Hp) (st : Int × (List ((Int × Int) × Int)) × (List (Int × Int))) (w_0 : (List (List Key × V))) (w_1 : (List V)) (t_0 : Option V) (t_1 : Option V) (t_2 : Option V), σ = [some v_near, some (V.ref p2), some (V.ref p93), some (V.ref p110), some (V.int st.1), t_2, none, t_0, t_1] ∧ Same F142 F_ ∧ Ow (⟨[], F, H⟩ : Ent) F_ [(p110, .lst w_1), (p93, .dT w_0)] H_ ∧ RD (κ := (Int × Int)) (β := Int) F_ w_0 st.2.1 ∧ RL (a := (Int × Int)) F_ w_1 st.2.2 ∧ L152 n st) (fun σ H_ => ∃ (F_ : Hp) (st : Int × (List ((Int × Int) × Int)) × (List (Int × Int))) (w_0 : (List (List Key × V))) (w_1 : (List V)) (t_0 : Option V) (t_1 : Option V) (t_2 : Option V), σ = [some v_near, some (V.ref p2), some (V.ref p93), some (V.ref p110), some (V.int st.1), t_2, none, t_0, t_1] ∧ Same F142 F_ ∧ Ow (⟨[], F, H⟩ : Ent) F_ [(p110, .lst w_1), (p93, .dT w_0)] H_ ∧ RD (κ := (Int × Int)) (β := Int) F_ w_0 st.2.1 ∧ RL (a := (Int × Int)) F_ w_1 st.2.2 ∧ X153 st) 1000000 ⟨F142, ((0 : Int), (mergeDT acc70), acc144), (mergeT [] kvs89), wa145, none, none, none, rfl, Same.refl _, O147, hl95, hl148, hL154⟩ ?_ ?_
    rotate_left
    · rintro hex157 m158 sg159 H160 ⟨F171, st162, w164, w165, t168, t169, t170, rfl, S161, O172, hl166, hl167, hL163⟩
      have f_near := f_near.mono S161
      have f_branches := f_branches.mono S161
      have h5 := S161 _ _ h5
      have hl6 := hl6.mono S161
      have h82 := h82.mono S161
      have h86 := S161 _ _ h86
      have hl87 := hl87.mono S161
      have hl92 := hl92.mono S161
      have h102 := S161 _ _ h102
      have hl103 := hl103.mono S161
      have hk := hLs155 _ _ hL163
      refine ⟨_, rfl, _, rfl, _, _, _, rfl, (.inl (O172.at 0 rfl)), hl167.len, _, _, rfl, rfl, _, rfl, ?_⟩
      refine iteD (fun q173 => ?_) (fun q173 => ?_)
      · have hk := wp_if hk q173
        obtain ⟨y174, e175, hk⟩ := wp_opt hk
        obtain ⟨w176, e177, r178⟩ := hl167.atI e175
        obtain ⟨p179, v182, v183, e180, h181, r184, r185⟩ := R.t2_ r178
        cases e180
        obtain rfl := R.int_ r184
        obtain rfl := R.int_ r185
        obtain ⟨p186, w187, e188, h189, hl190⟩ := R.lst_ f_near
        cases e188
        obtain ⟨y191, e192, hk⟩ := wp_opt hk
        obtain ⟨w193, e194, r195⟩ := hl190.atI e192
        obtain ⟨p196, w197, e198, h199, hl200⟩ := R.lst_ r195
        cases e198
        obtain ⟨L202, hL203, hLs204, hLd205⟩ := loopN_L hk
        refine ⟨_, (fun _ _ h_ => h_), _, rfl, _, rfl, _, _, _, _, rfl, rfl, (SqL.of (O172.at 0 rfl)), e177, _, _, rfl, (SqTF O172.s h181), rfl, _, _, rfl, _, _, rfl, rfl, _, rfl, _, rfl, _, _, _, _, rfl, rfl, (SqLF O172.s h189), e194, _, rfl, ⟨_, (SqLF O172.s h199)⟩, ?_⟩
        refine for_list (K := K) (xs := w197) (fun i σ H_ => ∃ (F_ : Hp) (st : (List ((Int × Int) × Int)) × (List (Int × Int))) (w_0 : (List (List Key × V))) (w_1 : (List V)) (t_0 : Option V), σ = [some (V.ref p186), some (V.ref p2), some (V.ref p93), some (V.ref p110), some (V.int st162.1), t_0, none, some (V.int y174.1), some (V.int y174.2)] ∧ Same F171 F_ ∧ Ow _ F_ [(p110, .lst w_1), (p93, .dT w_0)] H_ ∧ RD (κ := (Int × Int)) (β := Int) F_ w_0 st.1 ∧ RL (a := (Int × Int)) F_ w_1 st.2 ∧ L202 (List.drop i y191) st) ⟨F171, (st162.2.1, st162.2.2), w164, w165, t170, rfl, Same.refl _, O172, hl166, hl167, hL203⟩ (fun i_ σ_ H_ _ hp_ => ?_) ?_ ?_
        · obtain ⟨_, _, _, _, _, _, hS_, hO_, _⟩ := hp_
          exact SqLF hO_.s (hS_ _ _ h199)
        · rintro i206 x207 sg208 H209 hi210 ⟨F218, st212, w213, w214, t217, rfl, S211, O219, hl215, hl216, hL203⟩
          have f_near := f_near.mono S211
          have f_branches := f_branches.mono S211
          have h5 := S211 _ _ h5
          have hl6 := hl6.mono S211
          have h82 := h82.mono S211
          have h86 := S211 _ _ h86
          have hl87 := hl87.mono S211
          have hl92 := hl92.mono S211
          have h102 := S211 _ _ h102
          have hl103 := hl103.mono S211
          have S161 := S161.trans S211
          have r178 := r178.mono S211
          have h181 := S211 _ _ h181
          have h189 := S211 _ _ h189
          have hl190 := hl190.mono S211
          have r195 := r195.mono S211
          have h199 := S211 _ _ h199
          have hl200 := hl200.mono S211
          obtain ⟨y201, e220, r221⟩ := RL.got hl200 hi210
          rw [drop_at e220] at hL203
          have hk := hLs204 _ _ _ hL203
          obtain rfl := R.int_ r221
          refine ⟨_, rfl, _, rfl, _, _, R.int, R.int, _, rfl, ?_⟩
          refine iteD (fun q222 => ?_) (fun q222 => ?_)
          · have hk := wp_if hk q222
            refine ⟨_, rfl, _, rfl, _, rfl, (by show 2 ≤ sizeLine; decide), fun p223 hp224 => ?_⟩
            obtain ⟨F225, O226, S227, h228⟩ := O219.putE hp224 (.tup [V.int y201, V.int y174.1])
            have f_near := f_near.mono S227
            have f_branches := f_branches.mono S227
            have h5 := S227 _ _ h5
            have hl6 := hl6.mono S227
            have h82 := h82.mono S227
            have h86 := S227 _ _ h86
            have hl87 := hl87.mono S227
            have hl92 := hl92.mono S227
            have h102 := S227 _ _ h102
            have hl103 := hl103.mono S227
            have S161 := S161.trans S227
            have r178 := r178.mono S227
            have h181 := S227 _ _ h181
            have h189 := S227 _ _ h189
            have hl190 := hl190.mono S227
            have r195 := r195.mono S227
            have h199 := S227 _ _ h199
            have hl200 := hl200.mono S227
            have hl215 := hl215.mono S227
            have hl216 := hl216.mono S227
            have S211 := S211.trans S227
            have h229 : R (a := (Int × Int)) F225 (.ref p223) (y201, y174.1) := R.t2 h228 R.int R.int
            obtain ⟨p235, v238, v239, e236, h237, r240, r241⟩ := R.t2_ h229
            cases e236
            obtain rfl := R.int_ r240
            obtain rfl := R.int_ r241
            obtain ⟨y230, e231, hk⟩ := wp_opt hk
            obtain ⟨w232, e233, r234⟩ := RD.some hl215 (k := ((y201, y174.1).1, (y201, y174.1).2)) e231
            obtain rfl := R.int_ r234
            obtain ⟨c242, hk⟩ := wp_putD hk
            refine ⟨_, _, rfl, (dget_T (.inl (O226.at 1 rfl)) (O226.s _ _ h237) e233), _, _, rfl, rfl, _, (dput_T (v := V.int (y230 - (1 : Int))) (O226.at 1 rfl) (O226.s _ _ h237) (by rw [RD.len hl215]; exact c242)), ?_⟩
            have O244 := O226.set 1 (.dT (putK w213 (DK.kk ((y201, y174.1).1, (y201, y174.1).2)) (V.int (y230 - (1 : Int))))) rfl
            have hl245 : RD (κ := (Int × Int)) (β := Int) F225 (putK w213 (DK.kk ((y201, y174.1).1, (y201, y174.1).2)) (V.int (y230 - (1 : Int)))) (dPut st212.1 ((y201, y174.1).1, (y201, y174.1).2) (y230 - (1 : Int))) := RD.put hl215 ((y201, y174.1).1, (y201, y174.1).2) R.int
            refine ⟨_, rfl, _, rfl, _, rfl, (by show 2 ≤ sizeLine; decide), fun p246 hp247 => ?_⟩
            obtain ⟨F248, O249, S250, h251⟩ := O244.putE hp247 (.tup [V.int y201, V.int y174.1])
            have f_near := f_near.mono S250
            have f_branches := f_branches.mono S250
            have h5 := S250 _ _ h5
            have hl6 := hl6.mono S250
            have h82 := h82.mono S250
            have h86 := S250 _ _ h86
            have hl87 := hl87.mono S250
            have hl92 := hl92.mono S250
            have h102 := S250 _ _ h102
            have hl103 := hl103.mono S250
            have S161 := S161.trans S250
            have r178 := r178.mono S250
            have h181 := S250 _ _ h181
            have h189 := S250 _ _ h189
            have hl190 := hl190.mono S250
            have r195 := r195.mono S250
            have h199 := S250 _ _ h199
            have hl200 := hl200.mono S250
            have hl216 := hl216.mono S250
            have S211 := S211.trans S250
            have h229 := h229.mono S250
            have h237 := S250 _ _ h237
            have hl245 := hl245.mono S250
            have h252 : R (a := (Int × Int)) F248 (.ref p246) (y201, y174.1) := R.t2 h251 R.int R.int
            obtain ⟨p258, v261, v262, e259, h260, r263, r264⟩ := R.t2_ h252
            cases e259
            obtain rfl := R.int_ r263
            obtain rfl := R.int_ r264
            obtain ⟨y253, e254, hk⟩ := wp_opt hk
            obtain ⟨w255, e256, r257⟩ := RD.some hl245 (k := ((y201, y174.1).1, (y201, y174.1).2)) e254
            obtain rfl := R.int_ r257
            refine ⟨_, _, rfl, (dget_T (.inl (O249.at 1 rfl)) (O249.s _ _ h260) e256), _, _, R.int, R.int, _, rfl, ?_⟩
            refine iteD (fun q265 => ?_) (fun q265 => ?_)
            · have hk := wp_if hk q265
              refine ⟨_, rfl, (.inl ⟨rfl, _, SqL.of (O249.at 0 rfl)⟩), _, rfl, _, rfl, (by show 2 ≤ sizeLine; decide), fun p266 hp267 => ?_⟩
              obtain ⟨F268, O269, S270, h271⟩ := O249.putE hp267 (.tup [V.int y201, V.int y174.1])
              have f_near := f_near.mono S270
              have f_branches := f_branches.mono S270
              have h5 := S270 _ _ h5
              have hl6 := hl6.mono S270
              have h82 := h82.mono S270
              have h86 := S270 _ _ h86
              have hl87 := hl87.mono S270
              have hl92 := hl92.mono S270
              have h102 := S270 _ _ h102
              have hl103 := hl103.mono S270
              have S161 := S161.trans S270
              have r178 := r178.mono S270
              have h181 := S270 _ _ h181
              have h189 := S270 _ _ h189
              have hl190 := hl190.mono S270
              have r195 := r195.mono S270
              have h199 := S270 _ _ h199
              have hl200 := hl200.mono S270
              have hl216 := hl216.mono S270
              have S211 := S211.trans S270
              have h229 := h229.mono S270
              have h237 := S270 _ _ h237
              have hl245 := hl245.mono S270
              have h252 := h252.mono S270
              have h260 := S270 _ _ h260
              have h272 : R (a := (Int × Int)) F268 (.ref p266) (y201, y174.1) := R.t2 h271 R.int R.int
              obtain ⟨c273, hk⟩ := wp_appL hk
              refine ⟨_, _, _, rfl, rfl, (O269.at 0 rfl), (by rw [hl216.len]; exact c273), ?_⟩
              have O275 := O269.set 0 (.lst (w214 ++ [V.ref p266])) rfl
              have hl276 : RL (a := (Int × Int)) F268 (w214 ++ [V.ref p266]) (st212.2 ++ [(y201, y174.1)]) := RL.snoc hl216 h272
              exact ⟨F268, ((dPut st212.1 ((y201, y174.1).1, (y201, y174.1).2) (y230 - (1 : Int))), (st212.2 ++ [(y201, y174.1)])), (putK w213 (DK.kk ((y201, y174.1).1, (y201, y174.1).2)) (V.int (y230 - (1 : Int)))), (w214 ++ [V.ref p266]), some (V.int y201), rfl, S211, O275, hl245, hl276, hk⟩
            · have hk := wp_el hk q265
              exact ⟨F248, ((dPut st212.1 ((y201, y174.1).1, (y201, y174.1).2) (y230 - (1 : Int))), st212.2), (putK w213 (DK.kk ((y201, y174.1).1, (y201, y174.1).2)) (V.int (y230 - (1 : Int)))), w214, some (V.int y201), rfl, S211, O249, hl245, hl216, hk⟩
          · have hk := wp_el hk q222
            exact ⟨F218, (st212.1, st212.2), w213, w214, some (V.int y201), rfl, S211, O219, hl215, hl216, hk⟩
        rintro sg277 H278 ⟨F287, st280, w282, w283, t286, rfl, S279, O288, hl284, hl285, hL281⟩
        rw [drop_end hl200.len] at hL281
        have hk := hLd205 _ hL281
        have f_near := f_near.mono S279
        have f_branches := f_branches.mono S279
        have h5 := S279 _ _ h5
        have hl6 := hl6.mono S279
        have h82 := h82.mono S279
        have h86 := S279 _ _ h86
        have hl87 := hl87.mono S279
        have hl92 := hl92.mono S279
        have h102 := S279 _ _ h102
        have hl103 := hl103.mono S279
        have S161 := S161.trans S279
        have r178 := r178.mono S279
        have h181 := S279 _ _ h181
        have h189 := S279 _ _ h189
        have hl190 := hl190.mono S279
        have r195 := r195.mono S279
        have h199 := S279 _ _ h199
        have hl200 := hl200.mono S279
        refine ⟨_, rfl, _, _, rfl, rfl, ?_⟩
        obtain ⟨m_, hm_, hk⟩ := hk
        exact ⟨m_, hm_, F287, ((st162.1 + (1 : Int)), st280.1, st280.2), w282, w283, some (V.int y174.1), some (V.int y174.2), t286, rfl, S161, O288, hl284, hl285, hk⟩
      · have hk := wp_el hk q173
        exact hex157 _ _ ⟨F171, (st162.1, st162.2.1, st162.2.2), w164, w165, t168, t169, t170, rfl, S161, O172, hl166, hl167, hk⟩
    rintro sg289 H290 ⟨F301, st292, w294, w295, t298, t299, t300, rfl, S291, O302, hl296, hl297, hL293⟩
    have hk := hLd156 _ hL293
    have f_near := f_near.mono S291
    have f_branches := f_branches.mono S291
    have h5 := S291 _ _ h5
    have hl6 := hl6.mono S291
    have h82 := h82.mono S291
    have h86 := S291 _ _ h86
    have hl87 := hl87.mono S291
    have hl92 := hl92.mono S291
    have h102 := S291 _ _ h102
    have hl103 := hl103.mono S291
    refine ⟨_, rfl, ?_⟩
    exact hk _ _  O302.g  _ _ z140 (O302.cf _ (List.mem_of_getElem? (i := 0) rfl)) (O302.at 0 rfl) hl297
abbrev s_rows_known : Stmt := top 39
theorem sc_rows_known : FnScope ["tree", "rule", "near", "lengths", "rows", "a", "b", "more", "c"] ["tree", "rule"] (defScope s_rows_known) := ⟨rfl, rfl, rfl, by decide +kernel, rfl, by decide +kernel, by decide +kernel⟩
def m_rows_known (x_tree : ((List Int) × (List (T3 Int Int Int)))) (x_rule : (T4 (List Sm) (List Sm) (List Sm) Sm)) : M ((List ((Int × Int) × (List Int)))) :=
m_tied_places (x_tree.1.length : Int) x_tree.2 >>= fun r13 =>
m_lengths_of x_tree >>= fun r32 =>
m_every_branch x_tree >>= fun r46 =>
m_order_of r13 r46 >>= fun r65 =>
loopN (fun (y89 : (Int × Int)) (st100 : (List ((Int × Int) × (List Int)))) =>
opt (atI r13 y89.2) >>= fun y122 =>
compS (fun (y132 : Int) (st149 : Unit) =>
if y132 ≠ y89.1 then (
opt (dGet st100 (y89.2, y132)) >>= fun y163 =>
.ok (some y163, ()))
else (
.ok (none, ()))) y122 () >>= fun q186 =>
m_row_with x_tree x_rule y89.2 q186.1 >>= fun r192 =>
opt (atI x_tree.1 y89.2) >>= fun y205 =>
opt (dGet r32 (y89.1, y89.2)) >>= fun y222 =>
m_over_tie x_rule r192 y205 y222 >>= fun r234 =>
putD st100 ((y89.1, y89.2).1, (y89.1, y89.2).2) r234 >>= fun z268 =>
.ok z268) r65 ([] : (List ((Int × Int) × (List Int)))) >>= fun st274 =>
.ok st274
def sp_rows_known (mg : Str → Option Value) : Sp := fun vs H Q E => ∃ (F : Hp) (v_tree : V) (x_tree : ((List Int) × (List (T3 Int Int Int)))) (v_rule : V) (x_rule : (T4 (List Sm) (List Sm) (List Sm) Sm)), vs = [v_tree, v_rule] ∧ Pre F [] H ∧ R (a := ((List Int) × (List (T3 Int Int Int)))) F v_tree x_tree ∧ R (a := (T4 (List Sm) (List Sm) (List Sm) Sm)) F v_rule x_rule ∧
  wp (m_rows_known x_tree x_rule) (fun r => ∀ (F' H' : Hp), Gr [] F H F' H' → ∀ v : V, RDv (κ := (Int × Int)) (β := (List Int)) F' v r → Q v H')
  (fun n => ∀ (C : Addr) (H' : Hp), mg (Str.ofString n) = some (.ref C) → Kp [] H H' → E (.ref C) none H')
set_option maxHeartbeats 20000000 in
theorem ok_rows_known (nb : Nb mg) (C_every_branch : Ca P w K mg base "every_branch" 2 ["tree"] (sp_every_branch mg)) (C_lengths_of : Ca P w K mg base "lengths_of" 1 ["tree"] (sp_lengths_of mg)) (C_order_of : Ca P w K mg base "order_of" 1 ["near", "branches"] (sp_order_of mg)) (C_over_tie : Ca P w K mg base "over_tie" 14 ["rule", "more", "own", "tie"] (sp_over_tie mg)) (C_row_with : Ca P w K mg base "row_with" 15 ["tree", "rule", "place", "near"] (sp_row_with mg)) (C_tied_places : Ca P w K mg base "tied_places" 1 ["many", "ties"] (sp_tied_places mg)) (D : Df K mg "rows_known" "rows_known" s_rows_known ["tree", "rule"]) : Ca P w K mg base "rows_known" 16 ["tree", "rule"] (sp_rows_known mg) := by
  obtain ⟨fa_every_branch, fd_every_branch, G_every_branch, M_every_branch, K_every_branch, B_every_branch⟩ := C_every_branch.ex
  obtain ⟨fa_lengths_of, fd_lengths_of, G_lengths_of, M_lengths_of, K_lengths_of, B_lengths_of⟩ := C_lengths_of.ex
  obtain ⟨fa_order_of, fd_order_of, G_order_of, M_order_of, K_order_of, B_order_of⟩ := C_order_of.ex
  obtain ⟨fa_over_tie, fd_over_tie, G_over_tie, M_over_tie, K_over_tie, B_over_tie⟩ := C_over_tie.ex
  obtain ⟨fa_row_with, fd_row_with, G_row_with, M_row_with, K_row_with, B_row_with⟩ := C_row_with.ex
  obtain ⟨fa_tied_places, fd_tied_places, G_tied_places, M_tied_places, K_tied_places, B_tied_places⟩ := C_tied_places.ex
  refine Ca.mk' D sc_rows_known (fun vs H Q E h => ?_) (fun q_ f_ cdv A outer s H vs Q E hr h => ?_)
  · obtain ⟨F, _, _, _, _, rfl, _⟩ := h
    rfl
  · obtain ⟨F, v_tree, x_tree, v_rule, x_rule, rfl, P0, f_tree, f_rule, hk⟩ := h
    have nd := sc_rows_known.nd
    have hu64 := hr.units
    have hu128 := hu128_of hr
    have O := P0.start
    refine ⟨_, (pss_cons (ps_toN (ps_set (i := 2) nd rfl (Or.inl rfl) (pe_call G_tied_places (hr.mono (by decide)) rfl M_tied_places K_tied_places B_tied_places .nil (passes_call (takes_of rfl rfl rfl rfl) fun _ _ _ _ h => h) (pa_cons (pe_callB call_lenT (by rfl) nb.b_len PySem.boot_len (pa_cons (pe_ix (ixTupK (K := K) rfl) (pv 0) pe_int (fun _ _ => rfl)) pa_nil)) (pa_cons (pe_ix (ixTupK (K := K) rfl) (pv 0) pe_int (fun _ _ => rfl)) pa_nil)))))
  (pss_cons (ps_toN (ps_set (i := 3) nd rfl (Or.inl rfl) (pe_call G_lengths_of (hr.mono (by decide)) rfl M_lengths_of K_lengths_of B_lengths_of .nil (passes_call (takes_of rfl rfl rfl rfl) fun _ _ _ _ h => h) (pa_cons (pv 0) pa_nil))))
  (pss_cons (ps_toN (ps_set (i := 4) nd rfl (Or.inr rfl) pe_dnewT))
  (pss_cons (ps_for (passes_of rfl) rfl (piListK (K := K) rfl (pe_call G_order_of (hr.mono (by decide)) rfl M_order_of K_order_of B_order_of .nil (passes_call (takes_of rfl rfl rfl rfl) fun _ _ _ _ h => h) (pa_cons (pv 2) (pa_cons (pe_call G_every_branch (hr.mono (by decide)) rfl M_every_branch K_every_branch B_every_branch .nil (passes_call (takes_of rfl rfl rfl rfl) fun _ _ _ _ h => h) (pa_cons (pv 0) pa_nil)) pa_nil)))) (pg_tup rfl (pgs_cons (pg_name (i := 5) nd rfl (Or.inr rfl)) (pgs_cons (pg_name (i := 6) nd rfl (Or.inr rfl)) pgs_nil))) (pss_cons (ps_toN (ps_set (i := 7) nd rfl (Or.inl rfl) (pe_call G_row_with (hr.mono (by decide)) rfl M_row_with K_row_with B_row_with .nil (passes_call (takes_of rfl rfl rfl rfl) fun _ _ _ _ h => h) (pa_cons (pv 0) (pa_cons (pv 1) (pa_cons (pv 6) (pa_cons (pe_lc (own := [("c", 8)]) (g := gName 8) (tt := _) rfl nd (piListK (K := K) rfl (pe_ix (ixListK (K := K) rfl) (pv 2) (pv 6) (fun _ _ => rfl))) (blkOk_by (own := [("c", 8)]) (N := ["tree", "rule", "near", "lengths", "rows", "a", "b", "more", "c"]) (sc := defScope s_rows_known) (by decide +kernel)) (fun _ _ _ _ _ => (pg_name (i := 8) nd rfl (Or.inl rfl))) (fun _ _ _ _ _ => (pts_one (pt_cmpR (op_neT Int hu64) (pv 8) (pv 5) (nomark _)))) (fun _ _ _ _ _ => (pe_dget (u1_of hu64) (pv 4) (pe_tup (pa_cons (pv 6) (pa_cons (pv 8) pa_nil))) (fun _ _ => rfl)))) pa_nil)))))))
  (pss_one (ps_dput (u1_of hu64) (pv 4) (pe_tup (pa_cons (pv 5) (pa_cons (pv 6) pa_nil))) (pe_call G_over_tie (hr.mono (by decide)) rfl M_over_tie K_over_tie B_over_tie .nil (passes_call (takes_of rfl rfl rfl rfl) fun _ _ _ _ h => h) (pa_cons (pv 1) (pa_cons (pv 7) (pa_cons (pe_ix (ixListK (K := K) rfl) (pe_ix (ixTupK (K := K) rfl) (pv 0) pe_int (fun _ _ => rfl)) (pv 6) (fun _ _ => rfl)) (pa_cons (pe_dget (u1_of hu64) (pv 3) (pe_tup (pa_cons (pv 5) (pa_cons (pv 6) pa_nil))) (fun _ _ => rfl)) pa_nil))))) rfl))))
  (pss_one (ps_ret (pv 4))))))), ?_⟩
    obtain ⟨p1, v4, v5, e2, h3, r6, r7⟩ := R.t2_ f_tree
    cases e2
    obtain ⟨p8, w9, e10, h11, hl12⟩ := R.lst_ r6
    cases e10
    refine ⟨_, rfl, _, _, _, _, rfl, rfl, (SqTF O.s h3), rfl, _, _, _, rfl, (.inl (O.s _ _ h11)), hl12.len, _, rfl, _, _, _, _, rfl, rfl, (SqTF O.s h3), rfl, _, _, _, _, rfl, O.pre0, r7, wp_call hk (fun r13 er14 hk F15 H16 g17 p18 w19 hn20 hf21 h22 hl23 => ?_) (fun n hn C H1 hC kp => hn C H1 hC (O.kp0 kp))⟩
    have O24 := O.call0 g17
    have S_ := g17.f
    have f_tree := f_tree.mono S_
    have f_rule := f_rule.mono S_
    have h3 := S_ _ _ h3
    have r6 := r6.mono S_
    have r7 := r7.mono S_
    have h11 := S_ _ _ h11
    have hl12 := hl12.mono S_
    have O25 := O.got O24 rfl hn20 hf21 h22
    have z26 := O.was hn20
    obtain ⟨F27, O28, S29, h30⟩ := O25.frzE 0 rfl z26
    have f_tree := f_tree.mono S29
    have f_rule := f_rule.mono S29
    have h3 := S29 _ _ h3
    have r6 := r6.mono S29
    have r7 := r7.mono S29
    have h11 := S29 _ _ h11
    have hl12 := hl12.mono S29
    have hl23 := hl23.mono S29
    have h31 := R.lst (a := (List Int)) h30 hl23
    refine ⟨[some (V.ref p1), some v_rule, some (V.ref p18), none, none, none, none, none, none], rfl, _, rfl, _, _, _, rfl, O28.pre0, f_tree, wp_call hk (fun r32 er33 hk F34 H35 g36 v37 r38 => ?_) (fun n hn C H1 hC kp => hn C H1 hC (O28.kp0 kp))⟩
    have O39 := O28.call0 g36
    have S_ := g36.f
    have f_tree := f_tree.mono S_
    have f_rule := f_rule.mono S_
    have h3 := S_ _ _ h3
    have r6 := r6.mono S_
    have r7 := r7.mono S_
    have h11 := S_ _ _ h11
    have hl12 := hl12.mono S_
    have h31 := h31.mono S_
    refine ⟨[some (V.ref p1), some v_rule, some (V.ref p18), some v37, none, none, none, none, none], rfl, fun p41 hp42 => ?_⟩
    have hl44 : RD (κ := (Int × Int)) (β := (List Int)) F34 [] ([] : (List ((Int × Int) × (List Int)))) := RD.nil
    have z45 := O39.was hp42
    have O43 := O39.new (o := .dT []) hp42
    refine ⟨[some (V.ref p1), some v_rule, some (V.ref p18), some v37, some (V.ref p41), none, none, none, none], rfl, _, rfl, _, rfl, _, _, _, rfl, O43.pre0, f_tree, wp_call hk (fun r46 er47 hk F48 H49 g50 p51 w52 hn53 hf54 h55 hl56 => ?_) (fun n hn C H1 hC kp => hn C H1 hC (O43.kp0 kp))⟩
    have O57 := O43.call0 g50
    have S_ := g50.f
    have f_tree := f_tree.mono S_
    have f_rule := f_rule.mono S_
    have h3 := S_ _ _ h3
    have r6 := r6.mono S_
    have r7 := r7.mono S_
    have h11 := S_ _ _ h11
    have hl12 := hl12.mono S_
    have h31 := h31.mono S_
    have r38 := r38.mono S_
    have hl44 := hl44.mono S_
    have O58 := O43.got O57 rfl hn53 hf54 h55
    have z59 := O43.was hn53
    obtain ⟨F60, O61, S62, h63⟩ := O58.frzE 0 rfl z59
    have f_tree := f_tree.mono S62
    have f_rule := f_rule.mono S62
    have h3 := S62 _ _ h3
    have r6 := r6.mono S62
    have r7 := r7.mono S62
    have h11 := S62 _ _ h11
    have hl12 := hl12.mono S62
    have h31 := h31.mono S62
    have r38 := r38.mono S62
    have hl44 := hl44.mono S62
    have hl56 := hl56.mono S62
    have h64 := R.lst (a := (Int × Int)) h63 hl56
    refine ⟨_, _, _, _, _, rfl, O61.pre0, h31, h64, wp_call hk (fun r65 er66 hk F67 H68 g69 p70 w71 hn72 hf73 h74 hl75 => ?_) (fun n hn C H1 hC kp => hn C H1 hC (O61.kp0 kp))⟩
    have O76 := O61.call0 g69
    have S_ := g69.f
    have f_tree := f_tree.mono S_
    have f_rule := f_rule.mono S_
    have h3 := S_ _ _ h3
    have r6 := r6.mono S_
    have r7 := r7.mono S_
    have h11 := S_ _ _ h11
    have hl12 := hl12.mono S_
    have h31 := h31.mono S_
    have r38 := r38.mono S_
    have hl44 := hl44.mono S_
    have h64 := h64.mono S_
    have O77 := O61.got O76 rfl hn72 hf73 h74
    have z78 := O61.was hn72
    obtain ⟨F79, O80, S81, h82⟩ := O77.frzE 0 rfl z78
    have f_tree := f_tree.mono S81
    have f_rule := f_rule.mono S81
    have h3 := S81 _ _ h3
    have r6 := r6.mono S81
    have r7 := r7.mono S81
    have h11 := S81 _ _ h11
    have hl12 := hl12.mono S81
    have h31 := h31.mono S81
    have r38 := r38.mono S81
    have hl44 := hl44.mono S81
    have h64 := h64.mono S81
    have hl75 := hl75.mono S81
    have h83 := R.lst (a := (Int × Int)) h82 hl75
    obtain ⟨p84, w85, e86, h87, hl88⟩ := R.lst_ h83
    cases e86
    obtain ⟨L90, hL91, hLs92, hLd93⟩ := loopN_L hk
    refine ⟨_, rfl, ⟨_, (SqLF O80.s h87)⟩, ?_⟩
    refine for_list (K := K) (xs := w85) (fun i σ H_ => ∃ (F_ : Hp) (st : (List ((Int × Int) × (List Int)))) (w_0 : (List (List Key × V))) (t_0 : Option V) (t_1 : Option V) (t_2 : Option V), σ = [some (V.ref p1), some v_rule, some (V.ref p18), some v37, some (V.ref p41), t_0, t_1, t_2, none] ∧ Same F79 F_ ∧ Ow _ F_ [(p41, .dT w_0)] H_ ∧ RD (κ := (Int × Int)) (β := (List Int)) F_ w_0 st ∧ L90 (List.drop i r65) st) ⟨F79, ([] : (List ((Int × Int) × (List Int)))), [], none, none, none, rfl, Same.refl _, O80, hl44, hL91⟩ (fun i_ σ_ H_ _ hp_ => ?_) ?_ ?_
    · obtain ⟨_, _, _, _, _, _, _, hS_, hO_, _⟩ := hp_
      exact SqLF hO_.s (hS_ _ _ h87)
    · rintro i94 x95 sg96 H97 hi98 ⟨F106, st100, w101, t103, t104, t105, rfl, S99, O107, hl102, hL91⟩
      have f_tree := f_tree.mono S99
      have f_rule := f_rule.mono S99
      have h3 := S99 _ _ h3
      have r6 := r6.mono S99
      have r7 := r7.mono S99
      have h11 := S99 _ _ h11
      have hl12 := hl12.mono S99
      have h31 := h31.mono S99
      have r38 := r38.mono S99
      have h64 := h64.mono S99
      have h83 := h83.mono S99
      have h87 := S99 _ _ h87
      have hl88 := hl88.mono S99
      obtain ⟨y89, e108, r109⟩ := RL.got hl88 hi98
      rw [drop_at e108] at hL91
      have hk := hLs92 _ _ _ hL91
      obtain ⟨p110, v113, v114, e111, h112, r115, r116⟩ := R.t2_ r109
      cases e111
      obtain rfl := R.int_ r115
      obtain rfl := R.int_ r116
      obtain ⟨p117, w118, e119, h120, hl121⟩ := R.lst_ h31
      cases e119
      obtain ⟨y122, e123, hk⟩ := wp_opt hk
      obtain ⟨w124, e125, r126⟩ := hl121.atI e123
      obtain ⟨p127, w128, e129, h130, hl131⟩ := R.lst_ r126
      cases e129
      obtain ⟨c137, L133, hL134, hLs135, hLd136⟩ := compS_L hk
      refine ⟨_, _, rfl, (SqTF O107.s h112), rfl, _, _, rfl, _, _, rfl, rfl, _, rfl, _, rfl, _, rfl, _, rfl, _, rfl, _, _, _, _, rfl, rfl, (SqLF O107.s h120), e125, _, rfl, ⟨_, (SqLF O107.s h130)⟩, fun p138 hp139 => ?_⟩
      have z175 := O107.was hp139
      refine lc_list (K := K) (xs := w128) (fun i H => ∃ (F_ : Hp) (st : Unit) (acc : List (List Int)) (wa : List V), Same F106 F_ ∧ Ow _ F_ [(p138, .lst wa), (p41, .dT w101)] H ∧ RL F_ wa acc ∧ wa.length ≤ i ∧ L133 (List.drop i y122) acc st) ⟨F106, (), [], [], Same.refl _, O107.new hp139, RL.nil, Nat.zero_le _, hL134⟩ (fun i_ H_ _ hp_ => ?_) ?_ ?_
      · obtain ⟨_, _, _, _, hS_, hO_, _⟩ := hp_
        exact SqLF hO_.s (hS_ _ _ h130)
      · rintro i140 x141 H142 hi143 ⟨F148, st149, acc145, wa146, S150, O152, hl151, la147, hL134⟩
        have f_tree := f_tree.mono S150
        have f_rule := f_rule.mono S150
        have h3 := S150 _ _ h3
        have r6 := r6.mono S150
        have r7 := r7.mono S150
        have h11 := S150 _ _ h11
        have hl12 := hl12.mono S150
        have h31 := h31.mono S150
        have r38 := r38.mono S150
        have h64 := h64.mono S150
        have h83 := h83.mono S150
        have h87 := S150 _ _ h87
        have hl88 := hl88.mono S150
        have hl102 := hl102.mono S150
        have S99 := S99.trans S150
        have r109 := r109.mono S150
        have h112 := S150 _ _ h112
        have h120 := S150 _ _ h120
        have hl121 := hl121.mono S150
        have r126 := r126.mono S150
        have h130 := S150 _ _ h130
        have hl131 := hl131.mono S150
        obtain ⟨y132, e153, r154⟩ := RL.got hl131 hi143
        rw [drop_at e153] at hL134
        have hk := hLs135 _ _ _ _ hL134
        obtain rfl := R.int_ r154
        refine ⟨rfl, _, rfl, _, rfl, _, _, R.int, R.int, _, rfl, ?_⟩
        refine iteD (fun q155 => ?_) (fun q155 => ?_)
        · have hk := wp_if hk q155
          refine ⟨_, rfl, _, rfl, _, rfl, (by show 2 ≤ sizeLine; decide), fun p156 hp157 => ?_⟩
          obtain ⟨F158, O159, S160, h161⟩ := O152.putE hp157 (.tup [V.int y89.2, V.int y132])
          have f_tree := f_tree.mono S160
          have f_rule := f_rule.mono S160
          have h3 := S160 _ _ h3
          have r6 := r6.mono S160
          have r7 := r7.mono S160
          have h11 := S160 _ _ h11
          have hl12 := hl12.mono S160
          have h31 := h31.mono S160
          have r38 := r38.mono S160
          have h64 := h64.mono S160
          have h83 := h83.mono S160
          have h87 := S160 _ _ h87
          have hl88 := hl88.mono S160
          have hl102 := hl102.mono S160
          have S99 := S99.trans S160
          have r109 := r109.mono S160
          have h112 := S160 _ _ h112
          have h120 := S160 _ _ h120
          have hl121 := hl121.mono S160
          have r126 := r126.mono S160
          have h130 := S160 _ _ h130
          have hl131 := hl131.mono S160
          have S150 := S150.trans S160
          have hl151 := hl151.mono S160
          have h162 : R (a := (Int × Int)) F158 (.ref p156) (y89.2, y132) := R.t2 h161 R.int R.int
          obtain ⟨p168, v171, v172, e169, h170, r173, r174⟩ := R.t2_ h162
          cases e169
          obtain rfl := R.int_ r173
          obtain rfl := R.int_ r174
          obtain ⟨y163, e164, hk⟩ := wp_opt hk
          obtain ⟨w165, e166, r167⟩ := RD.some hl102 (k := ((y89.2, y132).1, (y89.2, y132).2)) e164
          refine ⟨_, _, rfl, (dget_T (.inl (O159.at 1 rfl)) (O159.s _ _ h170) e166), _, (O159.at 0 rfl), (comp_len la147 hi143 hl131.len c137), ?_⟩
          exact ⟨F158, (), acc145 ++ [y163], wa146 ++ [w165], S150, O159.set 0 (.lst (wa146 ++ [w165])) rfl, RL.snoc hl151 r167, by rw [List.length_append]; exact Nat.succ_le_succ la147, hk⟩
        · have hk := wp_el hk q155
          exact ⟨F148, (), acc145, wa146, S150, O152, hl151, Nat.le_succ_of_le la147, hk⟩
      rintro H176 ⟨F177, st178, acc179, wa180, S181, O182, hl183, la184, hL185⟩
      rw [drop_end hl131.len] at hL185
      have hk := hLd136 _ _ hL185
      have f_tree := f_tree.mono S181
      have f_rule := f_rule.mono S181
      have h3 := S181 _ _ h3
      have r6 := r6.mono S181
      have r7 := r7.mono S181
      have h11 := S181 _ _ h11
      have hl12 := hl12.mono S181
      have h31 := h31.mono S181
      have r38 := r38.mono S181
      have h64 := h64.mono S181
      have h83 := h83.mono S181
      have h87 := S181 _ _ h87
      have hl88 := hl88.mono S181
      have hl102 := hl102.mono S181
      have S99 := S99.trans S181
      have r109 := r109.mono S181
      have h112 := S181 _ _ h112
      have h120 := S181 _ _ h120
      have hl121 := hl121.mono S181
      have r126 := r126.mono S181
      have h130 := S181 _ _ h130
      have hl131 := hl131.mono S181
      obtain ⟨F187, O188, S189, h190⟩ := O182.frzE 0 rfl z175
      have f_tree := f_tree.mono S189
      have f_rule := f_rule.mono S189
      have h3 := S189 _ _ h3
      have r6 := r6.mono S189
      have r7 := r7.mono S189
      have h11 := S189 _ _ h11
      have hl12 := hl12.mono S189
      have h31 := h31.mono S189
      have r38 := r38.mono S189
      have h64 := h64.mono S189
      have h83 := h83.mono S189
      have h87 := S189 _ _ h87
      have hl88 := hl88.mono S189
      have hl102 := hl102.mono S189
      have S99 := S99.trans S189
      have r109 := r109.mono S189
      have h112 := S189 _ _ h112
      have h120 := S189 _ _ h120
      have hl121 := hl121.mono S189
      have r126 := r126.mono S189
      have h130 := S189 _ _ h130
      have hl131 := hl131.mono S189
      have hl183 := hl183.mono S189
      have h191 := R.lst (a := (List Int)) h190 hl183
      refine ⟨_, _, _, _, _, _, _, _, rfl, O188.pre0, f_tree, f_rule, h191, wp_call hk (fun r192 er193 hk F194 H195 g196 v197 r198 => ?_) (fun n hn C H1 hC kp => hn C H1 hC (O188.kp0 kp))⟩
      have O199 := O188.call0 g196
      have S_ := g196.f
      have f_tree := f_tree.mono S_
      have f_rule := f_rule.mono S_
      have h3 := S_ _ _ h3
      have r6 := r6.mono S_
      have r7 := r7.mono S_
      have h11 := S_ _ _ h11
      have hl12 := hl12.mono S_
      have h31 := h31.mono S_
      have r38 := r38.mono S_
      have h64 := h64.mono S_
      have h83 := h83.mono S_
      have h87 := S_ _ _ h87
      have hl88 := hl88.mono S_
      have hl102 := hl102.mono S_
      have S99 := S99.trans S_
      have r109 := r109.mono S_
      have h112 := S_ _ _ h112
      have h120 := S_ _ _ h120
      have hl121 := hl121.mono S_
      have r126 := r126.mono S_
      have h130 := S_ _ _ h130
      have hl131 := hl131.mono S_
      have h191 := h191.mono S_
      obtain ⟨p200, w201, e202, h203, hl204⟩ := R.lst_ r6
      cases e202
      obtain ⟨y205, e206, hk⟩ := wp_opt hk
      obtain ⟨w207, e208, r209⟩ := hl204.atI e206
      obtain rfl := R.int_ r209
      refine ⟨[some (V.ref p1), some v_rule, some (V.ref p18), some v37, some (V.ref p41), some (V.int y89.1), some (V.int y89.2), some v197, none], rfl, _, rfl, _, rfl, _, rfl, _, _, _, _, rfl, rfl, (SqTF O199.s h3), rfl, _, rfl, _, _, _, _, rfl, rfl, (SqLF O199.s h203), e208, _, rfl, _, rfl, _, rfl, (by show 2 ≤ sizeLine; decide), fun p210 hp211 => ?_⟩
      obtain ⟨F212, O213, S214, h215⟩ := O199.putE hp211 (.tup [V.int y89.1, V.int y89.2])
      have f_tree := f_tree.mono S214
      have f_rule := f_rule.mono S214
      have h3 := S214 _ _ h3
      have r6 := r6.mono S214
      have r7 := r7.mono S214
      have h11 := S214 _ _ h11
      have hl12 := hl12.mono S214
      have h31 := h31.mono S214
      have r38 := r38.mono S214
      have h64 := h64.mono S214
      have h83 := h83.mono S214
      have h87 := S214 _ _ h87
      have hl88 := hl88.mono S214
      have hl102 := hl102.mono S214
      have S99 := S99.trans S214
      have r109 := r109.mono S214
      have h112 := S214 _ _ h112
      have h120 := S214 _ _ h120
      have hl121 := hl121.mono S214
      have r126 := r126.mono S214
      have h130 := S214 _ _ h130
      have hl131 := hl131.mono S214
      have h191 := h191.mono S214
      have r198 := r198.mono S214
      have h203 := S214 _ _ h203
      have hl204 := hl204.mono S214
      have h216 : R (a := (Int × Int)) F212 (.ref p210) (y89.1, y89.2) := R.t2 h215 R.int R.int
      obtain ⟨p217, w218, e219, h220, hl221⟩ := r38
      cases e219
      have h220 : Rd F212 _ (.dT w218) := h220
      have r38 := RDv.mk (κ := (Int × Int)) (β := Int) h220 hl221
      obtain ⟨p227, v230, v231, e228, h229, r232, r233⟩ := R.t2_ h216
      cases e228
      obtain rfl := R.int_ r232
      obtain rfl := R.int_ r233
      obtain ⟨y222, e223, hk⟩ := wp_opt hk
      obtain ⟨w224, e225, r226⟩ := RD.some hl221 (k := ((y89.1, y89.2).1, (y89.1, y89.2).2)) e223
      obtain rfl := R.int_ r226
      refine ⟨_, _, rfl, (dget_T (rd_mono O213.s h220) (O213.s _ _ h229) e225), _, _, _, _, _, _, _, rfl, O213.pre0, f_rule, r198, wp_call hk (fun r234 er235 hk F236 H237 g238 p239 w240 hn241 hf242 h243 hl244 => ?_) (fun n hn C H1 hC kp => hn C H1 hC (O213.kp0 kp))⟩
      have O245 := O213.call0 g238
      have S_ := g238.f
      have f_tree := f_tree.mono S_
      have f_rule := f_rule.mono S_
      have h3 := S_ _ _ h3
      have r6 := r6.mono S_
      have r7 := r7.mono S_
      have h11 := S_ _ _ h11
      have hl12 := hl12.mono S_
      have h31 := h31.mono S_
      have r38 := r38.mono S_
      have h64 := h64.mono S_
      have h83 := h83.mono S_
      have h87 := S_ _ _ h87
      have hl88 := hl88.mono S_
      have hl102 := hl102.mono S_
      have S99 := S99.trans S_
      have r109 := r109.mono S_
      have h112 := S_ _ _ h112
      have h120 := S_ _ _ h120
      have hl121 := hl121.mono S_
      have r126 := r126.mono S_
      have h130 := S_ _ _ h130
      have hl131 := hl131.mono S_
      have h191 := h191.mono S_
      have r198 := r198.mono S_
      have h203 := S_ _ _ h203
      have hl204 := hl204.mono S_
      have h216 := h216.mono S_
      have h220 := rd_mono S_ h220
      have hl221 := hl221.mono S_
      have h229 := S_ _ _ h229
      have O246 := O213.got O245 rfl hn241 hf242 h243
      have z247 := O213.was hn241
      obtain ⟨F248, O249, S250, h251⟩ := O246.frzE 0 rfl z247
      have f_tree := f_tree.mono S250
      have f_rule := f_rule.mono S250
      have h3 := S250 _ _ h3
      have r6 := r6.mono S250
      have r7 := r7.mono S250
      have h11 := S250 _ _ h11
      have hl12 := hl12.mono S250
      have h31 := h31.mono S250
      have r38 := r38.mono S250
      have h64 := h64.mono S250
      have h83 := h83.mono S250
      have h87 := S250 _ _ h87
      have hl88 := hl88.mono S250
      have hl102 := hl102.mono S250
      have S99 := S99.trans S250
      have r109 := r109.mono S250
      have h112 := S250 _ _ h112
      have h120 := S250 _ _ h120
      have hl121 := hl121.mono S250
      have r126 := r126.mono S250
      have h130 := S250 _ _ h130
      have hl131 := hl131.mono S250
      have h191 := h191.mono S250
      have r198 := r198.mono S250
      have h203 := S250 _ _ h203
      have hl204 := hl204.mono S250
      have h216 := h216.mono S250
      have h220 := rd_mono S250 h220
      have hl221 := hl221.mono S250
      have h229 := S250 _ _ h229
      have hl244 := hl244.mono S250
      have h252 := R.lst (a := Int) h251 hl244
      refine ⟨_, rfl, _, rfl, _, rfl, (by show 2 ≤ sizeLine; decide), fun p253 hp254 => ?_⟩
      obtain ⟨F255, O256, S257, h258⟩ := O249.putE hp254 (.tup [V.int y89.1, V.int y89.2])
      have f_tree := f_tree.mono S257
      have f_rule := f_rule.mono S257
      have h3 := S257 _ _ h3
      have r6 := r6.mono S257
      have r7 := r7.mono S257
      have h11 := S257 _ _ h11
      have hl12 := hl12.mono S257
      have h31 := h31.mono S257
      have r38 := r38.mono S257
      have h64 := h64.mono S257
      have h83 := h83.mono S257
      have h87 := S257 _ _ h87
      have hl88 := hl88.mono S257
      have hl102 := hl102.mono S257
      have S99 := S99.trans S257
      have r109 := r109.mono S257
      have h112 := S257 _ _ h112
      have h120 := S257 _ _ h120
      have hl121 := hl121.mono S257
      have r126 := r126.mono S257
      have h130 := S257 _ _ h130
      have hl131 := hl131.mono S257
      have h191 := h191.mono S257
      have r198 := r198.mono S257
      have h203 := S257 _ _ h203
      have hl204 := hl204.mono S257
      have h216 := h216.mono S257
      have h220 := rd_mono S257 h220
      have hl221 := hl221.mono S257
      have h229 := S257 _ _ h229
      have h252 := h252.mono S257
      have h259 : R (a := (Int × Int)) F255 (.ref p253) (y89.1, y89.2) := R.t2 h258 R.int R.int
      obtain ⟨p260, v263, v264, e261, h262, r265, r266⟩ := R.t2_ h259
      cases e261
      obtain rfl := R.int_ r265
      obtain rfl := R.int_ r266
      obtain ⟨c267, hk⟩ := wp_putD hk
      refine ⟨_, _, rfl, (dput_T (v := (V.ref p239)) (O256.at 0 rfl) (O256.s _ _ h262) (by rw [RD.len hl102]; exact c267)), ?_⟩
      have O269 := O256.set 0 (.dT (putK w101 (DK.kk ((y89.1, y89.2).1, (y89.1, y89.2).2)) (V.ref p239))) rfl
      have hl270 : RD (κ := (Int × Int)) (β := (List Int)) F255 (putK w101 (DK.kk ((y89.1, y89.2).1, (y89.1, y89.2).2)) (V.ref p239)) (dPut st100 ((y89.1, y89.2).1, (y89.1, y89.2).2) r234) := RD.put hl102 ((y89.1, y89.2).1, (y89.1, y89.2).2) h252
      exact ⟨F255, (dPut st100 ((y89.1, y89.2).1, (y89.1, y89.2).2) r234), (putK w101 (DK.kk ((y89.1, y89.2).1, (y89.1, y89.2).2)) (V.ref p239)), some (V.int y89.1), some (V.int y89.2), some v197, rfl, S99, O269, hl270, hk⟩
    rintro sg271 H272 ⟨F281, st274, w276, t278, t279, t280, rfl, S273, O282, hl277, hL275⟩
    rw [drop_end hl88.len] at hL275
    have hk := hLd93 _ hL275
    have f_tree := f_tree.mono S273
    have f_rule := f_rule.mono S273
    have h3 := S273 _ _ h3
    have r6 := r6.mono S273
    have r7 := r7.mono S273
    have h11 := S273 _ _ h11
    have hl12 := hl12.mono S273
    have h31 := h31.mono S273
    have r38 := r38.mono S273
    have h64 := h64.mono S273
    have h83 := h83.mono S273
    have h87 := S273 _ _ h87
    have hl88 := hl88.mono S273
    refine ⟨_, rfl, ?_⟩
    obtain ⟨F283, O284, S285, h286⟩ := O282.frzE 0 rfl z45
    have f_tree := f_tree.mono S285
    have f_rule := f_rule.mono S285
    have h3 := S285 _ _ h3
    have r6 := r6.mono S285
    have r7 := r7.mono S285
    have h11 := S285 _ _ h11
    have hl12 := hl12.mono S285
    have h31 := h31.mono S285
    have r38 := r38.mono S285
    have h64 := h64.mono S285
    have h83 := h83.mono S285
    have h87 := S285 _ _ h87
    have hl88 := hl88.mono S285
    have hl277 := hl277.mono S285
    have h287 := RDv.mk (κ := (Int × Int)) (β := (List Int)) (.inl h286) hl277
    exact hk _ _  O284.g  _ h287
abbrev s_seats_by : Stmt := top 40
theorem sc_seats_by : FnScope ["tree", "rule", "rows", "near", "found", "place", "own", "c"] ["tree", "rule", "rows"] (defScope s_seats_by) := ⟨rfl, rfl, rfl, by decide +kernel, rfl, by decide +kernel, by decide +kernel⟩
def m_seats_by (x_tree : ((List Int) × (List (T3 Int Int Int)))) (x_rule : (T4 (List Sm) (List Sm) (List Sm) Sm)) (x_rows : (List ((Int × Int) × (List Int)))) : M ((List Int)) :=
m_tied_places (x_tree.1.length : Int) x_tree.2 >>= fun r13 =>
loopN (fun (y43 : (Int × Int)) (st54 : (List Int)) =>
opt (atI r13 y43.1) >>= fun y88 =>
compS (fun (y98 : Int) (st115 : Unit) =>
opt (dGet x_rows (y43.1, y98)) >>= fun y133 =>
.ok (some y133, ())) y88 () >>= fun q156 =>
m_row_with x_tree x_rule y43.1 q156.1 >>= fun r162 =>
m_told_by x_rule r162 y43.2 >>= fun r170 =>
appL st54 r170 >>= fun _ =>
.ok (st54 ++ [r170])) (enumL x_tree.1) ([] : List Int) >>= fun st183 =>
.ok st183
def sp_seats_by (mg : Str → Option Value) : Sp := fun vs H Q E => ∃ (F : Hp) (v_tree : V) (x_tree : ((List Int) × (List (T3 Int Int Int)))) (v_rule : V) (x_rule : (T4 (List Sm) (List Sm) (List Sm) Sm)) (v_rows : V) (x_rows : (List ((Int × Int) × (List Int)))), vs = [v_tree, v_rule, v_rows] ∧ Pre F [] H ∧ R (a := ((List Int) × (List (T3 Int Int Int)))) F v_tree x_tree ∧ R (a := (T4 (List Sm) (List Sm) (List Sm) Sm)) F v_rule x_rule ∧ RDv (κ := (Int × Int)) (β := (List Int)) F v_rows x_rows ∧
  wp (m_seats_by x_tree x_rule x_rows) (fun r => ∀ (F' H' : Hp), Gr [] F H F' H' → ∀ (p : Addr) (w : (List V)), H p = none → F' p = none → H' p = some (.lst w) → RL (a := Int) F' w r → Q (.ref p) H')
  (fun n => ∀ (C : Addr) (H' : Hp), mg (Str.ofString n) = some (.ref C) → Kp [] H H' → E (.ref C) none H')
set_option maxHeartbeats 20000000 in
theorem ok_seats_by (nb : Nb mg) (C_row_with : Ca P w K mg base "row_with" 15 ["tree", "rule", "place", "near"] (sp_row_with mg)) (C_tied_places : Ca P w K mg base "tied_places" 1 ["many", "ties"] (sp_tied_places mg)) (C_told_by : Ca P w K mg base "told_by" 14 ["rule", "so", "own"] (sp_told_by mg)) (D : Df K mg "seats_by" "seats_by" s_seats_by ["tree", "rule", "rows"]) : Ca P w K mg base "seats_by" 16 ["tree", "rule", "rows"] (sp_seats_by mg) := by
  obtain ⟨fa_row_with, fd_row_with, G_row_with, M_row_with, K_row_with, B_row_with⟩ := C_row_with.ex
  obtain ⟨fa_tied_places, fd_tied_places, G_tied_places, M_tied_places, K_tied_places, B_tied_places⟩ := C_tied_places.ex
  obtain ⟨fa_told_by, fd_told_by, G_told_by, M_told_by, K_told_by, B_told_by⟩ := C_told_by.ex
  refine Ca.mk' D sc_seats_by (fun vs H Q E h => ?_) (fun q_ f_ cdv A outer s H vs Q E hr h => ?_)
  · obtain ⟨F, _, _, _, _, _, _, rfl, _⟩ := h
    rfl
  · obtain ⟨F, v_tree, x_tree, v_rule, x_rule, v_rows, x_rows, rfl, P0, f_tree, f_rule, f_rows, hk⟩ := h
    have nd := sc_seats_by.nd
    have hu64 := hr.units
    have hu128 := hu128_of hr
    have O := P0.start
    refine ⟨_, (pss_cons (ps_toN (ps_set (i := 3) nd rfl (Or.inl rfl) (pe_call G_tied_places (hr.mono (by decide)) rfl M_tied_places K_tied_places B_tied_places .nil (passes_call (takes_of rfl rfl rfl rfl) fun _ _ _ _ h => h) (pa_cons (pe_callB call_lenT (by rfl) nb.b_len PySem.boot_len (pa_cons (pe_ix (ixTupK (K := K) rfl) (pv 0) pe_int (fun _ _ => rfl)) pa_nil)) (pa_cons (pe_ix (ixTupK (K := K) rfl) (pv 0) pe_int (fun _ _ => rfl)) pa_nil)))))
  (pss_cons (ps_toN (ps_set (i := 4) nd rfl (Or.inl rfl) (pe_lst pa_nil)))
  (pss_cons (ps_for (passes_of rfl) rfl (piEnumK (K := K) rfl (pi_enum rfl nb.b_enumerate (pa_cons (pe_ix (ixTupK (K := K) rfl) (pv 0) pe_int (fun _ _ => rfl)) pa_nil))) (pg_tup rfl (pgs_cons (pg_name (i := 5) nd rfl (Or.inr rfl)) (pgs_cons (pg_name (i := 6) nd rfl (Or.inl rfl)) pgs_nil))) (pss_one (ps_expr (bmK (K := K) rfl (pe_bm PySem.F.plainAttrs_list PySem.F.slot_list_append PySem.F.type_list_append mt_append (pv 4) (pa_cons (pe_call G_told_by (hr.mono (by decide)) rfl M_told_by K_told_by B_told_by .nil (passes_call (takes_of rfl rfl rfl rfl) fun _ _ _ _ h => h) (pa_cons (pv 1) (pa_cons (pe_call G_row_with (hr.mono (by decide)) rfl M_row_with K_row_with B_row_with .nil (passes_call (takes_of rfl rfl rfl rfl) fun _ _ _ _ h => h) (pa_cons (pv 0) (pa_cons (pv 1) (pa_cons (pv 5) (pa_cons (pe_lc (own := [("c", 7)]) (g := gName 7) (tt := _) rfl nd (piListK (K := K) rfl (pe_ix (ixListK (K := K) rfl) (pv 3) (pv 5) (fun _ _ => rfl))) (blkOk_by (own := [("c", 7)]) (N := ["tree", "rule", "rows", "near", "found", "place", "own", "c"]) (sc := defScope s_seats_by) (by decide +kernel)) (fun _ _ _ _ _ => (pg_name (i := 7) nd rfl (Or.inl rfl))) (fun _ _ _ _ _ => pts_nil) (fun _ _ _ _ _ => (pe_dget (u1_of hu64) (pv 2) (pe_tup (pa_cons (pv 5) (pa_cons (pv 7) pa_nil))) (fun _ _ => rfl)))) pa_nil))))) (pa_cons (pv 6) pa_nil)))) pa_nil))))))
  (pss_one (ps_ret (pv 4)))))), ?_⟩
    obtain ⟨p1, v4, v5, e2, h3, r6, r7⟩ := R.t2_ f_tree
    cases e2
    obtain ⟨p8, w9, e10, h11, hl12⟩ := R.lst_ r6
    cases e10
    refine ⟨_, rfl, _, _, _, _, rfl, rfl, (SqTF O.s h3), rfl, _, _, _, rfl, (.inl (O.s _ _ h11)), hl12.len, _, rfl, _, _, _, _, rfl, rfl, (SqTF O.s h3), rfl, _, _, _, _, rfl, O.pre0, r7, wp_call hk (fun r13 er14 hk F15 H16 g17 p18 w19 hn20 hf21 h22 hl23 => ?_) (fun n hn C H1 hC kp => hn C H1 hC (O.kp0 kp))⟩
    have O24 := O.call0 g17
    have S_ := g17.f
    have f_tree := f_tree.mono S_
    have f_rule := f_rule.mono S_
    have f_rows := f_rows.mono S_
    have h3 := S_ _ _ h3
    have r6 := r6.mono S_
    have r7 := r7.mono S_
    have h11 := S_ _ _ h11
    have hl12 := hl12.mono S_
    have O25 := O.got O24 rfl hn20 hf21 h22
    have z26 := O.was hn20
    obtain ⟨F27, O28, S29, h30⟩ := O25.frzE 0 rfl z26
    have f_tree := f_tree.mono S29
    have f_rule := f_rule.mono S29
    have f_rows := f_rows.mono S29
    have h3 := S29 _ _ h3
    have r6 := r6.mono S29
    have r7 := r7.mono S29
    have h11 := S29 _ _ h11
    have hl12 := hl12.mono S29
    have hl23 := hl23.mono S29
    have h31 := R.lst (a := (List Int)) h30 hl23
    refine ⟨[some (V.ref p1), some v_rule, some v_rows, some (V.ref p18), none, none, none, none], rfl, (by show 0 ≤ sizeLine; decide), fun p33 hp34 => ?_⟩
    have hl36 : RL (a := Int) F27 ([]) ([] : List Int) := RL.nil
    have z37 := O28.was hp34
    have O35 := O28.new (o := .lst ([])) hp34
    obtain ⟨p38, w39, e40, h41, hl42⟩ := R.lst_ r6
    cases e40
    obtain ⟨L44, hL45, hLs46, hLd47⟩ := loopN_L hk
    refine ⟨[some (V.ref p1), some v_rule, some v_rows, some (V.ref p18), some (V.ref p33), none, none, none], rfl, _, rfl, _, _, _, _, rfl, rfl, (SqTF O35.s h3), rfl, _, _, rfl, (SqLF O35.s h41), ?_⟩
    refine for_it (walk_enum (K := K) (xs := w39)) (fun i σ H_ => ∃ (F_ : Hp) (st : (List Int)) (w_0 : (List V)) (t_0 : Option V) (t_1 : Option V), σ = [some (V.ref p1), some v_rule, some v_rows, some (V.ref p18), some (V.ref p33), t_0, t_1, none] ∧ Same F27 F_ ∧ Ow _ F_ [(p33, .lst w_0)] H_ ∧ RL (a := Int) F_ w_0 st ∧ L44 (List.drop i (enumL x_tree.1)) st) ⟨F27, ([] : List Int), [], none, none, rfl, Same.refl _, O35, hl36, hL45⟩ (fun i_ σ_ H_ _ hp_ => ?_) ?_ ?_
    · obtain ⟨_, _, _, _, _, _, hS_, hO_, _⟩ := hp_
      exact SqLF hO_.s (hS_ _ _ h41)
    · rintro i48 _ sg50 H51 _ hi52 ⟨F59, st54, w55, t57, t58, rfl, S53, O60, hl56, hL45⟩ ⟨T61, x62, y63, rfl, hT64, rfl, hx65, hy66⟩
      have f_tree := f_tree.mono S53
      have f_rule := f_rule.mono S53
      have f_rows := f_rows.mono S53
      have h3 := S53 _ _ h3
      have r6 := r6.mono S53
      have r7 := r7.mono S53
      have h11 := S53 _ _ h11
      have hl12 := hl12.mono S53
      have h31 := h31.mono S53
      have h41 := S53 _ _ h41
      have hl42 := hl42.mono S53
      cases hx65
      obtain ⟨y67, e68, r69⟩ := RL.got hl42 hy66
      rw [enumL_get e68] at hL45
      have hk := hLs46 _ _ _ hL45
      obtain ⟨F70, O71, S72, h73⟩ := O60.putE hT64 (.tup [V.int (i48 : Int), y63])
      have f_tree := f_tree.mono S72
      have f_rule := f_rule.mono S72
      have f_rows := f_rows.mono S72
      have h3 := S72 _ _ h3
      have r6 := r6.mono S72
      have r7 := r7.mono S72
      have h11 := S72 _ _ h11
      have hl12 := hl12.mono S72
      have h31 := h31.mono S72
      have h41 := S72 _ _ h41
      have hl42 := hl42.mono S72
      have hl56 := hl56.mono S72
      have S53 := S53.trans S72
      have r69 := r69.mono S72
      obtain ⟨y43, he75⟩ : ∃ z_, z_ = ((i48 : Int), y67) := ⟨_, rfl⟩
      try rw [← he75] at hk
      have h74 : R (a := (Int × Int)) F70 (.ref T61) y43 := by rw [he75]; exact R.t2 h73 R.int r69
      obtain ⟨p76, v79, v80, e77, h78, r81, r82⟩ := R.t2_ h74
      cases e77
      obtain rfl := R.int_ r81
      obtain rfl := R.int_ r82
      obtain ⟨p83, w84, e85, h86, hl87⟩ := R.lst_ h31
      cases e85
      obtain ⟨y88, e89, hk⟩ := wp_opt hk
      obtain ⟨w90, e91, r92⟩ := hl87.atI e89
      obtain ⟨p93, w94, e95, h96, hl97⟩ := R.lst_ r92
      cases e95
      obtain ⟨c103, L99, hL100, hLs101, hLd102⟩ := compS_L hk
      refine ⟨_, _, rfl, (SqTF O71.s h78), rfl, _, _, rfl, _, _, rfl, rfl, _, rfl, (.inl ⟨rfl, _, SqL.of (O71.at 0 rfl)⟩), _, rfl, _, rfl, _, rfl, _, rfl, _, rfl, _, rfl, _, _, _, _, rfl, rfl, (SqLF O71.s h86), e91, _, rfl, ⟨_, (SqLF O71.s h96)⟩, fun p104 hp105 => ?_⟩
      have z145 := O71.was hp105
      refine lc_list (K := K) (xs := w94) (fun i H => ∃ (F_ : Hp) (st : Unit) (acc : List (List Int)) (wa : List V), Same F70 F_ ∧ Ow _ F_ [(p104, .lst wa), (p33, .lst w55)] H ∧ RL F_ wa acc ∧ wa.length ≤ i ∧ L99 (List.drop i y88) acc st) ⟨F70, (), [], [], Same.refl _, O71.new hp105, RL.nil, Nat.zero_le _, hL100⟩ (fun i_ H_ _ hp_ => ?_) ?_ ?_
      · obtain ⟨_, _, _, _, hS_, hO_, _⟩ := hp_
        exact SqLF hO_.s (hS_ _ _ h96)
      · rintro i106 x107 H108 hi109 ⟨F114, st115, acc111, wa112, S116, O118, hl117, la113, hL100⟩
        have f_tree := f_tree.mono S116
        have f_rule := f_rule.mono S116
        have f_rows := f_rows.mono S116
        have h3 := S116 _ _ h3
        have r6 := r6.mono S116
        have r7 := r7.mono S116
        have h11 := S116 _ _ h11
        have hl12 := hl12.mono S116
        have h31 := h31.mono S116
        have h41 := S116 _ _ h41
        have hl42 := hl42.mono S116
        have hl56 := hl56.mono S116
        have S53 := S53.trans S116
        have r69 := r69.mono S116
        have h74 := h74.mono S116
        have h78 := S116 _ _ h78
        have h86 := S116 _ _ h86
        have hl87 := hl87.mono S116
        have r92 := r92.mono S116
        have h96 := S116 _ _ h96
        have hl97 := hl97.mono S116
        obtain ⟨y98, e119, r120⟩ := RL.got hl97 hi109
        rw [drop_at e119] at hL100
        have hk := hLs101 _ _ _ _ hL100
        obtain rfl := R.int_ r120
        refine ⟨rfl, ?_⟩
        refine ⟨_, rfl, _, rfl, _, rfl, (by show 2 ≤ sizeLine; decide), fun p121 hp122 => ?_⟩
        obtain ⟨F123, O124, S125, h126⟩ := O118.putE hp122 (.tup [V.int y43.1, V.int y98])
        have f_tree := f_tree.mono S125
        have f_rule := f_rule.mono S125
        have f_rows := f_rows.mono S125
        have h3 := S125 _ _ h3
        have r6 := r6.mono S125
        have r7 := r7.mono S125
        have h11 := S125 _ _ h11
        have hl12 := hl12.mono S125
        have h31 := h31.mono S125
        have h41 := S125 _ _ h41
        have hl42 := hl42.mono S125
        have hl56 := hl56.mono S125
        have S53 := S53.trans S125
        have r69 := r69.mono S125
        have h74 := h74.mono S125
        have h78 := S125 _ _ h78
        have h86 := S125 _ _ h86
        have hl87 := hl87.mono S125
        have r92 := r92.mono S125
        have h96 := S125 _ _ h96
        have hl97 := hl97.mono S125
        have S116 := S116.trans S125
        have hl117 := hl117.mono S125
        have h127 : R (a := (Int × Int)) F123 (.ref p121) (y43.1, y98) := R.t2 h126 R.int R.int
        obtain ⟨p128, w129, e130, h131, hl132⟩ := f_rows
        cases e130
        have h131 : Rd F123 _ (.dT w129) := h131
        have f_rows := RDv.mk (κ := (Int × Int)) (β := (List Int)) h131 hl132
        obtain ⟨p138, v141, v142, e139, h140, r143, r144⟩ := R.t2_ h127
        cases e139
        obtain rfl := R.int_ r143
        obtain rfl := R.int_ r144
        obtain ⟨y133, e134, hk⟩ := wp_opt hk
        obtain ⟨w135, e136, r137⟩ := RD.some hl132 (k := ((y43.1, y98).1, (y43.1, y98).2)) e134
        refine ⟨_, _, rfl, (dget_T (rd_mono O124.s h131) (O124.s _ _ h140) e136), _, (O124.at 0 rfl), (comp_len la113 hi109 hl97.len c103), ?_⟩
        exact ⟨F123, (), acc111 ++ [y133], wa112 ++ [w135], S116, O124.set 0 (.lst (wa112 ++ [w135])) rfl, RL.snoc hl117 r137, by rw [List.length_append]; exact Nat.succ_le_succ la113, hk⟩
      rintro H146 ⟨F147, st148, acc149, wa150, S151, O152, hl153, la154, hL155⟩
      rw [drop_end hl97.len] at hL155
      have hk := hLd102 _ _ hL155
      have f_tree := f_tree.mono S151
      have f_rule := f_rule.mono S151
      have f_rows := f_rows.mono S151
      have h3 := S151 _ _ h3
      have r6 := r6.mono S151
      have r7 := r7.mono S151
      have h11 := S151 _ _ h11
      have hl12 := hl12.mono S151
      have h31 := h31.mono S151
      have h41 := S151 _ _ h41
      have hl42 := hl42.mono S151
      have hl56 := hl56.mono S151
      have S53 := S53.trans S151
      have r69 := r69.mono S151
      have h74 := h74.mono S151
      have h78 := S151 _ _ h78
      have h86 := S151 _ _ h86
      have hl87 := hl87.mono S151
      have r92 := r92.mono S151
      have h96 := S151 _ _ h96
      have hl97 := hl97.mono S151
      obtain ⟨F157, O158, S159, h160⟩ := O152.frzE 0 rfl z145
      have f_tree := f_tree.mono S159
      have f_rule := f_rule.mono S159
      have f_rows := f_rows.mono S159
      have h3 := S159 _ _ h3
      have r6 := r6.mono S159
      have r7 := r7.mono S159
      have h11 := S159 _ _ h11
      have hl12 := hl12.mono S159
      have h31 := h31.mono S159
      have h41 := S159 _ _ h41
      have hl42 := hl42.mono S159
      have hl56 := hl56.mono S159
      have S53 := S53.trans S159
      have r69 := r69.mono S159
      have h74 := h74.mono S159
      have h78 := S159 _ _ h78
      have h86 := S159 _ _ h86
      have hl87 := hl87.mono S159
      have r92 := r92.mono S159
      have h96 := S159 _ _ h96
      have hl97 := hl97.mono S159
      have hl153 := hl153.mono S159
      have h161 := R.lst (a := (List Int)) h160 hl153
      refine ⟨_, _, _, _, _, _, _, _, rfl, O158.pre0, f_tree, f_rule, h161, wp_call hk (fun r162 er163 hk F164 H165 g166 v167 r168 => ?_) (fun n hn C H1 hC kp => hn C H1 hC (O158.kp0 kp))⟩
      have O169 := O158.call0 g166
      have S_ := g166.f
      have f_tree := f_tree.mono S_
      have f_rule := f_rule.mono S_
      have f_rows := f_rows.mono S_
      have h3 := S_ _ _ h3
      have r6 := r6.mono S_
      have r7 := r7.mono S_
      have h11 := S_ _ _ h11
      have hl12 := hl12.mono S_
      have h31 := h31.mono S_
      have h41 := S_ _ _ h41
      have hl42 := hl42.mono S_
      have hl56 := hl56.mono S_
      have S53 := S53.trans S_
      have r69 := r69.mono S_
      have h74 := h74.mono S_
      have h78 := S_ _ _ h78
      have h86 := S_ _ _ h86
      have hl87 := hl87.mono S_
      have r92 := r92.mono S_
      have h96 := S_ _ _ h96
      have hl97 := hl97.mono S_
      have h161 := h161.mono S_
      refine ⟨_, rfl, _, _, _, _, _, _, rfl, O169.pre0, f_rule, r168, wp_call hk (fun r170 er171 hk F172 H173 g174 => ?_) (fun n hn C H1 hC kp => hn C H1 hC (O169.kp0 kp))⟩
      have O175 := O169.call0 g174
      have S_ := g174.f
      have f_tree := f_tree.mono S_
      have f_rule := f_rule.mono S_
      have f_rows := f_rows.mono S_
      have h3 := S_ _ _ h3
      have r6 := r6.mono S_
      have r7 := r7.mono S_
      have h11 := S_ _ _ h11
      have hl12 := hl12.mono S_
      have h31 := h31.mono S_
      have h41 := S_ _ _ h41
      have hl42 := hl42.mono S_
      have hl56 := hl56.mono S_
      have S53 := S53.trans S_
      have r69 := r69.mono S_
      have h74 := h74.mono S_
      have h78 := S_ _ _ h78
      have h86 := S_ _ _ h86
      have hl87 := hl87.mono S_
      have r92 := r92.mono S_
      have h96 := S_ _ _ h96
      have hl97 := hl97.mono S_
      have h161 := h161.mono S_
      have r168 := r168.mono S_
      obtain ⟨c176, hk⟩ := wp_appL hk
      refine ⟨_, _, _, rfl, rfl, (O175.at 0 rfl), (by rw [hl56.len]; exact c176), ?_⟩
      have O178 := O175.set 0 (.lst (w55 ++ [V.int r170])) rfl
      have hl179 : RL (a := Int) F172 (w55 ++ [V.int r170]) (st54 ++ [r170]) := RL.snoc hl56 R.int
      exact ⟨F172, (st54 ++ [r170]), (w55 ++ [V.int r170]), some (V.int y43.1), some (V.int y43.2), rfl, S53, O178, hl179, hk⟩
    rintro sg180 H181 ⟨F189, st183, w185, t187, t188, rfl, S182, O190, hl186, hL184⟩
    rw [enumL_end hl42.len] at hL184
    have hk := hLd47 _ hL184
    have f_tree := f_tree.mono S182
    have f_rule := f_rule.mono S182
    have f_rows := f_rows.mono S182
    have h3 := S182 _ _ h3
    have r6 := r6.mono S182
    have r7 := r7.mono S182
    have h11 := S182 _ _ h11
    have hl12 := hl12.mono S182
    have h31 := h31.mono S182
    have h41 := S182 _ _ h41
    have hl42 := hl42.mono S182
    refine ⟨_, rfl, ?_⟩
    exact hk _ _  O190.g  _ _ z37 (O190.cf _ (List.mem_of_getElem? (i := 0) rfl)) (O190.at 0 rfl) hl186
abbrev s_all_seats : Stmt := top 41
theorem sc_all_seats : FnScope ["tree", "rule"] ["tree", "rule"] (defScope s_all_seats) := ⟨rfl, rfl, rfl, by decide +kernel, rfl, by decide +kernel, by decide +kernel⟩
def m_all_seats (x_tree : ((List Int) × (List (T3 Int Int Int)))) (x_rule : (T4 (List Sm) (List Sm) (List Sm) Sm)) : M ((List Int)) :=
m_need_rule x_rule >>= fun r1 =>
m_rows_known x_tree x_rule >>= fun r8 =>
m_seats_by x_tree x_rule r8 >>= fun r16 =>
.ok r16
def sp_all_seats (mg : Str → Option Value) : Sp := fun vs H Q E => ∃ (F : Hp) (v_tree : V) (x_tree : ((List Int) × (List (T3 Int Int Int)))) (v_rule : V) (x_rule : (T4 (List Sm) (List Sm) (List Sm) Sm)), vs = [v_tree, v_rule] ∧ Pre F [] H ∧ R (a := ((List Int) × (List (T3 Int Int Int)))) F v_tree x_tree ∧ R (a := (T4 (List Sm) (List Sm) (List Sm) Sm)) F v_rule x_rule ∧
  wp (m_all_seats x_tree x_rule) (fun r => ∀ (F' H' : Hp), Gr [] F H F' H' → ∀ (p : Addr) (w : (List V)), H p = none → F' p = none → H' p = some (.lst w) → RL (a := Int) F' w r → Q (.ref p) H')
  (fun n => ∀ (C : Addr) (H' : Hp), mg (Str.ofString n) = some (.ref C) → Kp [] H H' → E (.ref C) none H')
set_option maxHeartbeats 20000000 in
theorem ok_all_seats (nb : Nb mg) (C_need_rule : Ca P w K mg base "need_rule" 63 ["rule"] (sp_need_rule mg)) (C_rows_known : Ca P w K mg base "rows_known" 16 ["tree", "rule"] (sp_rows_known mg)) (C_seats_by : Ca P w K mg base "seats_by" 16 ["tree", "rule", "rows"] (sp_seats_by mg)) (D : Df K mg "all_seats" "all_seats" s_all_seats ["tree", "rule"]) : Ca P w K mg base "all_seats" 64 ["tree", "rule"] (sp_all_seats mg) := by
  obtain ⟨fa_need_rule, fd_need_rule, G_need_rule, M_need_rule, K_need_rule, B_need_rule⟩ := C_need_rule.ex
  obtain ⟨fa_rows_known, fd_rows_known, G_rows_known, M_rows_known, K_rows_known, B_rows_known⟩ := C_rows_known.ex
  obtain ⟨fa_seats_by, fd_seats_by, G_seats_by, M_seats_by, K_seats_by, B_seats_by⟩ := C_seats_by.ex
  refine Ca.mk' D sc_all_seats (fun vs H Q E h => ?_) (fun q_ f_ cdv A outer s H vs Q E hr h => ?_)
  · obtain ⟨F, _, _, _, _, rfl, _⟩ := h
    rfl
  · obtain ⟨F, v_tree, x_tree, v_rule, x_rule, rfl, P0, f_tree, f_rule, hk⟩ := h
    have nd := sc_all_seats.nd
    have hu64 := hr.units
    have hu128 := hu128_of hr
    have O := P0.start
    refine ⟨_, (pss_cons (ps_expr (pe_call G_need_rule (hr.mono (by decide)) rfl M_need_rule K_need_rule B_need_rule .nil (passes_call (takes_of rfl rfl rfl rfl) fun _ _ _ _ h => h) (pa_cons (pv 1) pa_nil)))
  (pss_one (ps_ret (pe_call G_seats_by (hr.mono (by decide)) rfl M_seats_by K_seats_by B_seats_by .nil (passes_call (takes_of rfl rfl rfl rfl) fun _ _ _ _ h => h) (pa_cons (pv 0) (pa_cons (pv 1) (pa_cons (pe_call G_rows_known (hr.mono (by decide)) rfl M_rows_known K_rows_known B_rows_known .nil (passes_call (takes_of rfl rfl rfl rfl) fun _ _ _ _ h => h) (pa_cons (pv 0) (pa_cons (pv 1) pa_nil))) pa_nil))))))), ?_⟩
    refine ⟨_, rfl, _, _, _, rfl, O.pre0, f_rule, wp_call hk (fun r1 er2 hk F3 H4 g5 => ?_) (fun n hn C H1 hC kp => hn C H1 hC (O.kp0 kp))⟩
    have O6 := O.call0 g5
    have S_ := g5.f
    have f_tree := f_tree.mono S_
    have f_rule := f_rule.mono S_
    refine ⟨_, rfl, _, rfl, _, rfl, _, rfl, _, _, _, _, _, rfl, O6.pre0, f_tree, f_rule, wp_call hk (fun r8 er9 hk F10 H11 g12 v13 r14 => ?_) (fun n hn C H1 hC kp => hn C H1 hC (O6.kp0 kp))⟩
    have O15 := O6.call0 g12
    have S_ := g12.f
    have f_tree := f_tree.mono S_
    have f_rule := f_rule.mono S_
    refine ⟨_, _, _, _, _, _, _, rfl, O15.pre0, f_tree, f_rule, r14, wp_call hk (fun r16 er17 hk F18 H19 g20 p21 w22 hn23 hf24 h25 hl26 => ?_) (fun n hn C H1 hC kp => hn C H1 hC (O15.kp0 kp))⟩
    have O27 := O15.call0 g20
    have S_ := g20.f
    have f_tree := f_tree.mono S_
    have f_rule := f_rule.mono S_
    have r14 := r14.mono S_
    have O28 := O15.got O27 rfl hn23 hf24 h25
    have z29 := O15.was hn23
    exact hk _ _  O28.g  _ _ z29 (O28.cf _ (List.mem_of_getElem? (i := 0) rfl)) (O28.at 0 rfl) hl26
abbrev s_law_cell_at : Stmt := top 43
theorem sc_law_cell_at : FnScope ["script", "k"] ["script", "k"] (defScope s_law_cell_at) := ⟨rfl, rfl, rfl, by decide +kernel, rfl, by decide +kernel, by decide +kernel⟩
def m_law_cell_at (x_script : (List Int)) (x_k : Int) : M (Int) :=
if x_k < (x_script.length : Int) then (
opt (atI x_script x_k) >>= fun y2 =>
.ok y2)
else (
.ok (0 : Int))
def sp_law_cell_at (K : PySem.W.Frag) (mg : Str → Option Value) : Sp := fun vs H Q E => ∃ (F : Hp) (a_script : Addr) (x_script : (List Int)) (x_k : Int), vs = [.ref a_script, V.int x_k] ∧ Pre F [] H ∧ SqL K F a_script (x_script.map V.int) ∧
  wp (m_law_cell_at x_script x_k) (fun r => ∀ (F' H' : Hp), Gr [] F H F' H' → Q (V.int r) H')
  (fun n => ∀ (C : Addr) (H' : Hp), mg (Str.ofString n) = some (.ref C) → Kp [] H H' → E (.ref C) none H')
set_option maxHeartbeats 20000000 in
theorem ok_law_cell_at (nb : Nb mg) (D : Df K mg "_law_cell_at" "_law_cell_at" s_law_cell_at ["script", "k"]) : Ca P w K mg base "_law_cell_at" 1 ["script", "k"] (sp_law_cell_at K mg) := by
  refine Ca.mk' D sc_law_cell_at (fun vs H Q E h => ?_) (fun q_ f_ cdv A outer s H vs Q E hr h => ?_)
  · obtain ⟨F, _, _, _, rfl, _⟩ := h
    rfl
  · obtain ⟨F, a_script, x_script, x_k, rfl, P0, f_script, hk⟩ := h
    have nd := sc_law_cell_at.nd
    have hu64 := hr.units
    have hu128 := hu128_of hr
    have O := P0.start
    refine ⟨_, (pss_cons (ps_if (pt_cmpR op_lt (pv 1) (pe_callB (call_lenS (K := K) rfl) (by rfl) nb.b_len PySem.boot_len (pa_cons (pv 0) pa_nil)) (nomark _)) (pss_one (ps_ret (pe_ix (ixListK (K := K) rfl) (pv 0) (pv 1) (fun _ _ => rfl)))) pss_nil)
  (pss_one (ps_ret pe_int))), ?_⟩
    refine ⟨_, rfl, _, rfl, _, _, rfl, (O.s.seq f_script), ?_⟩
    rw [List.length_map]
    refine ⟨_, _, rfl, rfl, _, rfl, ?_⟩
    refine iteD (fun q1 => ?_) (fun q1 => ?_)
    · have hk := wp_if hk q1
      obtain ⟨y2, e3, hk⟩ := wp_opt hk
      obtain ⟨w4, e5, r6⟩ := (RL.of_ints (H := F)).atI e3
      obtain rfl := R.int_ r6
      refine ⟨_, rfl, _, rfl, _, _, _, _, rfl, rfl, (O.s.seq f_script), e5, ?_⟩
      exact hk _ _  O.g 
    · have hk := wp_el hk q1
      exact hk _ _  O.g 
abbrev s_law_numbers : Stmt := top 44
theorem sc_law_numbers : FnScope ["cell", "many", "base", "row", "rest", "k", "stir"] ["cell", "many", "base"] (defScope s_law_numbers) := ⟨rfl, rfl, rfl, by decide +kernel, rfl, by decide +kernel, by decide +kernel⟩
def m_law_numbers (x_cell : Int) (x_many : Int) (x_base : Int) : M ((List Int)) :=
chk (CMulX ((10 : Int) ^ Int.toNat (45 : Int)) ((10 : Int) ^ Int.toNat (45 : Int))) >>= fun _ =>
chk (0 < (((10 : Int) ^ Int.toNat (45 : Int)) * ((10 : Int) ^ Int.toNat (45 : Int)))) >>= fun _ =>
ret ((x_cell % (((10 : Int) ^ Int.toNat (45 : Int)) * ((10 : Int) ^ Int.toNat (45 : Int)))) - ((10 : Int) ^ Int.toNat (18 : Int))) >>= fun n9 =>
chk (okR x_many) >>= fun _ =>
loopN (fun (y11 : Int) (st23 : Int × (List Int)) =>
chk (CMulX (977 : Int) y11) >>= fun _ =>
chk (CMulX (((x_cell % (((10 : Int) ^ Int.toNat (45 : Int)) * ((10 : Int) ^ Int.toNat (45 : Int)))) + ((977 : Int) * y11)) + (1 : Int)) (48271 : Int)) >>= fun _ =>
chk (0 < (2147483647 : Int)) >>= fun _ =>
ret (((((x_cell % (((10 : Int) ^ Int.toNat (45 : Int)) * ((10 : Int) ^ Int.toNat (45 : Int)))) + ((977 : Int) * y11)) + (1 : Int)) * (48271 : Int)) % (2147483647 : Int)) >>= fun n33 =>
chk (CMulX n33 n33) >>= fun _ =>
chk (0 < (2147483629 : Int)) >>= fun _ =>
ret ((n33 * n33) % (2147483629 : Int)) >>= fun n37 =>
chk (CMulX (40692 : Int) (y11 + (3 : Int))) >>= fun _ =>
chk (CMulX (n37 + ((40692 : Int) * (y11 + (3 : Int)))) (69621 : Int)) >>= fun _ =>
chk (0 < (2147483563 : Int)) >>= fun _ =>
chk (CDivW (((n37 + ((40692 : Int) * (y11 + (3 : Int)))) * (69621 : Int)) % (2147483563 : Int)) (8 : Int)) >>= fun _ =>
ret ((((n37 + ((40692 : Int) * (y11 + (3 : Int)))) * (69621 : Int)) % (2147483563 : Int)) / (8 : Int)) >>= fun n43 =>
if ((10 : Int) ^ Int.toNat (18 : Int)) ≤ (x_cell % (((10 : Int) ^ Int.toNat (45 : Int)) * ((10 : Int) ^ Int.toNat (45 : Int)))) then (
chk (CDivW st23.1 x_base) >>= fun _ =>
chk (0 < x_base) >>= fun _ =>
appL st23.2 (st23.1 % x_base) >>= fun _ =>
.ok ((st23.1 / x_base), (st23.2 ++ [(st23.1 % x_base)])))
else (
chk (0 < x_base) >>= fun _ =>
appL st23.2 (n43 % x_base) >>= fun _ =>
.ok (st23.1, (st23.2 ++ [(n43 % x_base)])))) (rangeL 0 x_many) (n9, ([] : List Int)) >>= fun st60 =>
.ok st60.2
def sp_law_numbers (mg : Str → Option Value) : Sp := fun vs H Q E => ∃ (F : Hp) (x_cell : Int) (x_many : Int) (x_base : Int), vs = [V.int x_cell, V.int x_many, V.int x_base] ∧ Pre F [] H ∧
  wp (m_law_numbers x_cell x_many x_base) (fun r => ∀ (F' H' : Hp), Gr [] F H F' H' → ∀ (p : Addr) (w : (List V)), H p = none → F' p = none → H' p = some (.lst w) → RL (a := Int) F' w r → Q (.ref p) H')
  (fun n => ∀ (C : Addr) (H' : Hp), mg (Str.ofString n) = some (.ref C) → Kp [] H H' → E (.ref C) none H')
set_option maxHeartbeats 20000000 in
theorem ok_law_numbers (nb : Nb mg) (D : Df K mg "_law_numbers" "_law_numbers" s_law_numbers ["cell", "many", "base"]) : Ca P w K mg base "_law_numbers" 1 ["cell", "many", "base"] (sp_law_numbers mg) := by
  refine Ca.mk' D sc_law_numbers (fun vs H Q E h => ?_) (fun q_ f_ cdv A outer s H vs Q E hr h => ?_)
  · obtain ⟨F, _, _, _, rfl, _⟩ := h
    rfl
  · obtain ⟨F, x_cell, x_many, x_base, rfl, P0, hk⟩ := h
    have nd := sc_law_numbers.nd
    have hu64 := hr.units
    have hu128 := hu128_of hr
    have O := P0.start
    refine ⟨_, (pss_cons (ps_toN (ps_set (i := 0) nd rfl (Or.inl rfl) (pe_op op_mod (pv 0) (pe_op op_mulX (pe_op op_pow pe_int pe_int) (pe_op op_pow pe_int pe_int)))))
  (pss_cons (ps_toN (ps_set (i := 3) nd rfl (Or.inl rfl) (pe_lst pa_nil)))
  (pss_cons (ps_toN (ps_set (i := 4) nd rfl (Or.inl rfl) (pe_op op_sub (pv 0) (pe_op op_pow pe_int pe_int))))
  (pss_cons (ps_for (passes_of rfl) rfl (pi_range1 rfl nb.b_range (pa_cons (pv 1) pa_nil)) (pg_name (i := 5) nd rfl (Or.inl rfl)) (pss_cons (ps_toN (ps_set (i := 6) nd rfl (Or.inl rfl) (pe_op op_mod (pe_op op_mulX (pe_op op_add (pe_op op_add (pv 0) (pe_op op_mulX pe_int (pv 5))) pe_int) pe_int) pe_int)))
  (pss_cons (ps_toN (ps_set (i := 6) nd rfl (Or.inl rfl) (pe_op op_mod (pe_op op_mulX (pv 6) (pv 6)) pe_int)))
  (pss_cons (ps_toN (ps_set (i := 6) nd rfl (Or.inl rfl) (pe_op op_fdivW (pe_op op_mod (pe_op op_mulX (pe_op op_add (pv 6) (pe_op op_mulX pe_int (pe_op op_add (pv 5) pe_int))) pe_int) pe_int) pe_int)))
  (pss_cons (ps_if (pt_cmpR op_ge (pv 0) (pe_op op_pow pe_int pe_int) (nomark _)) (pss_cons (ps_toN (ps_set (i := 6) nd rfl (Or.inl rfl) (pv 4)))
  (pss_one (ps_toN (ps_set (i := 4) nd rfl (Or.inl rfl) (pe_op op_fdivW (pv 4) (pv 2)))))) pss_nil)
  (pss_one (ps_expr (bmK (K := K) rfl (pe_bm PySem.F.plainAttrs_list PySem.F.slot_list_append PySem.F.type_list_append mt_append (pv 3) (pa_cons (pe_op op_mod (pv 6) (pv 2)) pa_nil))))))))))
  (pss_one (ps_ret (pv 3))))))), ?_⟩
    obtain ⟨c1, hk⟩ := wp_chk hk
    obtain ⟨c2, hk⟩ := wp_chk hk
    refine ⟨_, rfl, _, _, rfl, rfl, (by decide), _, _, rfl, rfl, (by decide), _, _, rfl, rfl, c1, _, _, rfl, rfl, c2, [some (V.int (x_cell % (((10 : Int) ^ Int.toNat (45 : Int)) * ((10 : Int) ^ Int.toNat (45 : Int))))), some (V.int x_many), some (V.int x_base), none, none, none, none], rfl, (by show 0 ≤ sizeLine; decide), fun p4 hp5 => ?_⟩
    have hl7 : RL (a := Int) F ([]) ([] : List Int) := RL.nil
    have z8 := O.was hp5
    have O6 := O.new (o := .lst ([])) hp5
    obtain ⟨n9, hn10, hk⟩ := wp_ret hk
    subst hn10
    obtain ⟨c12, hk⟩ := wp_chk hk
    obtain ⟨L13, hL14, hLs15, hLd16⟩ := loopN_L hk
    refine ⟨[some (V.int (x_cell % (((10 : Int) ^ Int.toNat (45 : Int)) * ((10 : Int) ^ Int.toNat (45 : Int))))), some (V.int x_many), some (V.int x_base), some (V.ref p4), none, none, none], rfl, _, rfl, _, _, rfl, rfl, (by decide), _, _, rfl, rfl, [some (V.int (x_cell % (((10 : Int) ^ Int.toNat (45 : Int)) * ((10 : Int) ^ Int.toNat (45 : Int))))), some (V.int x_many), some (V.int x_base), some (V.ref p4), some (V.int ((x_cell % (((10 : Int) ^ Int.toNat (45 : Int)) * ((10 : Int) ^ Int.toNat (45 : Int)))) - ((10 : Int) ^ Int.toNat (18 : Int)))), none, none], rfl, _, rfl, _, rfl, c12.lo, c12.hi, ?_⟩
    refine for_range (lo := 0) (n := (x_many).toNat) (fun i σ H_ => ∃ (F_ : Hp) (st : Int × (List Int)) (w_0 : (List V)) (t_0 : Option V) (t_1 : Option V), σ = [some (V.int (x_cell % (((10 : Int) ^ Int.toNat (45 : Int)) * ((10 : Int) ^ Int.toNat (45 : Int))))), some (V.int x_many), some (V.int x_base), some (V.ref p4), some (V.int st.1), t_0, t_1] ∧ Same F F_ ∧ Ow _ F_ [(p4, .lst w_0)] H_ ∧ RL (a := Int) F_ w_0 st.2 ∧ L13 (List.drop i (rangeL 0 x_many)) st) ⟨F, (((x_cell % (((10 : Int) ^ Int.toNat (45 : Int)) * ((10 : Int) ^ Int.toNat (45 : Int)))) - ((10 : Int) ^ Int.toNat (18 : Int))), ([] : List Int)), [], none, none, rfl, Same.refl _, O6, hl7, hL14⟩ ?_ ?_
    · rintro i17 sg19 H20 hi21 ⟨F28, st23, w24, t26, t27, rfl, S22, O29, hl25, hL14⟩
      rw [rangeL_get0 hi21] at hL14
      have hk := hLs15 _ _ _ hL14
      obtain ⟨y11, he_⟩ : ∃ z_, z_ = 0 + (i17 : Int) := ⟨_, rfl⟩
      try rw [← he_] at hk
      rw [← he_]
      obtain ⟨c30, hk⟩ := wp_chk hk
      obtain ⟨c31, hk⟩ := wp_chk hk
      obtain ⟨c32, hk⟩ := wp_chk hk
      obtain ⟨n33, hn34, hk⟩ := wp_ret hk
      subst hn34
      obtain ⟨c35, hk⟩ := wp_chk hk
      obtain ⟨c36, hk⟩ := wp_chk hk
      obtain ⟨n37, hn38, hk⟩ := wp_ret hk
      subst hn38
      obtain ⟨c39, hk⟩ := wp_chk hk
      obtain ⟨c40, hk⟩ := wp_chk hk
      obtain ⟨c41, hk⟩ := wp_chk hk
      obtain ⟨c42, hk⟩ := wp_chk hk
      obtain ⟨n43, hn44, hk⟩ := wp_ret hk
      subst hn44
      refine ⟨_, rfl, _, rfl, _, _, rfl, rfl, c30, _, _, rfl, rfl, _, _, rfl, rfl, _, _, rfl, rfl, c31, _, _, rfl, rfl, c32, [some (V.int (x_cell % (((10 : Int) ^ Int.toNat (45 : Int)) * ((10 : Int) ^ Int.toNat (45 : Int))))), some (V.int x_many), some (V.int x_base), some (V.ref p4), some (V.int st23.1), some (V.int y11), some (V.int (((((x_cell % (((10 : Int) ^ Int.toNat (45 : Int)) * ((10 : Int) ^ Int.toNat (45 : Int)))) + ((977 : Int) * y11)) + (1 : Int)) * (48271 : Int)) % (2147483647 : Int)))], rfl, _, rfl, _, rfl, _, _, rfl, rfl, c35, _, _, rfl, rfl, c36, [some (V.int (x_cell % (((10 : Int) ^ Int.toNat (45 : Int)) * ((10 : Int) ^ Int.toNat (45 : Int))))), some (V.int x_many), some (V.int x_base), some (V.ref p4), some (V.int st23.1), some (V.int y11), some (V.int (((((((x_cell % (((10 : Int) ^ Int.toNat (45 : Int)) * ((10 : Int) ^ Int.toNat (45 : Int)))) + ((977 : Int) * y11)) + (1 : Int)) * (48271 : Int)) % (2147483647 : Int)) * (((((x_cell % (((10 : Int) ^ Int.toNat (45 : Int)) * ((10 : Int) ^ Int.toNat (45 : Int)))) + ((977 : Int) * y11)) + (1 : Int)) * (48271 : Int)) % (2147483647 : Int))) % (2147483629 : Int)))], rfl, _, rfl, _, rfl, _, _, rfl, rfl, _, _, rfl, rfl, c39, _, _, rfl, rfl, _, _, rfl, rfl, c40, _, _, rfl, rfl, c41, _, _, rfl, rfl, c42, [some (V.int (x_cell % (((10 : Int) ^ Int.toNat (45 : Int)) * ((10 : Int) ^ Int.toNat (45 : Int))))), some (V.int x_many), some (V.int x_base), some (V.ref p4), some (V.int st23.1), some (V.int y11), some (V.int (((((((((((x_cell % (((10 : Int) ^ Int.toNat (45 : Int)) * ((10 : Int) ^ Int.toNat (45 : Int)))) + ((977 : Int) * y11)) + (1 : Int)) * (48271 : Int)) % (2147483647 : Int)) * (((((x_cell % (((10 : Int) ^ Int.toNat (45 : Int)) * ((10 : Int) ^ Int.toNat (45 : Int)))) + ((977 : Int) * y11)) + (1 : Int)) * (48271 : Int)) % (2147483647 : Int))) % (2147483629 : Int)) + ((40692 : Int) * (y11 + (3 : Int)))) * (69621 : Int)) % (2147483563 : Int)) / (8 : Int)))], rfl, _, rfl, _, _, rfl, rfl, (by decide), _, _, rfl, rfl, _, rfl, ?_⟩
      refine iteD (fun q45 => ?_) (fun q45 => ?_)
      · have hk := wp_if hk q45
        obtain ⟨c46, hk⟩ := wp_chk hk
        obtain ⟨c47, hk⟩ := wp_chk hk
        obtain ⟨c48, hk⟩ := wp_appL hk
        refine ⟨_, rfl, [some (V.int (x_cell % (((10 : Int) ^ Int.toNat (45 : Int)) * ((10 : Int) ^ Int.toNat (45 : Int))))), some (V.int x_many), some (V.int x_base), some (V.ref p4), some (V.int st23.1), some (V.int y11), some (V.int st23.1)], rfl, _, rfl, _, rfl, _, _, rfl, rfl, c46, [some (V.int (x_cell % (((10 : Int) ^ Int.toNat (45 : Int)) * ((10 : Int) ^ Int.toNat (45 : Int))))), some (V.int x_many), some (V.int x_base), some (V.ref p4), some (V.int (st23.1 / x_base)), some (V.int y11), some (V.int st23.1)], rfl, _, rfl, (.inl ⟨rfl, _, SqL.of (O29.at 0 rfl)⟩), _, rfl, _, rfl, _, _, rfl, rfl, c47, _, _, _, rfl, rfl, (O29.at 0 rfl), (by rw [hl25.len]; exact c48), ?_⟩
        have O50 := O29.set 0 (.lst (w24 ++ [V.int (st23.1 % x_base)])) rfl
        have hl51 : RL (a := Int) F28 (w24 ++ [V.int (st23.1 % x_base)]) (st23.2 ++ [(st23.1 % x_base)]) := RL.snoc hl25 R.int
        exact ⟨F28, ((st23.1 / x_base), (st23.2 ++ [(st23.1 % x_base)])), (w24 ++ [V.int (st23.1 % x_base)]), some (V.int y11), some (V.int st23.1), rfl, S22, O50, hl51, hk⟩
      · have hk := wp_el hk q45
        obtain ⟨c52, hk⟩ := wp_chk hk
        obtain ⟨c53, hk⟩ := wp_appL hk
        refine ⟨_, rfl, (.inl ⟨rfl, _, SqL.of (O29.at 0 rfl)⟩), _, rfl, _, rfl, _, _, rfl, rfl, c52, _, _, _, rfl, rfl, (O29.at 0 rfl), (by rw [hl25.len]; exact c53), ?_⟩
        have O55 := O29.set 0 (.lst (w24 ++ [V.int ((((((((((((x_cell % (((10 : Int) ^ Int.toNat (45 : Int)) * ((10 : Int) ^ Int.toNat (45 : Int)))) + ((977 : Int) * y11)) + (1 : Int)) * (48271 : Int)) % (2147483647 : Int)) * (((((x_cell % (((10 : Int) ^ Int.toNat (45 : Int)) * ((10 : Int) ^ Int.toNat (45 : Int)))) + ((977 : Int) * y11)) + (1 : Int)) * (48271 : Int)) % (2147483647 : Int))) % (2147483629 : Int)) + ((40692 : Int) * (y11 + (3 : Int)))) * (69621 : Int)) % (2147483563 : Int)) / (8 : Int)) % x_base)])) rfl
        have hl56 : RL (a := Int) F28 (w24 ++ [V.int ((((((((((((x_cell % (((10 : Int) ^ Int.toNat (45 : Int)) * ((10 : Int) ^ Int.toNat (45 : Int)))) + ((977 : Int) * y11)) + (1 : Int)) * (48271 : Int)) % (2147483647 : Int)) * (((((x_cell % (((10 : Int) ^ Int.toNat (45 : Int)) * ((10 : Int) ^ Int.toNat (45 : Int)))) + ((977 : Int) * y11)) + (1 : Int)) * (48271 : Int)) % (2147483647 : Int))) % (2147483629 : Int)) + ((40692 : Int) * (y11 + (3 : Int)))) * (69621 : Int)) % (2147483563 : Int)) / (8 : Int)) % x_base)]) (st23.2 ++ [((((((((((((x_cell % (((10 : Int) ^ Int.toNat (45 : Int)) * ((10 : Int) ^ Int.toNat (45 : Int)))) + ((977 : Int) * y11)) + (1 : Int)) * (48271 : Int)) % (2147483647 : Int)) * (((((x_cell % (((10 : Int) ^ Int.toNat (45 : Int)) * ((10 : Int) ^ Int.toNat (45 : Int)))) + ((977 : Int) * y11)) + (1 : Int)) * (48271 : Int)) % (2147483647 : Int))) % (2147483629 : Int)) + ((40692 : Int) * (y11 + (3 : Int)))) * (69621 : Int)) % (2147483563 : Int)) / (8 : Int)) % x_base)]) := RL.snoc hl25 R.int
        exact ⟨F28, (st23.1, (st23.2 ++ [((((((((((((x_cell % (((10 : Int) ^ Int.toNat (45 : Int)) * ((10 : Int) ^ Int.toNat (45 : Int)))) + ((977 : Int) * y11)) + (1 : Int)) * (48271 : Int)) % (2147483647 : Int)) * (((((x_cell % (((10 : Int) ^ Int.toNat (45 : Int)) * ((10 : Int) ^ Int.toNat (45 : Int)))) + ((977 : Int) * y11)) + (1 : Int)) * (48271 : Int)) % (2147483647 : Int))) % (2147483629 : Int)) + ((40692 : Int) * (y11 + (3 : Int)))) * (69621 : Int)) % (2147483563 : Int)) / (8 : Int)) % x_base)])), (w24 ++ [V.int ((((((((((((x_cell % (((10 : Int) ^ Int.toNat (45 : Int)) * ((10 : Int) ^ Int.toNat (45 : Int)))) + ((977 : Int) * y11)) + (1 : Int)) * (48271 : Int)) % (2147483647 : Int)) * (((((x_cell % (((10 : Int) ^ Int.toNat (45 : Int)) * ((10 : Int) ^ Int.toNat (45 : Int)))) + ((977 : Int) * y11)) + (1 : Int)) * (48271 : Int)) % (2147483647 : Int))) % (2147483629 : Int)) + ((40692 : Int) * (y11 + (3 : Int)))) * (69621 : Int)) % (2147483563 : Int)) / (8 : Int)) % x_base)]), some (V.int y11), some (V.int (((((((((((x_cell % (((10 : Int) ^ Int.toNat (45 : Int)) * ((10 : Int) ^ Int.toNat (45 : Int)))) + ((977 : Int) * y11)) + (1 : Int)) * (48271 : Int)) % (2147483647 : Int)) * (((((x_cell % (((10 : Int) ^ Int.toNat (45 : Int)) * ((10 : Int) ^ Int.toNat (45 : Int)))) + ((977 : Int) * y11)) + (1 : Int)) * (48271 : Int)) % (2147483647 : Int))) % (2147483629 : Int)) + ((40692 : Int) * (y11 + (3 : Int)))) * (69621 : Int)) % (2147483563 : Int)) / (8 : Int))), rfl, S22, O55, hl56, hk⟩
    rintro sg57 H58 ⟨F66, st60, w62, t64, t65, rfl, S59, O67, hl63, hL61⟩
    rw [rangeL_end0] at hL61
    have hk := hLd16 _ hL61
    refine ⟨_, rfl, ?_⟩
    exact hk _ _  O67.g  _ _ z8 (O67.cf _ (List.mem_of_getElem? (i := 0) rfl)) (O67.at 0 rfl) hl63
abbrev s_law_worths : Stmt := top 45
theorem sc_law_worths : FnScope ["script", "many", "cell", "kind", "found", "number", "worth"] ["script", "many"] (defScope s_law_worths) := ⟨rfl, rfl, rfl, by decide +kernel, rfl, by decide +kernel, by decide +kernel⟩
def m_law_worths (x_script : (List Int)) (x_many : Int) : M ((List Int)) :=
m_law_cell_at x_script (3 : Int) >>= fun r1 =>
m_law_cell_at x_script (0 : Int) >>= fun r7 =>
chk (CDivW r7 (2048 : Int)) >>= fun _ =>
chk (0 < (4 : Int)) >>= fun _ =>
if ((r7 / (2048 : Int)) % (4 : Int)) = (1 : Int) then (
chk (CRep ([(0 : Int)]).length x_many) >>= fun _ =>
.ok (repL x_many ([(0 : Int)])))
else (
m_law_numbers r1 x_many (90 : Int) >>= fun r42 =>
loopN (fun (y66 : Int) (st77 : (List Int)) =>
chk (0 < (15 : Int)) >>= fun _ =>
if ((r7 / (2048 : Int)) % (4 : Int)) = (2 : Int) then (
chk (CMulW (y66 - (45 : Int)) ((10 : Int) ^ Int.toNat (28 : Int))) >>= fun _ =>
if ((r7 / (2048 : Int)) % (4 : Int)) = (3 : Int) then (
chk (0 < (6 : Int)) >>= fun _ =>
appL st77 (y66 % (6 : Int)) >>= fun _ =>
.ok (st77 ++ [(y66 % (6 : Int))]))
else (
appL st77 (((y66 - (45 : Int)) * ((10 : Int) ^ Int.toNat (28 : Int))) + y66) >>= fun _ =>
.ok (st77 ++ [(((y66 - (45 : Int)) * ((10 : Int) ^ Int.toNat (28 : Int))) + y66)])))
else (
if ((r7 / (2048 : Int)) % (4 : Int)) = (3 : Int) then (
chk (0 < (6 : Int)) >>= fun _ =>
appL st77 (y66 % (6 : Int)) >>= fun _ =>
.ok (st77 ++ [(y66 % (6 : Int))]))
else (
appL st77 ((y66 % (15 : Int)) - (7 : Int)) >>= fun _ =>
.ok (st77 ++ [((y66 % (15 : Int)) - (7 : Int))])))) r42 ([] : List Int) >>= fun st112 =>
.ok st112)
def sp_law_worths (K : PySem.W.Frag) (mg : Str → Option Value) : Sp := fun vs H Q E => ∃ (F : Hp) (a_script : Addr) (x_script : (List Int)) (x_many : Int), vs = [.ref a_script, V.int x_many] ∧ Pre F [] H ∧ SqL K F a_script (x_script.map V.int) ∧
  wp (m_law_worths x_script x_many) (fun r => ∀ (F' H' : Hp), Gr [] F H F' H' → ∀ (p : Addr) (w : (List V)), H p = none → F' p = none → H' p = some (.lst w) → RL (a := Int) F' w r → Q (.ref p) H')
  (fun n => ∀ (C : Addr) (H' : Hp), mg (Str.ofString n) = some (.ref C) → Kp [] H H' → E (.ref C) none H')
set_option maxHeartbeats 20000000 in
theorem ok_law_worths (nb : Nb mg) (C_law_cell_at : Ca P w K mg base "_law_cell_at" 1 ["script", "k"] (sp_law_cell_at K mg)) (C_law_numbers : Ca P w K mg base "_law_numbers" 1 ["cell", "many", "base"] (sp_law_numbers mg)) (D : Df K mg "_law_worths" "_law_worths" s_law_worths ["script", "many"]) : Ca P w K mg base "_law_worths" 2 ["script", "many"] (sp_law_worths K mg) := by
  obtain ⟨fa_law_cell_at, fd_law_cell_at, G_law_cell_at, M_law_cell_at, K_law_cell_at, B_law_cell_at⟩ := C_law_cell_at.ex
  obtain ⟨fa_law_numbers, fd_law_numbers, G_law_numbers, M_law_numbers, K_law_numbers, B_law_numbers⟩ := C_law_numbers.ex
  refine Ca.mk' D sc_law_worths (fun vs H Q E h => ?_) (fun q_ f_ cdv A outer s H vs Q E hr h => ?_)
  · obtain ⟨F, _, _, _, rfl, _⟩ := h
    rfl
  · obtain ⟨F, a_script, x_script, x_many, rfl, P0, f_script, hk⟩ := h
    have nd := sc_law_worths.nd
    have hu64 := hr.units
    have hu128 := hu128_of hr
    have O := P0.start
    refine ⟨_, (pss_cons (ps_toN (ps_set (i := 2) nd rfl (Or.inl rfl) (pe_call G_law_cell_at (hr.mono (by decide)) rfl M_law_cell_at K_law_cell_at B_law_cell_at .nil (passes_call (takes_of rfl rfl rfl rfl) fun _ _ _ _ h => h) (pa_cons (pv 0) (pa_cons pe_int pa_nil)))))
  (pss_cons (ps_toN (ps_set (i := 3) nd rfl (Or.inl rfl) (pe_op op_mod (pe_op op_fdivW (pe_call G_law_cell_at (hr.mono (by decide)) rfl M_law_cell_at K_law_cell_at B_law_cell_at .nil (passes_call (takes_of rfl rfl rfl rfl) fun _ _ _ _ h => h) (pa_cons (pv 0) (pa_cons pe_int pa_nil))) pe_int) pe_int)))
  (pss_cons (ps_if (pt_cmpR (op_eqT Int hu64) (pv 3) pe_int (nomark _)) (pss_one (ps_ret (pe_op op_rep (pe_lst (pa_cons pe_int pa_nil)) (pv 1)))) pss_nil)
  (pss_cons (ps_toN (ps_set (i := 4) nd rfl (Or.inl rfl) (pe_lst pa_nil)))
  (pss_cons (ps_for (passes_of rfl) rfl (piListK (K := K) rfl (pe_call G_law_numbers (hr.mono (by decide)) rfl M_law_numbers K_law_numbers B_law_numbers .nil (passes_call (takes_of rfl rfl rfl rfl) fun _ _ _ _ h => h) (pa_cons (pv 2) (pa_cons (pv 1) (pa_cons pe_int pa_nil))))) (pg_name (i := 5) nd rfl (Or.inl rfl)) (pss_cons (ps_toN (ps_set (i := 6) nd rfl (Or.inl rfl) (pe_op op_sub (pe_op op_mod (pv 5) pe_int) pe_int)))
  (pss_cons (ps_if (pt_cmpR (op_eqT Int hu64) (pv 3) pe_int (nomark _)) (pss_one (ps_toN (ps_set (i := 6) nd rfl (Or.inl rfl) (pe_op op_add (pe_op op_mulW (pe_op op_sub (pv 5) pe_int) (pe_op op_pow pe_int pe_int)) (pv 5))))) pss_nil)
  (pss_cons (ps_if (pt_cmpR (op_eqT Int hu64) (pv 3) pe_int (nomark _)) (pss_one (ps_toN (ps_set (i := 6) nd rfl (Or.inl rfl) (pe_op op_mod (pv 5) pe_int)))) pss_nil)
  (pss_one (ps_expr (bmK (K := K) rfl (pe_bm PySem.F.plainAttrs_list PySem.F.slot_list_append PySem.F.type_list_append mt_append (pv 4) (pa_cons (pv 6) pa_nil)))))))))
  (pss_one (ps_ret (pv 4)))))))), ?_⟩
    refine ⟨_, rfl, _, _, _, _, rfl, O.pre0, f_script, wp_call hk (fun r1 er2 hk F3 H4 g5 => ?_) (fun n hn C H1 hC kp => hn C H1 hC (O.kp0 kp))⟩
    have O6 := O.call0 g5
    have S_ := g5.f
    have f_script := S_.seq f_script
    refine ⟨[some (V.ref a_script), some (V.int x_many), some (V.int r1), none, none, none, none], rfl, _, rfl, _, _, _, _, rfl, O6.pre0, f_script, wp_call hk (fun r7 er8 hk F9 H10 g11 => ?_) (fun n hn C H1 hC kp => hn C H1 hC (O6.kp0 kp))⟩
    have O12 := O6.call0 g11
    have S_ := g11.f
    have f_script := S_.seq f_script
    obtain ⟨c13, hk⟩ := wp_chk hk
    obtain ⟨c14, hk⟩ := wp_chk hk
    refine ⟨_, _, rfl, rfl, c13, _, _, rfl, rfl, c14, [some (V.ref a_script), some (V.int x_many), some (V.int r1), some (V.int ((r7 / (2048 : Int)) % (4 : Int))), none, none, none], rfl, _, rfl, _, _, R.int, R.int, _, rfl, ?_⟩
    refine iteD (fun q15 => ?_) (fun q15 => ?_)
    · have hk := wp_if hk q15
      refine ⟨(by show 1 ≤ sizeLine; decide), fun p17 hp18 => ?_⟩
      have hl24 : RL (a := Int) F9 ([V.int (0 : Int)]) ([(0 : Int)]) := RL.cons R.int RL.nil
      obtain ⟨F19, O20, S21, h22⟩ := O12.putE hp18 (.lst ([V.int (0 : Int)]))
      have f_script := S21.seq f_script
      have hl24 := hl24.mono S21
      have h23 := R.lst (a := Int) h22 hl24
      obtain ⟨p25, w26, e27, h28, hl29⟩ := R.lst_ h23
      cases e27
      obtain ⟨c30, hk⟩ := wp_chk hk
      refine ⟨_, rfl, _, _, _, rfl, rfl, (O20.s _ _ h28), c30.1, c30.2.1, (by rw [hl29.len]; exact le_line c30.2.2), fun p31 hp32 => ?_⟩
      have hl34 : RL (a := Int) F19 (repL x_many w26) (repL x_many ([(0 : Int)])) := RL.rep hl29 x_many
      have z35 := O20.was hp32
      have O33 := O20.new (o := .lst (repL x_many w26)) hp32
      exact hk _ _  O33.g  _ _ z35 (O33.cf _ (List.mem_of_getElem? (i := 0) rfl)) (O33.at 0 rfl) hl34
    · have hk := wp_el hk q15
      refine ⟨(by show 0 ≤ sizeLine; decide), fun p37 hp38 => ?_⟩
      have hl40 : RL (a := Int) F9 ([]) ([] : List Int) := RL.nil
      have z41 := O12.was hp38
      have O39 := O12.new (o := .lst ([])) hp38
      refine ⟨[some (V.ref a_script), some (V.int x_many), some (V.int r1), some (V.int ((r7 / (2048 : Int)) % (4 : Int))), some (V.ref p37), none, none], rfl, _, rfl, _, rfl, _, _, _, _, rfl, O39.pre0, wp_call hk (fun r42 er43 hk F44 H45 g46 p47 w48 hn49 hf50 h51 hl52 => ?_) (fun n hn C H1 hC kp => hn C H1 hC (O39.kp0 kp))⟩
      have O53 := O39.call0 g46
      have S_ := g46.f
      have f_script := S_.seq f_script
      have hl40 := hl40.mono S_
      have O54 := O39.got O53 rfl hn49 hf50 h51
      have z55 := O39.was hn49
      obtain ⟨F56, O57, S58, h59⟩ := O54.frzE 0 rfl z55
      have f_script := S58.seq f_script
      have hl40 := hl40.mono S58
      have hl52 := hl52.mono S58
      have h60 := R.lst (a := Int) h59 hl52
      obtain ⟨p61, w62, e63, h64, hl65⟩ := R.lst_ h60
      cases e63
      obtain ⟨L67, hL68, hLs69, hLd70⟩ := loopN_L hk
      refine ⟨_, rfl, ⟨_, (SqLF O57.s h64)⟩, ?_⟩
      refine for_list (K := K) (xs := w62) (fun i σ H_ => ∃ (F_ : Hp) (st : (List Int)) (w_0 : (List V)) (t_0 : Option V) (t_1 : Option V), σ = [some (V.ref a_script), some (V.int x_many), some (V.int r1), some (V.int ((r7 / (2048 : Int)) % (4 : Int))), some (V.ref p37), t_0, t_1] ∧ Same F56 F_ ∧ Ow _ F_ [(p37, .lst w_0)] H_ ∧ RL (a := Int) F_ w_0 st ∧ L67 (List.drop i r42) st) ⟨F56, ([] : List Int), [], none, none, rfl, Same.refl _, O57, hl40, hL68⟩ (fun i_ σ_ H_ _ hp_ => ?_) ?_ ?_
      · obtain ⟨_, _, _, _, _, _, hS_, hO_, _⟩ := hp_
        exact SqLF hO_.s (hS_ _ _ h64)
      · rintro i71 x72 sg73 H74 hi75 ⟨F82, st77, w78, t80, t81, rfl, S76, O83, hl79, hL68⟩
        have f_script := S76.seq f_script
        have h60 := h60.mono S76
        have h64 := S76 _ _ h64
        have hl65 := hl65.mono S76
        obtain ⟨y66, e84, r85⟩ := RL.got hl65 hi75
        rw [drop_at e84] at hL68
        have hk := hLs69 _ _ _ hL68
        obtain rfl := R.int_ r85
        obtain ⟨c86, hk⟩ := wp_chk hk
        refine ⟨_, rfl, _, _, rfl, rfl, c86, _, _, rfl, rfl, [some (V.ref a_script), some (V.int x_many), some (V.int r1), some (V.int ((r7 / (2048 : Int)) % (4 : Int))), some (V.ref p37), some (V.int y66), some (V.int ((y66 % (15 : Int)) - (7 : Int)))], rfl, _, rfl, _, _, R.int, R.int, _, rfl, ?_⟩
        refine iteD (fun q87 => ?_) (fun q87 => ?_)
        · have hk := wp_if hk q87
          obtain ⟨c88, hk⟩ := wp_chk hk
          refine ⟨_, rfl, _, _, rfl, rfl, _, _, rfl, rfl, (by decide), _, _, rfl, rfl, c88, _, rfl, _, _, rfl, rfl, [some (V.ref a_script), some (V.int x_many), some (V.int r1), some (V.int ((r7 / (2048 : Int)) % (4 : Int))), some (V.ref p37), some (V.int y66), some (V.int (((y66 - (45 : Int)) * ((10 : Int) ^ Int.toNat (28 : Int))) + y66))], rfl, _, rfl, _, _, R.int, R.int, _, rfl, ?_⟩
          refine iteD (fun q89 => ?_) (fun q89 => ?_)
          · have hk := wp_if hk q89
            obtain ⟨c90, hk⟩ := wp_chk hk
            obtain ⟨c91, hk⟩ := wp_appL hk
            refine ⟨_, rfl, _, _, rfl, rfl, c90, [some (V.ref a_script), some (V.int x_many), some (V.int r1), some (V.int ((r7 / (2048 : Int)) % (4 : Int))), some (V.ref p37), some (V.int y66), some (V.int (y66 % (6 : Int)))], rfl, _, rfl, (.inl ⟨rfl, _, SqL.of (O83.at 0 rfl)⟩), _, rfl, _, _, _, rfl, rfl, (O83.at 0 rfl), (by rw [hl79.len]; exact c91), ?_⟩
            have O93 := O83.set 0 (.lst (w78 ++ [V.int (y66 % (6 : Int))])) rfl
            have hl94 : RL (a := Int) F82 (w78 ++ [V.int (y66 % (6 : Int))]) (st77 ++ [(y66 % (6 : Int))]) := RL.snoc hl79 R.int
            exact ⟨F82, (st77 ++ [(y66 % (6 : Int))]), (w78 ++ [V.int (y66 % (6 : Int))]), some (V.int y66), some (V.int (y66 % (6 : Int))), rfl, S76, O93, hl94, hk⟩
          · have hk := wp_el hk q89
            obtain ⟨c95, hk⟩ := wp_appL hk
            refine ⟨_, rfl, (.inl ⟨rfl, _, SqL.of (O83.at 0 rfl)⟩), _, rfl, _, _, _, rfl, rfl, (O83.at 0 rfl), (by rw [hl79.len]; exact c95), ?_⟩
            have O97 := O83.set 0 (.lst (w78 ++ [V.int (((y66 - (45 : Int)) * ((10 : Int) ^ Int.toNat (28 : Int))) + y66)])) rfl
            have hl98 : RL (a := Int) F82 (w78 ++ [V.int (((y66 - (45 : Int)) * ((10 : Int) ^ Int.toNat (28 : Int))) + y66)]) (st77 ++ [(((y66 - (45 : Int)) * ((10 : Int) ^ Int.toNat (28 : Int))) + y66)]) := RL.snoc hl79 R.int
            exact ⟨F82, (st77 ++ [(((y66 - (45 : Int)) * ((10 : Int) ^ Int.toNat (28 : Int))) + y66)]), (w78 ++ [V.int (((y66 - (45 : Int)) * ((10 : Int) ^ Int.toNat (28 : Int))) + y66)]), some (V.int y66), some (V.int (((y66 - (45 : Int)) * ((10 : Int) ^ Int.toNat (28 : Int))) + y66)), rfl, S76, O97, hl98, hk⟩
        · have hk := wp_el hk q87
          refine ⟨_, rfl, _, _, R.int, R.int, _, rfl, ?_⟩
          refine iteD (fun q99 => ?_) (fun q99 => ?_)
          · have hk := wp_if hk q99
            obtain ⟨c100, hk⟩ := wp_chk hk
            obtain ⟨c101, hk⟩ := wp_appL hk
            refine ⟨_, rfl, _, _, rfl, rfl, c100, [some (V.ref a_script), some (V.int x_many), some (V.int r1), some (V.int ((r7 / (2048 : Int)) % (4 : Int))), some (V.ref p37), some (V.int y66), some (V.int (y66 % (6 : Int)))], rfl, _, rfl, (.inl ⟨rfl, _, SqL.of (O83.at 0 rfl)⟩), _, rfl, _, _, _, rfl, rfl, (O83.at 0 rfl), (by rw [hl79.len]; exact c101), ?_⟩
            have O103 := O83.set 0 (.lst (w78 ++ [V.int (y66 % (6 : Int))])) rfl
            have hl104 : RL (a := Int) F82 (w78 ++ [V.int (y66 % (6 : Int))]) (st77 ++ [(y66 % (6 : Int))]) := RL.snoc hl79 R.int
            exact ⟨F82, (st77 ++ [(y66 % (6 : Int))]), (w78 ++ [V.int (y66 % (6 : Int))]), some (V.int y66), some (V.int (y66 % (6 : Int))), rfl, S76, O103, hl104, hk⟩
          · have hk := wp_el hk q99
            obtain ⟨c105, hk⟩ := wp_appL hk
            refine ⟨_, rfl, (.inl ⟨rfl, _, SqL.of (O83.at 0 rfl)⟩), _, rfl, _, _, _, rfl, rfl, (O83.at 0 rfl), (by rw [hl79.len]; exact c105), ?_⟩
            have O107 := O83.set 0 (.lst (w78 ++ [V.int ((y66 % (15 : Int)) - (7 : Int))])) rfl
            have hl108 : RL (a := Int) F82 (w78 ++ [V.int ((y66 % (15 : Int)) - (7 : Int))]) (st77 ++ [((y66 % (15 : Int)) - (7 : Int))]) := RL.snoc hl79 R.int
            exact ⟨F82, (st77 ++ [((y66 % (15 : Int)) - (7 : Int))]), (w78 ++ [V.int ((y66 % (15 : Int)) - (7 : Int))]), some (V.int y66), some (V.int ((y66 % (15 : Int)) - (7 : Int))), rfl, S76, O107, hl108, hk⟩
      rintro sg109 H110 ⟨F118, st112, w114, t116, t117, rfl, S111, O119, hl115, hL113⟩
      rw [drop_end hl65.len] at hL113
      have hk := hLd70 _ hL113
      have f_script := S111.seq f_script
      have h60 := h60.mono S111
      have h64 := S111 _ _ h64
      have hl65 := hl65.mono S111
      refine ⟨_, rfl, ?_⟩
      exact hk _ _  O119.g  _ _ z41 (O119.cf _ (List.mem_of_getElem? (i := 0) rfl)) (O119.at 0 rfl) hl115
abbrev s_law_ties : Stmt := top 46
theorem sc_law_ties : FnScope ["script", "many", "least", "shape", "order", "left", "names", "kind", "ties", "k", "number", "length", "other"] ["script", "many", "least"] (defScope s_law_ties) := ⟨rfl, rfl, rfl, by decide +kernel, rfl, by decide +kernel, by decide +kernel⟩
def m_law_ties (x_script : (List Int)) (x_many : Int) (x_least : Int) : M ((List (T3 Int Int Int))) :=
m_law_cell_at x_script (1 : Int) >>= fun r1 =>
m_law_numbers r1 x_many (120 : Int) >>= fun r7 =>
m_law_cell_at x_script (2 : Int) >>= fun r26 =>
m_law_numbers r26 x_many (120 : Int) >>= fun r32 =>
chk (okR x_many) >>= fun _ =>
chk (okR x_many) >>= fun _ =>
compS (fun (y58 : Int) (st76 : (List Int)) =>
opt (atI r32 y58) >>= fun y87 =>
chk (0 < (st76.length : Int)) >>= fun _ =>
popI st76 (y87 % (st76.length : Int)) >>= fun t102 =>
.ok (some t102.1, t102.2)) (rangeL 0 x_many) (rangeL 0 x_many) >>= fun q118 =>
m_law_cell_at x_script (0 : Int) >>= fun r124 =>
chk (CDivW r124 (512 : Int)) >>= fun _ =>
chk (0 < (4 : Int)) >>= fun _ =>
m_law_cell_at x_script (4 : Int) >>= fun r138 =>
m_law_numbers r138 x_many (90 : Int) >>= fun r144 =>
loopN (fun (y168 : (Int × Int)) (st179 : (List (T3 Int Int Int))) =>
chk (0 < (9 : Int)) >>= fun _ =>
chk (0 < (3 : Int)) >>= fun _ =>
chk (CMulW y168.2 ((10 : Int) ^ Int.toNat (28 : Int))) >>= fun _ =>
opt (atI ([((y168.2 % (9 : Int)) + x_least), (y168.2 % (3 : Int)), ((y168.2 * ((10 : Int) ^ Int.toNat (28 : Int))) + (1 : Int)), (1 : Int)]) ((r124 / (512 : Int)) % (4 : Int))) >>= fun y226 =>
if (0 : Int) < y168.1 then (
opt (atI r7 y168.1) >>= fun y237 =>
chk (0 < y168.1) >>= fun _ =>
opt (atI q118.1 (y237 % y168.1)) >>= fun y248 =>
opt (atI r7 y168.1) >>= fun y258 =>
chk (CDivW y258 (40 : Int)) >>= fun _ =>
if (y258 / (40 : Int)) = (1 : Int) then (
opt (atI q118.1 (y168.1 - (1 : Int))) >>= fun y270 =>
opt (atI q118.1 y168.1) >>= fun y280 =>
opt (atI q118.1 y168.1) >>= fun y290 =>
appL st179 (T3.mk (if y270 < y280 then y270 else y280) (if y270 > y290 then y270 else y290) y226) >>= fun _ =>
.ok (st179 ++ [(T3.mk (if y270 < y280 then y270 else y280) (if y270 > y290 then y270 else y290) y226)]))
else (
opt (atI q118.1 y168.1) >>= fun y311 =>
opt (atI q118.1 y168.1) >>= fun y321 =>
appL st179 (T3.mk (if y248 < y311 then y248 else y311) (if y248 > y321 then y248 else y321) y226) >>= fun _ =>
.ok (st179 ++ [(T3.mk (if y248 < y311 then y248 else y311) (if y248 > y321 then y248 else y321) y226)])))
else (
.ok st179)) (enumL r144) ([] : List (T3 Int Int Int)) >>= fun st340 =>
.ok (sortT st340)
def sp_law_ties (K : PySem.W.Frag) (mg : Str → Option Value) : Sp := fun vs H Q E => ∃ (F : Hp) (a_script : Addr) (x_script : (List Int)) (x_many : Int) (x_least : Int), vs = [.ref a_script, V.int x_many, V.int x_least] ∧ Pre F [] H ∧ SqL K F a_script (x_script.map V.int) ∧
  wp (m_law_ties x_script x_many x_least) (fun r => ∀ (F' H' : Hp), Gr [] F H F' H' → ∀ (p : Addr) (w : (List V)), H p = none → F' p = none → H' p = some (.lst w) → RL (a := (T3 Int Int Int)) F' w r → Q (.ref p) H')
  (fun n => ∀ (C : Addr) (H' : Hp), mg (Str.ofString n) = some (.ref C) → Kp [] H H' → E (.ref C) none H')
set_option maxHeartbeats 20000000 in
theorem ok_law_ties (nb : Nb mg) (C_law_cell_at : Ca P w K mg base "_law_cell_at" 1 ["script", "k"] (sp_law_cell_at K mg)) (C_law_numbers : Ca P w K mg base "_law_numbers" 1 ["cell", "many", "base"] (sp_law_numbers mg)) (D : Df K mg "_law_ties" "_law_ties" s_law_ties ["script", "many", "least"]) : Ca P w K mg base "_law_ties" 2 ["script", "many", "least"] (sp_law_ties K mg) := by
  obtain ⟨fa_law_cell_at, fd_law_cell_at, G_law_cell_at, M_law_cell_at, K_law_cell_at, B_law_cell_at⟩ := C_law_cell_at.ex
  obtain ⟨fa_law_numbers, fd_law_numbers, G_law_numbers, M_law_numbers, K_law_numbers, B_law_numbers⟩ := C_law_numbers.ex
  refine Ca.mk' D sc_law_ties (fun vs H Q E h => ?_) (fun q_ f_ cdv A outer s H vs Q E hr h => ?_)
  · obtain ⟨F, _, _, _, _, rfl, _⟩ := h
    rfl
  · obtain ⟨F, a_script, x_script, x_many, x_least, rfl, P0, f_script, hk⟩ := h
    have nd := sc_law_ties.nd
    have hu64 := hr.units
    have hu128 := hu128_of hr
    have O := P0.start
    refine ⟨_, (pss_cons (ps_toN (ps_set (i := 3) nd rfl (Or.inl rfl) (pe_call G_law_numbers (hr.mono (by decide)) rfl M_law_numbers K_law_numbers B_law_numbers .nil (passes_call (takes_of rfl rfl rfl rfl) fun _ _ _ _ h => h) (pa_cons (pe_call G_law_cell_at (hr.mono (by decide)) rfl M_law_cell_at K_law_cell_at B_law_cell_at .nil (passes_call (takes_of rfl rfl rfl rfl) fun _ _ _ _ h => h) (pa_cons (pv 0) (pa_cons pe_int pa_nil))) (pa_cons (pv 1) (pa_cons pe_int pa_nil))))))
  (pss_cons (ps_toN (ps_set (i := 4) nd rfl (Or.inr rfl) (pe_call G_law_numbers (hr.mono (by decide)) rfl M_law_numbers K_law_numbers B_law_numbers .nil (passes_call (takes_of rfl rfl rfl rfl) fun _ _ _ _ h => h) (pa_cons (pe_call G_law_cell_at (hr.mono (by decide)) rfl M_law_cell_at K_law_cell_at B_law_cell_at .nil (passes_call (takes_of rfl rfl rfl rfl) fun _ _ _ _ h => h) (pa_cons (pv 0) (pa_cons pe_int pa_nil))) (pa_cons (pv 1) (pa_cons pe_int pa_nil))))))
  (pss_cons (ps_toN (ps_set (i := 5) nd rfl (Or.inr rfl) (pe_listRg rfl (by rfl) nb.b_list (prg_1 (by rfl) nb.b_range (pv 1)))))
  (pss_cons (ps_toN (ps_setLc (i := 6) (own := [("k", 9)]) (g := gName 9) (tt := _) rfl nd rfl rfl (sw_true rfl rfl rfl (by decide +kernel)) (pi_range1 rfl nb.b_range (pa_cons (pv 1) pa_nil)) (blkOk_by (own := [("k", 9)]) (N := ["script", "many", "least", "shape", "order", "left", "names", "kind", "ties", "k", "number", "length", "other"]) (sc := defScope s_law_ties) (by decide +kernel)) (fun _ _ _ _ _ => (pg_name (i := 9) nd rfl (Or.inl rfl))) (fun _ _ _ _ _ => pts_nil) (fun _ _ _ _ _ => (bmK (K := K) rfl (pe_bm PySem.F.plainAttrs_list PySem.F.slot_list_pop PySem.F.type_list_pop mt_popAt (pv 5) (pa_cons (pe_op op_mod (pe_ix (ixListK (K := K) rfl) (pv 4) (pv 9) (fun _ _ => rfl)) (pe_callB call_lenT (by rfl) nb.b_len PySem.boot_len (pa_cons (pv 5) pa_nil))) pa_nil))))))
  (pss_cons (ps_toN (ps_set (i := 7) nd rfl (Or.inl rfl) (pe_op op_mod (pe_op op_fdivW (pe_call G_law_cell_at (hr.mono (by decide)) rfl M_law_cell_at K_law_cell_at B_law_cell_at .nil (passes_call (takes_of rfl rfl rfl rfl) fun _ _ _ _ h => h) (pa_cons (pv 0) (pa_cons pe_int pa_nil))) pe_int) pe_int)))
  (pss_cons (ps_toN (ps_set (i := 8) nd rfl (Or.inl rfl) (pe_lst pa_nil)))
  (pss_cons (ps_for (passes_of rfl) rfl (piEnumK (K := K) rfl (pi_enum rfl nb.b_enumerate (pa_cons (pe_call G_law_numbers (hr.mono (by decide)) rfl M_law_numbers K_law_numbers B_law_numbers .nil (passes_call (takes_of rfl rfl rfl rfl) fun _ _ _ _ h => h) (pa_cons (pe_call G_law_cell_at (hr.mono (by decide)) rfl M_law_cell_at K_law_cell_at B_law_cell_at .nil (passes_call (takes_of rfl rfl rfl rfl) fun _ _ _ _ h => h) (pa_cons (pv 0) (pa_cons pe_int pa_nil))) (pa_cons (pv 1) (pa_cons pe_int pa_nil)))) pa_nil))) (pg_tup rfl (pgs_cons (pg_name (i := 9) nd rfl (Or.inl rfl)) (pgs_cons (pg_name (i := 10) nd rfl (Or.inl rfl)) pgs_nil))) (pss_cons (ps_toN (ps_set (i := 11) nd rfl (Or.inl rfl) (pe_ix (ixListK (K := K) rfl) (pe_lst (pa_cons (pe_op op_add (pe_op op_mod (pv 10) pe_int) (pv 2)) (pa_cons (pe_op op_mod (pv 10) pe_int) (pa_cons (pe_op op_add (pe_op op_mulW (pv 10) (pe_op op_pow pe_int pe_int)) pe_int) (pa_cons pe_int pa_nil))))) (pv 7) (fun _ _ => rfl))))
  (pss_one (ps_if (pt_cmpR op_gt (pv 9) pe_int (nomark _)) (pss_cons (ps_toN (ps_set (i := 12) nd rfl (Or.inl rfl) (pe_ix (ixListK (K := K) rfl) (pv 6) (pe_op op_mod (pe_ix (ixListK (K := K) rfl) (pv 3) (pv 9) (fun _ _ => rfl)) (pv 9)) (fun _ _ => rfl))))
  (pss_cons (ps_if (pt_cmpR (op_eqT Int hu64) (pe_op op_fdivW (pe_ix (ixListK (K := K) rfl) (pv 3) (pv 9) (fun _ _ => rfl)) pe_int) pe_int (nomark _)) (pss_one (ps_toN (ps_set (i := 12) nd rfl (Or.inl rfl) (pe_ix (ixListK (K := K) rfl) (pv 6) (pe_op op_sub (pv 9) pe_int) (fun _ _ => rfl))))) pss_nil)
  (pss_one (ps_expr (bmK (K := K) rfl (pe_bm PySem.F.plainAttrs_list PySem.F.slot_list_append PySem.F.type_list_append mt_append (pv 8) (pa_cons (pe_tup (pa_cons (pe_callB (call_min2 rfl) (by rfl) nb.b_min (by decide +kernel) (pa_cons (pe_ix (ixListK (K := K) rfl) (pv 6) (pv 9) (fun _ _ => rfl)) (pa_cons (pv 12) pa_nil))) (pa_cons (pe_callB (call_max2 rfl) (by rfl) nb.b_max (by decide +kernel) (pa_cons (pe_ix (ixListK (K := K) rfl) (pv 6) (pv 9) (fun _ _ => rfl)) (pa_cons (pv 12) pa_nil))) (pa_cons (pv 11) pa_nil)))) pa_nil))))))) pss_nil))))
  (pss_one (ps_ret (pe_callB (cr_sortedT (T3 Int Int Int) hu128) (by rfl) nb.b_sorted (by decide +kernel) (pa_cons (pv 8) pa_nil))))))))))), ?_⟩
    refine ⟨_, rfl, _, _, _, _, rfl, O.pre0, f_script, wp_call hk (fun r1 er2 hk F3 H4 g5 => ?_) (fun n hn C H1 hC kp => hn C H1 hC (O.kp0 kp))⟩
    have O6 := O.call0 g5
    have S_ := g5.f
    have f_script := S_.seq f_script
    refine ⟨_, rfl, _, _, _, _, rfl, O6.pre0, wp_call hk (fun r7 er8 hk F9 H10 g11 p12 w13 hn14 hf15 h16 hl17 => ?_) (fun n hn C H1 hC kp => hn C H1 hC (O6.kp0 kp))⟩
    have O18 := O6.call0 g11
    have S_ := g11.f
    have f_script := S_.seq f_script
    have O19 := O6.got O18 rfl hn14 hf15 h16
    have z20 := O6.was hn14
    obtain ⟨F21, O22, S23, h24⟩ := O19.frzE 0 rfl z20
    have f_script := S23.seq f_script
    have hl17 := hl17.mono S23
    have h25 := R.lst (a := Int) h24 hl17
    refine ⟨[some (V.ref a_script), some (V.int x_many), some (V.int x_least), some (V.ref p12), none, none, none, none, none, none, none, none, none], rfl, _, rfl, _, _, _, _, rfl, O22.pre0, f_script, wp_call hk (fun r26 er27 hk F28 H29 g30 => ?_) (fun n hn C H1 hC kp => hn C H1 hC (O22.kp0 kp))⟩
    have O31 := O22.call0 g30
    have S_ := g30.f
    have f_script := S_.seq f_script
    have h25 := h25.mono S_
    refine ⟨_, rfl, _, _, _, _, rfl, O31.pre0, wp_call hk (fun r32 er33 hk F34 H35 g36 p37 w38 hn39 hf40 h41 hl42 => ?_) (fun n hn C H1 hC kp => hn C H1 hC (O31.kp0 kp))⟩
    have O43 := O31.call0 g36
    have S_ := g36.f
    have f_script := S_.seq f_script
    have h25 := h25.mono S_
    have O44 := O31.got O43 rfl hn39 hf40 h41
    have z45 := O31.was hn39
    obtain ⟨F46, O47, S48, h49⟩ := O44.frzE 0 rfl z45
    have f_script := S48.seq f_script
    have h25 := h25.mono S48
    have hl42 := hl42.mono S48
    have h50 := R.lst (a := Int) h49 hl42
    obtain ⟨c52, hk⟩ := wp_chk hk
    refine ⟨[some (V.ref a_script), some (V.int x_many), some (V.int x_least), some (V.ref p12), some (V.ref p37), none, none, none, none, none, none, none, none], rfl, _, rfl, _, rfl, c52.rg1, fun p53 hp54 => ?_⟩
    have hl56 : RL (a := Int) F46 (rgV 0 x_many) (rangeL 0 x_many) := RL.rg
    have z57 := O47.was hp54
    have O55 := O47.new (o := .lst (rgV 0 x_many)) hp54
    obtain ⟨c59, hk⟩ := wp_chk hk
    obtain ⟨c64, L60, hL61, hLs62, hLd63⟩ := compS_L hk
    refine ⟨[some (V.ref a_script), some (V.int x_many), some (V.int x_least), some (V.ref p12), some (V.ref p37), some (V.ref p53), none, none, none, none, none, none, none], rfl, _, rfl, _, rfl, c59.lo, c59.hi, fun p65 hp66 => ?_⟩
    have z105 := O55.was hp66
    refine lc_range (lo := 0) (n := (x_many).toNat) (fun i H => ∃ (F_ : Hp) (st : (List Int)) (acc : List Int) (wa : List V) (w_0 : (List V)), Same F46 F_ ∧ Ow _ F_ [(p65, .lst wa), (p53, .lst w_0)] H ∧ RL F_ wa acc ∧ RL (a := Int) F_ w_0 st ∧ wa.length ≤ i ∧ L60 (List.drop i (rangeL 0 x_many)) acc st) ⟨F46, (rangeL 0 x_many), [], [], (rgV 0 x_many), Same.refl _, O55.new hp66, RL.nil, hl56, Nat.zero_le _, hL61⟩ ?_ ?_
    · rintro i67 H69 hi70 ⟨F75, st76, acc72, wa73, w78, S77, O81, hl80, hl79, la74, hL61⟩
      have f_script := S77.seq f_script
      have h25 := h25.mono S77
      have h50 := h50.mono S77
      rw [rangeL_get0 hi70] at hL61
      have hk := hLs62 _ _ _ _ hL61
      obtain ⟨y58, he_⟩ : ∃ z_, z_ = 0 + (i67 : Int) := ⟨_, rfl⟩
      try rw [← he_] at hk
      rw [← he_]
      refine ⟨rfl, ?_⟩
      obtain ⟨p82, w83, e84, h85, hl86⟩ := R.lst_ h50
      cases e84
      obtain ⟨y87, e88, hk⟩ := wp_opt hk
      obtain ⟨w89, e90, r91⟩ := hl86.atI e88
      obtain rfl := R.int_ r91
      obtain ⟨c92, hk⟩ := wp_chk hk
      obtain ⟨j93, y94, e95, c96, c97, e98, hk⟩ := wp_popI hk
      obtain ⟨w99, e100, r101⟩ := hl79.get e98
      refine ⟨_, rfl, (.inl ⟨rfl, _, SqL.of (O81.at 1 rfl)⟩), _, rfl, _, rfl, _, _, _, _, rfl, rfl, (SqLF O81.s h85), e90, _, rfl, _, _, _, rfl, (.inl (O81.at 1 rfl)), hl79.len, _, _, rfl, rfl, c92, _, _, _, _, _, rfl, rfl, (O81.at 1 rfl), c96, c97, (by rw [hl79.len]; exact e95), e100, ?_⟩
      obtain rfl := R.int_ r101
      have O103 := O81.set 1 (.lst (w78.eraseIdx j93)) rfl
      have hl104 : RL (a := Int) F75 (w78.eraseIdx j93) (st76.eraseIdx j93) := RL.erase j93 hl79
      refine ⟨_, (O103.at 0 rfl), (comp_lenR la74 hi70 (by rw [Int.sub_zero]) c64), ?_⟩
      exact ⟨F75, st76.eraseIdx j93, acc72 ++ [y94], wa73 ++ [V.int y94], (w78.eraseIdx j93), S77, O103.set 0 (.lst (wa73 ++ [V.int y94])) rfl, RL.snoc hl80 R.int, hl104, by rw [List.length_append]; exact Nat.succ_le_succ la74, hk⟩
    rintro H106 ⟨F107, st108, acc109, wa110, w116, S111, O112, hl113, hl117, la114, hL115⟩
    rw [rangeL_end0] at hL115
    have hk := hLd63 _ _ hL115
    have f_script := S111.seq f_script
    have h25 := h25.mono S111
    have h50 := h50.mono S111
    obtain ⟨F119, O120, S121, h122⟩ := O112.frzE 0 rfl z105
    have f_script := S121.seq f_script
    have h25 := h25.mono S121
    have h50 := h50.mono S121
    have hl117 := hl117.mono S121
    have hl113 := hl113.mono S121
    have h123 := R.lst (a := Int) h122 hl113
    refine ⟨[some (V.ref a_script), some (V.int x_many), some (V.int x_least), some (V.ref p12), some (V.ref p37), some (V.ref p53), some (V.ref p65), none, none, none, none, none, none], rfl, _, rfl, _, _, _, _, rfl, O120.pre0, f_script, wp_call hk (fun r124 er125 hk F126 H127 g128 => ?_) (fun n hn C H1 hC kp => hn C H1 hC (O120.kp0 kp))⟩
    have O129 := O120.call0 g128
    have S_ := g128.f
    have f_script := S_.seq f_script
    have h25 := h25.mono S_
    have h50 := h50.mono S_
    have hl117 := hl117.mono S_
    have h123 := h123.mono S_
    obtain ⟨c130, hk⟩ := wp_chk hk
    obtain ⟨c131, hk⟩ := wp_chk hk
    refine ⟨_, _, rfl, rfl, c130, _, _, rfl, rfl, c131, [some (V.ref a_script), some (V.int x_many), some (V.int x_least), some (V.ref p12), some (V.ref p37), some (V.ref p53), some (V.ref p65), some (V.int ((r124 / (512 : Int)) % (4 : Int))), none, none, none, none, none], rfl, (by show 0 ≤ sizeLine; decide), fun p133 hp134 => ?_⟩
    have hl136 : RL (a := (T3 Int Int Int)) F126 ([]) ([] : List (T3 Int Int Int)) := RL.nil
    have z137 := O129.was hp134
    have O135 := O129.new (o := .lst ([])) hp134
    refine ⟨[some (V.ref a_script), some (V.int x_many), some (V.int x_least), some (V.ref p12), some (V.ref p37), some (V.ref p53), some (V.ref p65), some (V.int ((r124 / (512 : Int)) % (4 : Int))), some (V.ref p133), none, none, none, none], rfl, _, rfl, _, _, _, _, rfl, O135.pre0, f_script, wp_call hk (fun r138 er139 hk F140 H141 g142 => ?_) (fun n hn C H1 hC kp => hn C H1 hC (O135.kp0 kp))⟩
    have O143 := O135.call0 g142
    have S_ := g142.f
    have f_script := S_.seq f_script
    have h25 := h25.mono S_
    have h50 := h50.mono S_
    have hl117 := hl117.mono S_
    have h123 := h123.mono S_
    have hl136 := hl136.mono S_
    refine ⟨_, rfl, _, _, _, _, rfl, O143.pre0, wp_call hk (fun r144 er145 hk F146 H147 g148 p149 w150 hn151 hf152 h153 hl154 => ?_) (fun n hn C H1 hC kp => hn C H1 hC (O143.kp0 kp))⟩
    have O155 := O143.call0 g148
    have S_ := g148.f
    have f_script := S_.seq f_script
    have h25 := h25.mono S_
    have h50 := h50.mono S_
    have hl117 := hl117.mono S_
    have h123 := h123.mono S_
    have hl136 := hl136.mono S_
    have O156 := O143.got O155 rfl hn151 hf152 h153
    have z157 := O143.was hn151
    obtain ⟨F158, O159, S160, h161⟩ := O156.frzE 0 rfl z157
    have f_script := S160.seq f_script
    have h25 := h25.mono S160
    have h50 := h50.mono S160
    have hl117 := hl117.mono S160
    have h123 := h123.mono S160
    have hl136 := hl136.mono S160
    have hl154 := hl154.mono S160
    have h162 := R.lst (a := Int) h161 hl154
    obtain ⟨p163, w164, e165, h166, hl167⟩ := R.lst_ h162
    cases e165
    obtain ⟨L169, hL170, hLs171, hLd172⟩ := loopN_L hk
    refine ⟨_, _, rfl, (SqLF O159.s h166), ?_⟩
    refine for_it (walk_enum (K := K) (xs := w164)) (fun i σ H_ => ∃ (F_ : Hp) (st : (List (T3 Int Int Int))) (w_0 : (List V)) (t_0 : Option V) (t_1 : Option V) (t_2 : Option V) (t_3 : Option V), σ = [some (V.ref a_script), some (V.int x_many), some (V.int x_least), some (V.ref p12), some (V.ref p37), some (V.ref p53), some (V.ref p65), some (V.int ((r124 / (512 : Int)) % (4 : Int))), some (V.ref p133), t_0, t_1, t_2, t_3] ∧ Same F158 F_ ∧ Ow _ F_ [(p133, .lst w_0), (p53, .lst w116)] H_ ∧ RL (a := (T3 Int Int Int)) F_ w_0 st ∧ L169 (List.drop i (enumL r144)) st) ⟨F158, ([] : List (T3 Int Int Int)), [], none, none, none, none, rfl, Same.refl _, O159, hl136, hL170⟩ (fun i_ σ_ H_ _ hp_ => ?_) ?_ ?_
    · obtain ⟨_, _, _, _, _, _, _, _, hS_, hO_, _⟩ := hp_
      exact SqLF hO_.s (hS_ _ _ h166)
    · rintro i173 _ sg175 H176 _ hi177 ⟨F186, st179, w180, t182, t183, t184, t185, rfl, S178, O187, hl181, hL170⟩ ⟨T188, x189, y190, rfl, hT191, rfl, hx192, hy193⟩
      have f_script := S178.seq f_script
      have h25 := h25.mono S178
      have h50 := h50.mono S178
      have hl117 := hl117.mono S178
      have h123 := h123.mono S178
      have h162 := h162.mono S178
      have h166 := S178 _ _ h166
      have hl167 := hl167.mono S178
      cases hx192
      obtain ⟨y194, e195, r196⟩ := RL.got hl167 hy193
      rw [enumL_get e195] at hL170
      have hk := hLs171 _ _ _ hL170
      obtain ⟨F197, O198, S199, h200⟩ := O187.putE hT191 (.tup [V.int (i173 : Int), y190])
      have f_script := S199.seq f_script
      have h25 := h25.mono S199
      have h50 := h50.mono S199
      have hl117 := hl117.mono S199
      have h123 := h123.mono S199
      have h162 := h162.mono S199
      have h166 := S199 _ _ h166
      have hl167 := hl167.mono S199
      have hl181 := hl181.mono S199
      have S178 := S178.trans S199
      have r196 := r196.mono S199
      obtain ⟨y168, he202⟩ : ∃ z_, z_ = ((i173 : Int), y194) := ⟨_, rfl⟩
      try rw [← he202] at hk
      have h201 : R (a := (Int × Int)) F197 (.ref T188) y168 := by rw [he202]; exact R.t2 h200 R.int r196
      obtain ⟨p203, v206, v207, e204, h205, r208, r209⟩ := R.t2_ h201
      cases e204
      obtain rfl := R.int_ r208
      obtain rfl := R.int_ r209
      obtain ⟨c210, hk⟩ := wp_chk hk
      obtain ⟨c211, hk⟩ := wp_chk hk
      obtain ⟨c212, hk⟩ := wp_chk hk
      refine ⟨_, _, rfl, (SqTF O198.s h205), rfl, _, _, rfl, _, _, rfl, rfl, _, rfl, _, _, rfl, rfl, c210, _, rfl, _, _, rfl, rfl, _, rfl, _, _, rfl, rfl, c211, _, rfl, _, _, rfl, rfl, (by decide), _, _, rfl, rfl, c212, _, _, rfl, rfl, (by show 4 ≤ sizeLine; decide), fun p213 hp214 => ?_⟩
      have hl220 : RL (a := Int) F197 ([V.int ((y168.2 % (9 : Int)) + x_least), V.int (y168.2 % (3 : Int)), V.int ((y168.2 * ((10 : Int) ^ Int.toNat (28 : Int))) + (1 : Int)), V.int (1 : Int)]) ([((y168.2 % (9 : Int)) + x_least), (y168.2 % (3 : Int)), ((y168.2 * ((10 : Int) ^ Int.toNat (28 : Int))) + (1 : Int)), (1 : Int)]) := RL.cons R.int (RL.cons R.int (RL.cons R.int (RL.cons R.int RL.nil)))
      obtain ⟨F215, O216, S217, h218⟩ := O198.putE hp214 (.lst ([V.int ((y168.2 % (9 : Int)) + x_least), V.int (y168.2 % (3 : Int)), V.int ((y168.2 * ((10 : Int) ^ Int.toNat (28 : Int))) + (1 : Int)), V.int (1 : Int)]))
      have f_script := S217.seq f_script
      have h25 := h25.mono S217
      have h50 := h50.mono S217
      have hl117 := hl117.mono S217
      have h123 := h123.mono S217
      have h162 := h162.mono S217
      have h166 := S217 _ _ h166
      have hl167 := hl167.mono S217
      have hl181 := hl181.mono S217
      have S178 := S178.trans S217
      have r196 := r196.mono S217
      have h201 := h201.mono S217
      have h205 := S217 _ _ h205
      have hl220 := hl220.mono S217
      have h219 := R.lst (a := Int) h218 hl220
      obtain ⟨p221, w222, e223, h224, hl225⟩ := R.lst_ h219
      cases e223
      obtain ⟨y226, e227, hk⟩ := wp_opt hk
      obtain ⟨w228, e229, r230⟩ := hl225.atI e227
      obtain rfl := R.int_ r230
      refine ⟨_, rfl, _, _, _, _, rfl, rfl, (SqLF O216.s h224), e229, [some (V.ref a_script), some (V.int x_many), some (V.int x_least), some (V.ref p12), some (V.ref p37), some (V.ref p53), some (V.ref p65), some (V.int ((r124 / (512 : Int)) % (4 : Int))), some (V.ref p133), some (V.int y168.1), some (V.int y168.2), some (V.int y226), t185], rfl, _, rfl, _, _, rfl, rfl, _, rfl, ?_⟩
      refine iteD (fun q231 => ?_) (fun q231 => ?_)
      · have hk := wp_if hk q231
        obtain ⟨p232, w233, e234, h235, hl236⟩ := R.lst_ h25
        cases e234
        obtain ⟨y237, e238, hk⟩ := wp_opt hk
        obtain ⟨w239, e240, r241⟩ := hl236.atI e238
        obtain rfl := R.int_ r241
        obtain ⟨c242, hk⟩ := wp_chk hk
        obtain ⟨p243, w244, e245, h246, hl247⟩ := R.lst_ h123
        cases e245
        obtain ⟨y248, e249, hk⟩ := wp_opt hk
        obtain ⟨w250, e251, r252⟩ := hl247.atI e249
        obtain rfl := R.int_ r252
        obtain ⟨p253, w254, e255, h256, hl257⟩ := R.lst_ h25
        cases e255
        obtain ⟨y258, e259, hk⟩ := wp_opt hk
        obtain ⟨w260, e261, r262⟩ := hl257.atI e259
        obtain rfl := R.int_ r262
        obtain ⟨c263, hk⟩ := wp_chk hk
        refine ⟨_, rfl, _, rfl, _, rfl, _, _, _, _, rfl, rfl, (SqLF O216.s h235), e240, _, rfl, _, _, rfl, rfl, c242, _, _, _, _, rfl, rfl, (SqLF O216.s h246), e251, [some (V.ref a_script), some (V.int x_many), some (V.int x_least), some (V.ref p12), some (V.ref p37), some (V.ref p53), some (V.ref p65), some (V.int ((r124 / (512 : Int)) % (4 : Int))), some (V.ref p133), some (V.int y168.1), some (V.int y168.2), some (V.int y226), some (V.int y248)], rfl, _, rfl, _, rfl, _, _, _, _, rfl, rfl, (SqLF O216.s h256), e261, _, _, rfl, rfl, c263, _, _, R.int, R.int, _, rfl, ?_⟩
        refine iteD (fun q264 => ?_) (fun q264 => ?_)
        · have hk := wp_if hk q264
          obtain ⟨p265, w266, e267, h268, hl269⟩ := R.lst_ h123
          cases e267
          obtain ⟨y270, e271, hk⟩ := wp_opt hk
          obtain ⟨w272, e273, r274⟩ := hl269.atI e271
          obtain rfl := R.int_ r274
          obtain ⟨p275, w276, e277, h278, hl279⟩ := R.lst_ h123
          cases e277
          obtain ⟨y280, e281, hk⟩ := wp_opt hk
          obtain ⟨w282, e283, r284⟩ := hl279.atI e281
          obtain rfl := R.int_ r284
          obtain ⟨p285, w286, e287, h288, hl289⟩ := R.lst_ h123
          cases e287
          obtain ⟨y290, e291, hk⟩ := wp_opt hk
          obtain ⟨w292, e293, r294⟩ := hl289.atI e291
          obtain rfl := R.int_ r294
          refine ⟨_, rfl, _, rfl, _, _, rfl, rfl, _, _, _, _, rfl, rfl, (SqLF O216.s h268), e273, [some (V.ref a_script), some (V.int x_many), some (V.int x_least), some (V.ref p12), some (V.ref p37), some (V.ref p53), some (V.ref p65), some (V.int ((r124 / (512 : Int)) % (4 : Int))), some (V.ref p133), some (V.int y168.1), some (V.int y168.2), some (V.int y226), some (V.int y270)], rfl, _, rfl, (.inl ⟨rfl, _, SqL.of (O216.at 0 rfl)⟩), _, rfl, _, rfl, _, _, _, _, rfl, rfl, (SqLF O216.s h278), e283, _, rfl, _, _, rfl, _, rfl, _, rfl, _, _, _, _, rfl, rfl, (SqLF O216.s h288), e293, _, rfl, _, _, rfl, _, rfl, (by show 3 ≤ sizeLine; decide), fun p295 hp296 => ?_⟩
          obtain ⟨F297, O298, S299, h300⟩ := O216.putE hp296 (.tup [V.int (if y270 < y280 then y270 else y280), V.int (if y270 > y290 then y270 else y290), V.int y226])
          have f_script := S299.seq f_script
          have h25 := h25.mono S299
          have h50 := h50.mono S299
          have hl117 := hl117.mono S299
          have h123 := h123.mono S299
          have h162 := h162.mono S299
          have h166 := S299 _ _ h166
          have hl167 := hl167.mono S299
          have hl181 := hl181.mono S299
          have S178 := S178.trans S299
          have r196 := r196.mono S299
          have h201 := h201.mono S299
          have h205 := S299 _ _ h205
          have h219 := h219.mono S299
          have h224 := S299 _ _ h224
          have hl225 := hl225.mono S299
          have h235 := S299 _ _ h235
          have hl236 := hl236.mono S299
          have h246 := S299 _ _ h246
          have hl247 := hl247.mono S299
          have h256 := S299 _ _ h256
          have hl257 := hl257.mono S299
          have h268 := S299 _ _ h268
          have hl269 := hl269.mono S299
          have h278 := S299 _ _ h278
          have hl279 := hl279.mono S299
          have h288 := S299 _ _ h288
          have hl289 := hl289.mono S299
          have h301 : R (a := (T3 Int Int Int)) F297 (.ref p295) (T3.mk (if y270 < y280 then y270 else y280) (if y270 > y290 then y270 else y290) y226) := R.t3 h300 R.int R.int R.int
          obtain ⟨c302, hk⟩ := wp_appL hk
          refine ⟨_, _, _, rfl, rfl, (O298.at 0 rfl), (by rw [hl181.len]; exact c302), ?_⟩
          have O304 := O298.set 0 (.lst (w180 ++ [V.ref p295])) rfl
          have hl305 : RL (a := (T3 Int Int Int)) F297 (w180 ++ [V.ref p295]) (st179 ++ [(T3.mk (if y270 < y280 then y270 else y280) (if y270 > y290 then y270 else y290) y226)]) := RL.snoc hl181 h301
          exact ⟨F297, (st179 ++ [(T3.mk (if y270 < y280 then y270 else y280) (if y270 > y290 then y270 else y290) y226)]), (w180 ++ [V.ref p295]), some (V.int y168.1), some (V.int y168.2), some (V.int y226), some (V.int y270), rfl, S178, O304, hl305, hk⟩
        · have hk := wp_el hk q264
          obtain ⟨p306, w307, e308, h309, hl310⟩ := R.lst_ h123
          cases e308
          obtain ⟨y311, e312, hk⟩ := wp_opt hk
          obtain ⟨w313, e314, r315⟩ := hl310.atI e312
          obtain rfl := R.int_ r315
          obtain ⟨p316, w317, e318, h319, hl320⟩ := R.lst_ h123
          cases e318
          obtain ⟨y321, e322, hk⟩ := wp_opt hk
          obtain ⟨w323, e324, r325⟩ := hl320.atI e322
          obtain rfl := R.int_ r325
          refine ⟨_, rfl, (.inl ⟨rfl, _, SqL.of (O216.at 0 rfl)⟩), _, rfl, _, rfl, _, _, _, _, rfl, rfl, (SqLF O216.s h309), e314, _, rfl, _, _, rfl, _, rfl, _, rfl, _, _, _, _, rfl, rfl, (SqLF O216.s h319), e324, _, rfl, _, _, rfl, _, rfl, (by show 3 ≤ sizeLine; decide), fun p326 hp327 => ?_⟩
          obtain ⟨F328, O329, S330, h331⟩ := O216.putE hp327 (.tup [V.int (if y248 < y311 then y248 else y311), V.int (if y248 > y321 then y248 else y321), V.int y226])
          have f_script := S330.seq f_script
          have h25 := h25.mono S330
          have h50 := h50.mono S330
          have hl117 := hl117.mono S330
          have h123 := h123.mono S330
          have h162 := h162.mono S330
          have h166 := S330 _ _ h166
          have hl167 := hl167.mono S330
          have hl181 := hl181.mono S330
          have S178 := S178.trans S330
          have r196 := r196.mono S330
          have h201 := h201.mono S330
          have h205 := S330 _ _ h205
          have h219 := h219.mono S330
          have h224 := S330 _ _ h224
          have hl225 := hl225.mono S330
          have h235 := S330 _ _ h235
          have hl236 := hl236.mono S330
          have h246 := S330 _ _ h246
          have hl247 := hl247.mono S330
          have h256 := S330 _ _ h256
          have hl257 := hl257.mono S330
          have h309 := S330 _ _ h309
          have hl310 := hl310.mono S330
          have h319 := S330 _ _ h319
          have hl320 := hl320.mono S330
          have h332 : R (a := (T3 Int Int Int)) F328 (.ref p326) (T3.mk (if y248 < y311 then y248 else y311) (if y248 > y321 then y248 else y321) y226) := R.t3 h331 R.int R.int R.int
          obtain ⟨c333, hk⟩ := wp_appL hk
          refine ⟨_, _, _, rfl, rfl, (O329.at 0 rfl), (by rw [hl181.len]; exact c333), ?_⟩
          have O335 := O329.set 0 (.lst (w180 ++ [V.ref p326])) rfl
          have hl336 : RL (a := (T3 Int Int Int)) F328 (w180 ++ [V.ref p326]) (st179 ++ [(T3.mk (if y248 < y311 then y248 else y311) (if y248 > y321 then y248 else y321) y226)]) := RL.snoc hl181 h332
          exact ⟨F328, (st179 ++ [(T3.mk (if y248 < y311 then y248 else y311) (if y248 > y321 then y248 else y321) y226)]), (w180 ++ [V.ref p326]), some (V.int y168.1), some (V.int y168.2), some (V.int y226), some (V.int y248), rfl, S178, O335, hl336, hk⟩
      · have hk := wp_el hk q231
        exact ⟨F215, st179, w180, some (V.int y168.1), some (V.int y168.2), some (V.int y226), t185, rfl, S178, O216, hl181, hk⟩
    rintro sg337 H338 ⟨F348, st340, w342, t344, t345, t346, t347, rfl, S339, O349, hl343, hL341⟩
    rw [enumL_end hl167.len] at hL341
    have hk := hLd172 _ hL341
    have f_script := S339.seq f_script
    have h25 := h25.mono S339
    have h50 := h50.mono S339
    have hl117 := hl117.mono S339
    have h123 := h123.mono S339
    have h162 := h162.mono S339
    have h166 := S339 _ _ h166
    have hl167 := hl167.mono S339
    refine ⟨_, rfl, _, _, _, rfl, (O349.at 0 rfl), (RL.mono hl343 O349.s), fun p351 hp352 => ?_⟩
    have hl354 : RL (a := (T3 Int Int Int)) F348 (sortV w342 st340) (sortT st340) := (RL.sorted hl343)
    have z355 := O349.was hp352
    have O353 := O349.new (o := .lst (sortV w342 st340)) hp352
    exact hk _ _  O353.g  _ _ z355 (O353.cf _ (List.mem_of_getElem? (i := 0) rfl)) (O353.at 0 rfl) hl354
abbrev s_law_tree : Stmt := top 47
theorem sc_law_tree : FnScope ["script", "most", "least", "first", "many"] ["script", "most", "least"] (defScope s_law_tree) := ⟨rfl, rfl, rfl, by decide +kernel, rfl, by decide +kernel, by decide +kernel⟩
def m_law_tree (x_script : (List Int)) (x_most : Int) (x_least : Int) : M (((List Int) × (List (T3 Int Int Int)))) :=
m_law_cell_at x_script (0 : Int) >>= fun r1 =>
chk (0 < (if (9 : Int) < x_most then (9 : Int) else x_most)) >>= fun _ =>
if (9 : Int) < x_most then (
chk (CDivW r1 (16 : Int)) >>= fun _ =>
chk (0 < (8 : Int)) >>= fun _ =>
if ((r1 / (16 : Int)) % (8 : Int)) = (3 : Int) then (
chk (CDivW r1 (4096 : Int)) >>= fun _ =>
chk (0 < (x_most - (9 : Int))) >>= fun _ =>
chk (CDivW r1 (128 : Int)) >>= fun _ =>
chk (0 < (2 : Int)) >>= fun _ =>
opt (atI ([x_most, ((10 : Int) + ((r1 / (4096 : Int)) % (x_most - (9 : Int))))]) ((r1 / (128 : Int)) % (2 : Int))) >>= fun y29 =>
m_law_worths x_script y29 >>= fun r34 =>
m_law_ties x_script y29 x_least >>= fun r53 =>
.ok (r34, r53))
else (
m_law_worths x_script ((1 : Int) + (r1 % (if (9 : Int) < x_most then (9 : Int) else x_most))) >>= fun r79 =>
m_law_ties x_script ((1 : Int) + (r1 % (if (9 : Int) < x_most then (9 : Int) else x_most))) x_least >>= fun r98 =>
.ok (r79, r98)))
else (
m_law_worths x_script ((1 : Int) + (r1 % (if (9 : Int) < x_most then (9 : Int) else x_most))) >>= fun r124 =>
m_law_ties x_script ((1 : Int) + (r1 % (if (9 : Int) < x_most then (9 : Int) else x_most))) x_least >>= fun r143 =>
.ok (r124, r143))
def sp_law_tree (K : PySem.W.Frag) (mg : Str → Option Value) : Sp := fun vs H Q E => ∃ (F : Hp) (a_script : Addr) (x_script : (List Int)) (x_most : Int) (x_least : Int), vs = [.ref a_script, V.int x_most, V.int x_least] ∧ Pre F [] H ∧ SqL K F a_script (x_script.map V.int) ∧
  wp (m_law_tree x_script x_most x_least) (fun r => ∀ (F' H' : Hp), Gr [] F H F' H' → ∀ v : V, R (a := ((List Int) × (List (T3 Int Int Int)))) F' v r → Q v H')
  (fun n => ∀ (C : Addr) (H' : Hp), mg (Str.ofString n) = some (.ref C) → Kp [] H H' → E (.ref C) none H')
set_option maxHeartbeats 20000000 in
theorem ok_law_tree (nb : Nb mg) (C_law_cell_at : Ca P w K mg base "_law_cell_at" 1 ["script", "k"] (sp_law_cell_at K mg)) (C_law_ties : Ca P w K mg base "_law_ties" 2 ["script", "many", "least"] (sp_law_ties K mg)) (C_law_worths : Ca P w K mg base "_law_worths" 2 ["script", "many"] (sp_law_worths K mg)) (D : Df K mg "_law_tree" "_law_tree" s_law_tree ["script", "most", "least"]) : Ca P w K mg base "_law_tree" 3 ["script", "most", "least"] (sp_law_tree K mg) := by
  obtain ⟨fa_law_cell_at, fd_law_cell_at, G_law_cell_at, M_law_cell_at, K_law_cell_at, B_law_cell_at⟩ := C_law_cell_at.ex
  obtain ⟨fa_law_ties, fd_law_ties, G_law_ties, M_law_ties, K_law_ties, B_law_ties⟩ := C_law_ties.ex
  obtain ⟨fa_law_worths, fd_law_worths, G_law_worths, M_law_worths, K_law_worths, B_law_worths⟩ := C_law_worths.ex
  refine Ca.mk' D sc_law_tree (fun vs H Q E h => ?_) (fun q_ f_ cdv A outer s H vs Q E hr h => ?_)
  · obtain ⟨F, _, _, _, _, rfl, _⟩ := h
    rfl
  · obtain ⟨F, a_script, x_script, x_most, x_least, rfl, P0, f_script, hk⟩ := h
    have nd := sc_law_tree.nd
    have hu64 := hr.units
    have hu128 := hu128_of hr
    have O := P0.start
    refine ⟨_, (pss_cons (ps_toN (ps_set (i := 3) nd rfl (Or.inl rfl) (pe_call G_law_cell_at (hr.mono (by decide)) rfl M_law_cell_at K_law_cell_at B_law_cell_at .nil (passes_call (takes_of rfl rfl rfl rfl) fun _ _ _ _ h => h) (pa_cons (pv 0) (pa_cons pe_int pa_nil)))))
  (pss_cons (ps_toN (ps_set (i := 4) nd rfl (Or.inl rfl) (pe_op op_add pe_int (pe_op op_mod (pv 3) (pe_callB (call_min2 rfl) (by rfl) nb.b_min (by decide +kernel) (pa_cons (pv 1) (pa_cons pe_int pa_nil)))))))
  (pss_cons (ps_if (PW.pt (pw_and (pt_cmpR op_gt (pv 1) pe_int (nomark _)) (pw_and1 (pt_cmpR (op_eqT Int hu64) (pe_op op_mod (pe_op op_fdivW (pv 3) pe_int) pe_int) pe_int (nomark _))))) (pss_one (ps_toN (ps_set (i := 4) nd rfl (Or.inl rfl) (pe_ix (ixListK (K := K) rfl) (pe_lst (pa_cons (pv 1) (pa_cons (pe_op op_add pe_int (pe_op op_mod (pe_op op_fdivW (pv 3) pe_int) (pe_op op_sub (pv 1) pe_int))) pa_nil))) (pe_op op_mod (pe_op op_fdivW (pv 3) pe_int) pe_int) (fun _ _ => rfl))))) pss_nil)
  (pss_one (ps_ret (pe_tup (pa_cons (pe_call G_law_worths (hr.mono (by decide)) rfl M_law_worths K_law_worths B_law_worths .nil (passes_call (takes_of rfl rfl rfl rfl) fun _ _ _ _ h => h) (pa_cons (pv 0) (pa_cons (pv 4) pa_nil))) (pa_cons (pe_call G_law_ties (hr.mono (by decide)) rfl M_law_ties K_law_ties B_law_ties .nil (passes_call (takes_of rfl rfl rfl rfl) fun _ _ _ _ h => h) (pa_cons (pv 0) (pa_cons (pv 4) (pa_cons (pv 2) pa_nil)))) pa_nil)))))))), ?_⟩
    refine ⟨_, rfl, _, _, _, _, rfl, O.pre0, f_script, wp_call hk (fun r1 er2 hk F3 H4 g5 => ?_) (fun n hn C H1 hC kp => hn C H1 hC (O.kp0 kp))⟩
    have O6 := O.call0 g5
    have S_ := g5.f
    have f_script := S_.seq f_script
    obtain ⟨c7, hk⟩ := wp_chk hk
    refine ⟨[some (V.ref a_script), some (V.int x_most), some (V.int x_least), some (V.int r1), none], rfl, _, rfl, _, rfl, _, _, rfl, _, _, rfl, rfl, c7, _, _, rfl, rfl, [some (V.ref a_script), some (V.int x_most), some (V.int x_least), some (V.int r1), some (V.int ((1 : Int) + (r1 % (if (9 : Int) < x_most then (9 : Int) else x_most))))], rfl, _, rfl, _, _, rfl, rfl, _, rfl, ?_⟩
    refine iteD (fun q8 => ?_) (fun q8 => ?_)
    · have hk := wp_if hk q8
      obtain ⟨c9, hk⟩ := wp_chk hk
      obtain ⟨c10, hk⟩ := wp_chk hk
      refine ⟨_, rfl, _, _, rfl, rfl, c9, _, _, rfl, rfl, c10, _, _, R.int, R.int, _, rfl, ?_⟩
      refine iteD (fun q11 => ?_) (fun q11 => ?_)
      · have hk := wp_if hk q11
        obtain ⟨c12, hk⟩ := wp_chk hk
        obtain ⟨c13, hk⟩ := wp_chk hk
        refine ⟨_, rfl, _, rfl, _, _, rfl, rfl, c12, _, rfl, _, _, rfl, rfl, _, _, rfl, rfl, c13, _, _, rfl, rfl, (by show 2 ≤ sizeLine; decide), fun p14 hp15 => ?_⟩
        have hl21 : RL (a := Int) F3 ([V.int x_most, V.int ((10 : Int) + ((r1 / (4096 : Int)) % (x_most - (9 : Int))))]) ([x_most, ((10 : Int) + ((r1 / (4096 : Int)) % (x_most - (9 : Int))))]) := RL.cons R.int (RL.cons R.int RL.nil)
        obtain ⟨F16, O17, S18, h19⟩ := O6.putE hp15 (.lst ([V.int x_most, V.int ((10 : Int) + ((r1 / (4096 : Int)) % (x_most - (9 : Int))))]))
        have f_script := S18.seq f_script
        have hl21 := hl21.mono S18
        have h20 := R.lst (a := Int) h19 hl21
        obtain ⟨c22, hk⟩ := wp_chk hk
        obtain ⟨c23, hk⟩ := wp_chk hk
        obtain ⟨p24, w25, e26, h27, hl28⟩ := R.lst_ h20
        cases e26
        obtain ⟨y29, e30, hk⟩ := wp_opt hk
        obtain ⟨w31, e32, r33⟩ := hl28.atI e30
        obtain rfl := R.int_ r33
        refine ⟨_, rfl, _, _, rfl, rfl, c22, _, _, rfl, rfl, c23, _, _, _, _, rfl, rfl, (SqLF O17.s h27), e32, [some (V.ref a_script), some (V.int x_most), some (V.int x_least), some (V.int r1), some (V.int y29)], rfl, _, rfl, _, rfl, _, _, _, _, rfl, O17.pre0, f_script, wp_call hk (fun r34 er35 hk F36 H37 g38 p39 w40 hn41 hf42 h43 hl44 => ?_) (fun n hn C H1 hC kp => hn C H1 hC (O17.kp0 kp))⟩
        have O45 := O17.call0 g38
        have S_ := g38.f
        have f_script := S_.seq f_script
        have h20 := h20.mono S_
        have h27 := S_ _ _ h27
        have hl28 := hl28.mono S_
        have O46 := O17.got O45 rfl hn41 hf42 h43
        have z47 := O17.was hn41
        obtain ⟨F48, O49, S50, h51⟩ := O46.frzE 0 rfl z47
        have f_script := S50.seq f_script
        have h20 := h20.mono S50
        have h27 := S50 _ _ h27
        have hl28 := hl28.mono S50
        have hl44 := hl44.mono S50
        have h52 := R.lst (a := Int) h51 hl44
        refine ⟨_, rfl, _, rfl, _, rfl, _, _, _, _, _, rfl, O49.pre0, f_script, wp_call hk (fun r53 er54 hk F55 H56 g57 p58 w59 hn60 hf61 h62 hl63 => ?_) (fun n hn C H1 hC kp => hn C H1 hC (O49.kp0 kp))⟩
        have O64 := O49.call0 g57
        have S_ := g57.f
        have f_script := S_.seq f_script
        have h20 := h20.mono S_
        have h27 := S_ _ _ h27
        have hl28 := hl28.mono S_
        have h52 := h52.mono S_
        have O65 := O49.got O64 rfl hn60 hf61 h62
        have z66 := O49.was hn60
        obtain ⟨F67, O68, S69, h70⟩ := O65.frzE 0 rfl z66
        have f_script := S69.seq f_script
        have h20 := h20.mono S69
        have h27 := S69 _ _ h27
        have hl28 := hl28.mono S69
        have h52 := h52.mono S69
        have hl63 := hl63.mono S69
        have h71 := R.lst (a := (T3 Int Int Int)) h70 hl63
        refine ⟨(by show 2 ≤ sizeLine; decide), fun p72 hp73 => ?_⟩
        obtain ⟨F74, O75, S76, h77⟩ := O68.putE hp73 (.tup [V.ref p39, V.ref p58])
        have f_script := S76.seq f_script
        have h20 := h20.mono S76
        have h27 := S76 _ _ h27
        have hl28 := hl28.mono S76
        have h52 := h52.mono S76
        have h71 := h71.mono S76
        have h78 : R (a := ((List Int) × (List (T3 Int Int Int)))) F74 (.ref p72) (r34, r53) := R.t2 h77 h52 h71
        exact hk _ _  O75.g  _ h78
      · have hk := wp_el hk q11
        refine ⟨_, rfl, _, rfl, _, _, _, _, rfl, O6.pre0, f_script, wp_call hk (fun r79 er80 hk F81 H82 g83 p84 w85 hn86 hf87 h88 hl89 => ?_) (fun n hn C H1 hC kp => hn C H1 hC (O6.kp0 kp))⟩
        have O90 := O6.call0 g83
        have S_ := g83.f
        have f_script := S_.seq f_script
        have O91 := O6.got O90 rfl hn86 hf87 h88
        have z92 := O6.was hn86
        obtain ⟨F93, O94, S95, h96⟩ := O91.frzE 0 rfl z92
        have f_script := S95.seq f_script
        have hl89 := hl89.mono S95
        have h97 := R.lst (a := Int) h96 hl89
        refine ⟨_, rfl, _, rfl, _, rfl, _, _, _, _, _, rfl, O94.pre0, f_script, wp_call hk (fun r98 er99 hk F100 H101 g102 p103 w104 hn105 hf106 h107 hl108 => ?_) (fun n hn C H1 hC kp => hn C H1 hC (O94.kp0 kp))⟩
        have O109 := O94.call0 g102
        have S_ := g102.f
        have f_script := S_.seq f_script
        have h97 := h97.mono S_
        have O110 := O94.got O109 rfl hn105 hf106 h107
        have z111 := O94.was hn105
        obtain ⟨F112, O113, S114, h115⟩ := O110.frzE 0 rfl z111
        have f_script := S114.seq f_script
        have h97 := h97.mono S114
        have hl108 := hl108.mono S114
        have h116 := R.lst (a := (T3 Int Int Int)) h115 hl108
        refine ⟨(by show 2 ≤ sizeLine; decide), fun p117 hp118 => ?_⟩
        obtain ⟨F119, O120, S121, h122⟩ := O113.putE hp118 (.tup [V.ref p84, V.ref p103])
        have f_script := S121.seq f_script
        have h97 := h97.mono S121
        have h116 := h116.mono S121
        have h123 : R (a := ((List Int) × (List (T3 Int Int Int)))) F119 (.ref p117) (r79, r98) := R.t2 h122 h97 h116
        exact hk _ _  O120.g  _ h123
    · have hk := wp_el hk q8
      refine iteF ?_
      refine ⟨_, rfl, _, rfl, _, _, _, _, rfl, O6.pre0, f_script, wp_call hk (fun r124 er125 hk F126 H127 g128 p129 w130 hn131 hf132 h133 hl134 => ?_) (fun n hn C H1 hC kp => hn C H1 hC (O6.kp0 kp))⟩
      have O135 := O6.call0 g128
      have S_ := g128.f
      have f_script := S_.seq f_script
      have O136 := O6.got O135 rfl hn131 hf132 h133
      have z137 := O6.was hn131
      obtain ⟨F138, O139, S140, h141⟩ := O136.frzE 0 rfl z137
      have f_script := S140.seq f_script
      have hl134 := hl134.mono S140
      have h142 := R.lst (a := Int) h141 hl134
      refine ⟨_, rfl, _, rfl, _, rfl, _, _, _, _, _, rfl, O139.pre0, f_script, wp_call hk (fun r143 er144 hk F145 H146 g147 p148 w149 hn150 hf151 h152 hl153 => ?_) (fun n hn C H1 hC kp => hn C H1 hC (O139.kp0 kp))⟩
      have O154 := O139.call0 g147
      have S_ := g147.f
      have f_script := S_.seq f_script
      have h142 := h142.mono S_
      have O155 := O139.got O154 rfl hn150 hf151 h152
      have z156 := O139.was hn150
      obtain ⟨F157, O158, S159, h160⟩ := O155.frzE 0 rfl z156
      have f_script := S159.seq f_script
      have h142 := h142.mono S159
      have hl153 := hl153.mono S159
      have h161 := R.lst (a := (T3 Int Int Int)) h160 hl153
      refine ⟨(by show 2 ≤ sizeLine; decide), fun p162 hp163 => ?_⟩
      obtain ⟨F164, O165, S166, h167⟩ := O158.putE hp163 (.tup [V.ref p129, V.ref p148])
      have f_script := S166.seq f_script
      have h142 := h142.mono S166
      have h161 := h161.mono S166
      have h168 : R (a := ((List Int) × (List (T3 Int Int Int)))) F164 (.ref p162) (r124, r143) := R.t2 h167 h142 h161
      exact hk _ _  O165.g  _ h168
abbrev s_law_beside : Stmt := top 49
theorem sc_law_beside : FnScope ["tree", "found", "a", "b", "length", "worth"] ["tree"] (defScope s_law_beside) := ⟨rfl, rfl, rfl, by decide +kernel, rfl, by decide +kernel, by decide +kernel⟩
def m_law_beside (x_tree : ((List Int) × (List (T3 Int Int Int)))) : M ((List (List (Int × Int)))) :=
compS (fun (y14 : Int) (st31 : Unit) =>
.ok (some ([] : List (Int × Int)), ())) x_tree.1 () >>= fun q55 =>
loopN (fun (y61 : (T3 Int Int Int)) (st72 : (List (List (Int × Int)))) =>
opt (atI st72 y61.a) >>= fun y92 =>
appL y92 (y61.b, y61.c) >>= fun _ =>
setI st72 y61.a (y92 ++ [(y61.b, y61.c)]) >>= fun z113 =>
opt (atI z113 y61.b) >>= fun y114 =>
appL y114 (y61.a, y61.c) >>= fun _ =>
setI z113 y61.b (y114 ++ [(y61.a, y61.c)]) >>= fun z135 =>
.ok z135) x_tree.2 q55.1 >>= fun st139 =>
.ok st139
def sp_law_beside (mg : Str → Option Value) : Sp := fun vs H Q E => ∃ (F : Hp) (v_tree : V) (x_tree : ((List Int) × (List (T3 Int Int Int)))), vs = [v_tree] ∧ Pre F [] H ∧ R (a := ((List Int) × (List (T3 Int Int Int)))) F v_tree x_tree ∧
  wp (m_law_beside x_tree) (fun r => ∀ (F' H' : Hp), Gr [] F H F' H' → ∀ (p : Addr) (ps : List LCV), (∀ c ∈ llC p ps, H c.1 = none) → (∀ c ∈ llC p ps, F' c.1 = none ∧ H' c.1 = some c.2) → ((llC p ps).map (·.1)).Nodup → LLR (a := (Int × Int)) F' ps r → Q (.ref p) H')
  (fun n => ∀ (C : Addr) (H' : Hp), mg (Str.ofString n) = some (.ref C) → Kp [] H H' → E (.ref C) none H')
set_option maxHeartbeats 20000000 in
theorem ok_law_beside (nb : Nb mg) (D : Df K mg "_law_beside" "_law_beside" s_law_beside ["tree"]) : Ca P w K mg base "_law_beside" 1 ["tree"] (sp_law_beside mg) := by
  refine Ca.mk' D sc_law_beside (fun vs H Q E h => ?_) (fun q_ f_ cdv A outer s H vs Q E hr h => ?_)
  · obtain ⟨F, _, _, rfl, _⟩ := h
    rfl
  · obtain ⟨F, v_tree, x_tree, rfl, P0, f_tree, hk⟩ := h
    have nd := sc_law_beside.nd
    have hu64 := hr.units
    have hu128 := hu128_of hr
    have O := P0.start
    refine ⟨_, (pss_cons (ps_toN (ps_setLc (i := 1) (own := [("worth", 5)]) (g := gName 5) (tt := _) rfl nd rfl rfl (sw_true rfl rfl rfl (by decide +kernel)) (piListK (K := K) rfl (pe_ix (ixTupK (K := K) rfl) (pv 0) pe_int (fun _ _ => rfl))) (blkOk_by (own := [("worth", 5)]) (N := ["tree", "found", "a", "b", "length", "worth"]) (sc := defScope s_law_beside) (by decide +kernel)) (fun _ _ _ _ _ => (pg_name (i := 5) nd rfl (Or.inl rfl))) (fun _ _ _ _ _ => pts_nil) (fun _ _ _ _ _ => (pe_lst pa_nil))))
  (pss_cons (ps_for (passes_of rfl) rfl (piListK (K := K) rfl (pe_ix (ixTupK (K := K) rfl) (pv 0) pe_int (fun _ _ => rfl))) (pg_tup rfl (pgs_cons (pg_name (i := 2) nd rfl (Or.inl rfl)) (pgs_cons (pg_name (i := 3) nd rfl (Or.inl rfl)) (pgs_cons (pg_name (i := 4) nd rfl (Or.inl rfl)) pgs_nil)))) (pss_cons (ps_expr (bmK (K := K) rfl (pe_bm PySem.F.plainAttrs_list PySem.F.slot_list_append PySem.F.type_list_append mt_append (pe_ix (ixListK (K := K) rfl) (pv 1) (pv 2) (fun _ _ => rfl)) (pa_cons (pe_tup (pa_cons (pv 3) (pa_cons (pv 4) pa_nil))) pa_nil))))
  (pss_one (ps_expr (bmK (K := K) rfl (pe_bm PySem.F.plainAttrs_list PySem.F.slot_list_append PySem.F.type_list_append mt_append (pe_ix (ixListK (K := K) rfl) (pv 1) (pv 3) (fun _ _ => rfl)) (pa_cons (pe_tup (pa_cons (pv 2) (pa_cons (pv 4) pa_nil))) pa_nil)))))))
  (pss_one (ps_ret (pv 1))))), ?_⟩
    obtain ⟨p2, v5, v6, e3, h4, r7, r8⟩ := R.t2_ f_tree
    cases e3
    obtain ⟨p9, w10, e11, h12, hl13⟩ := R.lst_ r7
    cases e11
    obtain ⟨c19, L15, hL16, hLs17, hLd18⟩ := compS_L hk
    refine ⟨_, rfl, _, _, _, _, rfl, rfl, (SqTF O.s h4), rfl, _, rfl, ⟨_, (SqLF O.s h12)⟩, fun p20 hp21 => ?_⟩
    have z43 := O.was hp21
    refine lc_list (K := K) (xs := w10) (fun i H_ => ∃ (F_ : Hp) (st : Unit) (acc : List (List (Int × Int))) (ps_ : List LCV), Same F F_ ∧ Ow _ F_ ([] ++ llC p20 ps_) H_ ∧ LLR F_ ps_ acc ∧ (ps_.map fun c => V.ref c.1).length ≤ i ∧ (∀ c ∈ ps_, H c.1 = none) ∧ L15 (List.drop i x_tree.1) acc st) ⟨F, (), [], [], Same.refl _, Ow.llNew (S := []) (O.new hp21), .nil, Nat.zero_le _, (fun _ z => nomatch z), hL16⟩ (fun i_ H_ _ hp_ => ?_) ?_ ?_
    · obtain ⟨_, _, _, _, hS_, hO_, _⟩ := hp_
      exact SqLF hO_.s (hS_ _ _ h12)
    · rintro i22 x23 H24 hi25 ⟨F30, st31, acc27, wa28, S32, O34, hl33, la29, zs35, hL16⟩
      have f_tree := f_tree.mono S32
      have h4 := S32 _ _ h4
      have r7 := r7.mono S32
      have r8 := r8.mono S32
      have h12 := S32 _ _ h12
      have hl13 := hl13.mono S32
      obtain ⟨y14, e36, r37⟩ := RL.got hl13 hi25
      rw [drop_at e36] at hL16
      have hk := hLs17 _ _ _ _ hL16
      obtain rfl := R.int_ r37
      refine ⟨rfl, ?_⟩
      refine ⟨(by show 0 ≤ sizeLine; decide), fun p38 hp39 => ?_⟩
      have hl41 : RL (a := (Int × Int)) F30 ([]) ([] : List (Int × Int)) := RL.nil
      have z42 := O34.was hp39
      have O40 := O34.new (o := .lst ([])) hp39
      refine ⟨_, (Ow.llTop (S := [(p38, .lst ([]))]) (p := p20) (ps := wa28) O40), (comp_len la29 hi25 hl13.len c19), ?_⟩
      exact ⟨F30, (), acc27 ++ [([] : List (Int × Int))], wa28 ++ [(p38, [])], S32, Ow.llPush (S := []) (p := p20) (ps := wa28) O40, LLR.snoc hl33 hl41 _, by rw [List.map_append, List.length_append]; exact Nat.succ_le_succ la29, zs_snoc zs35 z42, hk⟩
    rintro H44 ⟨F45, st46, acc47, wa48, S49, O50, hl51, la52, zs54, hL53⟩
    rw [drop_end hl13.len] at hL53
    have hk := hLd18 _ _ hL53
    have f_tree := f_tree.mono S49
    have h4 := S49 _ _ h4
    have r7 := r7.mono S49
    have r8 := r8.mono S49
    have h12 := S49 _ _ h12
    have hl13 := hl13.mono S49
    obtain ⟨p56, w57, e58, h59, hl60⟩ := R.lst_ r8
    cases e58
    obtain ⟨L62, hL63, hLs64, hLd65⟩ := loopN_L hk
    refine ⟨[some (V.ref p2), some (V.ref p20), none, none, none, none], rfl, _, rfl, _, _, _, _, rfl, rfl, (SqTF O50.s h4), rfl, _, rfl, ⟨_, (SqLF O50.s h59)⟩, ?_⟩
    refine for_list (K := K) (xs := w57) (fun i σ H_ => ∃ (F_ : Hp) (st : (List (List (Int × Int)))) (ps_l : List LCV) (t_0 : Option V) (t_1 : Option V) (t_2 : Option V), σ = [some (V.ref p2), some (V.ref p20), t_0, t_1, t_2, none] ∧ Same F45 F_ ∧ Ow _ F_ (([] : List (Addr × HO)) ++ llC p20 ps_l) H_ ∧ LLR (a := (Int × Int)) F_ ps_l st ∧ (∀ c_ ∈ ps_l, H c_.1 = none) ∧ L62 (List.drop i x_tree.2) st) ⟨F45, acc47, wa48, none, none, none, rfl, Same.refl _, O50, hl51, zs54, hL63⟩ (fun i_ σ_ H_ _ hp_ => ?_) ?_ ?_
    · obtain ⟨_, _, _, _, _, _, _, hS_, hO_, _⟩ := hp_
      exact SqLF hO_.s (hS_ _ _ h59)
    · rintro i66 x67 sg68 H69 hi70 ⟨F79, st72, ps73, t76, t77, t78, rfl, S71, O80, hl74, zs75, hL63⟩
      have f_tree := f_tree.mono S71
      have h4 := S71 _ _ h4
      have r7 := r7.mono S71
      have r8 := r8.mono S71
      have h12 := S71 _ _ h12
      have hl13 := hl13.mono S71
      have h59 := S71 _ _ h59
      have hl60 := hl60.mono S71
      obtain ⟨y61, e81, r82⟩ := RL.got hl60 hi70
      rw [drop_at e81] at hL63
      have hk := hLs64 _ _ _ hL63
      obtain ⟨p83, v86, v87, v88, e84, h85, r89, r90, r91⟩ := R.t3_ r82
      cases e84
      obtain rfl := R.int_ r89
      obtain rfl := R.int_ r90
      obtain rfl := R.int_ r91
      obtain ⟨y92, e93, hk⟩ := wp_opt hk
      obtain ⟨j94, c95, e96, hj97, hl98, hx99⟩ := LLR.atI hl74 e93
      refine ⟨_, _, rfl, (SqTF O80.s h85), rfl, _, _, rfl, _, _, rfl, _, _, rfl, rfl, _, rfl, _, rfl, _, _, _, _, rfl, rfl, (SqL.of (Ow.llTop (S := []) (p := p20) (ps := ps73) O80)), e96, (.inl ⟨rfl, _, SqL.of (Ow.llAt (S := []) (p := p20) (ps := ps73) O80 hj97)⟩), _, rfl, _, rfl, (by show 2 ≤ sizeLine; decide), fun p100 hp101 => ?_⟩
      obtain ⟨F102, O103, S104, h105⟩ := O80.putE hp101 (.tup [V.int y61.b, V.int y61.c])
      have f_tree := f_tree.mono S104
      have h4 := S104 _ _ h4
      have r7 := r7.mono S104
      have r8 := r8.mono S104
      have h12 := S104 _ _ h12
      have hl13 := hl13.mono S104
      have h59 := S104 _ _ h59
      have hl60 := hl60.mono S104
      have hl74 := hl74.mono S104
      have S71 := S71.trans S104
      have r82 := r82.mono S104
      have h85 := S104 _ _ h85
      have hl98 := hl98.mono S104
      have h106 : R (a := (Int × Int)) F102 (.ref p100) (y61.b, y61.c) := R.t2 h105 R.int R.int
      obtain ⟨c107, hk⟩ := wp_appL hk
      obtain ⟨j111, e112, hk⟩ := wp_setI hk
      cases (hx99.symm.trans e112)
      refine ⟨_, _, _, rfl, rfl, (Ow.llAt (S := []) (p := p20) (ps := ps73) O103 hj97), (by rw [hl98.len]; exact c107), ?_⟩
      have O108 := Ow.llSet (S := []) (p := p20) (ps := ps73) O103 hj97 (c95.2 ++ [V.ref p100])
      have hl109 := LLR.set hl74 (show RL (a := (Int × Int)) F102 (c95.2 ++ [V.ref p100]) (y92 ++ [(y61.b, y61.c)]) from RL.snoc hl98 h106) c95.1 j94
      have zs110 := zs_set zs75 hj97 (c95.2 ++ [V.ref p100])
      obtain ⟨y114, e115, hk⟩ := wp_opt hk
      obtain ⟨j116, c117, e118, hj119, hl120, hx121⟩ := LLR.atI hl109 e115
      refine ⟨_, rfl, _, rfl, _, _, _, _, rfl, rfl, (SqL.of (Ow.llTop (S := []) (p := p20) (ps := (ps73.set j94 (c95.1, c95.2 ++ [V.ref p100]))) O108)), e118, (.inl ⟨rfl, _, SqL.of (Ow.llAt (S := []) (p := p20) (ps := (ps73.set j94 (c95.1, c95.2 ++ [V.ref p100]))) O108 hj119)⟩), _, rfl, _, rfl, (by show 2 ≤ sizeLine; decide), fun p122 hp123 => ?_⟩
      obtain ⟨F124, O125, S126, h127⟩ := O108.putE hp123 (.tup [V.int y61.a, V.int y61.c])
      have f_tree := f_tree.mono S126
      have h4 := S126 _ _ h4
      have r7 := r7.mono S126
      have r8 := r8.mono S126
      have h12 := S126 _ _ h12
      have hl13 := hl13.mono S126
      have h59 := S126 _ _ h59
      have hl60 := hl60.mono S126
      have S71 := S71.trans S126
      have r82 := r82.mono S126
      have h85 := S126 _ _ h85
      have h106 := h106.mono S126
      have hl109 := hl109.mono S126
      have hl120 := hl120.mono S126
      have h128 : R (a := (Int × Int)) F124 (.ref p122) (y61.a, y61.c) := R.t2 h127 R.int R.int
      obtain ⟨c129, hk⟩ := wp_appL hk
      obtain ⟨j133, e134, hk⟩ := wp_setI hk
      cases (hx121.symm.trans e134)
      refine ⟨_, _, _, rfl, rfl, (Ow.llAt (S := []) (p := p20) (ps := (ps73.set j94 (c95.1, c95.2 ++ [V.ref p100]))) O125 hj119), (by rw [hl120.len]; exact c129), ?_⟩
      have O130 := Ow.llSet (S := []) (p := p20) (ps := (ps73.set j94 (c95.1, c95.2 ++ [V.ref p100]))) O125 hj119 (c117.2 ++ [V.ref p122])
      have hl131 := LLR.set hl109 (show RL (a := (Int × Int)) F124 (c117.2 ++ [V.ref p122]) (y114 ++ [(y61.a, y61.c)]) from RL.snoc hl120 h128) c117.1 j116
      have zs132 := zs_set zs110 hj119 (c117.2 ++ [V.ref p122])
      exact ⟨F124, ((st72.set j94 (y92 ++ [(y61.b, y61.c)])).set j116 (y114 ++ [(y61.a, y61.c)])), ((ps73.set j94 (c95.1, c95.2 ++ [V.ref p100])).set j116 (c117.1, c117.2 ++ [V.ref p122])), some (V.int y61.a), some (V.int y61.b), some (V.int y61.c), rfl, S71, O130, hl131, zs132, hk⟩
    rintro sg136 H137 ⟨F147, st139, ps141, t144, t145, t146, rfl, S138, O148, hl142, zs143, hL140⟩
    rw [drop_end hl60.len] at hL140
    have hk := hLd65 _ hL140
    have f_tree := f_tree.mono S138
    have h4 := S138 _ _ h4
    have r7 := r7.mono S138
    have r8 := r8.mono S138
    have h12 := S138 _ _ h12
    have hl13 := hl13.mono S138
    have h59 := S138 _ _ h59
    have hl60 := hl60.mono S138
    refine ⟨_, rfl, ?_⟩
    obtain ⟨h149, h150, h151⟩ := Ow.llOut (S := []) (p := p20) (ps := ps141) O148 z43 zs143
    exact hk _ _  O148.g  _ _ h149 h150 h151 hl142
abbrev s_law_far : Stmt := top 48
theorem sc_law_far : FnScope ["tree", "beside", "found", "seat", "far", "waits", "here", "other", "length", "place"] ["tree"] (defScope s_law_far) := ⟨rfl, rfl, rfl, by decide +kernel, rfl, by decide +kernel, by decide +kernel⟩
def m_law_far (x_tree : ((List Int) × (List (T3 Int Int Int)))) : M ((List (List Int))) :=
m_law_beside x_tree >>= fun r1 =>
chk (okR (x_tree.1.length : Int)) >>= fun _ =>
loopN (fun (y34 : Int) (st46 : (List (List Int))) =>
whL (r := Unit) (fun (st81 : (List Int) × (List (Int × Int))) =>
if st81.1 ≠ ([] : List Int) then (
popL st81.1 >>= fun (y101, _) =>
opt (atI r1 y101) >>= fun y108 =>
loopN (fun (y116 : (Int × Int)) (st127 : (List (Int × Int)) × (List Int)) =>
if dHas st127.1 y116.1 = true then (
.ok (st127.1, st127.2))
else (
opt (dGet st127.1 y101) >>= fun y149 =>
putD st127.1 y116.1 (y149 + y116.2) >>= fun z155 =>
appL st127.2 y116.1 >>= fun _ =>
.ok (z155, (st127.2 ++ [y116.1])))) y108 (st81.2, st81.1.dropLast) >>= fun st165 =>
.ok (.go (st165.2, st165.1)))
else (
.ok (.stop (st81.1, st81.2)))) 1000000 ([y34], (mergeD [(y34, (0 : Int))])) >>= fun f189 => match f189 with
| .rt _ => bad
| .nx st178 =>
chk (okR (x_tree.1.length : Int)) >>= fun _ =>
compS (fun (y195 : Int) (st213 : Unit) =>
opt (dGet st178.2 y195) >>= fun y217 =>
.ok (some y217, ())) (rangeL 0 (x_tree.1.length : Int)) () >>= fun q233 =>
appL st46 q233.1 >>= fun _ =>
.ok (st46 ++ [q233.1])) (rangeL 0 (x_tree.1.length : Int)) ([] : List (List Int)) >>= fun st248 =>
.ok st248
def sp_law_far (mg : Str → Option Value) : Sp := fun vs H Q E => ∃ (F : Hp) (v_tree : V) (x_tree : ((List Int) × (List (T3 Int Int Int)))), vs = [v_tree] ∧ Pre F [] H ∧ R (a := ((List Int) × (List (T3 Int Int Int)))) F v_tree x_tree ∧
  wp (m_law_far x_tree) (fun r => ∀ (F' H' : Hp), Gr [] F H F' H' → ∀ (p : Addr) (w : (List V)), H p = none → F' p = none → H' p = some (.lst w) → RL (a := (List Int)) F' w r → Q (.ref p) H')
  (fun n => ∀ (C : Addr) (H' : Hp), mg (Str.ofString n) = some (.ref C) → Kp [] H H' → E (.ref C) none H')
set_option maxHeartbeats 20000000 in
theorem ok_law_far (nb : Nb mg) (C_law_beside : Ca P w K mg base "_law_beside" 1 ["tree"] (sp_law_beside mg)) (D : Df K mg "_law_far" "_law_far" s_law_far ["tree"]) : Ca P w K mg base "_law_far" 2 ["tree"] (sp_law_far mg) := by
  obtain ⟨fa_law_beside, fd_law_beside, G_law_beside, M_law_beside, K_law_beside, B_law_beside⟩ := C_law_beside.ex
  refine Ca.mk' D sc_law_far (fun vs H Q E h => ?_) (fun q_ f_ cdv A outer s H vs Q E hr h => ?_)
  · obtain ⟨F, _, _, rfl, _⟩ := h
    rfl
  · obtain ⟨F, v_tree, x_tree, rfl, P0, f_tree, hk⟩ := h
    have nd := sc_law_far.nd
    have hu64 := hr.units
    have hu128 := hu128_of hr
    have O := P0.start
    refine ⟨_, (pss_cons (ps_toN (ps_set (i := 1) nd rfl (Or.inl rfl) (pe_call G_law_beside (hr.mono (by decide)) rfl M_law_beside K_law_beside B_law_beside .nil (passes_call (takes_of rfl rfl rfl rfl) fun _ _ _ _ h => h) (pa_cons (pv 0) pa_nil))))
  (pss_cons (ps_toN (ps_set (i := 2) nd rfl (Or.inl rfl) (pe_lst pa_nil)))
  (pss_cons (ps_for (passes_of rfl) rfl (pi_range1 rfl nb.b_range (pa_cons (pe_callB call_lenT (by rfl) nb.b_len PySem.boot_len (pa_cons (pe_ix (ixTupK (K := K) rfl) (pv 0) pe_int (fun _ _ => rfl)) pa_nil)) pa_nil)) (pg_name (i := 3) nd rfl (Or.inl rfl)) (pss_cons (ps_toN (ps_set (i := 4) nd rfl (Or.inr rfl) (pe_disp (pps_cons (pv 3) pe_int pps_nil) rfl rfl (fun h => nomatch h) (by show 1 ≤ 15; decide))))
  (pss_cons (ps_toN (ps_set (i := 5) nd rfl (Or.inl rfl) (pe_lst (pa_cons (pv 3) pa_nil))))
  (pss_cons (ps_while (passes_of rfl) (pt_cmpR (op_neT (List Int) hu64) (pv 5) (pe_lst pa_nil) (nomark _)) (pss_cons (ps_toN (ps_set (i := 6) nd rfl (Or.inl rfl) (bm0K (K := K) rfl (pe_bm0 PySem.F.plainAttrs_list PySem.F.slot_list_pop PySem.F.type_list_pop mt_pop (pv 5)))))
  (pss_one (ps_for (passes_of rfl) rfl (piListK (K := K) rfl (pe_ix (ixListK (K := K) rfl) (pv 1) (pv 6) (fun _ _ => rfl))) (pg_tup rfl (pgs_cons (pg_name (i := 7) nd rfl (Or.inl rfl)) (pgs_cons (pg_name (i := 8) nd rfl (Or.inl rfl)) pgs_nil))) (pss_one (ps_if (pt_cmp (pc_dnotin (u1_of hu64) (pv 7) (pv 4))) (pss_cons (ps_dput (u1_of hu64) (pv 4) (pv 7) (pe_op op_add (pe_dget (u1_of hu64) (pv 4) (pv 6) (fun _ _ => rfl)) (pv 8)) rfl)
  (pss_one (ps_expr (bmK (K := K) rfl (pe_bm PySem.F.plainAttrs_list PySem.F.slot_list_append PySem.F.type_list_append mt_append (pv 5) (pa_cons (pv 7) pa_nil)))))) pss_nil))))))
  (pss_one (ps_expr (bmK (K := K) rfl (pe_bm PySem.F.plainAttrs_list PySem.F.slot_list_append PySem.F.type_list_append mt_append (pv 2) (pa_cons (pe_lc (own := [("place", 9)]) (g := gName 9) (tt := _) rfl nd (pi_range1 rfl nb.b_range (pa_cons (pe_callB call_lenT (by rfl) nb.b_len PySem.boot_len (pa_cons (pe_ix (ixTupK (K := K) rfl) (pv 0) pe_int (fun _ _ => rfl)) pa_nil)) pa_nil)) (blkOk_by (own := [("place", 9)]) (N := ["tree", "beside", "found", "seat", "far", "waits", "here", "other", "length", "place"]) (sc := defScope s_law_far) (by decide +kernel)) (fun _ _ _ _ _ => (pg_name (i := 9) nd rfl (Or.inl rfl))) (fun _ _ _ _ _ => pts_nil) (fun _ _ _ _ _ => (pe_dget (u1_of hu64) (pv 4) (pv 9) (fun _ _ => rfl)))) pa_nil)))))))))
  (pss_one (ps_ret (pv 2)))))), ?_⟩
    refine ⟨_, rfl, _, _, _, rfl, O.pre0, f_tree, wp_call hk (fun r1 er2 hk F3 H4 g5 p6 ps7 hn8 hf9 nd10 hl11 => ?_) (fun n hn C H1 hC kp => hn C H1 hC (O.kp0 kp))⟩
    have O12 := O.call0 g5
    have S_ := g5.f
    have f_tree := f_tree.mono S_
    have O13 := Ow.llGot O O12 rfl hn8 hf9 nd10
    obtain ⟨z14, zs15⟩ := Ow.llWas O hn8
    refine ⟨[some v_tree, some (V.ref p6), none, none, none, none, none, none, none, none], rfl, (by show 0 ≤ sizeLine; decide), fun p17 hp18 => ?_⟩
    have hl20 : RL (a := (List Int)) F3 ([]) ([] : List (List Int)) := RL.nil
    have z21 := O13.was hp18
    have O19 := O13.new (o := .lst ([])) hp18
    obtain ⟨p22, v25, v26, e23, h24, r27, r28⟩ := R.t2_ f_tree
    cases e23
    obtain ⟨p29, w30, e31, h32, hl33⟩ := R.lst_ r27
    cases e31
    obtain ⟨c35, hk⟩ := wp_chk hk
    obtain ⟨L36, hL37, hLs38, hLd39⟩ := loopN_L hk
    refine ⟨[some (V.ref p22), some (V.ref p6), some (V.ref p17), none, none, none, none, none, none, none], rfl, _, rfl, _, _, _, _, rfl, rfl, (SqTF O19.s h24), rfl, _, _, _, rfl, (.inl (O19.s _ _ h32)), hl33.len, _, rfl, c35.lo, c35.hi, ?_⟩
    refine for_range (lo := 0) (n := ((x_tree.1.length : Int)).toNat) (fun i σ H_ => ∃ (F_ : Hp) (st : (List (List Int))) (w_0 : (List V)) (t_0 : Option V) (t_1 : Option V) (t_2 : Option V) (t_3 : Option V) (t_4 : Option V) (t_5 : Option V), σ = [some (V.ref p22), some (V.ref p6), some (V.ref p17), t_0, t_1, t_2, t_3, t_4, t_5, none] ∧ Same F3 F_ ∧ Ow _ F_ (([(p17, .lst w_0)] : List (Addr × HO)) ++ llC p6 ps7) H_ ∧ RL (a := (List Int)) F_ w_0 st ∧ L36 (List.drop i (rangeL 0 (x_tree.1.length : Int))) st) ⟨F3, ([] : List (List Int)), [], none, none, none, none, none, none, rfl, Same.refl _, O19, hl20, hL37⟩ ?_ ?_
    · rintro i40 sg42 H43 hi44 ⟨F55, st46, w47, t49, t50, t51, t52, t53, t54, rfl, S45, O56, hl48, hL37⟩
      have f_tree := f_tree.mono S45
      have hl11 := hl11.mono S45
      have h24 := S45 _ _ h24
      have r27 := r27.mono S45
      have r28 := r28.mono S45
      have h32 := S45 _ _ h32
      have hl33 := hl33.mono S45
      rw [rangeL_get0 hi44] at hL37
      have hk := hLs38 _ _ _ hL37
      obtain ⟨y34, he_⟩ : ∃ z_, z_ = 0 + (i40 : Int) := ⟨_, rfl⟩
      try rw [← he_] at hk
      rw [← he_]
      refine fun p58 hp59 => ?_
      have hl61 : RD (κ := Int) (β := Int) F55 [] ([] : (List (Int × Int))) := RD.nil
      have z62 := O56.was hp59
      have O60 := O56.new (o := .dK []) hp59
      refine ⟨_, rfl, (O60.at 0 rfl), [(DK.kk y34, V.int (0 : Int))], rfl, (by show 1 ≤ 15; decide), ?_⟩
      have O63 := O60.set 0 (.dK (mergeK [] [(DK.kk y34, V.int (0 : Int))])) rfl
      have hl64 : RD (κ := Int) (β := Int) F55 (mergeK [] [(DK.kk y34, V.int (0 : Int))]) (mergeD [(y34, (0 : Int))]) := merge_rd (.cons (k := y34) R.int .nil) .nil
      refine ⟨[some (V.ref p22), some (V.ref p6), some (V.ref p17), some (V.int y34), some (V.ref p58), t51, t52, t53, t54, none], rfl, _, rfl, (by show 1 ≤ sizeLine; decide), fun p66 hp67 => ?_⟩
      have hl69 : RL (a := Int) F55 ([V.int y34]) ([y34]) := RL.cons R.int RL.nil
      have z70 := O63.was hp67
      have O68 := O63.new (o := .lst ([V.int y34])) hp67
      obtain ⟨L71, X72, hL73, hLs74, hLd75⟩ := whL_L hk
      refine ⟨[some (V.ref p22), some (V.ref p6), some (V.ref p17), some (V.int y34), some (V.ref p58), some (V.ref p66), t52, t53, t54, none], rfl, ?_⟩
      refine while_P (fun n σ H_ => ∃ (F_ : Hp) (st : (List Int) × (List (Int × Int))) (w_0 : (List V)) (w_1 : (List (Key × V))) (t_0 : Option V) (t_1 : Option V) (t_2 : Option V), σ = [some (V.ref p22), some (V.ref p6), some (V.ref p17), some (V.int y34), some (V.ref p58), some (V.ref p66), t_0, t_1, t_2, none] ∧ Same F55 F_ ∧ Ow (⟨[], F, H⟩ : Ent) F_ (([(p66, .lst w_0), (p58, .dK w_1), (p17, .lst w47)] : List (Addr × HO)) ++ llC p6 ps7) H_ ∧ RL (a := Int) F_ w_0 st.1 ∧ RD (κ := Int) (β := Int) F_ w_1 st.2 ∧ L71 n st) (fun σ H_ => ∃ (F_ : Hp) (st : (List Int) × (List (Int × Int))) (w_0 : (List V)) (w_1 : (List (Key × V))) (t_0 : Option V) (t_1 : Option V) (t_2 : Option V), σ = [some (V.ref p22), some (V.ref p6), some (V.ref p17), some (V.int y34), some (V.ref p58), some (V.ref p66), t_0, t_1, t_2, none] ∧ Same F55 F_ ∧ Ow (⟨[], F, H⟩ : Ent) F_ (([(p66, .lst w_0), (p58, .dK w_1), (p17, .lst w47)] : List (Addr × HO)) ++ llC p6 ps7) H_ ∧ RL (a := Int) F_ w_0 st.1 ∧ RD (κ := Int) (β := Int) F_ w_1 st.2 ∧ X72 st) 1000000 ⟨F55, ([y34], (mergeD [(y34, (0 : Int))])), [V.int y34], (mergeK [] [(DK.kk y34, V.int (0 : Int))]), t52, t53, t54, rfl, Same.refl _, O68, hl69, hl64, hL73⟩ ?_ ?_
      rotate_left
      · rintro hex76 m77 sg78 H79 ⟨F90, st81, w83, w84, t87, t88, t89, rfl, S80, O91, hl85, hl86, hL82⟩
        have f_tree := f_tree.mono S80
        have hl11 := hl11.mono S80
        have h24 := S80 _ _ h24
        have r27 := r27.mono S80
        have r28 := r28.mono S80
        have h32 := S80 _ _ h32
        have hl33 := hl33.mono S80
        have hl48 := hl48.mono S80
        have S45 := S45.trans S80
        have hk := hLs74 _ _ hL82
        refine ⟨_, rfl, (by show 0 ≤ sizeLine; decide), fun p92 hp93 => ?_⟩
        have hl99 : RL (a := Int) F90 ([]) ([] : List Int) := RL.nil
        obtain ⟨F94, O95, S96, h97⟩ := O91.putE hp93 (.lst ([]))
        have f_tree := f_tree.mono S96
        have hl11 := hl11.mono S96
        have h24 := S96 _ _ h24
        have r27 := r27.mono S96
        have r28 := r28.mono S96
        have h32 := S96 _ _ h32
        have hl33 := hl33.mono S96
        have hl48 := hl48.mono S96
        have S45 := S45.trans S96
        have hl85 := hl85.mono S96
        have hl86 := hl86.mono S96
        have S80 := S80.trans S96
        have hl99 := hl99.mono S96
        have h98 := R.lst (a := Int) h97 hl99
        refine ⟨_, _, (R.lst (a := Int) (O95.at 0 rfl) (hl85.mono O95.s)), (R.mono h98 O95.s), _, rfl, ?_⟩
        refine iteD (fun q100 => ?_) (fun q100 => ?_)
        · have hk := wp_if hk q100
          obtain ⟨y101, e102, hk⟩ := wp_popL hk
          obtain ⟨w103, e104, r105⟩ := RL.last hl85 e102
          refine ⟨_, (fun _ _ h_ => h_), _, rfl, (.inl ⟨rfl, _, SqL.of (O95.at 0 rfl)⟩), _, _, _, rfl, rfl, (O95.at 0 rfl), e104, ?_⟩
          obtain rfl := R.int_ r105
          have O106 := O95.set 0 (.lst (w83.dropLast)) rfl
          have hl107 : RL (a := Int) F94 (w83.dropLast) st81.1.dropLast := RL.dropLast hl85
          obtain ⟨y108, e109, hk⟩ := wp_opt hk
          obtain ⟨j110, c111, e112, hj113, hl114, hx115⟩ := LLR.atI hl11 e109
          obtain ⟨L117, hL118, hLs119, hLd120⟩ := loopN_L hk
          refine ⟨[some (V.ref p22), some (V.ref p6), some (V.ref p17), some (V.int y34), some (V.ref p58), some (V.ref p66), some (V.int y101), t88, t89, none], rfl, _, rfl, _, rfl, _, _, _, _, rfl, rfl, (SqL.of (Ow.llTop (S := [(p66, .lst (w83.dropLast)), (p58, .dK w84), (p17, .lst w47)]) (p := p6) (ps := ps7) O106)), e112, _, rfl, ⟨_, (SqL.of (Ow.llAt (S := [(p66, .lst (w83.dropLast)), (p58, .dK w84), (p17, .lst w47)]) (p := p6) (ps := ps7) O106 hj113))⟩, ?_⟩
          refine for_list (K := K) (xs := c111.2) (fun i σ H_ => ∃ (F_ : Hp) (st : (List (Int × Int)) × (List Int)) (w_0 : (List (Key × V))) (w_1 : (List V)) (t_0 : Option V) (t_1 : Option V), σ = [some (V.ref p22), some (V.ref p6), some (V.ref p17), some (V.int y34), some (V.ref p58), some (V.ref p66), some (V.int y101), t_0, t_1, none] ∧ Same F94 F_ ∧ Ow _ F_ (([(p66, .lst w_1), (p58, .dK w_0), (p17, .lst w47)] : List (Addr × HO)) ++ llC p6 ps7) H_ ∧ RD (κ := Int) (β := Int) F_ w_0 st.1 ∧ RL (a := Int) F_ w_1 st.2 ∧ L117 (List.drop i y108) st) ⟨F94, (st81.2, st81.1.dropLast), w84, (w83.dropLast), t88, t89, rfl, Same.refl _, O106, hl86, hl107, hL118⟩ (fun i_ σ_ H_ _ hp_ => ?_) ?_ ?_
          · obtain ⟨_, _, _, _, _, _, _, hS_, hO_, _⟩ := hp_
            exact SqL.of (Ow.llAt hO_ hj113)
          · rintro i121 x122 sg123 H124 hi125 ⟨F134, st127, w128, w129, t132, t133, rfl, S126, O135, hl130, hl131, hL118⟩
            have f_tree := f_tree.mono S126
            have hl11 := hl11.mono S126
            have h24 := S126 _ _ h24
            have r27 := r27.mono S126
            have r28 := r28.mono S126
            have h32 := S126 _ _ h32
            have hl33 := hl33.mono S126
            have hl48 := hl48.mono S126
            have S45 := S45.trans S126
            have S80 := S80.trans S126
            have h98 := h98.mono S126
            have hl114 := hl114.mono S126
            obtain ⟨y116, e136, r137⟩ := RL.got hl114 hi125
            rw [drop_at e136] at hL118
            have hk := hLs119 _ _ _ hL118
            obtain ⟨p138, v141, v142, e139, h140, r143, r144⟩ := R.t2_ r137
            cases e139
            obtain rfl := R.int_ r143
            obtain rfl := R.int_ r144
            obtain ⟨o145, hg146, ho147⟩ := din_I (.inl (O135.at 1 rfl)) hl130
            refine ⟨_, _, rfl, (SqTF O135.s h140), rfl, _, _, rfl, _, _, rfl, rfl, _, rfl, _, rfl, _, _, rfl, hg146, ?_⟩
            rw [ho147]
            refine ⟨_, rfl, ?_⟩
            refine iteBN (fun q148 => ?_) (fun q148 => ?_)
            · have hk := wp_if hk q148
              exact ⟨F134, (st127.1, st127.2), w128, w129, some (V.int y116.1), some (V.int y116.2), rfl, S126, O135, hl130, hl131, hk⟩
            · have hk := wp_el hk q148
              obtain ⟨y149, e150, hk⟩ := wp_opt hk
              obtain ⟨w151, e152, r153⟩ := RD.some hl130 (k := y101) e150
              obtain rfl := R.int_ r153
              obtain ⟨c154, hk⟩ := wp_putD hk
              refine ⟨_, rfl, _, rfl, _, _, rfl, (dget_I (.inl (O135.at 1 rfl)) e152), _, rfl, _, _, rfl, rfl, _, rfl, _, rfl, _, _, rfl, (dput_I (v := (V.int (y149 + y116.2))) (O135.at 1 rfl) (by rw [RD.len hl130]; exact c154)), ?_⟩
              have O156 := O135.set 1 (.dK (putK w128 (DK.kk y116.1) (V.int (y149 + y116.2)))) rfl
              have hl157 : RD (κ := Int) (β := Int) F134 (putK w128 (DK.kk y116.1) (V.int (y149 + y116.2))) (dPut st127.1 y116.1 (y149 + y116.2)) := RD.put hl130 y116.1 R.int
              obtain ⟨c158, hk⟩ := wp_appL hk
              refine ⟨_, rfl, (.inl ⟨rfl, _, SqL.of (O156.at 0 rfl)⟩), _, rfl, _, _, _, rfl, rfl, (O156.at 0 rfl), (by rw [hl131.len]; exact c158), ?_⟩
              have O160 := O156.set 0 (.lst (w129 ++ [V.int y116.1])) rfl
              have hl161 : RL (a := Int) F134 (w129 ++ [V.int y116.1]) (st127.2 ++ [y116.1]) := RL.snoc hl131 R.int
              exact ⟨F134, ((dPut st127.1 y116.1 (y149 + y116.2)), (st127.2 ++ [y116.1])), (putK w128 (DK.kk y116.1) (V.int (y149 + y116.2))), (w129 ++ [V.int y116.1]), some (V.int y116.1), some (V.int y116.2), rfl, S126, O160, hl157, hl161, hk⟩
          rintro sg162 H163 ⟨F173, st165, w167, w168, t171, t172, rfl, S164, O174, hl169, hl170, hL166⟩
          rw [drop_end hl114.len] at hL166
          have hk := hLd120 _ hL166
          have f_tree := f_tree.mono S164
          have hl11 := hl11.mono S164
          have h24 := S164 _ _ h24
          have r27 := r27.mono S164
          have r28 := r28.mono S164
          have h32 := S164 _ _ h32
          have hl33 := hl33.mono S164
          have hl48 := hl48.mono S164
          have S45 := S45.trans S164
          have S80 := S80.trans S164
          have h98 := h98.mono S164
          have hl114 := hl114.mono S164
          obtain ⟨m_, hm_, hk⟩ := hk
          exact ⟨m_, hm_, F173, (st165.2, st165.1), w168, w167, some (V.int y101), t171, t172, rfl, S80, O174, hl170, hl169, hk⟩
        · have hk := wp_el hk q100
          exact hex76 _ _ ⟨F94, (st81.1, st81.2), w83, w84, t87, t88, t89, rfl, S80, O95, hl85, hl86, hk⟩
      rintro sg175 H176 ⟨F187, st178, w180, w181, t184, t185, t186, rfl, S177, O188, hl182, hl183, hL179⟩
      have hk := hLd75 _ hL179
      have f_tree := f_tree.mono S177
      have hl11 := hl11.mono S177
      have h24 := S177 _ _ h24
      have r27 := r27.mono S177
      have r28 := r28.mono S177
      have h32 := S177 _ _ h32
      have hl33 := hl33.mono S177
      have hl48 := hl48.mono S177
      have S45 := S45.trans S177
      obtain ⟨p190, w191, e192, h193, hl194⟩ := R.lst_ r27
      cases e192
      obtain ⟨c196, hk⟩ := wp_chk hk
      obtain ⟨c201, L197, hL198, hLs199, hLd200⟩ := compS_L hk
      refine ⟨_, rfl, (.inl ⟨rfl, _, SqL.of (O188.at 2 rfl)⟩), _, rfl, _, _, _, _, rfl, rfl, (SqTF O188.s h24), rfl, _, _, _, rfl, (.inl (O188.s _ _ h193)), hl194.len, _, rfl, c196.lo, c196.hi, fun p202 hp203 => ?_⟩
      have z222 := O188.was hp203
      refine lc_range (lo := 0) (n := ((x_tree.1.length : Int)).toNat) (fun i H => ∃ (F_ : Hp) (st : Unit) (acc : List Int) (wa : List V), Same F187 F_ ∧ Ow _ F_ (([(p202, .lst wa), (p66, .lst w180), (p58, .dK w181), (p17, .lst w47)] : List (Addr × HO)) ++ llC p6 ps7) H ∧ RL F_ wa acc ∧ wa.length ≤ i ∧ L197 (List.drop i (rangeL 0 (x_tree.1.length : Int))) acc st) ⟨F187, (), [], [], Same.refl _, O188.new hp203, RL.nil, Nat.zero_le _, hL198⟩ ?_ ?_
      · rintro i204 H206 hi207 ⟨F212, st213, acc209, wa210, S214, O216, hl215, la211, hL198⟩
        have f_tree := f_tree.mono S214
        have hl11 := hl11.mono S214
        have h24 := S214 _ _ h24
        have r27 := r27.mono S214
        have r28 := r28.mono S214
        have h32 := S214 _ _ h32
        have hl33 := hl33.mono S214
        have hl48 := hl48.mono S214
        have S45 := S45.trans S214
        have hl182 := hl182.mono S214
        have hl183 := hl183.mono S214
        have h193 := S214 _ _ h193
        have hl194 := hl194.mono S214
        rw [rangeL_get0 hi207] at hL198
        have hk := hLs199 _ _ _ _ hL198
        obtain ⟨y195, he_⟩ : ∃ z_, z_ = 0 + (i204 : Int) := ⟨_, rfl⟩
        try rw [← he_] at hk
        rw [← he_]
        refine ⟨rfl, ?_⟩
        obtain ⟨y217, e218, hk⟩ := wp_opt hk
        obtain ⟨w219, e220, r221⟩ := RD.some hl183 (k := y195) e218
        obtain rfl := R.int_ r221
        refine ⟨_, rfl, _, rfl, _, _, rfl, (dget_I (.inl (O216.at 2 rfl)) e220), _, (O216.at 0 rfl), (comp_lenR la211 hi207 (by rw [Int.sub_zero]) c201), ?_⟩
        exact ⟨F212, (), acc209 ++ [y217], wa210 ++ [V.int y217], S214, O216.set 0 (.lst (wa210 ++ [V.int y217])) rfl, RL.snoc hl215 R.int, by rw [List.length_append]; exact Nat.succ_le_succ la211, hk⟩
      rintro H223 ⟨F224, st225, acc226, wa227, S228, O229, hl230, la231, hL232⟩
      rw [rangeL_end0] at hL232
      have hk := hLd200 _ _ hL232
      have f_tree := f_tree.mono S228
      have hl11 := hl11.mono S228
      have h24 := S228 _ _ h24
      have r27 := r27.mono S228
      have r28 := r28.mono S228
      have h32 := S228 _ _ h32
      have hl33 := hl33.mono S228
      have hl48 := hl48.mono S228
      have S45 := S45.trans S228
      have hl182 := hl182.mono S228
      have hl183 := hl183.mono S228
      have h193 := S228 _ _ h193
      have hl194 := hl194.mono S228
      obtain ⟨F234, O235, S236, h237⟩ := O229.frzE 0 rfl z222
      have f_tree := f_tree.mono S236
      have hl11 := hl11.mono S236
      have h24 := S236 _ _ h24
      have r27 := r27.mono S236
      have r28 := r28.mono S236
      have h32 := S236 _ _ h32
      have hl33 := hl33.mono S236
      have hl48 := hl48.mono S236
      have S45 := S45.trans S236
      have hl182 := hl182.mono S236
      have hl183 := hl183.mono S236
      have h193 := S236 _ _ h193
      have hl194 := hl194.mono S236
      have hl230 := hl230.mono S236
      have h238 := R.lst (a := Int) h237 hl230
      obtain ⟨c239, hk⟩ := wp_appL hk
      refine ⟨_, _, _, rfl, rfl, (O235.at 2 rfl), (by rw [hl48.len]; exact c239), ?_⟩
      have O241 := O235.set 2 (.lst (w47 ++ [V.ref p202])) rfl
      have hl242 : RL (a := (List Int)) F234 (w47 ++ [V.ref p202]) (st46 ++ [acc226]) := RL.snoc hl48 h238
      have O243 := O241.drop 0
      have O244 := O243.drop 0
      exact ⟨F234, (st46 ++ [acc226]), (w47 ++ [V.ref p202]), some (V.int y34), some (V.ref p58), some (V.ref p66), t184, t185, t186, rfl, S45, O244, hl242, hk⟩
    rintro sg245 H246 ⟨F258, st248, w250, t252, t253, t254, t255, t256, t257, rfl, S247, O259, hl251, hL249⟩
    rw [rangeL_end0] at hL249
    have hk := hLd39 _ hL249
    have f_tree := f_tree.mono S247
    have hl11 := hl11.mono S247
    have h24 := S247 _ _ h24
    have r27 := r27.mono S247
    have r28 := r28.mono S247
    have h32 := S247 _ _ h32
    have hl33 := hl33.mono S247
    obtain ⟨F260, O261, S262, h263⟩ := Ow.llFrz (S := [(p17, .lst w250)]) (p := p6) (ps := ps7) O259 z14 zs15 hl11
    have f_tree := f_tree.mono S262
    have h24 := S262 _ _ h24
    have r27 := r27.mono S262
    have r28 := r28.mono S262
    have h32 := S262 _ _ h32
    have hl33 := hl33.mono S262
    have hl251 := hl251.mono S262
    refine ⟨_, rfl, ?_⟩
    exact hk _ _  O261.g  _ _ z21 (O261.cf _ (List.mem_of_getElem? (i := 0) rfl)) (O261.at 0 rfl) hl251
abbrev s_law_side : Stmt := top 50
theorem sc_law_side : FnScope ["tree", "a", "b", "beside", "found", "at", "other", "length"] ["tree", "a", "b"] (defScope s_law_side) := ⟨rfl, rfl, rfl, by decide +kernel, rfl, by decide +kernel, by decide +kernel⟩
def m_law_side (x_tree : ((List Int) × (List (T3 Int Int Int)))) (x_a : Int) (x_b : Int) : M (Int) :=
m_law_beside x_tree >>= fun r1 =>
whL (r := Unit) (fun (st32 : Int × (List Int)) =>
if st32.1 < (st32.2.length : Int) then (
opt (atI st32.2 st32.1) >>= fun y41 =>
opt (atI r1 y41) >>= fun y46 =>
loopN (fun (y54 : (Int × Int)) (st65 : (List Int)) =>
if y54.1 ≠ x_a then (
if y54.1 ∉ st65 then (
appL st65 y54.1 >>= fun _ =>
.ok (st65 ++ [y54.1]))
else (
.ok st65))
else (
.ok st65)) y46 st32.2 >>= fun st90 =>
.ok (.go ((st32.1 + (1 : Int)), st90)))
else (
.ok (.stop (st32.1, st32.2)))) 1000000 ((0 : Int), [x_b]) >>= fun f109 => match f109 with
| .rt _ => bad
| .nx st101 =>
.ok (st101.2.length : Int)
def sp_law_side (mg : Str → Option Value) : Sp := fun vs H Q E => ∃ (F : Hp) (v_tree : V) (x_tree : ((List Int) × (List (T3 Int Int Int)))) (x_a : Int) (x_b : Int), vs = [v_tree, V.int x_a, V.int x_b] ∧ Pre F [] H ∧ R (a := ((List Int) × (List (T3 Int Int Int)))) F v_tree x_tree ∧
  wp (m_law_side x_tree x_a x_b) (fun r => ∀ (F' H' : Hp), Gr [] F H F' H' → Q (V.int r) H')
  (fun n => ∀ (C : Addr) (H' : Hp), mg (Str.ofString n) = some (.ref C) → Kp [] H H' → E (.ref C) none H')
set_option maxHeartbeats 20000000 in
theorem ok_law_side (nb : Nb mg) (C_law_beside : Ca P w K mg base "_law_beside" 1 ["tree"] (sp_law_beside mg)) (D : Df K mg "_law_side" "_law_side" s_law_side ["tree", "a", "b"]) : Ca P w K mg base "_law_side" 2 ["tree", "a", "b"] (sp_law_side mg) := by
  obtain ⟨fa_law_beside, fd_law_beside, G_law_beside, M_law_beside, K_law_beside, B_law_beside⟩ := C_law_beside.ex
  refine Ca.mk' D sc_law_side (fun vs H Q E h => ?_) (fun q_ f_ cdv A outer s H vs Q E hr h => ?_)
  · obtain ⟨F, _, _, _, _, rfl, _⟩ := h
    rfl
  · obtain ⟨F, v_tree, x_tree, x_a, x_b, rfl, P0, f_tree, hk⟩ := h
    have nd := sc_law_side.nd
    have hu64 := hr.units
    have hu128 := hu128_of hr
    have O := P0.start
    refine ⟨_, (pss_cons (ps_toN (ps_set (i := 3) nd rfl (Or.inl rfl) (pe_call G_law_beside (hr.mono (by decide)) rfl M_law_beside K_law_beside B_law_beside .nil (passes_call (takes_of rfl rfl rfl rfl) fun _ _ _ _ h => h) (pa_cons (pv 0) pa_nil))))
  (pss_cons (ps_toN (ps_set (i := 4) nd rfl (Or.inl rfl) (pe_lst (pa_cons (pv 2) pa_nil))))
  (pss_cons (ps_toN (ps_set (i := 5) nd rfl (Or.inl rfl) pe_int))
  (pss_cons (ps_while (passes_of rfl) (pt_cmpR op_lt (pv 5) (pe_callB call_lenT (by rfl) nb.b_len PySem.boot_len (pa_cons (pv 4) pa_nil)) (nomark _)) (pss_cons (ps_for (passes_of rfl) rfl (piListK (K := K) rfl (pe_ix (ixListK (K := K) rfl) (pv 3) (pe_ix (ixListK (K := K) rfl) (pv 4) (pv 5) (fun _ _ => rfl)) (fun _ _ => rfl))) (pg_tup rfl (pgs_cons (pg_name (i := 6) nd rfl (Or.inl rfl)) (pgs_cons (pg_name (i := 7) nd rfl (Or.inl rfl)) pgs_nil))) (pss_one (ps_if (PW.pt (pw_and (pt_cmpR (op_neT Int hu64) (pv 6) (pv 1) (nomark _)) (pw_and1 (pt_cmpR (op_ninT Int hu64) (pv 6) (pv 4) rfl)))) (pss_one (ps_expr (bmK (K := K) rfl (pe_bm PySem.F.plainAttrs_list PySem.F.slot_list_append PySem.F.type_list_append mt_append (pv 4) (pa_cons (pv 6) pa_nil))))) pss_nil)))
  (pss_one (ps_toN (ps_set (i := 5) nd rfl (Or.inl rfl) (pe_op op_add (pv 5) pe_int))))))
  (pss_one (ps_ret (pe_callB call_lenT (by rfl) nb.b_len PySem.boot_len (pa_cons (pv 4) pa_nil)))))))), ?_⟩
    refine ⟨_, rfl, _, _, _, rfl, O.pre0, f_tree, wp_call hk (fun r1 er2 hk F3 H4 g5 p6 ps7 hn8 hf9 nd10 hl11 => ?_) (fun n hn C H1 hC kp => hn C H1 hC (O.kp0 kp))⟩
    have O12 := O.call0 g5
    have S_ := g5.f
    have f_tree := f_tree.mono S_
    have O13 := Ow.llGot O O12 rfl hn8 hf9 nd10
    obtain ⟨z14, zs15⟩ := Ow.llWas O hn8
    refine ⟨[some v_tree, some (V.int x_a), some (V.int x_b), some (V.ref p6), none, none, none, none], rfl, _, rfl, (by show 1 ≤ sizeLine; decide), fun p17 hp18 => ?_⟩
    have hl20 : RL (a := Int) F3 ([V.int x_b]) ([x_b]) := RL.cons R.int RL.nil
    have z21 := O13.was hp18
    have O19 := O13.new (o := .lst ([V.int x_b])) hp18
    obtain ⟨L22, X23, hL24, hLs25, hLd26⟩ := whL_L hk
    refine ⟨[some v_tree, some (V.int x_a), some (V.int x_b), some (V.ref p6), some (V.ref p17), none, none, none], rfl, [some v_tree, some (V.int x_a), some (V.int x_b), some (V.ref p6), some (V.ref p17), some (V.int (0 : Int)), none, none], rfl, ?_⟩
    refine while_P (fun n σ H_ => ∃ (F_ : Hp) (st : Int × (List Int)) (w_0 : (List V)) (t_0 : Option V) (t_1 : Option V), σ = [some v_tree, some (V.int x_a), some (V.int x_b), some (V.ref p6), some (V.ref p17), some (V.int st.1), t_0, t_1] ∧ Same F3 F_ ∧ Ow (⟨[], F, H⟩ : Ent) F_ (([(p17, .lst w_0)] : List (Addr × HO)) ++ llC p6 ps7) H_ ∧ RL (a := Int) F_ w_0 st.2 ∧ L22 n st) (fun σ H_ => ∃ (F_ : Hp) (st : Int × (List Int)) (w_0 : (List V)) (t_0 : Option V) (t_1 : Option V), σ = [some v_tree, some (V.int x_a), some (V.int x_b), some (V.ref p6), some (V.ref p17), some (V.int st.1), t_0, t_1] ∧ Same F3 F_ ∧ Ow (⟨[], F, H⟩ : Ent) F_ (([(p17, .lst w_0)] : List (Addr × HO)) ++ llC p6 ps7) H_ ∧ RL (a := Int) F_ w_0 st.2 ∧ X23 st) 1000000 ⟨F3, ((0 : Int), [x_b]), [V.int x_b], none, none, rfl, Same.refl _, O19, hl20, hL24⟩ ?_ ?_
    rotate_left
    · rintro hex27 m28 sg29 H30 ⟨F38, st32, w34, t36, t37, rfl, S31, O39, hl35, hL33⟩
      have f_tree := f_tree.mono S31
      have hl11 := hl11.mono S31
      have hk := hLs25 _ _ hL33
      refine ⟨_, rfl, _, rfl, _, _, _, rfl, (.inl (O39.at 0 rfl)), hl35.len, _, _, rfl, rfl, _, rfl, ?_⟩
      refine iteD (fun q40 => ?_) (fun q40 => ?_)
      · have hk := wp_if hk q40
        obtain ⟨y41, e42, hk⟩ := wp_opt hk
        obtain ⟨w43, e44, r45⟩ := hl35.atI e42
        obtain rfl := R.int_ r45
        obtain ⟨y46, e47, hk⟩ := wp_opt hk
        obtain ⟨j48, c49, e50, hj51, hl52, hx53⟩ := LLR.atI hl11 e47
        obtain ⟨L55, hL56, hLs57, hLd58⟩ := loopN_L hk
        refine ⟨_, (fun _ _ h_ => h_), _, rfl, _, rfl, _, rfl, _, _, _, _, rfl, rfl, (SqL.of (O39.at 0 rfl)), e44, _, _, _, _, rfl, rfl, (SqL.of (Ow.llTop (S := [(p17, .lst w34)]) (p := p6) (ps := ps7) O39)), e50, _, rfl, ⟨_, (SqL.of (Ow.llAt (S := [(p17, .lst w34)]) (p := p6) (ps := ps7) O39 hj51))⟩, ?_⟩
        refine for_list (K := K) (xs := c49.2) (fun i σ H_ => ∃ (F_ : Hp) (st : (List Int)) (w_0 : (List V)) (t_0 : Option V) (t_1 : Option V), σ = [some v_tree, some (V.int x_a), some (V.int x_b), some (V.ref p6), some (V.ref p17), some (V.int st32.1), t_0, t_1] ∧ Same F38 F_ ∧ Ow _ F_ (([(p17, .lst w_0)] : List (Addr × HO)) ++ llC p6 ps7) H_ ∧ RL (a := Int) F_ w_0 st ∧ L55 (List.drop i y46) st) ⟨F38, st32.2, w34, t36, t37, rfl, Same.refl _, O39, hl35, hL56⟩ (fun i_ σ_ H_ _ hp_ => ?_) ?_ ?_
        · obtain ⟨_, _, _, _, _, _, hS_, hO_, _⟩ := hp_
          exact SqL.of (Ow.llAt hO_ hj51)
        · rintro i59 x60 sg61 H62 hi63 ⟨F70, st65, w66, t68, t69, rfl, S64, O71, hl67, hL56⟩
          have f_tree := f_tree.mono S64
          have hl11 := hl11.mono S64
          have S31 := S31.trans S64
          have hl52 := hl52.mono S64
          obtain ⟨y54, e72, r73⟩ := RL.got hl52 hi63
          rw [drop_at e72] at hL56
          have hk := hLs57 _ _ _ hL56
          obtain ⟨p74, v77, v78, e75, h76, r79, r80⟩ := R.t2_ r73
          cases e75
          obtain rfl := R.int_ r79
          obtain rfl := R.int_ r80
          refine ⟨_, _, rfl, (SqTF O71.s h76), rfl, _, _, rfl, _, _, rfl, rfl, _, rfl, _, rfl, _, _, R.int, R.int, _, rfl, ?_⟩
          refine iteD (fun q81 => ?_) (fun q81 => ?_)
          · have hk := wp_if hk q81
            refine ⟨_, rfl, _, rfl, _, _, _, _, R.int, rfl, (.inl (O71.at 0 rfl)), (RL.mono (hl67) O71.s), _, rfl, ?_⟩
            refine iteD (fun q82 => ?_) (fun q82 => ?_)
            · have hk := wp_if hk q82
              obtain ⟨c83, hk⟩ := wp_appL hk
              refine ⟨_, rfl, (.inl ⟨rfl, _, SqL.of (O71.at 0 rfl)⟩), _, rfl, _, _, _, rfl, rfl, (O71.at 0 rfl), (by rw [hl67.len]; exact c83), ?_⟩
              have O85 := O71.set 0 (.lst (w66 ++ [V.int y54.1])) rfl
              have hl86 : RL (a := Int) F70 (w66 ++ [V.int y54.1]) (st65 ++ [y54.1]) := RL.snoc hl67 R.int
              exact ⟨F70, (st65 ++ [y54.1]), (w66 ++ [V.int y54.1]), some (V.int y54.1), some (V.int y54.2), rfl, S64, O85, hl86, hk⟩
            · have hk := wp_el hk q82
              exact ⟨F70, st65, w66, some (V.int y54.1), some (V.int y54.2), rfl, S64, O71, hl67, hk⟩
          · have hk := wp_el hk q81
            refine iteF ?_
            exact ⟨F70, st65, w66, some (V.int y54.1), some (V.int y54.2), rfl, S64, O71, hl67, hk⟩
        rintro sg87 H88 ⟨F96, st90, w92, t94, t95, rfl, S89, O97, hl93, hL91⟩
        rw [drop_end hl52.len] at hL91
        have hk := hLd58 _ hL91
        have f_tree := f_tree.mono S89
        have hl11 := hl11.mono S89
        have S31 := S31.trans S89
        have hl52 := hl52.mono S89
        refine ⟨_, rfl, _, _, rfl, rfl, [some v_tree, some (V.int x_a), some (V.int x_b), some (V.ref p6), some (V.ref p17), some (V.int (st32.1 + (1 : Int))), t94, t95], rfl, ?_⟩
        obtain ⟨m_, hm_, hk⟩ := hk
        exact ⟨m_, hm_, F96, ((st32.1 + (1 : Int)), st90), w92, t94, t95, rfl, S31, O97, hl93, hk⟩
      · have hk := wp_el hk q40
        exact hex27 _ _ ⟨F38, (st32.1, st32.2), w34, t36, t37, rfl, S31, O39, hl35, hk⟩
    rintro sg98 H99 ⟨F107, st101, w103, t105, t106, rfl, S100, O108, hl104, hL102⟩
    have hk := hLd26 _ hL102
    have f_tree := f_tree.mono S100
    have hl11 := hl11.mono S100
    obtain ⟨F110, O111, S112, h113⟩ := Ow.llFrz (S := [(p17, .lst w103)]) (p := p6) (ps := ps7) O108 z14 zs15 hl11
    have f_tree := f_tree.mono S112
    have hl104 := hl104.mono S112
    refine ⟨_, rfl, _, _, _, rfl, (.inl (O111.at 0 rfl)), hl104.len, ?_⟩
    exact hk _ _  O111.g 
abbrev s_law_told : Stmt := top 51
theorem sc_law_told : FnScope ["tree", "found", "name"] ["tree"] (defScope s_law_told) := ⟨rfl, rfl, rfl, by decide +kernel, rfl, by decide +kernel, by decide +kernel⟩
def m_law_told (x_tree : ((List Int) × (List (T3 Int Int Int)))) : M ((List (Str × (List Int)))) :=
loopN (fun (y20 : Str) (st31 : (List (Str × (List Int)))) =>
m_rule_named y20 >>= fun r39 =>
m_all_seats x_tree r39 >>= fun r47 =>
putD st31 y20 r47 >>= fun z67 =>
.ok z67) ([("apart" : Str), ("best" : Str), ("farthest" : Str), ("piece" : Str), ("pieces" : Str), ("sum" : Str)]) ([] : (List (Str × (List Int)))) >>= fun st73 =>
.ok st73
def sp_law_told (mg : Str → Option Value) : Sp := fun vs H Q E => ∃ (F : Hp) (v_tree : V) (x_tree : ((List Int) × (List (T3 Int Int Int)))), vs = [v_tree] ∧ Pre F [] H ∧ R (a := ((List Int) × (List (T3 Int Int Int)))) F v_tree x_tree ∧
  wp (m_law_told x_tree) (fun r => ∀ (F' H' : Hp), Gr [] F H F' H' → ∀ (p : Addr) (w : (List (Key × V))), H p = none → F' p = none → H' p = some (.dK w) → RD (κ := Str) (β := (List Int)) F' w r → Q (.ref p) H')
  (fun n => ∀ (C : Addr) (H' : Hp), mg (Str.ofString n) = some (.ref C) → Kp [] H H' → E (.ref C) none H')
set_option maxHeartbeats 20000000 in
theorem ok_law_told (nb : Nb mg) (C_all_seats : Ca P w K mg base "all_seats" 64 ["tree", "rule"] (sp_all_seats mg)) (C_rule_named : Ca P w K mg base "rule_named" 3 ["name"] (sp_rule_named mg)) (D : Df K mg "_law_told" "_law_told" s_law_told ["tree"]) : Ca P w K mg base "_law_told" 65 ["tree"] (sp_law_told mg) := by
  obtain ⟨fa_all_seats, fd_all_seats, G_all_seats, M_all_seats, K_all_seats, B_all_seats⟩ := C_all_seats.ex
  obtain ⟨fa_rule_named, fd_rule_named, G_rule_named, M_rule_named, K_rule_named, B_rule_named⟩ := C_rule_named.ex
  refine Ca.mk' D sc_law_told (fun vs H Q E h => ?_) (fun q_ f_ cdv A outer s H vs Q E hr h => ?_)
  · obtain ⟨F, _, _, rfl, _⟩ := h
    rfl
  · obtain ⟨F, v_tree, x_tree, rfl, P0, f_tree, hk⟩ := h
    have nd := sc_law_told.nd
    have hu64 := hr.units
    have hu128 := hu128_of hr
    have O := P0.start
    refine ⟨_, (pss_cons (ps_toN (ps_set (i := 1) nd rfl (Or.inl rfl) pe_dnewK))
  (pss_cons (ps_for (passes_of rfl) rfl (piListK (K := K) rfl (pe_lst (pa_cons pe_str (pa_cons pe_str (pa_cons pe_str (pa_cons pe_str (pa_cons pe_str (pa_cons pe_str pa_nil)))))))) (pg_name (i := 2) nd rfl (Or.inl rfl)) (pss_one (ps_dput (u1_of hu64) (pv 1) (pv 2) (pe_call G_all_seats (hr.mono (by decide)) rfl M_all_seats K_all_seats B_all_seats .nil (passes_call (takes_of rfl rfl rfl rfl) fun _ _ _ _ h => h) (pa_cons (pv 0) (pa_cons (pe_call G_rule_named (hr.mono (by decide)) rfl M_rule_named K_rule_named B_rule_named .nil (passes_call (takes_of rfl rfl rfl rfl) fun _ _ _ _ h => h) (pa_cons (pv 2) pa_nil)) pa_nil))) rfl)))
  (pss_one (ps_ret (pv 1))))), ?_⟩
    refine fun p2 hp3 => ?_
    have hl5 : RD (κ := Str) (β := (List Int)) F [] ([] : (List (Str × (List Int)))) := RD.nil
    have z6 := O.was hp3
    have O4 := O.new (o := .dK []) hp3
    refine ⟨[some v_tree, some (V.ref p2), none], rfl, (by show 6 ≤ sizeLine; decide), fun p7 hp8 => ?_⟩
    have hl14 : RL (a := Str) F ([V.str ("apart" : Str), V.str ("best" : Str), V.str ("farthest" : Str), V.str ("piece" : Str), V.str ("pieces" : Str), V.str ("sum" : Str)]) ([("apart" : Str), ("best" : Str), ("farthest" : Str), ("piece" : Str), ("pieces" : Str), ("sum" : Str)]) := RL.cons R.str (RL.cons R.str (RL.cons R.str (RL.cons R.str (RL.cons R.str (RL.cons R.str RL.nil)))))
    obtain ⟨F9, O10, S11, h12⟩ := O4.putE hp8 (.lst ([V.str ("apart" : Str), V.str ("best" : Str), V.str ("farthest" : Str), V.str ("piece" : Str), V.str ("pieces" : Str), V.str ("sum" : Str)]))
    have f_tree := f_tree.mono S11
    have hl5 := hl5.mono S11
    have hl14 := hl14.mono S11
    have h13 := R.lst (a := Str) h12 hl14
    obtain ⟨p15, w16, e17, h18, hl19⟩ := R.lst_ h13
    cases e17
    obtain ⟨L21, hL22, hLs23, hLd24⟩ := loopN_L hk
    refine ⟨_, rfl, ⟨_, (SqLF O10.s h18)⟩, ?_⟩
    refine for_list (K := K) (xs := w16) (fun i σ H_ => ∃ (F_ : Hp) (st : (List (Str × (List Int)))) (w_0 : (List (Key × V))) (t_0 : Option V), σ = [some v_tree, some (V.ref p2), t_0] ∧ Same F9 F_ ∧ Ow _ F_ [(p2, .dK w_0)] H_ ∧ RD (κ := Str) (β := (List Int)) F_ w_0 st ∧ L21 (List.drop i ([("apart" : Str), ("best" : Str), ("farthest" : Str), ("piece" : Str), ("pieces" : Str), ("sum" : Str)])) st) ⟨F9, ([] : (List (Str × (List Int)))), [], none, rfl, Same.refl _, O10, hl5, hL22⟩ (fun i_ σ_ H_ _ hp_ => ?_) ?_ ?_
    · obtain ⟨_, _, _, _, _, hS_, hO_, _⟩ := hp_
      exact SqLF hO_.s (hS_ _ _ h18)
    · rintro i25 x26 sg27 H28 hi29 ⟨F35, st31, w32, t34, rfl, S30, O36, hl33, hL22⟩
      have f_tree := f_tree.mono S30
      have h13 := h13.mono S30
      have h18 := S30 _ _ h18
      have hl19 := hl19.mono S30
      obtain ⟨y20, e37, r38⟩ := RL.got hl19 hi29
      rw [drop_at e37] at hL22
      have hk := hLs23 _ _ _ hL22
      obtain rfl := R.str_ r38
      refine ⟨_, rfl, _, rfl, _, _, rfl, O36.pre0, wp_call hk (fun r39 er40 hk F41 H42 g43 v44 r45 => ?_) (fun n hn C H1 hC kp => hn C H1 hC (O36.kp0 kp))⟩
      have O46 := O36.call0 g43
      have S_ := g43.f
      have f_tree := f_tree.mono S_
      have h13 := h13.mono S_
      have h18 := S_ _ _ h18
      have hl19 := hl19.mono S_
      have hl33 := hl33.mono S_
      have S30 := S30.trans S_
      refine ⟨_, _, _, _, _, rfl, O46.pre0, f_tree, r45, wp_call hk (fun r47 er48 hk F49 H50 g51 p52 w53 hn54 hf55 h56 hl57 => ?_) (fun n hn C H1 hC kp => hn C H1 hC (O46.kp0 kp))⟩
      have O58 := O46.call0 g51
      have S_ := g51.f
      have f_tree := f_tree.mono S_
      have h13 := h13.mono S_
      have h18 := S_ _ _ h18
      have hl19 := hl19.mono S_
      have hl33 := hl33.mono S_
      have S30 := S30.trans S_
      have r45 := r45.mono S_
      have O59 := O46.got O58 rfl hn54 hf55 h56
      have z60 := O46.was hn54
      obtain ⟨F61, O62, S63, h64⟩ := O59.frzE 0 rfl z60
      have f_tree := f_tree.mono S63
      have h13 := h13.mono S63
      have h18 := S63 _ _ h18
      have hl19 := hl19.mono S63
      have hl33 := hl33.mono S63
      have S30 := S30.trans S63
      have r45 := r45.mono S63
      have hl57 := hl57.mono S63
      have h65 := R.lst (a := Int) h64 hl57
      obtain ⟨c66, hk⟩ := wp_putD hk
      refine ⟨_, rfl, _, rfl, _, _, rfl, (dput_S (v := (V.ref p52)) (O62.at 0 rfl) (by rw [RD.len hl33]; exact c66)), ?_⟩
      have O68 := O62.set 0 (.dK (putK w32 (DK.kk y20) (V.ref p52))) rfl
      have hl69 : RD (κ := Str) (β := (List Int)) F61 (putK w32 (DK.kk y20) (V.ref p52)) (dPut st31 y20 r47) := RD.put hl33 y20 h65
      exact ⟨F61, (dPut st31 y20 r47), (putK w32 (DK.kk y20) (V.ref p52)), some (V.str y20), rfl, S30, O68, hl69, hk⟩
    rintro sg70 H71 ⟨F78, st73, w75, t77, rfl, S72, O79, hl76, hL74⟩
    rw [drop_end hl19.len] at hL74
    have hk := hLd24 _ hL74
    have f_tree := f_tree.mono S72
    have h13 := h13.mono S72
    have h18 := S72 _ _ h18
    have hl19 := hl19.mono S72
    refine ⟨_, rfl, ?_⟩
    exact hk _ _  O79.g  _ _ z6 (O79.cf _ (List.mem_of_getElem? (i := 0) rfl)) (O79.at 0 rfl) hl76
abbrev s_law_within : Stmt := top 52
theorem sc_law_within : FnScope ["tree", "told", "many", "name", "beside", "place", "worths", "ties", "a", "b", "length", "behind"] ["tree", "told"] (defScope s_law_within) := ⟨rfl, rfl, rfl, by decide +kernel, rfl, by decide +kernel, by decide +kernel⟩
def m_law_within (x_tree : ((List Int) × (List (T3 Int Int Int)))) (x_told : (List (Str × (List Int)))) : M (Bool) :=
loopM (fun (y18 : (T3 Int Int Int)) (st29 : Unit) =>
m_law_side x_tree y18.a y18.b >>= fun r47 =>
opt (dGet x_told ("sum" : Str)) >>= fun y58 =>
opt (atI y58 y18.a) >>= fun y68 =>
opt (dGet x_told ("sum" : Str)) >>= fun y73 =>
opt (atI y73 y18.b) >>= fun y83 =>
chk (CMulW (2 : Int) r47) >>= fun _ =>
chk (CMulW y18.c (((2 : Int) * r47) - (x_tree.1.length : Int))) >>= fun _ =>
if (y68 - y83) ≠ (y18.c * (((2 : Int) * r47) - (x_tree.1.length : Int))) then (
.ok (.rt false))
else (
opt (dGet x_told ("farthest" : Str)) >>= fun y91 =>
opt (atI y91 y18.a) >>= fun y101 =>
opt (dGet x_told ("farthest" : Str)) >>= fun y106 =>
opt (atI y106 y18.b) >>= fun y116 =>
if y18.c < (if (y101 - y116) < 0 then -(y101 - y116) else (y101 - y116)) then (
.ok (.rt false))
else (
.ok (.nx ())))) x_tree.2 () >>= fun f133 => match f133 with
| .rt z_ => .ok z_
| .nx st125 =>
loopM (fun (y147 : Str) (st158 : Unit) =>
opt (dGet x_told y147) >>= fun y169 =>
opt (dGet x_told y147) >>= fun y174 =>
chk (CRep (cutL y174 none (some (1 : Int))).length (x_tree.1.length : Int)) >>= fun _ =>
if y169 ≠ (repL (x_tree.1.length : Int) (cutL y174 none (some (1 : Int)))) then (
.ok (.rt false))
else (
.ok (.nx ()))) ([("apart" : Str), ("best" : Str)]) () >>= fun f215 => match f215 with
| .rt z_ => .ok z_
| .nx st210 =>
opt (dGet x_told ("best" : Str)) >>= fun y221 =>
opt (atI y221 (0 : Int)) >>= fun y231 =>
chk (x_tree.1.length + ([(0 : Int)]).length < 16777216) >>= fun _ =>
opt (mxI (x_tree.1 ++ ([(0 : Int)]))) >>= fun y268 =>
if y231 < y268 then (
.ok false)
else (
m_law_beside x_tree >>= fun r275 =>
chk (okR (x_tree.1.length : Int)) >>= fun _ =>
loopM (fun (y290 : Int) (st302 : Unit) =>
opt (dGet x_told ("piece" : Str)) >>= fun y306 =>
opt (atI y306 y290) >>= fun y316 =>
opt (atI x_tree.1 y290) >>= fun y326 =>
if y316 < y326 then (
.ok (.rt false))
else (
opt (dGet x_told ("pieces" : Str)) >>= fun y336 =>
opt (atI y336 y290) >>= fun y346 =>
opt (atI r275 y290) >>= fun y351 =>
if y346 ≤ (y351.length : Int) then (
.ok (.rt false))
else (
.ok (.nx ())))) (rangeL 0 (x_tree.1.length : Int)) () >>= fun f372 => match f372 with
| .rt z_ => .ok z_
| .nx st367 =>
.ok true)
def sp_law_within (mg : Str → Option Value) : Sp := fun vs H Q E => ∃ (F : Hp) (v_tree : V) (x_tree : ((List Int) × (List (T3 Int Int Int)))) (v_told : V) (x_told : (List (Str × (List Int)))), vs = [v_tree, v_told] ∧ Pre F [] H ∧ R (a := ((List Int) × (List (T3 Int Int Int)))) F v_tree x_tree ∧ RDv (κ := Str) (β := (List Int)) F v_told x_told ∧
  wp (m_law_within x_tree x_told) (fun r => ∀ (F' H' : Hp), Gr [] F H F' H' → Q (V.bl r) H')
  (fun n => ∀ (C : Addr) (H' : Hp), mg (Str.ofString n) = some (.ref C) → Kp [] H H' → E (.ref C) none H')
set_option maxHeartbeats 20000000 in
theorem ok_law_within (nb : Nb mg) (C_law_beside : Ca P w K mg base "_law_beside" 1 ["tree"] (sp_law_beside mg)) (C_law_side : Ca P w K mg base "_law_side" 2 ["tree", "a", "b"] (sp_law_side mg)) (D : Df K mg "_law_within" "_law_within" s_law_within ["tree", "told"]) : Ca P w K mg base "_law_within" 3 ["tree", "told"] (sp_law_within mg) := by
  obtain ⟨fa_law_beside, fd_law_beside, G_law_beside, M_law_beside, K_law_beside, B_law_beside⟩ := C_law_beside.ex
  obtain ⟨fa_law_side, fd_law_side, G_law_side, M_law_side, K_law_side, B_law_side⟩ := C_law_side.ex
  refine Ca.mk' D sc_law_within (fun vs H Q E h => ?_) (fun q_ f_ cdv A outer s H vs Q E hr h => ?_)
  · obtain ⟨F, _, _, _, _, rfl, _⟩ := h
    rfl
  · obtain ⟨F, v_tree, x_tree, v_told, x_told, rfl, P0, f_tree, f_told, hk⟩ := h
    have nd := sc_law_within.nd
    have hu64 := hr.units
    have hu128 := hu128_of hr
    have O := P0.start
    refine ⟨_, (pss_cons (ps_asg (pv 0) (pg_tup rfl (pgs_cons (pg_name (i := 6) nd rfl (Or.inl rfl)) (pgs_cons (pg_name (i := 7) nd rfl (Or.inl rfl)) pgs_nil))))
  (pss_cons (ps_toN (ps_set (i := 2) nd rfl (Or.inl rfl) (pe_callB call_lenT (by rfl) nb.b_len PySem.boot_len (pa_cons (pv 6) pa_nil))))
  (pss_cons (ps_for (passes_of rfl) rfl (piListK (K := K) rfl (pv 7)) (pg_tup rfl (pgs_cons (pg_name (i := 8) nd rfl (Or.inl rfl)) (pgs_cons (pg_name (i := 9) nd rfl (Or.inl rfl)) (pgs_cons (pg_name (i := 10) nd rfl (Or.inl rfl)) pgs_nil)))) (pss_cons (ps_toN (ps_set (i := 11) nd rfl (Or.inl rfl) (pe_call G_law_side (hr.mono (by decide)) rfl M_law_side K_law_side B_law_side .nil (passes_call (takes_of rfl rfl rfl rfl) fun _ _ _ _ h => h) (pa_cons (pv 0) (pa_cons (pv 8) (pa_cons (pv 9) pa_nil))))))
  (pss_cons (ps_if (pt_cmpR (op_neT Int hu64) (pe_op op_sub (pe_ix (ixListK (K := K) rfl) (pe_dget (u1_of hu64) (pv 1) pe_str (fun _ _ => rfl)) (pv 8) (fun _ _ => rfl)) (pe_ix (ixListK (K := K) rfl) (pe_dget (u1_of hu64) (pv 1) pe_str (fun _ _ => rfl)) (pv 9) (fun _ _ => rfl))) (pe_op op_mulW (pv 10) (pe_op op_sub (pe_op op_mulW pe_int (pv 11)) (pv 2))) (nomark _)) (pss_one (ps_ret pe_bl)) pss_nil)
  (pss_one (ps_if (pt_cmpR op_gt (pe_callB call_abs (by rfl) nb.b_abs (by decide +kernel) (pa_cons (pe_op op_sub (pe_ix (ixListK (K := K) rfl) (pe_dget (u1_of hu64) (pv 1) pe_str (fun _ _ => rfl)) (pv 8) (fun _ _ => rfl)) (pe_ix (ixListK (K := K) rfl) (pe_dget (u1_of hu64) (pv 1) pe_str (fun _ _ => rfl)) (pv 9) (fun _ _ => rfl))) pa_nil)) (pv 10) (nomark _)) (pss_one (ps_ret pe_bl)) pss_nil)))))
  (pss_cons (ps_for (passes_of rfl) rfl (piListK (K := K) rfl (pe_lst (pa_cons pe_str (pa_cons pe_str pa_nil)))) (pg_name (i := 3) nd rfl (Or.inl rfl)) (pss_one (ps_if (pt_cmpR (op_neT (List Int) hu64) (pe_dget (u1_of hu64) (pv 1) (pv 3) (fun _ _ => rfl)) (pe_op op_rep (pe_slice (slListK (K := K) rfl) (pe_dget (u1_of hu64) (pv 1) (pv 3) (fun _ _ => rfl)) po_none (po_some pe_int)) (pv 2)) (nomark _)) (pss_one (ps_ret pe_bl)) pss_nil)))
  (pss_cons (ps_if (pt_cmpR op_lt (pe_ix (ixListK (K := K) rfl) (pe_dget (u1_of hu64) (pv 1) pe_str (fun _ _ => rfl)) pe_int (fun _ _ => rfl)) (pe_callB (cr_maxK (K := K) rfl rfl) (by rfl) nb.b_max (by decide +kernel) (pa_cons (pe_op op_cat (pv 6) (pe_lst (pa_cons pe_int pa_nil))) pa_nil)) (nomark _)) (pss_one (ps_ret pe_bl)) pss_nil)
  (pss_cons (ps_toN (ps_set (i := 4) nd rfl (Or.inl rfl) (pe_call G_law_beside (hr.mono (by decide)) rfl M_law_beside K_law_beside B_law_beside .nil (passes_call (takes_of rfl rfl rfl rfl) fun _ _ _ _ h => h) (pa_cons (pv 0) pa_nil))))
  (pss_cons (ps_for (passes_of rfl) rfl (pi_range1 rfl nb.b_range (pa_cons (pv 2) pa_nil)) (pg_name (i := 5) nd rfl (Or.inl rfl)) (pss_one (ps_if (PW.pt (pw_or (pt_cmpR op_lt (pe_ix (ixListK (K := K) rfl) (pe_dget (u1_of hu64) (pv 1) pe_str (fun _ _ => rfl)) (pv 5) (fun _ _ => rfl)) (pe_ix (ixListK (K := K) rfl) (pv 6) (pv 5) (fun _ _ => rfl)) (nomark _)) (pw_or1 (pt_cmpR op_le (pe_ix (ixListK (K := K) rfl) (pe_dget (u1_of hu64) (pv 1) pe_str (fun _ _ => rfl)) (pv 5) (fun _ _ => rfl)) (pe_callB call_lenT (by rfl) nb.b_len PySem.boot_len (pa_cons (pe_ix (ixListK (K := K) rfl) (pv 4) (pv 5) (fun _ _ => rfl)) pa_nil)) (nomark _))))) (pss_one (ps_ret pe_bl)) pss_nil)))
  (pss_one (ps_ret pe_bl))))))))), ?_⟩
    obtain ⟨p1, v4, v5, e2, h3, r6, r7⟩ := R.t2_ f_tree
    cases e2
    obtain ⟨p8, w9, e10, h11, hl12⟩ := R.lst_ r6
    cases e10
    obtain ⟨p13, w14, e15, h16, hl17⟩ := R.lst_ r7
    cases e15
    obtain ⟨L19, hL20, hLs21, hLd22⟩ := loopM_L hk
    refine ⟨_, rfl, _, _, rfl, (SqTF O.s h3), rfl, _, _, rfl, _, _, rfl, rfl, _, rfl, _, _, _, rfl, (.inl (O.s _ _ h11)), hl12.len, [some (V.ref p1), some v_told, some (V.int (x_tree.1.length : Int)), none, none, none, some (V.ref p8), some (V.ref p13), none, none, none, none], rfl, _, rfl, _, rfl, ⟨_, (SqLF O.s h16)⟩, ?_⟩
    refine for_list (K := K) (xs := w14) (fun i σ H_ => ∃ (F_ : Hp) (st : Unit) (t_0 : Option V) (t_1 : Option V) (t_2 : Option V) (t_3 : Option V), σ = [some (V.ref p1), some v_told, some (V.int (x_tree.1.length : Int)), none, none, none, some (V.ref p8), some (V.ref p13), t_0, t_1, t_2, t_3] ∧ Same F F_ ∧ Ow _ F_ [] H_ ∧ L19 (List.drop i x_tree.2) st) ⟨F, (), none, none, none, none, rfl, Same.refl _, O, hL20⟩ (fun i_ σ_ H_ _ hp_ => ?_) ?_ ?_
    · obtain ⟨_, _, _, _, _, _, _, hS_, hO_, _⟩ := hp_
      exact SqLF hO_.s (hS_ _ _ h16)
    · rintro i23 x24 sg25 H26 hi27 ⟨F34, st29, t30, t31, t32, t33, rfl, S28, O35, hL20⟩
      have f_tree := f_tree.mono S28
      have f_told := f_told.mono S28
      have h3 := S28 _ _ h3
      have r6 := r6.mono S28
      have r7 := r7.mono S28
      have h11 := S28 _ _ h11
      have hl12 := hl12.mono S28
      have h16 := S28 _ _ h16
      have hl17 := hl17.mono S28
      obtain ⟨y18, e36, r37⟩ := RL.got hl17 hi27
      rw [drop_at e36] at hL20
      have hk := hLs21 _ _ _ hL20
      obtain ⟨p38, v41, v42, v43, e39, h40, r44, r45, r46⟩ := R.t3_ r37
      cases e39
      obtain rfl := R.int_ r44
      obtain rfl := R.int_ r45
      obtain rfl := R.int_ r46
      refine ⟨_, _, rfl, (SqTF O35.s h40), rfl, _, _, rfl, _, _, rfl, _, _, rfl, rfl, _, rfl, _, rfl, _, rfl, _, _, _, _, _, rfl, O35.pre0, f_tree, wp_call hk (fun r47 er48 hk F49 H50 g51 => ?_) (fun n hn C H1 hC kp => hn C H1 hC (O35.kp0 kp))⟩
      have O52 := O35.call0 g51
      have S_ := g51.f
      have f_tree := f_tree.mono S_
      have f_told := f_told.mono S_
      have h3 := S_ _ _ h3
      have r6 := r6.mono S_
      have r7 := r7.mono S_
      have h11 := S_ _ _ h11
      have hl12 := hl12.mono S_
      have h16 := S_ _ _ h16
      have hl17 := hl17.mono S_
      have S28 := S28.trans S_
      have r37 := r37.mono S_
      have h40 := S_ _ _ h40
      obtain ⟨p53, w54, e55, h56, hl57⟩ := f_told
      cases e55
      have h56 : Rd F49 _ (.dK w54) := h56
      have f_told := RDv.mk (κ := Str) (β := (List Int)) h56 hl57
      obtain ⟨y58, e59, hk⟩ := wp_opt hk
      obtain ⟨w60, e61, r62⟩ := RD.some hl57 (k := ("sum" : Str)) e59
      obtain ⟨p63, w64, e65, h66, hl67⟩ := R.lst_ r62
      cases e65
      obtain ⟨y68, e69, hk⟩ := wp_opt hk
      obtain ⟨w70, e71, r72⟩ := hl67.atI e69
      obtain rfl := R.int_ r72
      obtain ⟨y73, e74, hk⟩ := wp_opt hk
      obtain ⟨w75, e76, r77⟩ := RD.some hl57 (k := ("sum" : Str)) e74
      obtain ⟨p78, w79, e80, h81, hl82⟩ := R.lst_ r77
      cases e80
      obtain ⟨y83, e84, hk⟩ := wp_opt hk
      obtain ⟨w85, e86, r87⟩ := hl82.atI e84
      obtain rfl := R.int_ r87
      obtain ⟨c88, hk⟩ := wp_chk hk
      obtain ⟨c89, hk⟩ := wp_chk hk
      refine ⟨[some (V.ref p1), some (V.ref p53), some (V.int (x_tree.1.length : Int)), none, none, none, some (V.ref p8), some (V.ref p13), some (V.int y18.a), some (V.int y18.b), some (V.int y18.c), some (V.int r47)], rfl, _, rfl, _, _, rfl, (dget_S (rd_mono O52.s h56) e61), _, rfl, _, _, _, _, rfl, rfl, (SqLF O52.s h66), e71, _, rfl, _, _, rfl, (dget_S (rd_mono O52.s h56) e76), _, rfl, _, _, _, _, rfl, rfl, (SqLF O52.s h81), e86, _, _, rfl, rfl, _, rfl, _, rfl, _, _, rfl, rfl, c88, _, rfl, _, _, rfl, rfl, _, _, rfl, rfl, c89, _, _, R.int, R.int, _, rfl, ?_⟩
      refine iteD (fun q90 => ?_) (fun q90 => ?_)
      · have hk := wp_if hk q90
        exact hk _ _  O52.g 
      · have hk := wp_el hk q90
        obtain ⟨y91, e92, hk⟩ := wp_opt hk
        obtain ⟨w93, e94, r95⟩ := RD.some hl57 (k := ("farthest" : Str)) e92
        obtain ⟨p96, w97, e98, h99, hl100⟩ := R.lst_ r95
        cases e98
        obtain ⟨y101, e102, hk⟩ := wp_opt hk
        obtain ⟨w103, e104, r105⟩ := hl100.atI e102
        obtain rfl := R.int_ r105
        obtain ⟨y106, e107, hk⟩ := wp_opt hk
        obtain ⟨w108, e109, r110⟩ := RD.some hl57 (k := ("farthest" : Str)) e107
        obtain ⟨p111, w112, e113, h114, hl115⟩ := R.lst_ r110
        cases e113
        obtain ⟨y116, e117, hk⟩ := wp_opt hk
        obtain ⟨w118, e119, r120⟩ := hl115.atI e117
        obtain rfl := R.int_ r120
        refine ⟨_, rfl, _, _, rfl, (dget_S (rd_mono O52.s h56) e94), _, rfl, _, _, _, _, rfl, rfl, (SqLF O52.s h99), e104, _, rfl, _, _, rfl, (dget_S (rd_mono O52.s h56) e109), _, rfl, _, _, _, _, rfl, rfl, (SqLF O52.s h114), e119, _, _, rfl, rfl, _, rfl, _, rfl, _, _, rfl, rfl, _, rfl, ?_⟩
        refine iteD (fun q121 => ?_) (fun q121 => ?_)
        · have hk := wp_if hk q121
          exact hk _ _  O52.g 
        · have hk := wp_el hk q121
          exact ⟨F49, (), some (V.int y18.a), some (V.int y18.b), some (V.int y18.c), some (V.int r47), rfl, S28, O52, hk⟩
    rintro sg122 H123 ⟨F131, st125, t127, t128, t129, t130, rfl, S124, O132, hL126⟩
    rw [drop_end hl17.len] at hL126
    have hk := hLd22 _ hL126
    have f_tree := f_tree.mono S124
    have f_told := f_told.mono S124
    have h3 := S124 _ _ h3
    have r6 := r6.mono S124
    have r7 := r7.mono S124
    have h11 := S124 _ _ h11
    have hl12 := hl12.mono S124
    have h16 := S124 _ _ h16
    have hl17 := hl17.mono S124
    refine ⟨(by show 2 ≤ sizeLine; decide), fun p134 hp135 => ?_⟩
    have hl141 : RL (a := Str) F131 ([V.str ("apart" : Str), V.str ("best" : Str)]) ([("apart" : Str), ("best" : Str)]) := RL.cons R.str (RL.cons R.str RL.nil)
    obtain ⟨F136, O137, S138, h139⟩ := O132.putE hp135 (.lst ([V.str ("apart" : Str), V.str ("best" : Str)]))
    have f_tree := f_tree.mono S138
    have f_told := f_told.mono S138
    have h3 := S138 _ _ h3
    have r6 := r6.mono S138
    have r7 := r7.mono S138
    have h11 := S138 _ _ h11
    have hl12 := hl12.mono S138
    have h16 := S138 _ _ h16
    have hl17 := hl17.mono S138
    have hl141 := hl141.mono S138
    have h140 := R.lst (a := Str) h139 hl141
    obtain ⟨p142, w143, e144, h145, hl146⟩ := R.lst_ h140
    cases e144
    obtain ⟨L148, hL149, hLs150, hLd151⟩ := loopM_L hk
    refine ⟨_, rfl, ⟨_, (SqLF O137.s h145)⟩, ?_⟩
    refine for_list (K := K) (xs := w143) (fun i σ H_ => ∃ (F_ : Hp) (st : Unit) (t_0 : Option V), σ = [some (V.ref p1), some v_told, some (V.int (x_tree.1.length : Int)), t_0, none, none, some (V.ref p8), some (V.ref p13), t127, t128, t129, t130] ∧ Same F136 F_ ∧ Ow _ F_ [] H_ ∧ L148 (List.drop i ([("apart" : Str), ("best" : Str)])) st) ⟨F136, (), none, rfl, Same.refl _, O137, hL149⟩ (fun i_ σ_ H_ _ hp_ => ?_) ?_ ?_
    · obtain ⟨_, _, _, _, hS_, hO_, _⟩ := hp_
      exact SqLF hO_.s (hS_ _ _ h145)
    · rintro i152 x153 sg154 H155 hi156 ⟨F160, st158, t159, rfl, S157, O161, hL149⟩
      have f_tree := f_tree.mono S157
      have f_told := f_told.mono S157
      have h3 := S157 _ _ h3
      have r6 := r6.mono S157
      have r7 := r7.mono S157
      have h11 := S157 _ _ h11
      have hl12 := hl12.mono S157
      have h16 := S157 _ _ h16
      have hl17 := hl17.mono S157
      have h140 := h140.mono S157
      have h145 := S157 _ _ h145
      have hl146 := hl146.mono S157
      obtain ⟨y147, e162, r163⟩ := RL.got hl146 hi156
      rw [drop_at e162] at hL149
      have hk := hLs150 _ _ _ hL149
      obtain rfl := R.str_ r163
      obtain ⟨p164, w165, e166, h167, hl168⟩ := f_told
      cases e166
      have h167 : Rd F160 _ (.dK w165) := h167
      have f_told := RDv.mk (κ := Str) (β := (List Int)) h167 hl168
      obtain ⟨y169, e170, hk⟩ := wp_opt hk
      obtain ⟨w171, e172, r173⟩ := RD.some hl168 (k := y147) e170
      obtain ⟨y174, e175, hk⟩ := wp_opt hk
      obtain ⟨w176, e177, r178⟩ := RD.some hl168 (k := y147) e175
      obtain ⟨p179, w180, e181, h182, hl183⟩ := R.lst_ r178
      cases e181
      refine ⟨_, rfl, _, rfl, _, _, rfl, (dget_S (rd_mono O161.s h167) e172), _, rfl, _, rfl, _, _, rfl, (dget_S (rd_mono O161.s h167) e177), _, rfl, _, _, rfl, (SqLF O161.s h182), fun p184 hp185 => ?_⟩
      have hl191 : RL (a := Int) F160 (cutV w180 none (some (1 : Int))) (cutL y174 none (some (1 : Int))) := RL.cutL hl183 none (some (1 : Int))
      obtain ⟨F186, O187, S188, h189⟩ := O161.putE hp185 (.lst (cutV w180 none (some (1 : Int))))
      have f_tree := f_tree.mono S188
      have f_told := f_told.mono S188
      have h3 := S188 _ _ h3
      have r6 := r6.mono S188
      have r7 := r7.mono S188
      have h11 := S188 _ _ h11
      have hl12 := hl12.mono S188
      have h16 := S188 _ _ h16
      have hl17 := hl17.mono S188
      have h140 := h140.mono S188
      have h145 := S188 _ _ h145
      have hl146 := hl146.mono S188
      have S157 := S157.trans S188
      have h167 := rd_mono S188 h167
      have hl168 := hl168.mono S188
      have r173 := r173.mono S188
      have r178 := r178.mono S188
      have h182 := S188 _ _ h182
      have hl183 := hl183.mono S188
      have hl191 := hl191.mono S188
      have h190 := R.lst (a := Int) h189 hl191
      obtain ⟨p192, w193, e194, h195, hl196⟩ := R.lst_ h190
      cases e194
      obtain ⟨c197, hk⟩ := wp_chk hk
      refine ⟨_, rfl, _, _, _, rfl, rfl, (O187.s _ _ h195), c197.1, c197.2.1, (by rw [hl196.len]; exact le_line c197.2.2), fun p198 hp199 => ?_⟩
      have hl205 : RL (a := Int) F186 (repL (x_tree.1.length : Int) w193) (repL (x_tree.1.length : Int) (cutL y174 none (some (1 : Int)))) := RL.rep hl196 (x_tree.1.length : Int)
      obtain ⟨F200, O201, S202, h203⟩ := O187.putE hp199 (.lst (repL (x_tree.1.length : Int) w193))
      have f_tree := f_tree.mono S202
      have f_told := f_told.mono S202
      have h3 := S202 _ _ h3
      have r6 := r6.mono S202
      have r7 := r7.mono S202
      have h11 := S202 _ _ h11
      have hl12 := hl12.mono S202
      have h16 := S202 _ _ h16
      have hl17 := hl17.mono S202
      have h140 := h140.mono S202
      have h145 := S202 _ _ h145
      have hl146 := hl146.mono S202
      have S157 := S157.trans S202
      have h167 := rd_mono S202 h167
      have hl168 := hl168.mono S202
      have r173 := r173.mono S202
      have r178 := r178.mono S202
      have h182 := S202 _ _ h182
      have hl183 := hl183.mono S202
      have h190 := h190.mono S202
      have h195 := S202 _ _ h195
      have hl196 := hl196.mono S202
      have hl205 := hl205.mono S202
      have h204 := R.lst (a := Int) h203 hl205
      refine ⟨_, _, (R.mono r173 O201.s), (R.mono h204 O201.s), _, rfl, ?_⟩
      refine iteD (fun q206 => ?_) (fun q206 => ?_)
      · have hk := wp_if hk q206
        exact hk _ _  O201.g 
      · have hk := wp_el hk q206
        exact ⟨F200, (), some (V.str y147), rfl, S157, O201, hk⟩
    rintro sg207 H208 ⟨F213, st210, t212, rfl, S209, O214, hL211⟩
    rw [drop_end hl146.len] at hL211
    have hk := hLd151 _ hL211
    have f_tree := f_tree.mono S209
    have f_told := f_told.mono S209
    have h3 := S209 _ _ h3
    have r6 := r6.mono S209
    have r7 := r7.mono S209
    have h11 := S209 _ _ h11
    have hl12 := hl12.mono S209
    have h16 := S209 _ _ h16
    have hl17 := hl17.mono S209
    have h140 := h140.mono S209
    have h145 := S209 _ _ h145
    have hl146 := hl146.mono S209
    obtain ⟨p216, w217, e218, h219, hl220⟩ := f_told
    cases e218
    have h219 : Rd F213 _ (.dK w217) := h219
    have f_told := RDv.mk (κ := Str) (β := (List Int)) h219 hl220
    obtain ⟨y221, e222, hk⟩ := wp_opt hk
    obtain ⟨w223, e224, r225⟩ := RD.some hl220 (k := ("best" : Str)) e222
    obtain ⟨p226, w227, e228, h229, hl230⟩ := R.lst_ r225
    cases e228
    obtain ⟨y231, e232, hk⟩ := wp_opt hk
    obtain ⟨w233, e234, r235⟩ := hl230.atI e232
    obtain rfl := R.int_ r235
    refine ⟨_, rfl, _, _, rfl, (dget_S (rd_mono O214.s h219) e224), _, _, _, _, rfl, rfl, (SqLF O214.s h229), e234, _, rfl, (by show 1 ≤ sizeLine; decide), fun p236 hp237 => ?_⟩
    have hl243 : RL (a := Int) F213 ([V.int (0 : Int)]) ([(0 : Int)]) := RL.cons R.int RL.nil
    obtain ⟨F238, O239, S240, h241⟩ := O214.putE hp237 (.lst ([V.int (0 : Int)]))
    have f_tree := f_tree.mono S240
    have f_told := f_told.mono S240
    have h3 := S240 _ _ h3
    have r6 := r6.mono S240
    have r7 := r7.mono S240
    have h11 := S240 _ _ h11
    have hl12 := hl12.mono S240
    have h16 := S240 _ _ h16
    have hl17 := hl17.mono S240
    have h140 := h140.mono S240
    have h145 := S240 _ _ h145
    have hl146 := hl146.mono S240
    have h219 := rd_mono S240 h219
    have hl220 := hl220.mono S240
    have r225 := r225.mono S240
    have h229 := S240 _ _ h229
    have hl230 := hl230.mono S240
    have hl243 := hl243.mono S240
    have h242 := R.lst (a := Int) h241 hl243
    obtain ⟨p244, w245, e246, h247, hl248⟩ := R.lst_ r6
    cases e246
    obtain ⟨p249, w250, e251, h252, hl253⟩ := R.lst_ h242
    cases e251
    obtain ⟨c254, hk⟩ := wp_chk hk
    refine ⟨_, _, _, _, rfl, rfl, (O239.s _ _ h247), (O239.s _ _ h252), (by rw [hl248.len, hl253.len]; exact le_line c254), fun p255 hp256 => ?_⟩
    have hl262 : RL (a := Int) F238 (w245 ++ w250) (x_tree.1 ++ ([(0 : Int)])) := RL.app hl248 hl253
    obtain ⟨F257, O258, S259, h260⟩ := O239.putE hp256 (.lst (w245 ++ w250))
    have f_tree := f_tree.mono S259
    have f_told := f_told.mono S259
    have h3 := S259 _ _ h3
    have r6 := r6.mono S259
    have r7 := r7.mono S259
    have h11 := S259 _ _ h11
    have hl12 := hl12.mono S259
    have h16 := S259 _ _ h16
    have hl17 := hl17.mono S259
    have h140 := h140.mono S259
    have h145 := S259 _ _ h145
    have hl146 := hl146.mono S259
    have h219 := rd_mono S259 h219
    have hl220 := hl220.mono S259
    have r225 := r225.mono S259
    have h229 := S259 _ _ h229
    have hl230 := hl230.mono S259
    have h242 := h242.mono S259
    have h247 := S259 _ _ h247
    have hl248 := hl248.mono S259
    have h252 := S259 _ _ h252
    have hl253 := hl253.mono S259
    have hl262 := hl262.mono S259
    have h261 := R.lst (a := Int) h260 hl262
    obtain ⟨p263, w264, e265, h266, hl267⟩ := R.lst_ h261
    cases e265
    obtain ⟨y268, e269, hk⟩ := wp_opt hk
    refine ⟨_, (x_tree.1 ++ ([(0 : Int)])), rfl, (by rw [← RL.ints hl267]; exact (SqLF O258.s h266)), (List.length_pos_of_mem (mxI_is e269).1), fun m270 h271 h272 => ?_⟩
    have e273 := mxI_uq e269 h271 h272
    subst e273
    refine ⟨_, _, rfl, rfl, _, rfl, ?_⟩
    refine iteD (fun q274 => ?_) (fun q274 => ?_)
    · have hk := wp_if hk q274
      exact hk _ _  O258.g 
    · have hk := wp_el hk q274
      refine ⟨_, rfl, _, _, _, rfl, O258.pre0, f_tree, wp_call hk (fun r275 er276 hk F277 H278 g279 p280 ps281 hn282 hf283 nd284 hl285 => ?_) (fun n hn C H1 hC kp => hn C H1 hC (O258.kp0 kp))⟩
      have O286 := O258.call0 g279
      have S_ := g279.f
      have f_tree := f_tree.mono S_
      have f_told := f_told.mono S_
      have h3 := S_ _ _ h3
      have r6 := r6.mono S_
      have r7 := r7.mono S_
      have h11 := S_ _ _ h11
      have hl12 := hl12.mono S_
      have h16 := S_ _ _ h16
      have hl17 := hl17.mono S_
      have h140 := h140.mono S_
      have h145 := S_ _ _ h145
      have hl146 := hl146.mono S_
      have h219 := rd_mono S_ h219
      have hl220 := hl220.mono S_
      have r225 := r225.mono S_
      have h229 := S_ _ _ h229
      have hl230 := hl230.mono S_
      have h242 := h242.mono S_
      have h247 := S_ _ _ h247
      have hl248 := hl248.mono S_
      have h252 := S_ _ _ h252
      have hl253 := hl253.mono S_
      have h261 := h261.mono S_
      have h266 := S_ _ _ h266
      have hl267 := hl267.mono S_
      have O287 := Ow.llGot O258 O286 rfl hn282 hf283 nd284
      obtain ⟨z288, zs289⟩ := Ow.llWas O258 hn282
      obtain ⟨c291, hk⟩ := wp_chk hk
      obtain ⟨L292, hL293, hLs294, hLd295⟩ := loopM_L hk
      refine ⟨[some (V.ref p1), some (V.ref p216), some (V.int (x_tree.1.length : Int)), t212, some (V.ref p280), none, some (V.ref p8), some (V.ref p13), t127, t128, t129, t130], rfl, _, rfl, _, rfl, c291.lo, c291.hi, ?_⟩
      refine for_range (lo := 0) (n := ((x_tree.1.length : Int)).toNat) (fun i σ H_ => ∃ (F_ : Hp) (st : Unit) (t_0 : Option V), σ = [some (V.ref p1), some (V.ref p216), some (V.int (x_tree.1.length : Int)), t212, some (V.ref p280), t_0, some (V.ref p8), some (V.ref p13), t127, t128, t129, t130] ∧ Same F277 F_ ∧ Ow _ F_ (([] : List (Addr × HO)) ++ llC p280 ps281) H_ ∧ L292 (List.drop i (rangeL 0 (x_tree.1.length : Int))) st) ⟨F277, (), none, rfl, Same.refl _, O287, hL293⟩ ?_ ?_
      · rintro i296 sg298 H299 hi300 ⟨F304, st302, t303, rfl, S301, O305, hL293⟩
        have f_tree := f_tree.mono S301
        have f_told := f_told.mono S301
        have h3 := S301 _ _ h3
        have r6 := r6.mono S301
        have r7 := r7.mono S301
        have h11 := S301 _ _ h11
        have hl12 := hl12.mono S301
        have h16 := S301 _ _ h16
        have hl17 := hl17.mono S301
        have h140 := h140.mono S301
        have h145 := S301 _ _ h145
        have hl146 := hl146.mono S301
        have h219 := rd_mono S301 h219
        have hl220 := hl220.mono S301
        have r225 := r225.mono S301
        have h229 := S301 _ _ h229
        have hl230 := hl230.mono S301
        have h242 := h242.mono S301
        have h247 := S301 _ _ h247
        have hl248 := hl248.mono S301
        have h252 := S301 _ _ h252
        have hl253 := hl253.mono S301
        have h261 := h261.mono S301
        have h266 := S301 _ _ h266
        have hl267 := hl267.mono S301
        have hl285 := hl285.mono S301
        rw [rangeL_get0 hi300] at hL293
        have hk := hLs294 _ _ _ hL293
        obtain ⟨y290, he_⟩ : ∃ z_, z_ = 0 + (i296 : Int) := ⟨_, rfl⟩
        try rw [← he_] at hk
        rw [← he_]
        obtain ⟨y306, e307, hk⟩ := wp_opt hk
        obtain ⟨w308, e309, r310⟩ := RD.some hl220 (k := ("piece" : Str)) e307
        obtain ⟨p311, w312, e313, h314, hl315⟩ := R.lst_ r310
        cases e313
        obtain ⟨y316, e317, hk⟩ := wp_opt hk
        obtain ⟨w318, e319, r320⟩ := hl315.atI e317
        obtain rfl := R.int_ r320
        obtain ⟨p321, w322, e323, h324, hl325⟩ := R.lst_ r6
        cases e323
        obtain ⟨y326, e327, hk⟩ := wp_opt hk
        obtain ⟨w328, e329, r330⟩ := hl325.atI e327
        obtain rfl := R.int_ r330
        refine ⟨_, rfl, _, _, rfl, (dget_S (rd_mono O305.s h219) e309), _, rfl, _, _, _, _, rfl, rfl, (SqLF O305.s h314), e319, _, rfl, _, rfl, _, _, _, _, rfl, rfl, (SqLF O305.s h324), e329, _, _, rfl, rfl, _, rfl, ?_⟩
        refine iteD (fun q331 => ?_) (fun q331 => ?_)
        · have hk := wp_if hk q331
          refine iteT ?_
          obtain ⟨F332, O333, S334, h335⟩ := Ow.llFrz (S := []) (p := p280) (ps := ps281) O305 z288 zs289 hl285
          have f_tree := f_tree.mono S334
          have f_told := f_told.mono S334
          have h3 := S334 _ _ h3
          have r6 := r6.mono S334
          have r7 := r7.mono S334
          have h11 := S334 _ _ h11
          have hl12 := hl12.mono S334
          have h16 := S334 _ _ h16
          have hl17 := hl17.mono S334
          have h140 := h140.mono S334
          have h145 := S334 _ _ h145
          have hl146 := hl146.mono S334
          have h219 := rd_mono S334 h219
          have hl220 := hl220.mono S334
          have r225 := r225.mono S334
          have h229 := S334 _ _ h229
          have hl230 := hl230.mono S334
          have h242 := h242.mono S334
          have h247 := S334 _ _ h247
          have hl248 := hl248.mono S334
          have h252 := S334 _ _ h252
          have hl253 := hl253.mono S334
          have h261 := h261.mono S334
          have h266 := S334 _ _ h266
          have hl267 := hl267.mono S334
          have S301 := S301.trans S334
          have r310 := r310.mono S334
          have h314 := S334 _ _ h314
          have hl315 := hl315.mono S334
          have h324 := S334 _ _ h324
          have hl325 := hl325.mono S334
          exact hk _ _  O333.g 
        · have hk := wp_el hk q331
          obtain ⟨y336, e337, hk⟩ := wp_opt hk
          obtain ⟨w338, e339, r340⟩ := RD.some hl220 (k := ("pieces" : Str)) e337
          obtain ⟨p341, w342, e343, h344, hl345⟩ := R.lst_ r340
          cases e343
          obtain ⟨y346, e347, hk⟩ := wp_opt hk
          obtain ⟨w348, e349, r350⟩ := hl345.atI e347
          obtain rfl := R.int_ r350
          obtain ⟨y351, e352, hk⟩ := wp_opt hk
          obtain ⟨j353, c354, e355, hj356, hl357, hx358⟩ := LLR.atI hl285 e352
          refine ⟨_, rfl, _, _, rfl, (dget_S (rd_mono O305.s h219) e339), _, rfl, _, _, _, _, rfl, rfl, (SqLF O305.s h344), e349, _, rfl, _, rfl, _, _, _, _, rfl, rfl, (SqL.of (Ow.llTop (S := []) (p := p280) (ps := ps281) O305)), e355, _, _, _, rfl, (.inl (Ow.llAt (S := []) (p := p280) (ps := ps281) O305 hj356)), hl357.len, _, _, rfl, rfl, _, rfl, ?_⟩
          refine iteD (fun q359 => ?_) (fun q359 => ?_)
          · have hk := wp_if hk q359
            obtain ⟨F360, O361, S362, h363⟩ := Ow.llFrz (S := []) (p := p280) (ps := ps281) O305 z288 zs289 hl285
            have f_tree := f_tree.mono S362
            have f_told := f_told.mono S362
            have h3 := S362 _ _ h3
            have r6 := r6.mono S362
            have r7 := r7.mono S362
            have h11 := S362 _ _ h11
            have hl12 := hl12.mono S362
            have h16 := S362 _ _ h16
            have hl17 := hl17.mono S362
            have h140 := h140.mono S362
            have h145 := S362 _ _ h145
            have hl146 := hl146.mono S362
            have h219 := rd_mono S362 h219
            have hl220 := hl220.mono S362
            have r225 := r225.mono S362
            have h229 := S362 _ _ h229
            have hl230 := hl230.mono S362
            have h242 := h242.mono S362
            have h247 := S362 _ _ h247
            have hl248 := hl248.mono S362
            have h252 := S362 _ _ h252
            have hl253 := hl253.mono S362
            have h261 := h261.mono S362
            have h266 := S362 _ _ h266
            have hl267 := hl267.mono S362
            have S301 := S301.trans S362
            have r310 := r310.mono S362
            have h314 := S362 _ _ h314
            have hl315 := hl315.mono S362
            have h324 := S362 _ _ h324
            have hl325 := hl325.mono S362
            have r340 := r340.mono S362
            have h344 := S362 _ _ h344
            have hl345 := hl345.mono S362
            have hl357 := hl357.mono S362
            exact hk _ _  O361.g 
          · have hk := wp_el hk q359
            exact ⟨F304, (), some (V.int y290), rfl, S301, O305, hk⟩
      rintro sg364 H365 ⟨F370, st367, t369, rfl, S366, O371, hL368⟩
      rw [rangeL_end0] at hL368
      have hk := hLd295 _ hL368
      have f_tree := f_tree.mono S366
      have f_told := f_told.mono S366
      have h3 := S366 _ _ h3
      have r6 := r6.mono S366
      have r7 := r7.mono S366
      have h11 := S366 _ _ h11
      have hl12 := hl12.mono S366
      have h16 := S366 _ _ h16
      have hl17 := hl17.mono S366
      have h140 := h140.mono S366
      have h145 := S366 _ _ h145
      have hl146 := hl146.mono S366
      have h219 := rd_mono S366 h219
      have hl220 := hl220.mono S366
      have r225 := r225.mono S366
      have h229 := S366 _ _ h229
      have hl230 := hl230.mono S366
      have h242 := h242.mono S366
      have h247 := S366 _ _ h247
      have hl248 := hl248.mono S366
      have h252 := S366 _ _ h252
      have hl253 := hl253.mono S366
      have h261 := h261.mono S366
      have h266 := S366 _ _ h266
      have hl267 := hl267.mono S366
      have hl285 := hl285.mono S366
      obtain ⟨F373, O374, S375, h376⟩ := Ow.llFrz (S := []) (p := p280) (ps := ps281) O371 z288 zs289 hl285
      have f_tree := f_tree.mono S375
      have f_told := f_told.mono S375
      have h3 := S375 _ _ h3
      have r6 := r6.mono S375
      have r7 := r7.mono S375
      have h11 := S375 _ _ h11
      have hl12 := hl12.mono S375
      have h16 := S375 _ _ h16
      have hl17 := hl17.mono S375
      have h140 := h140.mono S375
      have h145 := S375 _ _ h145
      have hl146 := hl146.mono S375
      have h219 := rd_mono S375 h219
      have hl220 := hl220.mono S375
      have r225 := r225.mono S375
      have h229 := S375 _ _ h229
      have hl230 := hl230.mono S375
      have h242 := h242.mono S375
      have h247 := S375 _ _ h247
      have hl248 := hl248.mono S375
      have h252 := S375 _ _ h252
      have hl253 := hl253.mono S375
      have h261 := h261.mono S375
      have h266 := S375 _ _ h266
      have hl267 := hl267.mono S375
      exact hk _ _  O374.g 
abbrev s_law_grown : Stmt := top 53
theorem sc_law_grown : FnScope ["tree", "told", "place", "length", "many", "ties", "more", "twice", "steps", "far", "worths", "k"] ["tree", "told", "place", "length"] (defScope s_law_grown) := ⟨rfl, rfl, rfl, by decide +kernel, rfl, by decide +kernel, by decide +kernel⟩
def m_law_grown (x_tree : ((List Int) × (List (T3 Int Int Int)))) (x_told : (List (Str × (List Int)))) (x_place : Int) (x_length : Int) : M (Bool) :=
chk (x_tree.2.length + ([(T3.mk x_place (x_tree.1.length : Int) x_length)]).length < 16777216) >>= fun _ =>
chk (x_tree.1.length + ([(0 : Int)]).length < 16777216) >>= fun _ =>
m_law_told ((x_tree.1 ++ ([(0 : Int)])), (sortT (x_tree.2 ++ ([(T3.mk x_place (x_tree.1.length : Int) x_length)])))) >>= fun r94 =>
chk (x_tree.1.length + ([(0 : Int), (5 : Int)]).length < 16777216) >>= fun _ =>
chk ((x_tree.2 ++ ([(T3.mk x_place (x_tree.1.length : Int) x_length)])).length + ([(T3.mk x_place ((x_tree.1.length : Int) + (1 : Int)) (0 : Int))]).length < 16777216) >>= fun _ =>
m_rule_named ("apart" : Str) >>= fun r194 =>
m_all_seats ((x_tree.1 ++ ([(0 : Int), (5 : Int)])), (sortT ((x_tree.2 ++ ([(T3.mk x_place (x_tree.1.length : Int) x_length)])) ++ ([(T3.mk x_place ((x_tree.1.length : Int) + (1 : Int)) (0 : Int))])))) r194 >>= fun r202 =>
opt (dGet r94 ("apart" : Str)) >>= fun y226 =>
opt (atI y226 (0 : Int)) >>= fun y236 =>
opt (dGet x_told ("apart" : Str)) >>= fun y246 =>
opt (atI y246 (0 : Int)) >>= fun y256 =>
opt (atI r202 (0 : Int)) >>= fun y266 =>
opt (dGet r94 ("apart" : Str)) >>= fun y271 =>
opt (atI y271 (0 : Int)) >>= fun y281 =>
opt (atI ([(y236 - y256), (y266 - y281)]) (0 : Int)) >>= fun y299 =>
if y299 < (1 : Int) then (
.ok false)
else (
opt (atI ([(y236 - y256), (y266 - y281)]) (1 : Int)) >>= fun y310 =>
opt (atI ([(y236 - y256), (y266 - y281)]) (0 : Int)) >>= fun y320 =>
chk (CMulW (2 : Int) y320) >>= fun _ =>
if y310 ≠ ((2 : Int) * y320) then (
.ok false)
else (
m_law_far x_tree >>= fun r327 =>
opt (atI r327 x_place) >>= fun y351 =>
opt (dGet r94 ("sum" : Str)) >>= fun y356 =>
chk (okR (x_tree.1.length : Int)) >>= fun _ =>
compS (fun (y374 : Int) (st392 : Unit) =>
opt (dGet x_told ("sum" : Str)) >>= fun y396 =>
opt (atI y396 y374) >>= fun y406 =>
opt (atI y351 y374) >>= fun y416 =>
.ok (some ((y406 + y416) + x_length), ())) (rangeL 0 (x_tree.1.length : Int)) () >>= fun q432 =>
if (cutL y356 none (some (x_tree.1.length : Int))) ≠ q432.1 then (
.ok false)
else (
opt (dGet r94 ("piece" : Str)) >>= fun y439 =>
opt (dGet x_told ("piece" : Str)) >>= fun y457 =>
if (cutL y439 none (some (x_tree.1.length : Int))) ≠ y457 then (
.ok false)
else (
opt (dGet r94 ("best" : Str)) >>= fun y463 =>
opt (atI y463 (0 : Int)) >>= fun y473 =>
opt (dGet x_told ("best" : Str)) >>= fun y478 =>
opt (atI y478 (0 : Int)) >>= fun y488 =>
if y473 ≠ y488 then (
.ok false)
else (
opt (dGet r94 ("pieces" : Str)) >>= fun y494 =>
opt (atI y494 x_place) >>= fun y504 =>
opt (dGet x_told ("pieces" : Str)) >>= fun y509 =>
opt (atI y509 x_place) >>= fun y519 =>
chk (CMulW (2 : Int) y519) >>= fun _ =>
if y504 ≠ ((2 : Int) * y519) then (
.ok false)
else (
opt (dGet r94 ("pieces" : Str)) >>= fun y526 =>
opt (atI y526 (x_tree.1.length : Int)) >>= fun y536 =>
opt (dGet x_told ("pieces" : Str)) >>= fun y541 =>
opt (atI y541 x_place) >>= fun y551 =>
if y536 ≠ ((1 : Int) + y551) then (
.ok false)
else (
opt (dGet r94 ("farthest" : Str)) >>= fun y557 =>
opt (atI y557 (x_tree.1.length : Int)) >>= fun y567 =>
opt (dGet x_told ("farthest" : Str)) >>= fun y572 =>
opt (atI y572 x_place) >>= fun y582 =>
.ok (decide (y567 = (y582 + x_length))))))))))
def sp_law_grown (mg : Str → Option Value) : Sp := fun vs H Q E => ∃ (F : Hp) (v_tree : V) (x_tree : ((List Int) × (List (T3 Int Int Int)))) (v_told : V) (x_told : (List (Str × (List Int)))) (x_place : Int) (x_length : Int), vs = [v_tree, v_told, V.int x_place, V.int x_length] ∧ Pre F [] H ∧ R (a := ((List Int) × (List (T3 Int Int Int)))) F v_tree x_tree ∧ RDv (κ := Str) (β := (List Int)) F v_told x_told ∧
  wp (m_law_grown x_tree x_told x_place x_length) (fun r => ∀ (F' H' : Hp), Gr [] F H F' H' → Q (V.bl r) H')
  (fun n => ∀ (C : Addr) (H' : Hp), mg (Str.ofString n) = some (.ref C) → Kp [] H H' → E (.ref C) none H')
set_option maxHeartbeats 20000000 in
theorem ok_law_grown (nb : Nb mg) (C_law_far : Ca P w K mg base "_law_far" 2 ["tree"] (sp_law_far mg)) (C_law_told : Ca P w K mg base "_law_told" 65 ["tree"] (sp_law_told mg)) (C_all_seats : Ca P w K mg base "all_seats" 64 ["tree", "rule"] (sp_all_seats mg)) (C_rule_named : Ca P w K mg base "rule_named" 3 ["name"] (sp_rule_named mg)) (D : Df K mg "_law_grown" "_law_grown" s_law_grown ["tree", "told", "place", "length"]) : Ca P w K mg base "_law_grown" 66 ["tree", "told", "place", "length"] (sp_law_grown mg) := by
  obtain ⟨fa_law_far, fd_law_far, G_law_far, M_law_far, K_law_far, B_law_far⟩ := C_law_far.ex
  obtain ⟨fa_law_told, fd_law_told, G_law_told, M_law_told, K_law_told, B_law_told⟩ := C_law_told.ex
  obtain ⟨fa_all_seats, fd_all_seats, G_all_seats, M_all_seats, K_all_seats, B_all_seats⟩ := C_all_seats.ex
  obtain ⟨fa_rule_named, fd_rule_named, G_rule_named, M_rule_named, K_rule_named, B_rule_named⟩ := C_rule_named.ex
  refine Ca.mk' D sc_law_grown (fun vs H Q E h => ?_) (fun q_ f_ cdv A outer s H vs Q E hr h => ?_)
  · obtain ⟨F, _, _, _, _, _, _, rfl, _⟩ := h
    rfl
  · obtain ⟨F, v_tree, x_tree, v_told, x_told, x_place, x_length, rfl, P0, f_tree, f_told, hk⟩ := h
    have nd := sc_law_grown.nd
    have hu64 := hr.units
    have hu128 := hu128_of hr
    have O := P0.start
    refine ⟨_, (pss_cons (ps_asg (pv 0) (pg_tup rfl (pgs_cons (pg_name (i := 10) nd rfl (Or.inl rfl)) (pgs_cons (pg_name (i := 5) nd rfl (Or.inl rfl)) pgs_nil))))
  (pss_cons (ps_toN (ps_set (i := 4) nd rfl (Or.inl rfl) (pe_callB call_lenT (by rfl) nb.b_len PySem.boot_len (pa_cons (pv 10) pa_nil))))
  (pss_cons (ps_toN (ps_set (i := 5) nd rfl (Or.inl rfl) (pe_op op_cat (pv 5) (pe_lst (pa_cons (pe_tup (pa_cons (pv 2) (pa_cons (pv 4) (pa_cons (pv 3) pa_nil)))) pa_nil)))))
  (pss_cons (ps_toN (ps_set (i := 6) nd rfl (Or.inl rfl) (pe_call G_law_told (hr.mono (by decide)) rfl M_law_told K_law_told B_law_told .nil (passes_call (takes_of rfl rfl rfl rfl) fun _ _ _ _ h => h) (pa_cons (pe_tup (pa_cons (pe_op op_cat (pv 10) (pe_lst (pa_cons pe_int pa_nil))) (pa_cons (pe_callB (cr_sortedT (T3 Int Int Int) hu128) (by rfl) nb.b_sorted (by decide +kernel) (pa_cons (pv 5) pa_nil)) pa_nil))) pa_nil))))
  (pss_cons (ps_toN (ps_set (i := 7) nd rfl (Or.inl rfl) (pe_call G_all_seats (hr.mono (by decide)) rfl M_all_seats K_all_seats B_all_seats .nil (passes_call (takes_of rfl rfl rfl rfl) fun _ _ _ _ h => h) (pa_cons (pe_tup (pa_cons (pe_op op_cat (pv 10) (pe_lst (pa_cons pe_int (pa_cons pe_int pa_nil)))) (pa_cons (pe_callB (cr_sortedT (T3 Int Int Int) hu128) (by rfl) nb.b_sorted (by decide +kernel) (pa_cons (pe_op op_cat (pv 5) (pe_lst (pa_cons (pe_tup (pa_cons (pv 2) (pa_cons (pe_op op_add (pv 4) pe_int) (pa_cons pe_int pa_nil)))) pa_nil))) pa_nil)) pa_nil))) (pa_cons (pe_call G_rule_named (hr.mono (by decide)) rfl M_rule_named K_rule_named B_rule_named .nil (passes_call (takes_of rfl rfl rfl rfl) fun _ _ _ _ h => h) (pa_cons pe_str pa_nil)) pa_nil)))))
  (pss_cons (ps_toN (ps_set (i := 8) nd rfl (Or.inl rfl) (pe_lst (pa_cons (pe_op op_sub (pe_ix (ixListK (K := K) rfl) (pe_dget (u1_of hu64) (pv 6) pe_str (fun _ _ => rfl)) pe_int (fun _ _ => rfl)) (pe_ix (ixListK (K := K) rfl) (pe_dget (u1_of hu64) (pv 1) pe_str (fun _ _ => rfl)) pe_int (fun _ _ => rfl))) (pa_cons (pe_op op_sub (pe_ix (ixListK (K := K) rfl) (pv 7) pe_int (fun _ _ => rfl)) (pe_ix (ixListK (K := K) rfl) (pe_dget (u1_of hu64) (pv 6) pe_str (fun _ _ => rfl)) pe_int (fun _ _ => rfl))) pa_nil)))))
  (pss_cons (ps_if (PW.pt (pw_or (pt_cmpR op_lt (pe_ix (ixListK (K := K) rfl) (pv 8) pe_int (fun _ _ => rfl)) pe_int (nomark _)) (pw_or1 (pt_cmpR (op_neT Int hu64) (pe_ix (ixListK (K := K) rfl) (pv 8) pe_int (fun _ _ => rfl)) (pe_op op_mulW pe_int (pe_ix (ixListK (K := K) rfl) (pv 8) pe_int (fun _ _ => rfl))) (nomark _))))) (pss_one (ps_ret pe_bl)) pss_nil)
  (pss_cons (ps_toN (ps_set (i := 9) nd rfl (Or.inr rfl) (pe_ix (ixListK (K := K) rfl) (pe_call G_law_far (hr.mono (by decide)) rfl M_law_far K_law_far B_law_far .nil (passes_call (takes_of rfl rfl rfl rfl) fun _ _ _ _ h => h) (pa_cons (pv 0) pa_nil)) (pv 2) (fun _ _ => rfl))))
  (pss_cons (ps_if (pt_cmpR (op_neT (List Int) hu64) (pe_slice (slListK (K := K) rfl) (pe_dget (u1_of hu64) (pv 6) pe_str (fun _ _ => rfl)) po_none (po_some (pv 4))) (pe_lc (own := [("k", 11)]) (g := gName 11) (tt := _) rfl nd (pi_range1 rfl nb.b_range (pa_cons (pv 4) pa_nil)) (blkOk_by (own := [("k", 11)]) (N := ["tree", "told", "place", "length", "many", "ties", "more", "twice", "steps", "far", "worths", "k"]) (sc := defScope s_law_grown) (by decide +kernel)) (fun _ _ _ _ _ => (pg_name (i := 11) nd rfl (Or.inl rfl))) (fun _ _ _ _ _ => pts_nil) (fun _ _ _ _ _ => (pe_op op_add (pe_op op_add (pe_ix (ixListK (K := K) rfl) (pe_dget (u1_of hu64) (pv 1) pe_str (fun _ _ => rfl)) (pv 11) (fun _ _ => rfl)) (pe_ix (ixListK (K := K) rfl) (pv 9) (pv 11) (fun _ _ => rfl))) (pv 3)))) (nomark _)) (pss_one (ps_ret pe_bl)) pss_nil)
  (pss_cons (ps_if (PW.pt (pw_or (pt_cmpR (op_neT (List Int) hu64) (pe_slice (slListK (K := K) rfl) (pe_dget (u1_of hu64) (pv 6) pe_str (fun _ _ => rfl)) po_none (po_some (pv 4))) (pe_dget (u1_of hu64) (pv 1) pe_str (fun _ _ => rfl)) (nomark _)) (pw_or1 (pt_cmpR (op_neT Int hu64) (pe_ix (ixListK (K := K) rfl) (pe_dget (u1_of hu64) (pv 6) pe_str (fun _ _ => rfl)) pe_int (fun _ _ => rfl)) (pe_ix (ixListK (K := K) rfl) (pe_dget (u1_of hu64) (pv 1) pe_str (fun _ _ => rfl)) pe_int (fun _ _ => rfl)) (nomark _))))) (pss_one (ps_ret pe_bl)) pss_nil)
  (pss_cons (ps_if (PW.pt (pw_or (pt_cmpR (op_neT Int hu64) (pe_ix (ixListK (K := K) rfl) (pe_dget (u1_of hu64) (pv 6) pe_str (fun _ _ => rfl)) (pv 2) (fun _ _ => rfl)) (pe_op op_mulW pe_int (pe_ix (ixListK (K := K) rfl) (pe_dget (u1_of hu64) (pv 1) pe_str (fun _ _ => rfl)) (pv 2) (fun _ _ => rfl))) (nomark _)) (pw_or1 (pt_cmpR (op_neT Int hu64) (pe_ix (ixListK (K := K) rfl) (pe_dget (u1_of hu64) (pv 6) pe_str (fun _ _ => rfl)) (pv 4) (fun _ _ => rfl)) (pe_op op_add pe_int (pe_ix (ixListK (K := K) rfl) (pe_dget (u1_of hu64) (pv 1) pe_str (fun _ _ => rfl)) (pv 2) (fun _ _ => rfl))) (nomark _))))) (pss_one (ps_ret pe_bl)) pss_nil)
  (pss_one (ps_ret (pe_cmpR (op_eqT Int hu64) (pe_ix (ixListK (K := K) rfl) (pe_dget (u1_of hu64) (pv 6) pe_str (fun _ _ => rfl)) (pv 4) (fun _ _ => rfl)) (pe_op op_add (pe_ix (ixListK (K := K) rfl) (pe_dget (u1_of hu64) (pv 1) pe_str (fun _ _ => rfl)) (pv 2) (fun _ _ => rfl)) (pv 3)) (nomark _))))))))))))))), ?_⟩
    obtain ⟨p1, v4, v5, e2, h3, r6, r7⟩ := R.t2_ f_tree
    cases e2
    obtain ⟨p8, w9, e10, h11, hl12⟩ := R.lst_ r6
    cases e10
    refine ⟨_, rfl, _, _, rfl, (SqTF O.s h3), rfl, _, _, rfl, _, _, rfl, rfl, _, rfl, _, _, _, rfl, (.inl (O.s _ _ h11)), hl12.len, [some (V.ref p1), some v_told, some (V.int x_place), some (V.int x_length), some (V.int (x_tree.1.length : Int)), some v5, none, none, none, none, some (V.ref p8), none], rfl, _, rfl, _, rfl, _, rfl, _, rfl, (by show 3 ≤ sizeLine; decide), fun p13 hp14 => ?_⟩
    obtain ⟨F15, O16, S17, h18⟩ := O.putE hp14 (.tup [V.int x_place, V.int (x_tree.1.length : Int), V.int x_length])
    have f_tree := f_tree.mono S17
    have f_told := f_told.mono S17
    have h3 := S17 _ _ h3
    have r6 := r6.mono S17
    have r7 := r7.mono S17
    have h11 := S17 _ _ h11
    have hl12 := hl12.mono S17
    have h19 : R (a := (T3 Int Int Int)) F15 (.ref p13) (T3.mk x_place (x_tree.1.length : Int) x_length) := R.t3 h18 R.int R.int R.int
    refine ⟨(by show 1 ≤ sizeLine; decide), fun p20 hp21 => ?_⟩
    have hl27 : RL (a := (T3 Int Int Int)) F15 ([V.ref p13]) ([(T3.mk x_place (x_tree.1.length : Int) x_length)]) := RL.cons h19 RL.nil
    obtain ⟨F22, O23, S24, h25⟩ := O16.putE hp21 (.lst ([V.ref p13]))
    have f_tree := f_tree.mono S24
    have f_told := f_told.mono S24
    have h3 := S24 _ _ h3
    have r6 := r6.mono S24
    have r7 := r7.mono S24
    have h11 := S24 _ _ h11
    have hl12 := hl12.mono S24
    have h19 := h19.mono S24
    have hl27 := hl27.mono S24
    have h26 := R.lst (a := (T3 Int Int Int)) h25 hl27
    obtain ⟨p28, w29, e30, h31, hl32⟩ := R.lst_ r7
    cases e30
    obtain ⟨p33, w34, e35, h36, hl37⟩ := R.lst_ h26
    cases e35
    obtain ⟨c38, hk⟩ := wp_chk hk
    refine ⟨_, _, _, _, rfl, rfl, (O23.s _ _ h31), (O23.s _ _ h36), (by rw [hl32.len, hl37.len]; exact le_line c38), fun p39 hp40 => ?_⟩
    have hl46 : RL (a := (T3 Int Int Int)) F22 (w29 ++ w34) (x_tree.2 ++ ([(T3.mk x_place (x_tree.1.length : Int) x_length)])) := RL.app hl32 hl37
    obtain ⟨F41, O42, S43, h44⟩ := O23.putE hp40 (.lst (w29 ++ w34))
    have f_tree := f_tree.mono S43
    have f_told := f_told.mono S43
    have h3 := S43 _ _ h3
    have r6 := r6.mono S43
    have r7 := r7.mono S43
    have h11 := S43 _ _ h11
    have hl12 := hl12.mono S43
    have h19 := h19.mono S43
    have h26 := h26.mono S43
    have h31 := S43 _ _ h31
    have hl32 := hl32.mono S43
    have h36 := S43 _ _ h36
    have hl37 := hl37.mono S43
    have hl46 := hl46.mono S43
    have h45 := R.lst (a := (T3 Int Int Int)) h44 hl46
    refine ⟨[some (V.ref p1), some v_told, some (V.int x_place), some (V.int x_length), some (V.int (x_tree.1.length : Int)), some (V.ref p39), none, none, none, none, some (V.ref p8), none], rfl, _, rfl, (by show 1 ≤ sizeLine; decide), fun p47 hp48 => ?_⟩
    have hl54 : RL (a := Int) F41 ([V.int (0 : Int)]) ([(0 : Int)]) := RL.cons R.int RL.nil
    obtain ⟨F49, O50, S51, h52⟩ := O42.putE hp48 (.lst ([V.int (0 : Int)]))
    have f_tree := f_tree.mono S51
    have f_told := f_told.mono S51
    have h3 := S51 _ _ h3
    have r6 := r6.mono S51
    have r7 := r7.mono S51
    have h11 := S51 _ _ h11
    have hl12 := hl12.mono S51
    have h19 := h19.mono S51
    have h26 := h26.mono S51
    have h31 := S51 _ _ h31
    have hl32 := hl32.mono S51
    have h36 := S51 _ _ h36
    have hl37 := hl37.mono S51
    have h45 := h45.mono S51
    have hl54 := hl54.mono S51
    have h53 := R.lst (a := Int) h52 hl54
    obtain ⟨p55, w56, e57, h58, hl59⟩ := R.lst_ r6
    cases e57
    obtain ⟨p60, w61, e62, h63, hl64⟩ := R.lst_ h53
    cases e62
    obtain ⟨c65, hk⟩ := wp_chk hk
    refine ⟨_, _, _, _, rfl, rfl, (O50.s _ _ h58), (O50.s _ _ h63), (by rw [hl59.len, hl64.len]; exact le_line c65), fun p66 hp67 => ?_⟩
    have hl73 : RL (a := Int) F49 (w56 ++ w61) (x_tree.1 ++ ([(0 : Int)])) := RL.app hl59 hl64
    obtain ⟨F68, O69, S70, h71⟩ := O50.putE hp67 (.lst (w56 ++ w61))
    have f_tree := f_tree.mono S70
    have f_told := f_told.mono S70
    have h3 := S70 _ _ h3
    have r6 := r6.mono S70
    have r7 := r7.mono S70
    have h11 := S70 _ _ h11
    have hl12 := hl12.mono S70
    have h19 := h19.mono S70
    have h26 := h26.mono S70
    have h31 := S70 _ _ h31
    have hl32 := hl32.mono S70
    have h36 := S70 _ _ h36
    have hl37 := hl37.mono S70
    have h45 := h45.mono S70
    have h53 := h53.mono S70
    have h58 := S70 _ _ h58
    have hl59 := hl59.mono S70
    have h63 := S70 _ _ h63
    have hl64 := hl64.mono S70
    have hl73 := hl73.mono S70
    have h72 := R.lst (a := Int) h71 hl73
    obtain ⟨p74, w75, e76, h77, hl78⟩ := R.lst_ h45
    cases e76
    refine ⟨_, rfl, _, _, _, rfl, (O69.s _ _ h77), (RL.mono hl78 O69.s), fun p79 hp80 => ?_⟩
    have hl86 : RL (a := (T3 Int Int Int)) F68 (sortV w75 (x_tree.2 ++ ([(T3.mk x_place (x_tree.1.length : Int) x_length)]))) (sortT (x_tree.2 ++ ([(T3.mk x_place (x_tree.1.length : Int) x_length)]))) := (RL.sorted hl78)
    obtain ⟨F81, O82, S83, h84⟩ := O69.putE hp80 (.lst (sortV w75 (x_tree.2 ++ ([(T3.mk x_place (x_tree.1.length : Int) x_length)]))))
    have f_tree := f_tree.mono S83
    have f_told := f_told.mono S83
    have h3 := S83 _ _ h3
    have r6 := r6.mono S83
    have r7 := r7.mono S83
    have h11 := S83 _ _ h11
    have hl12 := hl12.mono S83
    have h19 := h19.mono S83
    have h26 := h26.mono S83
    have h31 := S83 _ _ h31
    have hl32 := hl32.mono S83
    have h36 := S83 _ _ h36
    have hl37 := hl37.mono S83
    have h45 := h45.mono S83
    have h53 := h53.mono S83
    have h58 := S83 _ _ h58
    have hl59 := hl59.mono S83
    have h63 := S83 _ _ h63
    have hl64 := hl64.mono S83
    have h72 := h72.mono S83
    have h77 := S83 _ _ h77
    have hl78 := hl78.mono S83
    have hl86 := hl86.mono S83
    have h85 := R.lst (a := (T3 Int Int Int)) h84 hl86
    refine ⟨(by show 2 ≤ sizeLine; decide), fun p87 hp88 => ?_⟩
    obtain ⟨F89, O90, S91, h92⟩ := O82.putE hp88 (.tup [V.ref p66, V.ref p79])
    have f_tree := f_tree.mono S91
    have f_told := f_told.mono S91
    have h3 := S91 _ _ h3
    have r6 := r6.mono S91
    have r7 := r7.mono S91
    have h11 := S91 _ _ h11
    have hl12 := hl12.mono S91
    have h19 := h19.mono S91
    have h26 := h26.mono S91
    have h31 := S91 _ _ h31
    have hl32 := hl32.mono S91
    have h36 := S91 _ _ h36
    have hl37 := hl37.mono S91
    have h45 := h45.mono S91
    have h53 := h53.mono S91
    have h58 := S91 _ _ h58
    have hl59 := hl59.mono S91
    have h63 := S91 _ _ h63
    have hl64 := hl64.mono S91
    have h72 := h72.mono S91
    have h77 := S91 _ _ h77
    have hl78 := hl78.mono S91
    have h85 := h85.mono S91
    have h93 : R (a := ((List Int) × (List (T3 Int Int Int)))) F89 (.ref p87) ((x_tree.1 ++ ([(0 : Int)])), (sortT (x_tree.2 ++ ([(T3.mk x_place (x_tree.1.length : Int) x_length)])))) := R.t2 h92 h72 h85
    refine ⟨_, _, _, rfl, O90.pre0, h93, wp_call hk (fun r94 er95 hk F96 H97 g98 p99 w100 hn101 hf102 h103 hl104 => ?_) (fun n hn C H1 hC kp => hn C H1 hC (O90.kp0 kp))⟩
    have O105 := O90.call0 g98
    have S_ := g98.f
    have f_tree := f_tree.mono S_
    have f_told := f_told.mono S_
    have h3 := S_ _ _ h3
    have r6 := r6.mono S_
    have r7 := r7.mono S_
    have h11 := S_ _ _ h11
    have hl12 := hl12.mono S_
    have h19 := h19.mono S_
    have h26 := h26.mono S_
    have h31 := S_ _ _ h31
    have hl32 := hl32.mono S_
    have h36 := S_ _ _ h36
    have hl37 := hl37.mono S_
    have h45 := h45.mono S_
    have h53 := h53.mono S_
    have h58 := S_ _ _ h58
    have hl59 := hl59.mono S_
    have h63 := S_ _ _ h63
    have hl64 := hl64.mono S_
    have h72 := h72.mono S_
    have h77 := S_ _ _ h77
    have hl78 := hl78.mono S_
    have h85 := h85.mono S_
    have h93 := h93.mono S_
    have O106 := O90.got O105 rfl hn101 hf102 h103
    have z107 := O90.was hn101
    obtain ⟨F108, O109, S110, h111⟩ := O106.frzE 0 rfl z107
    have f_tree := f_tree.mono S110
    have f_told := f_told.mono S110
    have h3 := S110 _ _ h3
    have r6 := r6.mono S110
    have r7 := r7.mono S110
    have h11 := S110 _ _ h11
    have hl12 := hl12.mono S110
    have h19 := h19.mono S110
    have h26 := h26.mono S110
    have h31 := S110 _ _ h31
    have hl32 := hl32.mono S110
    have h36 := S110 _ _ h36
    have hl37 := hl37.mono S110
    have h45 := h45.mono S110
    have h53 := h53.mono S110
    have h58 := S110 _ _ h58
    have hl59 := hl59.mono S110
    have h63 := S110 _ _ h63
    have hl64 := hl64.mono S110
    have h72 := h72.mono S110
    have h77 := S110 _ _ h77
    have hl78 := hl78.mono S110
    have h85 := h85.mono S110
    have h93 := h93.mono S110
    have hl104 := hl104.mono S110
    have h112 := RDv.mk (κ := Str) (β := (List Int)) (.inl h111) hl104
    refine ⟨[some (V.ref p1), some v_told, some (V.int x_place), some (V.int x_length), some (V.int (x_tree.1.length : Int)), some (V.ref p39), some (V.ref p99), none, none, none, some (V.ref p8), none], rfl, _, rfl, (by show 2 ≤ sizeLine; decide), fun p113 hp114 => ?_⟩
    have hl120 : RL (a := Int) F108 ([V.int (0 : Int), V.int (5 : Int)]) ([(0 : Int), (5 : Int)]) := RL.cons R.int (RL.cons R.int RL.nil)
    obtain ⟨F115, O116, S117, h118⟩ := O109.putE hp114 (.lst ([V.int (0 : Int), V.int (5 : Int)]))
    have f_tree := f_tree.mono S117
    have f_told := f_told.mono S117
    have h3 := S117 _ _ h3
    have r6 := r6.mono S117
    have r7 := r7.mono S117
    have h11 := S117 _ _ h11
    have hl12 := hl12.mono S117
    have h19 := h19.mono S117
    have h26 := h26.mono S117
    have h31 := S117 _ _ h31
    have hl32 := hl32.mono S117
    have h36 := S117 _ _ h36
    have hl37 := hl37.mono S117
    have h45 := h45.mono S117
    have h53 := h53.mono S117
    have h58 := S117 _ _ h58
    have hl59 := hl59.mono S117
    have h63 := S117 _ _ h63
    have hl64 := hl64.mono S117
    have h72 := h72.mono S117
    have h77 := S117 _ _ h77
    have hl78 := hl78.mono S117
    have h85 := h85.mono S117
    have h93 := h93.mono S117
    have h112 := h112.mono S117
    have hl120 := hl120.mono S117
    have h119 := R.lst (a := Int) h118 hl120
    obtain ⟨p121, w122, e123, h124, hl125⟩ := R.lst_ r6
    cases e123
    obtain ⟨p126, w127, e128, h129, hl130⟩ := R.lst_ h119
    cases e128
    obtain ⟨c131, hk⟩ := wp_chk hk
    refine ⟨_, _, _, _, rfl, rfl, (O116.s _ _ h124), (O116.s _ _ h129), (by rw [hl125.len, hl130.len]; exact le_line c131), fun p132 hp133 => ?_⟩
    have hl139 : RL (a := Int) F115 (w122 ++ w127) (x_tree.1 ++ ([(0 : Int), (5 : Int)])) := RL.app hl125 hl130
    obtain ⟨F134, O135, S136, h137⟩ := O116.putE hp133 (.lst (w122 ++ w127))
    have f_tree := f_tree.mono S136
    have f_told := f_told.mono S136
    have h3 := S136 _ _ h3
    have r6 := r6.mono S136
    have r7 := r7.mono S136
    have h11 := S136 _ _ h11
    have hl12 := hl12.mono S136
    have h19 := h19.mono S136
    have h26 := h26.mono S136
    have h31 := S136 _ _ h31
    have hl32 := hl32.mono S136
    have h36 := S136 _ _ h36
    have hl37 := hl37.mono S136
    have h45 := h45.mono S136
    have h53 := h53.mono S136
    have h58 := S136 _ _ h58
    have hl59 := hl59.mono S136
    have h63 := S136 _ _ h63
    have hl64 := hl64.mono S136
    have h72 := h72.mono S136
    have h77 := S136 _ _ h77
    have hl78 := hl78.mono S136
    have h85 := h85.mono S136
    have h93 := h93.mono S136
    have h112 := h112.mono S136
    have h119 := h119.mono S136
    have h124 := S136 _ _ h124
    have hl125 := hl125.mono S136
    have h129 := S136 _ _ h129
    have hl130 := hl130.mono S136
    have hl139 := hl139.mono S136
    have h138 := R.lst (a := Int) h137 hl139
    refine ⟨_, rfl, _, rfl, _, rfl, _, _, rfl, rfl, (by show 3 ≤ sizeLine; decide), fun p140 hp141 => ?_⟩
    obtain ⟨F142, O143, S144, h145⟩ := O135.putE hp141 (.tup [V.int x_place, V.int ((x_tree.1.length : Int) + (1 : Int)), V.int (0 : Int)])
    have f_tree := f_tree.mono S144
    have f_told := f_told.mono S144
    have h3 := S144 _ _ h3
    have r6 := r6.mono S144
    have r7 := r7.mono S144
    have h11 := S144 _ _ h11
    have hl12 := hl12.mono S144
    have h19 := h19.mono S144
    have h26 := h26.mono S144
    have h31 := S144 _ _ h31
    have hl32 := hl32.mono S144
    have h36 := S144 _ _ h36
    have hl37 := hl37.mono S144
    have h45 := h45.mono S144
    have h53 := h53.mono S144
    have h58 := S144 _ _ h58
    have hl59 := hl59.mono S144
    have h63 := S144 _ _ h63
    have hl64 := hl64.mono S144
    have h72 := h72.mono S144
    have h77 := S144 _ _ h77
    have hl78 := hl78.mono S144
    have h85 := h85.mono S144
    have h93 := h93.mono S144
    have h112 := h112.mono S144
    have h119 := h119.mono S144
    have h124 := S144 _ _ h124
    have hl125 := hl125.mono S144
    have h129 := S144 _ _ h129
    have hl130 := hl130.mono S144
    have h138 := h138.mono S144
    have h146 : R (a := (T3 Int Int Int)) F142 (.ref p140) (T3.mk x_place ((x_tree.1.length : Int) + (1 : Int)) (0 : Int)) := R.t3 h145 R.int R.int R.int
    refine ⟨(by show 1 ≤ sizeLine; decide), fun p147 hp148 => ?_⟩
    have hl154 : RL (a := (T3 Int Int Int)) F142 ([V.ref p140]) ([(T3.mk x_place ((x_tree.1.length : Int) + (1 : Int)) (0 : Int))]) := RL.cons h146 RL.nil
    obtain ⟨F149, O150, S151, h152⟩ := O143.putE hp148 (.lst ([V.ref p140]))
    have f_tree := f_tree.mono S151
    have f_told := f_told.mono S151
    have h3 := S151 _ _ h3
    have r6 := r6.mono S151
    have r7 := r7.mono S151
    have h11 := S151 _ _ h11
    have hl12 := hl12.mono S151
    have h19 := h19.mono S151
    have h26 := h26.mono S151
    have h31 := S151 _ _ h31
    have hl32 := hl32.mono S151
    have h36 := S151 _ _ h36
    have hl37 := hl37.mono S151
    have h45 := h45.mono S151
    have h53 := h53.mono S151
    have h58 := S151 _ _ h58
    have hl59 := hl59.mono S151
    have h63 := S151 _ _ h63
    have hl64 := hl64.mono S151
    have h72 := h72.mono S151
    have h77 := S151 _ _ h77
    have hl78 := hl78.mono S151
    have h85 := h85.mono S151
    have h93 := h93.mono S151
    have h112 := h112.mono S151
    have h119 := h119.mono S151
    have h124 := S151 _ _ h124
    have hl125 := hl125.mono S151
    have h129 := S151 _ _ h129
    have hl130 := hl130.mono S151
    have h138 := h138.mono S151
    have h146 := h146.mono S151
    have hl154 := hl154.mono S151
    have h153 := R.lst (a := (T3 Int Int Int)) h152 hl154
    obtain ⟨p155, w156, e157, h158, hl159⟩ := R.lst_ h45
    cases e157
    obtain ⟨p160, w161, e162, h163, hl164⟩ := R.lst_ h153
    cases e162
    obtain ⟨c165, hk⟩ := wp_chk hk
    refine ⟨_, _, _, _, rfl, rfl, (O150.s _ _ h158), (O150.s _ _ h163), (by rw [hl159.len, hl164.len]; exact le_line c165), fun p166 hp167 => ?_⟩
    have hl173 : RL (a := (T3 Int Int Int)) F149 (w156 ++ w161) ((x_tree.2 ++ ([(T3.mk x_place (x_tree.1.length : Int) x_length)])) ++ ([(T3.mk x_place ((x_tree.1.length : Int) + (1 : Int)) (0 : Int))])) := RL.app hl159 hl164
    obtain ⟨F168, O169, S170, h171⟩ := O150.putE hp167 (.lst (w156 ++ w161))
    have f_tree := f_tree.mono S170
    have f_told := f_told.mono S170
    have h3 := S170 _ _ h3
    have r6 := r6.mono S170
    have r7 := r7.mono S170
    have h11 := S170 _ _ h11
    have hl12 := hl12.mono S170
    have h19 := h19.mono S170
    have h26 := h26.mono S170
    have h31 := S170 _ _ h31
    have hl32 := hl32.mono S170
    have h36 := S170 _ _ h36
    have hl37 := hl37.mono S170
    have h45 := h45.mono S170
    have h53 := h53.mono S170
    have h58 := S170 _ _ h58
    have hl59 := hl59.mono S170
    have h63 := S170 _ _ h63
    have hl64 := hl64.mono S170
    have h72 := h72.mono S170
    have h77 := S170 _ _ h77
    have hl78 := hl78.mono S170
    have h85 := h85.mono S170
    have h93 := h93.mono S170
    have h112 := h112.mono S170
    have h119 := h119.mono S170
    have h124 := S170 _ _ h124
    have hl125 := hl125.mono S170
    have h129 := S170 _ _ h129
    have hl130 := hl130.mono S170
    have h138 := h138.mono S170
    have h146 := h146.mono S170
    have h153 := h153.mono S170
    have h158 := S170 _ _ h158
    have hl159 := hl159.mono S170
    have h163 := S170 _ _ h163
    have hl164 := hl164.mono S170
    have hl173 := hl173.mono S170
    have h172 := R.lst (a := (T3 Int Int Int)) h171 hl173
    obtain ⟨p174, w175, e176, h177, hl178⟩ := R.lst_ h172
    cases e176
    refine ⟨_, _, _, rfl, (O169.s _ _ h177), (RL.mono hl178 O169.s), fun p179 hp180 => ?_⟩
    have hl186 : RL (a := (T3 Int Int Int)) F168 (sortV w175 ((x_tree.2 ++ ([(T3.mk x_place (x_tree.1.length : Int) x_length)])) ++ ([(T3.mk x_place ((x_tree.1.length : Int) + (1 : Int)) (0 : Int))]))) (sortT ((x_tree.2 ++ ([(T3.mk x_place (x_tree.1.length : Int) x_length)])) ++ ([(T3.mk x_place ((x_tree.1.length : Int) + (1 : Int)) (0 : Int))]))) := (RL.sorted hl178)
    obtain ⟨F181, O182, S183, h184⟩ := O169.putE hp180 (.lst (sortV w175 ((x_tree.2 ++ ([(T3.mk x_place (x_tree.1.length : Int) x_length)])) ++ ([(T3.mk x_place ((x_tree.1.length : Int) + (1 : Int)) (0 : Int))]))))
    have f_tree := f_tree.mono S183
    have f_told := f_told.mono S183
    have h3 := S183 _ _ h3
    have r6 := r6.mono S183
    have r7 := r7.mono S183
    have h11 := S183 _ _ h11
    have hl12 := hl12.mono S183
    have h19 := h19.mono S183
    have h26 := h26.mono S183
    have h31 := S183 _ _ h31
    have hl32 := hl32.mono S183
    have h36 := S183 _ _ h36
    have hl37 := hl37.mono S183
    have h45 := h45.mono S183
    have h53 := h53.mono S183
    have h58 := S183 _ _ h58
    have hl59 := hl59.mono S183
    have h63 := S183 _ _ h63
    have hl64 := hl64.mono S183
    have h72 := h72.mono S183
    have h77 := S183 _ _ h77
    have hl78 := hl78.mono S183
    have h85 := h85.mono S183
    have h93 := h93.mono S183
    have h112 := h112.mono S183
    have h119 := h119.mono S183
    have h124 := S183 _ _ h124
    have hl125 := hl125.mono S183
    have h129 := S183 _ _ h129
    have hl130 := hl130.mono S183
    have h138 := h138.mono S183
    have h146 := h146.mono S183
    have h153 := h153.mono S183
    have h158 := S183 _ _ h158
    have hl159 := hl159.mono S183
    have h163 := S183 _ _ h163
    have hl164 := hl164.mono S183
    have h172 := h172.mono S183
    have h177 := S183 _ _ h177
    have hl178 := hl178.mono S183
    have hl186 := hl186.mono S183
    have h185 := R.lst (a := (T3 Int Int Int)) h184 hl186
    refine ⟨(by show 2 ≤ sizeLine; decide), fun p187 hp188 => ?_⟩
    obtain ⟨F189, O190, S191, h192⟩ := O182.putE hp188 (.tup [V.ref p132, V.ref p179])
    have f_tree := f_tree.mono S191
    have f_told := f_told.mono S191
    have h3 := S191 _ _ h3
    have r6 := r6.mono S191
    have r7 := r7.mono S191
    have h11 := S191 _ _ h11
    have hl12 := hl12.mono S191
    have h19 := h19.mono S191
    have h26 := h26.mono S191
    have h31 := S191 _ _ h31
    have hl32 := hl32.mono S191
    have h36 := S191 _ _ h36
    have hl37 := hl37.mono S191
    have h45 := h45.mono S191
    have h53 := h53.mono S191
    have h58 := S191 _ _ h58
    have hl59 := hl59.mono S191
    have h63 := S191 _ _ h63
    have hl64 := hl64.mono S191
    have h72 := h72.mono S191
    have h77 := S191 _ _ h77
    have hl78 := hl78.mono S191
    have h85 := h85.mono S191
    have h93 := h93.mono S191
    have h112 := h112.mono S191
    have h119 := h119.mono S191
    have h124 := S191 _ _ h124
    have hl125 := hl125.mono S191
    have h129 := S191 _ _ h129
    have hl130 := hl130.mono S191
    have h138 := h138.mono S191
    have h146 := h146.mono S191
    have h153 := h153.mono S191
    have h158 := S191 _ _ h158
    have hl159 := hl159.mono S191
    have h163 := S191 _ _ h163
    have hl164 := hl164.mono S191
    have h172 := h172.mono S191
    have h177 := S191 _ _ h177
    have hl178 := hl178.mono S191
    have h185 := h185.mono S191
    have h193 : R (a := ((List Int) × (List (T3 Int Int Int)))) F189 (.ref p187) ((x_tree.1 ++ ([(0 : Int), (5 : Int)])), (sortT ((x_tree.2 ++ ([(T3.mk x_place (x_tree.1.length : Int) x_length)])) ++ ([(T3.mk x_place ((x_tree.1.length : Int) + (1 : Int)) (0 : Int))])))) := R.t2 h192 h138 h185
    refine ⟨_, _, rfl, O190.pre0, wp_call hk (fun r194 er195 hk F196 H197 g198 v199 r200 => ?_) (fun n hn C H1 hC kp => hn C H1 hC (O190.kp0 kp))⟩
    have O201 := O190.call0 g198
    have S_ := g198.f
    have f_tree := f_tree.mono S_
    have f_told := f_told.mono S_
    have h3 := S_ _ _ h3
    have r6 := r6.mono S_
    have r7 := r7.mono S_
    have h11 := S_ _ _ h11
    have hl12 := hl12.mono S_
    have h19 := h19.mono S_
    have h26 := h26.mono S_
    have h31 := S_ _ _ h31
    have hl32 := hl32.mono S_
    have h36 := S_ _ _ h36
    have hl37 := hl37.mono S_
    have h45 := h45.mono S_
    have h53 := h53.mono S_
    have h58 := S_ _ _ h58
    have hl59 := hl59.mono S_
    have h63 := S_ _ _ h63
    have hl64 := hl64.mono S_
    have h72 := h72.mono S_
    have h77 := S_ _ _ h77
    have hl78 := hl78.mono S_
    have h85 := h85.mono S_
    have h93 := h93.mono S_
    have h112 := h112.mono S_
    have h119 := h119.mono S_
    have h124 := S_ _ _ h124
    have hl125 := hl125.mono S_
    have h129 := S_ _ _ h129
    have hl130 := hl130.mono S_
    have h138 := h138.mono S_
    have h146 := h146.mono S_
    have h153 := h153.mono S_
    have h158 := S_ _ _ h158
    have hl159 := hl159.mono S_
    have h163 := S_ _ _ h163
    have hl164 := hl164.mono S_
    have h172 := h172.mono S_
    have h177 := S_ _ _ h177
    have hl178 := hl178.mono S_
    have h185 := h185.mono S_
    have h193 := h193.mono S_
    refine ⟨_, _, _, _, _, rfl, O201.pre0, h193, r200, wp_call hk (fun r202 er203 hk F204 H205 g206 p207 w208 hn209 hf210 h211 hl212 => ?_) (fun n hn C H1 hC kp => hn C H1 hC (O201.kp0 kp))⟩
    have O213 := O201.call0 g206
    have S_ := g206.f
    have f_tree := f_tree.mono S_
    have f_told := f_told.mono S_
    have h3 := S_ _ _ h3
    have r6 := r6.mono S_
    have r7 := r7.mono S_
    have h11 := S_ _ _ h11
    have hl12 := hl12.mono S_
    have h19 := h19.mono S_
    have h26 := h26.mono S_
    have h31 := S_ _ _ h31
    have hl32 := hl32.mono S_
    have h36 := S_ _ _ h36
    have hl37 := hl37.mono S_
    have h45 := h45.mono S_
    have h53 := h53.mono S_
    have h58 := S_ _ _ h58
    have hl59 := hl59.mono S_
    have h63 := S_ _ _ h63
    have hl64 := hl64.mono S_
    have h72 := h72.mono S_
    have h77 := S_ _ _ h77
    have hl78 := hl78.mono S_
    have h85 := h85.mono S_
    have h93 := h93.mono S_
    have h112 := h112.mono S_
    have h119 := h119.mono S_
    have h124 := S_ _ _ h124
    have hl125 := hl125.mono S_
    have h129 := S_ _ _ h129
    have hl130 := hl130.mono S_
    have h138 := h138.mono S_
    have h146 := h146.mono S_
    have h153 := h153.mono S_
    have h158 := S_ _ _ h158
    have hl159 := hl159.mono S_
    have h163 := S_ _ _ h163
    have hl164 := hl164.mono S_
    have h172 := h172.mono S_
    have h177 := S_ _ _ h177
    have hl178 := hl178.mono S_
    have h185 := h185.mono S_
    have h193 := h193.mono S_
    have r200 := r200.mono S_
    have O214 := O201.got O213 rfl hn209 hf210 h211
    have z215 := O201.was hn209
    obtain ⟨F216, O217, S218, h219⟩ := O214.frzE 0 rfl z215
    have f_tree := f_tree.mono S218
    have f_told := f_told.mono S218
    have h3 := S218 _ _ h3
    have r6 := r6.mono S218
    have r7 := r7.mono S218
    have h11 := S218 _ _ h11
    have hl12 := hl12.mono S218
    have h19 := h19.mono S218
    have h26 := h26.mono S218
    have h31 := S218 _ _ h31
    have hl32 := hl32.mono S218
    have h36 := S218 _ _ h36
    have hl37 := hl37.mono S218
    have h45 := h45.mono S218
    have h53 := h53.mono S218
    have h58 := S218 _ _ h58
    have hl59 := hl59.mono S218
    have h63 := S218 _ _ h63
    have hl64 := hl64.mono S218
    have h72 := h72.mono S218
    have h77 := S218 _ _ h77
    have hl78 := hl78.mono S218
    have h85 := h85.mono S218
    have h93 := h93.mono S218
    have h112 := h112.mono S218
    have h119 := h119.mono S218
    have h124 := S218 _ _ h124
    have hl125 := hl125.mono S218
    have h129 := S218 _ _ h129
    have hl130 := hl130.mono S218
    have h138 := h138.mono S218
    have h146 := h146.mono S218
    have h153 := h153.mono S218
    have h158 := S218 _ _ h158
    have hl159 := hl159.mono S218
    have h163 := S218 _ _ h163
    have hl164 := hl164.mono S218
    have h172 := h172.mono S218
    have h177 := S218 _ _ h177
    have hl178 := hl178.mono S218
    have h185 := h185.mono S218
    have h193 := h193.mono S218
    have r200 := r200.mono S218
    have hl212 := hl212.mono S218
    have h220 := R.lst (a := Int) h219 hl212
    obtain ⟨p221, w222, e223, h224, hl225⟩ := h112
    cases e223
    have h224 : Rd F216 _ (.dK w222) := h224
    have h112 := RDv.mk (κ := Str) (β := (List Int)) h224 hl225
    obtain ⟨y226, e227, hk⟩ := wp_opt hk
    obtain ⟨w228, e229, r230⟩ := RD.some hl225 (k := ("apart" : Str)) e227
    obtain ⟨p231, w232, e233, h234, hl235⟩ := R.lst_ r230
    cases e233
    obtain ⟨y236, e237, hk⟩ := wp_opt hk
    obtain ⟨w238, e239, r240⟩ := hl235.atI e237
    obtain rfl := R.int_ r240
    obtain ⟨p241, w242, e243, h244, hl245⟩ := f_told
    cases e243
    have h244 : Rd F216 _ (.dK w242) := h244
    have f_told := RDv.mk (κ := Str) (β := (List Int)) h244 hl245
    obtain ⟨y246, e247, hk⟩ := wp_opt hk
    obtain ⟨w248, e249, r250⟩ := RD.some hl245 (k := ("apart" : Str)) e247
    obtain ⟨p251, w252, e253, h254, hl255⟩ := R.lst_ r250
    cases e253
    obtain ⟨y256, e257, hk⟩ := wp_opt hk
    obtain ⟨w258, e259, r260⟩ := hl255.atI e257
    obtain rfl := R.int_ r260
    obtain ⟨p261, w262, e263, h264, hl265⟩ := R.lst_ h220
    cases e263
    obtain ⟨y266, e267, hk⟩ := wp_opt hk
    obtain ⟨w268, e269, r270⟩ := hl265.atI e267
    obtain rfl := R.int_ r270
    obtain ⟨y271, e272, hk⟩ := wp_opt hk
    obtain ⟨w273, e274, r275⟩ := RD.some hl225 (k := ("apart" : Str)) e272
    obtain ⟨p276, w277, e278, h279, hl280⟩ := R.lst_ r275
    cases e278
    obtain ⟨y281, e282, hk⟩ := wp_opt hk
    obtain ⟨w283, e284, r285⟩ := hl280.atI e282
    obtain rfl := R.int_ r285
    refine ⟨[some (V.ref p1), some (V.ref p241), some (V.int x_place), some (V.int x_length), some (V.int (x_tree.1.length : Int)), some (V.ref p39), some (V.ref p99), some (V.ref p207), none, none, some (V.ref p8), none], rfl, _, rfl, _, _, rfl, (dget_S (rd_mono O217.s h224) e229), _, _, _, _, rfl, rfl, (SqLF O217.s h234), e239, _, rfl, _, _, rfl, (dget_S (rd_mono O217.s h244) e249), _, _, _, _, rfl, rfl, (SqLF O217.s h254), e259, _, _, rfl, rfl, _, rfl, _, _, _, _, rfl, rfl, (SqLF O217.s h264), e269, _, rfl, _, _, rfl, (dget_S (rd_mono O217.s h224) e274), _, _, _, _, rfl, rfl, (SqLF O217.s h279), e284, _, _, rfl, rfl, (by show 2 ≤ sizeLine; decide), fun p286 hp287 => ?_⟩
    have hl293 : RL (a := Int) F216 ([V.int (y236 - y256), V.int (y266 - y281)]) ([(y236 - y256), (y266 - y281)]) := RL.cons R.int (RL.cons R.int RL.nil)
    obtain ⟨F288, O289, S290, h291⟩ := O217.putE hp287 (.lst ([V.int (y236 - y256), V.int (y266 - y281)]))
    have f_tree := f_tree.mono S290
    have f_told := f_told.mono S290
    have h3 := S290 _ _ h3
    have r6 := r6.mono S290
    have r7 := r7.mono S290
    have h11 := S290 _ _ h11
    have hl12 := hl12.mono S290
    have h19 := h19.mono S290
    have h26 := h26.mono S290
    have h31 := S290 _ _ h31
    have hl32 := hl32.mono S290
    have h36 := S290 _ _ h36
    have hl37 := hl37.mono S290
    have h45 := h45.mono S290
    have h53 := h53.mono S290
    have h58 := S290 _ _ h58
    have hl59 := hl59.mono S290
    have h63 := S290 _ _ h63
    have hl64 := hl64.mono S290
    have h72 := h72.mono S290
    have h77 := S290 _ _ h77
    have hl78 := hl78.mono S290
    have h85 := h85.mono S290
    have h93 := h93.mono S290
    have h112 := h112.mono S290
    have h119 := h119.mono S290
    have h124 := S290 _ _ h124
    have hl125 := hl125.mono S290
    have h129 := S290 _ _ h129
    have hl130 := hl130.mono S290
    have h138 := h138.mono S290
    have h146 := h146.mono S290
    have h153 := h153.mono S290
    have h158 := S290 _ _ h158
    have hl159 := hl159.mono S290
    have h163 := S290 _ _ h163
    have hl164 := hl164.mono S290
    have h172 := h172.mono S290
    have h177 := S290 _ _ h177
    have hl178 := hl178.mono S290
    have h185 := h185.mono S290
    have h193 := h193.mono S290
    have r200 := r200.mono S290
    have h220 := h220.mono S290
    have h224 := rd_mono S290 h224
    have hl225 := hl225.mono S290
    have r230 := r230.mono S290
    have h234 := S290 _ _ h234
    have hl235 := hl235.mono S290
    have h244 := rd_mono S290 h244
    have hl245 := hl245.mono S290
    have r250 := r250.mono S290
    have h254 := S290 _ _ h254
    have hl255 := hl255.mono S290
    have h264 := S290 _ _ h264
    have hl265 := hl265.mono S290
    have r275 := r275.mono S290
    have h279 := S290 _ _ h279
    have hl280 := hl280.mono S290
    have hl293 := hl293.mono S290
    have h292 := R.lst (a := Int) h291 hl293
    obtain ⟨p294, w295, e296, h297, hl298⟩ := R.lst_ h292
    cases e296
    obtain ⟨y299, e300, hk⟩ := wp_opt hk
    obtain ⟨w301, e302, r303⟩ := hl298.atI e300
    obtain rfl := R.int_ r303
    refine ⟨[some (V.ref p1), some (V.ref p241), some (V.int x_place), some (V.int x_length), some (V.int (x_tree.1.length : Int)), some (V.ref p39), some (V.ref p99), some (V.ref p207), some (V.ref p286), none, some (V.ref p8), none], rfl, _, rfl, _, _, _, _, rfl, rfl, (SqLF O289.s h297), e302, _, _, rfl, rfl, _, rfl, ?_⟩
    refine iteD (fun q304 => ?_) (fun q304 => ?_)
    · have hk := wp_if hk q304
      refine iteT ?_
      exact hk _ _  O289.g 
    · have hk := wp_el hk q304
      obtain ⟨p305, w306, e307, h308, hl309⟩ := R.lst_ h292
      cases e307
      obtain ⟨y310, e311, hk⟩ := wp_opt hk
      obtain ⟨w312, e313, r314⟩ := hl309.atI e311
      obtain rfl := R.int_ r314
      obtain ⟨p315, w316, e317, h318, hl319⟩ := R.lst_ h292
      cases e317
      obtain ⟨y320, e321, hk⟩ := wp_opt hk
      obtain ⟨w322, e323, r324⟩ := hl319.atI e321
      obtain rfl := R.int_ r324
      obtain ⟨c325, hk⟩ := wp_chk hk
      refine ⟨_, rfl, _, _, _, _, rfl, rfl, (SqLF O289.s h308), e313, _, rfl, _, _, _, _, rfl, rfl, (SqLF O289.s h318), e323, _, _, rfl, rfl, c325, _, _, R.int, R.int, _, rfl, ?_⟩
      refine iteD (fun q326 => ?_) (fun q326 => ?_)
      · have hk := wp_if hk q326
        exact hk _ _  O289.g 
      · have hk := wp_el hk q326
        refine ⟨_, rfl, _, _, _, rfl, O289.pre0, f_tree, wp_call hk (fun r327 er328 hk F329 H330 g331 p332 w333 hn334 hf335 h336 hl337 => ?_) (fun n hn C H1 hC kp => hn C H1 hC (O289.kp0 kp))⟩
        have O338 := O289.call0 g331
        have S_ := g331.f
        have f_tree := f_tree.mono S_
        have f_told := f_told.mono S_
        have h3 := S_ _ _ h3
        have r6 := r6.mono S_
        have r7 := r7.mono S_
        have h11 := S_ _ _ h11
        have hl12 := hl12.mono S_
        have h19 := h19.mono S_
        have h26 := h26.mono S_
        have h31 := S_ _ _ h31
        have hl32 := hl32.mono S_
        have h36 := S_ _ _ h36
        have hl37 := hl37.mono S_
        have h45 := h45.mono S_
        have h53 := h53.mono S_
        have h58 := S_ _ _ h58
        have hl59 := hl59.mono S_
        have h63 := S_ _ _ h63
        have hl64 := hl64.mono S_
        have h72 := h72.mono S_
        have h77 := S_ _ _ h77
        have hl78 := hl78.mono S_
        have h85 := h85.mono S_
        have h93 := h93.mono S_
        have h112 := h112.mono S_
        have h119 := h119.mono S_
        have h124 := S_ _ _ h124
        have hl125 := hl125.mono S_
        have h129 := S_ _ _ h129
        have hl130 := hl130.mono S_
        have h138 := h138.mono S_
        have h146 := h146.mono S_
        have h153 := h153.mono S_
        have h158 := S_ _ _ h158
        have hl159 := hl159.mono S_
        have h163 := S_ _ _ h163
        have hl164 := hl164.mono S_
        have h172 := h172.mono S_
        have h177 := S_ _ _ h177
        have hl178 := hl178.mono S_
        have h185 := h185.mono S_
        have h193 := h193.mono S_
        have r200 := r200.mono S_
        have h220 := h220.mono S_
        have h224 := rd_mono S_ h224
        have hl225 := hl225.mono S_
        have r230 := r230.mono S_
        have h234 := S_ _ _ h234
        have hl235 := hl235.mono S_
        have h244 := rd_mono S_ h244
        have hl245 := hl245.mono S_
        have r250 := r250.mono S_
        have h254 := S_ _ _ h254
        have hl255 := hl255.mono S_
        have h264 := S_ _ _ h264
        have hl265 := hl265.mono S_
        have r275 := r275.mono S_
        have h279 := S_ _ _ h279
        have hl280 := hl280.mono S_
        have h292 := h292.mono S_
        have h297 := S_ _ _ h297
        have hl298 := hl298.mono S_
        have h308 := S_ _ _ h308
        have hl309 := hl309.mono S_
        have h318 := S_ _ _ h318
        have hl319 := hl319.mono S_
        have O339 := O289.got O338 rfl hn334 hf335 h336
        have z340 := O289.was hn334
        obtain ⟨F341, O342, S343, h344⟩ := O339.frzE 0 rfl z340
        have f_tree := f_tree.mono S343
        have f_told := f_told.mono S343
        have h3 := S343 _ _ h3
        have r6 := r6.mono S343
        have r7 := r7.mono S343
        have h11 := S343 _ _ h11
        have hl12 := hl12.mono S343
        have h19 := h19.mono S343
        have h26 := h26.mono S343
        have h31 := S343 _ _ h31
        have hl32 := hl32.mono S343
        have h36 := S343 _ _ h36
        have hl37 := hl37.mono S343
        have h45 := h45.mono S343
        have h53 := h53.mono S343
        have h58 := S343 _ _ h58
        have hl59 := hl59.mono S343
        have h63 := S343 _ _ h63
        have hl64 := hl64.mono S343
        have h72 := h72.mono S343
        have h77 := S343 _ _ h77
        have hl78 := hl78.mono S343
        have h85 := h85.mono S343
        have h93 := h93.mono S343
        have h112 := h112.mono S343
        have h119 := h119.mono S343
        have h124 := S343 _ _ h124
        have hl125 := hl125.mono S343
        have h129 := S343 _ _ h129
        have hl130 := hl130.mono S343
        have h138 := h138.mono S343
        have h146 := h146.mono S343
        have h153 := h153.mono S343
        have h158 := S343 _ _ h158
        have hl159 := hl159.mono S343
        have h163 := S343 _ _ h163
        have hl164 := hl164.mono S343
        have h172 := h172.mono S343
        have h177 := S343 _ _ h177
        have hl178 := hl178.mono S343
        have h185 := h185.mono S343
        have h193 := h193.mono S343
        have r200 := r200.mono S343
        have h220 := h220.mono S343
        have h224 := rd_mono S343 h224
        have hl225 := hl225.mono S343
        have r230 := r230.mono S343
        have h234 := S343 _ _ h234
        have hl235 := hl235.mono S343
        have h244 := rd_mono S343 h244
        have hl245 := hl245.mono S343
        have r250 := r250.mono S343
        have h254 := S343 _ _ h254
        have hl255 := hl255.mono S343
        have h264 := S343 _ _ h264
        have hl265 := hl265.mono S343
        have r275 := r275.mono S343
        have h279 := S343 _ _ h279
        have hl280 := hl280.mono S343
        have h292 := h292.mono S343
        have h297 := S343 _ _ h297
        have hl298 := hl298.mono S343
        have h308 := S343 _ _ h308
        have hl309 := hl309.mono S343
        have h318 := S343 _ _ h318
        have hl319 := hl319.mono S343
        have hl337 := hl337.mono S343
        have h345 := R.lst (a := (List Int)) h344 hl337
        obtain ⟨p346, w347, e348, h349, hl350⟩ := R.lst_ h345
        cases e348
        obtain ⟨y351, e352, hk⟩ := wp_opt hk
        obtain ⟨w353, e354, r355⟩ := hl350.atI e352
        obtain ⟨y356, e357, hk⟩ := wp_opt hk
        obtain ⟨w358, e359, r360⟩ := RD.some hl225 (k := ("sum" : Str)) e357
        obtain ⟨p361, w362, e363, h364, hl365⟩ := R.lst_ r360
        cases e363
        refine ⟨_, rfl, _, _, _, _, rfl, rfl, (SqLF O342.s h349), e354, [some (V.ref p1), some (V.ref p241), some (V.int x_place), some (V.int x_length), some (V.int (x_tree.1.length : Int)), some (V.ref p39), some (V.ref p99), some (V.ref p207), some (V.ref p286), some w353, some (V.ref p8), none], rfl, _, rfl, _, _, rfl, (dget_S (rd_mono O342.s h224) e359), _, rfl, _, rfl, _, _, rfl, (SqLF O342.s h364), fun p366 hp367 => ?_⟩
        have hl373 : RL (a := Int) F341 (cutV w362 none (some (x_tree.1.length : Int))) (cutL y356 none (some (x_tree.1.length : Int))) := RL.cutL hl365 none (some (x_tree.1.length : Int))
        obtain ⟨F368, O369, S370, h371⟩ := O342.putE hp367 (.lst (cutV w362 none (some (x_tree.1.length : Int))))
        have f_tree := f_tree.mono S370
        have f_told := f_told.mono S370
        have h3 := S370 _ _ h3
        have r6 := r6.mono S370
        have r7 := r7.mono S370
        have h11 := S370 _ _ h11
        have hl12 := hl12.mono S370
        have h19 := h19.mono S370
        have h26 := h26.mono S370
        have h31 := S370 _ _ h31
        have hl32 := hl32.mono S370
        have h36 := S370 _ _ h36
        have hl37 := hl37.mono S370
        have h45 := h45.mono S370
        have h53 := h53.mono S370
        have h58 := S370 _ _ h58
        have hl59 := hl59.mono S370
        have h63 := S370 _ _ h63
        have hl64 := hl64.mono S370
        have h72 := h72.mono S370
        have h77 := S370 _ _ h77
        have hl78 := hl78.mono S370
        have h85 := h85.mono S370
        have h93 := h93.mono S370
        have h112 := h112.mono S370
        have h119 := h119.mono S370
        have h124 := S370 _ _ h124
        have hl125 := hl125.mono S370
        have h129 := S370 _ _ h129
        have hl130 := hl130.mono S370
        have h138 := h138.mono S370
        have h146 := h146.mono S370
        have h153 := h153.mono S370
        have h158 := S370 _ _ h158
        have hl159 := hl159.mono S370
        have h163 := S370 _ _ h163
        have hl164 := hl164.mono S370
        have h172 := h172.mono S370
        have h177 := S370 _ _ h177
        have hl178 := hl178.mono S370
        have h185 := h185.mono S370
        have h193 := h193.mono S370
        have r200 := r200.mono S370
        have h220 := h220.mono S370
        have h224 := rd_mono S370 h224
        have hl225 := hl225.mono S370
        have r230 := r230.mono S370
        have h234 := S370 _ _ h234
        have hl235 := hl235.mono S370
        have h244 := rd_mono S370 h244
        have hl245 := hl245.mono S370
        have r250 := r250.mono S370
        have h254 := S370 _ _ h254
        have hl255 := hl255.mono S370
        have h264 := S370 _ _ h264
        have hl265 := hl265.mono S370
        have r275 := r275.mono S370
        have h279 := S370 _ _ h279
        have hl280 := hl280.mono S370
        have h292 := h292.mono S370
        have h297 := S370 _ _ h297
        have hl298 := hl298.mono S370
        have h308 := S370 _ _ h308
        have hl309 := hl309.mono S370
        have h318 := S370 _ _ h318
        have hl319 := hl319.mono S370
        have h345 := h345.mono S370
        have h349 := S370 _ _ h349
        have hl350 := hl350.mono S370
        have r355 := r355.mono S370
        have r360 := r360.mono S370
        have h364 := S370 _ _ h364
        have hl365 := hl365.mono S370
        have hl373 := hl373.mono S370
        have h372 := R.lst (a := Int) h371 hl373
        obtain ⟨c375, hk⟩ := wp_chk hk
        obtain ⟨c380, L376, hL377, hLs378, hLd379⟩ := compS_L hk
        refine ⟨_, rfl, _, rfl, c375.lo, c375.hi, fun p381 hp382 => ?_⟩
        have z421 := O369.was hp382
        refine lc_range (lo := 0) (n := ((x_tree.1.length : Int)).toNat) (fun i H => ∃ (F_ : Hp) (st : Unit) (acc : List Int) (wa : List V), Same F368 F_ ∧ Ow _ F_ [(p381, .lst wa)] H ∧ RL F_ wa acc ∧ wa.length ≤ i ∧ L376 (List.drop i (rangeL 0 (x_tree.1.length : Int))) acc st) ⟨F368, (), [], [], Same.refl _, O369.new hp382, RL.nil, Nat.zero_le _, hL377⟩ ?_ ?_
        · rintro i383 H385 hi386 ⟨F391, st392, acc388, wa389, S393, O395, hl394, la390, hL377⟩
          have f_tree := f_tree.mono S393
          have f_told := f_told.mono S393
          have h3 := S393 _ _ h3
          have r6 := r6.mono S393
          have r7 := r7.mono S393
          have h11 := S393 _ _ h11
          have hl12 := hl12.mono S393
          have h19 := h19.mono S393
          have h26 := h26.mono S393
          have h31 := S393 _ _ h31
          have hl32 := hl32.mono S393
          have h36 := S393 _ _ h36
          have hl37 := hl37.mono S393
          have h45 := h45.mono S393
          have h53 := h53.mono S393
          have h58 := S393 _ _ h58
          have hl59 := hl59.mono S393
          have h63 := S393 _ _ h63
          have hl64 := hl64.mono S393
          have h72 := h72.mono S393
          have h77 := S393 _ _ h77
          have hl78 := hl78.mono S393
          have h85 := h85.mono S393
          have h93 := h93.mono S393
          have h112 := h112.mono S393
          have h119 := h119.mono S393
          have h124 := S393 _ _ h124
          have hl125 := hl125.mono S393
          have h129 := S393 _ _ h129
          have hl130 := hl130.mono S393
          have h138 := h138.mono S393
          have h146 := h146.mono S393
          have h153 := h153.mono S393
          have h158 := S393 _ _ h158
          have hl159 := hl159.mono S393
          have h163 := S393 _ _ h163
          have hl164 := hl164.mono S393
          have h172 := h172.mono S393
          have h177 := S393 _ _ h177
          have hl178 := hl178.mono S393
          have h185 := h185.mono S393
          have h193 := h193.mono S393
          have r200 := r200.mono S393
          have h220 := h220.mono S393
          have h224 := rd_mono S393 h224
          have hl225 := hl225.mono S393
          have r230 := r230.mono S393
          have h234 := S393 _ _ h234
          have hl235 := hl235.mono S393
          have h244 := rd_mono S393 h244
          have hl245 := hl245.mono S393
          have r250 := r250.mono S393
          have h254 := S393 _ _ h254
          have hl255 := hl255.mono S393
          have h264 := S393 _ _ h264
          have hl265 := hl265.mono S393
          have r275 := r275.mono S393
          have h279 := S393 _ _ h279
          have hl280 := hl280.mono S393
          have h292 := h292.mono S393
          have h297 := S393 _ _ h297
          have hl298 := hl298.mono S393
          have h308 := S393 _ _ h308
          have hl309 := hl309.mono S393
          have h318 := S393 _ _ h318
          have hl319 := hl319.mono S393
          have h345 := h345.mono S393
          have h349 := S393 _ _ h349
          have hl350 := hl350.mono S393
          have r355 := r355.mono S393
          have r360 := r360.mono S393
          have h364 := S393 _ _ h364
          have hl365 := hl365.mono S393
          have h372 := h372.mono S393
          rw [rangeL_get0 hi386] at hL377
          have hk := hLs378 _ _ _ _ hL377
          obtain ⟨y374, he_⟩ : ∃ z_, z_ = 0 + (i383 : Int) := ⟨_, rfl⟩
          try rw [← he_] at hk
          rw [← he_]
          refine ⟨rfl, ?_⟩
          obtain ⟨y396, e397, hk⟩ := wp_opt hk
          obtain ⟨w398, e399, r400⟩ := RD.some hl245 (k := ("sum" : Str)) e397
          obtain ⟨p401, w402, e403, h404, hl405⟩ := R.lst_ r400
          cases e403
          obtain ⟨y406, e407, hk⟩ := wp_opt hk
          obtain ⟨w408, e409, r410⟩ := hl405.atI e407
          obtain rfl := R.int_ r410
          obtain ⟨p411, w412, e413, h414, hl415⟩ := R.lst_ r355
          cases e413
          obtain ⟨y416, e417, hk⟩ := wp_opt hk
          obtain ⟨w418, e419, r420⟩ := hl415.atI e417
          obtain rfl := R.int_ r420
          refine ⟨_, rfl, _, _, rfl, (dget_S (rd_mono O395.s h244) e399), _, rfl, _, _, _, _, rfl, rfl, (SqLF O395.s h404), e409, _, rfl, _, rfl, _, _, _, _, rfl, rfl, (SqLF O395.s h414), e419, _, _, rfl, rfl, _, rfl, _, _, rfl, rfl, _, (O395.at 0 rfl), (comp_lenR la390 hi386 (by rw [Int.sub_zero]) c380), ?_⟩
          exact ⟨F391, (), acc388 ++ [((y406 + y416) + x_length)], wa389 ++ [V.int ((y406 + y416) + x_length)], S393, O395.set 0 (.lst (wa389 ++ [V.int ((y406 + y416) + x_length)])) rfl, RL.snoc hl394 R.int, by rw [List.length_append]; exact Nat.succ_le_succ la390, hk⟩
        rintro H422 ⟨F423, st424, acc425, wa426, S427, O428, hl429, la430, hL431⟩
        rw [rangeL_end0] at hL431
        have hk := hLd379 _ _ hL431
        have f_tree := f_tree.mono S427
        have f_told := f_told.mono S427
        have h3 := S427 _ _ h3
        have r6 := r6.mono S427
        have r7 := r7.mono S427
        have h11 := S427 _ _ h11
        have hl12 := hl12.mono S427
        have h19 := h19.mono S427
        have h26 := h26.mono S427
        have h31 := S427 _ _ h31
        have hl32 := hl32.mono S427
        have h36 := S427 _ _ h36
        have hl37 := hl37.mono S427
        have h45 := h45.mono S427
        have h53 := h53.mono S427
        have h58 := S427 _ _ h58
        have hl59 := hl59.mono S427
        have h63 := S427 _ _ h63
        have hl64 := hl64.mono S427
        have h72 := h72.mono S427
        have h77 := S427 _ _ h77
        have hl78 := hl78.mono S427
        have h85 := h85.mono S427
        have h93 := h93.mono S427
        have h112 := h112.mono S427
        have h119 := h119.mono S427
        have h124 := S427 _ _ h124
        have hl125 := hl125.mono S427
        have h129 := S427 _ _ h129
        have hl130 := hl130.mono S427
        have h138 := h138.mono S427
        have h146 := h146.mono S427
        have h153 := h153.mono S427
        have h158 := S427 _ _ h158
        have hl159 := hl159.mono S427
        have h163 := S427 _ _ h163
        have hl164 := hl164.mono S427
        have h172 := h172.mono S427
        have h177 := S427 _ _ h177
        have hl178 := hl178.mono S427
        have h185 := h185.mono S427
        have h193 := h193.mono S427
        have r200 := r200.mono S427
        have h220 := h220.mono S427
        have h224 := rd_mono S427 h224
        have hl225 := hl225.mono S427
        have r230 := r230.mono S427
        have h234 := S427 _ _ h234
        have hl235 := hl235.mono S427
        have h244 := rd_mono S427 h244
        have hl245 := hl245.mono S427
        have r250 := r250.mono S427
        have h254 := S427 _ _ h254
        have hl255 := hl255.mono S427
        have h264 := S427 _ _ h264
        have hl265 := hl265.mono S427
        have r275 := r275.mono S427
        have h279 := S427 _ _ h279
        have hl280 := hl280.mono S427
        have h292 := h292.mono S427
        have h297 := S427 _ _ h297
        have hl298 := hl298.mono S427
        have h308 := S427 _ _ h308
        have hl309 := hl309.mono S427
        have h318 := S427 _ _ h318
        have hl319 := hl319.mono S427
        have h345 := h345.mono S427
        have h349 := S427 _ _ h349
        have hl350 := hl350.mono S427
        have r355 := r355.mono S427
        have r360 := r360.mono S427
        have h364 := S427 _ _ h364
        have hl365 := hl365.mono S427
        have h372 := h372.mono S427
        obtain ⟨F433, O434, S435, h436⟩ := O428.frzE 0 rfl z421
        have f_tree := f_tree.mono S435
        have f_told := f_told.mono S435
        have h3 := S435 _ _ h3
        have r6 := r6.mono S435
        have r7 := r7.mono S435
        have h11 := S435 _ _ h11
        have hl12 := hl12.mono S435
        have h19 := h19.mono S435
        have h26 := h26.mono S435
        have h31 := S435 _ _ h31
        have hl32 := hl32.mono S435
        have h36 := S435 _ _ h36
        have hl37 := hl37.mono S435
        have h45 := h45.mono S435
        have h53 := h53.mono S435
        have h58 := S435 _ _ h58
        have hl59 := hl59.mono S435
        have h63 := S435 _ _ h63
        have hl64 := hl64.mono S435
        have h72 := h72.mono S435
        have h77 := S435 _ _ h77
        have hl78 := hl78.mono S435
        have h85 := h85.mono S435
        have h93 := h93.mono S435
        have h112 := h112.mono S435
        have h119 := h119.mono S435
        have h124 := S435 _ _ h124
        have hl125 := hl125.mono S435
        have h129 := S435 _ _ h129
        have hl130 := hl130.mono S435
        have h138 := h138.mono S435
        have h146 := h146.mono S435
        have h153 := h153.mono S435
        have h158 := S435 _ _ h158
        have hl159 := hl159.mono S435
        have h163 := S435 _ _ h163
        have hl164 := hl164.mono S435
        have h172 := h172.mono S435
        have h177 := S435 _ _ h177
        have hl178 := hl178.mono S435
        have h185 := h185.mono S435
        have h193 := h193.mono S435
        have r200 := r200.mono S435
        have h220 := h220.mono S435
        have h224 := rd_mono S435 h224
        have hl225 := hl225.mono S435
        have r230 := r230.mono S435
        have h234 := S435 _ _ h234
        have hl235 := hl235.mono S435
        have h244 := rd_mono S435 h244
        have hl245 := hl245.mono S435
        have r250 := r250.mono S435
        have h254 := S435 _ _ h254
        have hl255 := hl255.mono S435
        have h264 := S435 _ _ h264
        have hl265 := hl265.mono S435
        have r275 := r275.mono S435
        have h279 := S435 _ _ h279
        have hl280 := hl280.mono S435
        have h292 := h292.mono S435
        have h297 := S435 _ _ h297
        have hl298 := hl298.mono S435
        have h308 := S435 _ _ h308
        have hl309 := hl309.mono S435
        have h318 := S435 _ _ h318
        have hl319 := hl319.mono S435
        have h345 := h345.mono S435
        have h349 := S435 _ _ h349
        have hl350 := hl350.mono S435
        have r355 := r355.mono S435
        have r360 := r360.mono S435
        have h364 := S435 _ _ h364
        have hl365 := hl365.mono S435
        have h372 := h372.mono S435
        have hl429 := hl429.mono S435
        have h437 := R.lst (a := Int) h436 hl429
        refine ⟨_, _, (R.mono h372 O434.s), (R.mono h437 O434.s), _, rfl, ?_⟩
        refine iteD (fun q438 => ?_) (fun q438 => ?_)
        · have hk := wp_if hk q438
          exact hk _ _  O434.g 
        · have hk := wp_el hk q438
          obtain ⟨y439, e440, hk⟩ := wp_opt hk
          obtain ⟨w441, e442, r443⟩ := RD.some hl225 (k := ("piece" : Str)) e440
          obtain ⟨p444, w445, e446, h447, hl448⟩ := R.lst_ r443
          cases e446
          refine ⟨_, rfl, _, _, rfl, (dget_S (rd_mono O434.s h224) e442), _, rfl, _, rfl, _, _, rfl, (SqLF O434.s h447), fun p449 hp450 => ?_⟩
          have hl456 : RL (a := Int) F433 (cutV w445 none (some (x_tree.1.length : Int))) (cutL y439 none (some (x_tree.1.length : Int))) := RL.cutL hl448 none (some (x_tree.1.length : Int))
          obtain ⟨F451, O452, S453, h454⟩ := O434.putE hp450 (.lst (cutV w445 none (some (x_tree.1.length : Int))))
          have f_tree := f_tree.mono S453
          have f_told := f_told.mono S453
          have h3 := S453 _ _ h3
          have r6 := r6.mono S453
          have r7 := r7.mono S453
          have h11 := S453 _ _ h11
          have hl12 := hl12.mono S453
          have h19 := h19.mono S453
          have h26 := h26.mono S453
          have h31 := S453 _ _ h31
          have hl32 := hl32.mono S453
          have h36 := S453 _ _ h36
          have hl37 := hl37.mono S453
          have h45 := h45.mono S453
          have h53 := h53.mono S453
          have h58 := S453 _ _ h58
          have hl59 := hl59.mono S453
          have h63 := S453 _ _ h63
          have hl64 := hl64.mono S453
          have h72 := h72.mono S453
          have h77 := S453 _ _ h77
          have hl78 := hl78.mono S453
          have h85 := h85.mono S453
          have h93 := h93.mono S453
          have h112 := h112.mono S453
          have h119 := h119.mono S453
          have h124 := S453 _ _ h124
          have hl125 := hl125.mono S453
          have h129 := S453 _ _ h129
          have hl130 := hl130.mono S453
          have h138 := h138.mono S453
          have h146 := h146.mono S453
          have h153 := h153.mono S453
          have h158 := S453 _ _ h158
          have hl159 := hl159.mono S453
          have h163 := S453 _ _ h163
          have hl164 := hl164.mono S453
          have h172 := h172.mono S453
          have h177 := S453 _ _ h177
          have hl178 := hl178.mono S453
          have h185 := h185.mono S453
          have h193 := h193.mono S453
          have r200 := r200.mono S453
          have h220 := h220.mono S453
          have h224 := rd_mono S453 h224
          have hl225 := hl225.mono S453
          have r230 := r230.mono S453
          have h234 := S453 _ _ h234
          have hl235 := hl235.mono S453
          have h244 := rd_mono S453 h244
          have hl245 := hl245.mono S453
          have r250 := r250.mono S453
          have h254 := S453 _ _ h254
          have hl255 := hl255.mono S453
          have h264 := S453 _ _ h264
          have hl265 := hl265.mono S453
          have r275 := r275.mono S453
          have h279 := S453 _ _ h279
          have hl280 := hl280.mono S453
          have h292 := h292.mono S453
          have h297 := S453 _ _ h297
          have hl298 := hl298.mono S453
          have h308 := S453 _ _ h308
          have hl309 := hl309.mono S453
          have h318 := S453 _ _ h318
          have hl319 := hl319.mono S453
          have h345 := h345.mono S453
          have h349 := S453 _ _ h349
          have hl350 := hl350.mono S453
          have r355 := r355.mono S453
          have r360 := r360.mono S453
          have h364 := S453 _ _ h364
          have hl365 := hl365.mono S453
          have h372 := h372.mono S453
          have h437 := h437.mono S453
          have r443 := r443.mono S453
          have h447 := S453 _ _ h447
          have hl448 := hl448.mono S453
          have hl456 := hl456.mono S453
          have h455 := R.lst (a := Int) h454 hl456
          obtain ⟨y457, e458, hk⟩ := wp_opt hk
          obtain ⟨w459, e460, r461⟩ := RD.some hl245 (k := ("piece" : Str)) e458
          refine ⟨_, rfl, _, _, rfl, (dget_S (rd_mono O452.s h244) e460), _, _, (R.mono h455 O452.s), (R.mono r461 O452.s), _, rfl, ?_⟩
          refine iteD (fun q462 => ?_) (fun q462 => ?_)
          · have hk := wp_if hk q462
            refine iteT ?_
            exact hk _ _  O452.g 
          · have hk := wp_el hk q462
            obtain ⟨y463, e464, hk⟩ := wp_opt hk
            obtain ⟨w465, e466, r467⟩ := RD.some hl225 (k := ("best" : Str)) e464
            obtain ⟨p468, w469, e470, h471, hl472⟩ := R.lst_ r467
            cases e470
            obtain ⟨y473, e474, hk⟩ := wp_opt hk
            obtain ⟨w475, e476, r477⟩ := hl472.atI e474
            obtain rfl := R.int_ r477
            obtain ⟨y478, e479, hk⟩ := wp_opt hk
            obtain ⟨w480, e481, r482⟩ := RD.some hl245 (k := ("best" : Str)) e479
            obtain ⟨p483, w484, e485, h486, hl487⟩ := R.lst_ r482
            cases e485
            obtain ⟨y488, e489, hk⟩ := wp_opt hk
            obtain ⟨w490, e491, r492⟩ := hl487.atI e489
            obtain rfl := R.int_ r492
            refine ⟨_, rfl, _, _, rfl, (dget_S (rd_mono O452.s h224) e466), _, _, _, _, rfl, rfl, (SqLF O452.s h471), e476, _, rfl, _, _, rfl, (dget_S (rd_mono O452.s h244) e481), _, _, _, _, rfl, rfl, (SqLF O452.s h486), e491, _, _, R.int, R.int, _, rfl, ?_⟩
            refine iteD (fun q493 => ?_) (fun q493 => ?_)
            · have hk := wp_if hk q493
              exact hk _ _  O452.g 
            · have hk := wp_el hk q493
              obtain ⟨y494, e495, hk⟩ := wp_opt hk
              obtain ⟨w496, e497, r498⟩ := RD.some hl225 (k := ("pieces" : Str)) e495
              obtain ⟨p499, w500, e501, h502, hl503⟩ := R.lst_ r498
              cases e501
              obtain ⟨y504, e505, hk⟩ := wp_opt hk
              obtain ⟨w506, e507, r508⟩ := hl503.atI e505
              obtain rfl := R.int_ r508
              obtain ⟨y509, e510, hk⟩ := wp_opt hk
              obtain ⟨w511, e512, r513⟩ := RD.some hl245 (k := ("pieces" : Str)) e510
              obtain ⟨p514, w515, e516, h517, hl518⟩ := R.lst_ r513
              cases e516
              obtain ⟨y519, e520, hk⟩ := wp_opt hk
              obtain ⟨w521, e522, r523⟩ := hl518.atI e520
              obtain rfl := R.int_ r523
              obtain ⟨c524, hk⟩ := wp_chk hk
              refine ⟨_, rfl, _, _, rfl, (dget_S (rd_mono O452.s h224) e497), _, rfl, _, _, _, _, rfl, rfl, (SqLF O452.s h502), e507, _, rfl, _, _, rfl, (dget_S (rd_mono O452.s h244) e512), _, rfl, _, _, _, _, rfl, rfl, (SqLF O452.s h517), e522, _, _, rfl, rfl, c524, _, _, R.int, R.int, _, rfl, ?_⟩
              refine iteD (fun q525 => ?_) (fun q525 => ?_)
              · have hk := wp_if hk q525
                refine iteT ?_
                exact hk _ _  O452.g 
              · have hk := wp_el hk q525
                obtain ⟨y526, e527, hk⟩ := wp_opt hk
                obtain ⟨w528, e529, r530⟩ := RD.some hl225 (k := ("pieces" : Str)) e527
                obtain ⟨p531, w532, e533, h534, hl535⟩ := R.lst_ r530
                cases e533
                obtain ⟨y536, e537, hk⟩ := wp_opt hk
                obtain ⟨w538, e539, r540⟩ := hl535.atI e537
                obtain rfl := R.int_ r540
                obtain ⟨y541, e542, hk⟩ := wp_opt hk
                obtain ⟨w543, e544, r545⟩ := RD.some hl245 (k := ("pieces" : Str)) e542
                obtain ⟨p546, w547, e548, h549, hl550⟩ := R.lst_ r545
                cases e548
                obtain ⟨y551, e552, hk⟩ := wp_opt hk
                obtain ⟨w553, e554, r555⟩ := hl550.atI e552
                obtain rfl := R.int_ r555
                refine ⟨_, rfl, _, _, rfl, (dget_S (rd_mono O452.s h224) e529), _, rfl, _, _, _, _, rfl, rfl, (SqLF O452.s h534), e539, _, rfl, _, _, rfl, (dget_S (rd_mono O452.s h244) e544), _, rfl, _, _, _, _, rfl, rfl, (SqLF O452.s h549), e554, _, _, rfl, rfl, _, _, R.int, R.int, _, rfl, ?_⟩
                refine iteD (fun q556 => ?_) (fun q556 => ?_)
                · have hk := wp_if hk q556
                  exact hk _ _  O452.g 
                · have hk := wp_el hk q556
                  obtain ⟨y557, e558, hk⟩ := wp_opt hk
                  obtain ⟨w559, e560, r561⟩ := RD.some hl225 (k := ("farthest" : Str)) e558
                  obtain ⟨p562, w563, e564, h565, hl566⟩ := R.lst_ r561
                  cases e564
                  obtain ⟨y567, e568, hk⟩ := wp_opt hk
                  obtain ⟨w569, e570, r571⟩ := hl566.atI e568
                  obtain rfl := R.int_ r571
                  obtain ⟨y572, e573, hk⟩ := wp_opt hk
                  obtain ⟨w574, e575, r576⟩ := RD.some hl245 (k := ("farthest" : Str)) e573
                  obtain ⟨p577, w578, e579, h580, hl581⟩ := R.lst_ r576
                  cases e579
                  obtain ⟨y582, e583, hk⟩ := wp_opt hk
                  obtain ⟨w584, e585, r586⟩ := hl581.atI e583
                  obtain rfl := R.int_ r586
                  refine ⟨_, rfl, _, _, rfl, (dget_S (rd_mono O452.s h224) e560), _, rfl, _, _, _, _, rfl, rfl, (SqLF O452.s h565), e570, _, rfl, _, _, rfl, (dget_S (rd_mono O452.s h244) e575), _, rfl, _, _, _, _, rfl, rfl, (SqLF O452.s h580), e585, _, rfl, _, _, rfl, rfl, _, _, R.int, R.int, ?_⟩
                  exact hk _ _  O452.g 
abbrev s_law : Stmt := top 54
theorem sc_law : FnScope ["script", "tree", "told", "place"] ["script"] (defScope s_law) := ⟨rfl, rfl, rfl, by decide +kernel, rfl, by decide +kernel, by decide +kernel⟩
def m_law (x_script : (List Int)) : M (Bool) :=
m_law_tree x_script (38 : Int) (0 : Int) >>= fun r1 =>
m_law_told r1 >>= fun r9 =>
m_law_cell_at x_script (5 : Int) >>= fun r28 =>
chk (0 < (r1.1.length : Int)) >>= fun _ =>
m_law_within r1 r9 >>= fun r47 =>
if r47 = true then (
m_law_cell_at x_script (6 : Int) >>= fun r54 =>
chk (0 < ((10 : Int) ^ Int.toNat (20 : Int))) >>= fun _ =>
m_law_grown r1 r9 (r28 % (r1.1.length : Int)) (r54 % ((10 : Int) ^ Int.toNat (20 : Int))) >>= fun r61 =>
.ok r61)
else (
.ok false)
def sp_law (K : PySem.W.Frag) : Sp := fun vs H Q E => ∃ (F : Hp) (a_script : Addr) (x_script : (List Int)), vs = [.ref a_script] ∧ Pre F [] H ∧ SqL K F a_script (x_script.map V.int) ∧
  wp (m_law x_script) (fun r => ∀ (F' H' : Hp), Gr [] F H F' H' → Q (V.bl r) H') (fun _ => False)
set_option maxHeartbeats 20000000 in
theorem ok_law (nb : Nb mg) (C_law_cell_at : Ca P w K mg base "_law_cell_at" 1 ["script", "k"] (sp_law_cell_at K mg)) (C_law_grown : Ca P w K mg base "_law_grown" 66 ["tree", "told", "place", "length"] (sp_law_grown mg)) (C_law_told : Ca P w K mg base "_law_told" 65 ["tree"] (sp_law_told mg)) (C_law_tree : Ca P w K mg base "_law_tree" 3 ["script", "most", "least"] (sp_law_tree K mg)) (C_law_within : Ca P w K mg base "_law_within" 3 ["tree", "told"] (sp_law_within mg)) {f : Addr} {fd : FuncData} (F_ : Fun K "law" "law" s_law f fd) : FnOk P w K mg base (L2.CX P w) 67 f fd ["script"] (sp_law K) := by
  obtain ⟨fa_law_cell_at, fd_law_cell_at, G_law_cell_at, M_law_cell_at, K_law_cell_at, B_law_cell_at⟩ := C_law_cell_at.ex
  obtain ⟨fa_law_grown, fd_law_grown, G_law_grown, M_law_grown, K_law_grown, B_law_grown⟩ := C_law_grown.ex
  obtain ⟨fa_law_told, fd_law_told, G_law_told, M_law_told, K_law_told, B_law_told⟩ := C_law_told.ex
  obtain ⟨fa_law_tree, fd_law_tree, G_law_tree, M_law_tree, K_law_tree, B_law_tree⟩ := C_law_tree.ex
  obtain ⟨fa_law_within, fd_law_within, G_law_within, M_law_within, K_law_within, B_law_within⟩ := C_law_within.ex
  refine F_.okX sc_law (fun vs H Q E h => ?_) (fun cdv A outer s H vs Q E hr h => ?_)
  · obtain ⟨F, _, _, rfl, _⟩ := h
    rfl
  · obtain ⟨F, a_script, x_script, rfl, P0, f_script, hk⟩ := h
    have nd := sc_law.nd
    have hu64 := hr.units
    have hu128 := hu128_of hr
    have O := P0.start
    refine ⟨_, (pss_cons (ps_toN (ps_set (i := 1) nd rfl (Or.inl rfl) (pe_call G_law_tree (hr.mono (by decide)) rfl M_law_tree K_law_tree B_law_tree .nil (passes_call (takes_of rfl rfl rfl rfl) fun _ _ _ _ h => h) (pa_cons (pv 0) (pa_cons pe_int (pa_cons pe_int pa_nil))))))
  (pss_cons (ps_toN (ps_set (i := 2) nd rfl (Or.inl rfl) (pe_call G_law_told (hr.mono (by decide)) rfl M_law_told K_law_told B_law_told .nil (passes_call (takes_of rfl rfl rfl rfl) fun _ _ _ _ h => h) (pa_cons (pv 1) pa_nil))))
  (pss_cons (ps_toN (ps_set (i := 3) nd rfl (Or.inl rfl) (pe_op op_mod (pe_call G_law_cell_at (hr.mono (by decide)) rfl M_law_cell_at K_law_cell_at B_law_cell_at .nil (passes_call (takes_of rfl rfl rfl rfl) fun _ _ _ _ h => h) (pa_cons (pv 0) (pa_cons pe_int pa_nil))) (pe_callB call_lenT (by rfl) nb.b_len PySem.boot_len (pa_cons (pe_ix (ixTupK (K := K) rfl) (pv 1) pe_int (fun _ _ => rfl)) pa_nil)))))
  (pss_one (ps_ret (pe_and (pe_call G_law_within (hr.mono (by decide)) rfl M_law_within K_law_within B_law_within .nil (passes_call (takes_of rfl rfl rfl rfl) fun _ _ _ _ h => h) (pa_cons (pv 1) (pa_cons (pv 2) pa_nil))) (pe_one (pe_call G_law_grown (hr.mono (by decide)) rfl M_law_grown K_law_grown B_law_grown .nil (passes_call (takes_of rfl rfl rfl rfl) fun _ _ _ _ h => h) (pa_cons (pv 1) (pa_cons (pv 2) (pa_cons (pv 3) (pa_cons (pe_op op_mod (pe_call G_law_cell_at (hr.mono (by decide)) rfl M_law_cell_at K_law_cell_at B_law_cell_at .nil (passes_call (takes_of rfl rfl rfl rfl) fun _ _ _ _ h => h) (pa_cons (pv 0) (pa_cons pe_int pa_nil))) (pe_op op_pow pe_int pe_int)) pa_nil)))))))))))), ?_⟩
    refine ⟨_, rfl, _, _, _, _, _, rfl, O.pre0, f_script, wp_call hk (fun r1 er2 hk F3 H4 g5 v6 r7 => ?_) (fun n hn C H1 hC kp => hn.elim)⟩
    have O8 := O.call0 g5
    have S_ := g5.f
    have f_script := S_.seq f_script
    refine ⟨[some (V.ref a_script), some v6, none, none], rfl, _, rfl, _, _, _, rfl, O8.pre0, r7, wp_call hk (fun r9 er10 hk F11 H12 g13 p14 w15 hn16 hf17 h18 hl19 => ?_) (fun n hn C H1 hC kp => hn.elim)⟩
    have O20 := O8.call0 g13
    have S_ := g13.f
    have f_script := S_.seq f_script
    have r7 := r7.mono S_
    have O21 := O8.got O20 rfl hn16 hf17 h18
    have z22 := O8.was hn16
    obtain ⟨F23, O24, S25, h26⟩ := O21.frzE 0 rfl z22
    have f_script := S25.seq f_script
    have r7 := r7.mono S25
    have hl19 := hl19.mono S25
    have h27 := RDv.mk (κ := Str) (β := (List Int)) (.inl h26) hl19
    refine ⟨[some (V.ref a_script), some v6, some (V.ref p14), none], rfl, _, rfl, _, _, _, _, rfl, O24.pre0, f_script, wp_call hk (fun r28 er29 hk F30 H31 g32 => ?_) (fun n hn C H1 hC kp => hn.elim)⟩
    have O33 := O24.call0 g32
    have S_ := g32.f
    have f_script := S_.seq f_script
    have r7 := r7.mono S_
    have h27 := h27.mono S_
    obtain ⟨p34, v37, v38, e35, h36, r39, r40⟩ := R.t2_ r7
    cases e35
    obtain ⟨p41, w42, e43, h44, hl45⟩ := R.lst_ r39
    cases e43
    obtain ⟨c46, hk⟩ := wp_chk hk
    refine ⟨_, rfl, _, _, _, _, rfl, rfl, (SqTF O33.s h36), rfl, _, _, _, rfl, (.inl (O33.s _ _ h44)), hl45.len, _, _, rfl, rfl, c46, [some (V.ref a_script), some (V.ref p34), some (V.ref p14), some (V.int (r28 % (r1.1.length : Int)))], rfl, _, rfl, _, rfl, _, _, _, _, _, rfl, O33.pre0, r7, h27, wp_call hk (fun r47 er48 hk F49 H50 g51 => ?_) (fun n hn C H1 hC kp => hn.elim)⟩
    have O52 := O33.call0 g51
    have S_ := g51.f
    have f_script := S_.seq f_script
    have r7 := r7.mono S_
    have h27 := h27.mono S_
    have h36 := S_ _ _ h36
    have r39 := r39.mono S_
    have r40 := r40.mono S_
    have h44 := S_ _ _ h44
    have hl45 := hl45.mono S_
    refine ⟨_, rfl, ?_⟩
    refine iteB (fun q53 => ?_) (fun q53 => ?_)
    · have hk := wp_if hk q53
      refine ⟨_, rfl, _, rfl, _, rfl, _, rfl, _, _, _, _, rfl, O52.pre0, f_script, wp_call hk (fun r54 er55 hk F56 H57 g58 => ?_) (fun n hn C H1 hC kp => hn.elim)⟩
      have O59 := O52.call0 g58
      have S_ := g58.f
      have f_script := S_.seq f_script
      have r7 := r7.mono S_
      have h27 := h27.mono S_
      have h36 := S_ _ _ h36
      have r39 := r39.mono S_
      have r40 := r40.mono S_
      have h44 := S_ _ _ h44
      have hl45 := hl45.mono S_
      obtain ⟨c60, hk⟩ := wp_chk hk
      refine ⟨_, _, rfl, rfl, (by decide), _, _, rfl, rfl, c60, _, _, _, _, _, _, _, rfl, O59.pre0, r7, h27, wp_call hk (fun r61 er62 hk F63 H64 g65 => ?_) (fun n hn C H1 hC kp => hn.elim)⟩
      have O66 := O59.call0 g65
      have S_ := g65.f
      have f_script := S_.seq f_script
      have r7 := r7.mono S_
      have h27 := h27.mono S_
      have h36 := S_ _ _ h36
      have r39 := r39.mono S_
      have r40 := r40.mono S_
      have h44 := S_ _ _ h44
      have hl45 := hl45.mono S_
      exact hk _ _  O66.g 
    · have hk := wp_el hk q53
      exact hk _ _  O52.g 
end
set_option maxHeartbeats 2000000
def m_need_place (x_tree : ((List Int) × (List (T3 Int Int Int)))) (x_place : Int) : M (Unit) :=
if (0 : Int) ≤ x_place then (
if x_place < (x_tree.1.length : Int) then (
.ok ())
else (
raise "NoPlace"))
else (
raise "NoPlace")
def m_row_down : Nat → ((List Int) × (List (T3 Int Int Int))) → (T4 (List Sm) (List Sm) (List Sm) Sm) → (List (List Int)) → (List ((Int × Int) × Int)) → (Int × Int) → M ((List Int))
  | 0, _, _, _, _, _ => bad
  | k_ + 1, x_tree, x_rule, x_near, x_lengths, x_branch =>
    opt (atI x_near x_branch.2) >>= fun y13 =>
    compS (fun (y23 : Int) (st40 : Unit) =>
    if y23 ≠ x_branch.1 then (
    m_row_down k_ x_tree x_rule x_near x_lengths (x_branch.2, y23) >>= fun r54 =>
    .ok (some r54, ()))
    else (
    .ok (none, ()))) y13 () >>= fun q84 =>
    m_row_with x_tree x_rule x_branch.2 q84.1 >>= fun r91 =>
    opt (atI x_tree.1 x_branch.2) >>= fun y111 =>
    opt (dGet x_lengths x_branch) >>= fun y121 =>
    m_over_tie x_rule r91 y111 y121 >>= fun r126 =>
    .ok r126
def m_seat_worth (x_tree : ((List Int) × (List (T3 Int Int Int)))) (x_rule : (T4 (List Sm) (List Sm) (List Sm) Sm)) (x_place : Int) : M (Int) :=
m_need_rule x_rule >>= fun r1 =>
m_need_place x_tree x_place >>= fun r7 =>
m_tied_places (x_tree.1.length : Int) x_tree.2 >>= fun r25 =>
m_lengths_of x_tree >>= fun r44 =>
opt (atI r25 x_place) >>= fun y57 =>
compS (fun (y67 : Int) (st84 : Unit) =>
m_row_down 60 x_tree x_rule r25 r44 (x_place, y67) >>= fun r97 =>
.ok (some r97, ())) y57 () >>= fun q127 =>
m_row_with x_tree x_rule x_place q127.1 >>= fun r133 =>
opt (atI x_tree.1 x_place) >>= fun y146 =>
m_told_by x_rule r133 y146 >>= fun r151 =>
.ok r151
/-! ### ranges, cells -/
theorem rangeL_mem {lo hi x : Int} : x ∈ rangeL lo hi ↔ lo ≤ x ∧ x < hi := rangeL_mem'
theorem rangeL_nodup (lo hi : Int) : (rangeL lo hi).Nodup := by
  unfold rangeL
  rw [List.nodup_iff_pairwise_ne, List.pairwise_map]
  exact List.nodup_range.imp fun h e => h (by omega)
theorem mulx_l {i j : Int} (h : -(2 ^ 64) < i) (h2 : i < 2 ^ 64) : CMulX i j := .inl (.inl ⟨h, h2⟩)
theorem mulx_r {i j : Int} (h : -(2 ^ 64) < j) (h2 : j < 2 ^ 64) : CMulX i j := .inl (.inr ⟨h, h2⟩)
theorem cell_ok (s : List Int) (k : Int) (k0 : 0 ≤ k) : ∃ c, m_law_cell_at s k = .ok c := by
  unfold m_law_cell_at
  by_cases h : k < (s.length : Int)
  · rw [if_pos h]
    obtain ⟨x, e, _⟩ := atI_some (xs := s) (j := k) k0 h
    rw [opt_b e]
    exact ⟨x, rfl⟩
  · rw [if_neg h]
    exact ⟨0, rfl⟩
theorem rep0 (m : Int) : repL m [(0 : Int)] = List.replicate m.toNat 0 := by
  unfold repL
  induction m.toNat with
  | zero => rfl
  | succ n ih => rw [List.replicate_succ, List.flatten_cons, ih]; rfl
theorem at_in {xs : List Int} {k : Int} (k0 : 0 ≤ k) (k1 : k < (xs.length : Int)) : ∃ x, L2.atI xs k = some x ∧ x ∈ xs ∧ xs[k.toNat]? = some x := by
  obtain ⟨x, h1, h2⟩ := atI_some (xs := xs) (j := k) k0 k1
  exact ⟨x, h1, List.mem_of_getElem? h2, h2⟩
theorem range_pre {m : Int} {pre post : List Int} {y : Int} (ea : rangeL 0 m = pre ++ y :: post) : (pre.length : Int) = y ∧ 0 ≤ y ∧ y < m := by
  have h1 : (rangeL 0 m)[pre.length]? = some y := by rw [ea, List.getElem?_append_right (Nat.le_refl _), Nat.sub_self]; rfl
  have hlt := (List.getElem?_eq_some_iff.mp h1).1
  rw [rangeL_length] at hlt
  unfold rangeL at h1
  rw [List.getElem?_map, List.getElem?_range (by omega)] at h1
  have : (0 : Int) + (pre.length : Int) = y := Option.some.inj h1
  omega

/-! ### runs, what follows told of -/
theorem loopN_runB {i s b : Type} {f : i → s → M s} {all : List i} {x : s} {k : s → M b} {Q : b → Prop} (P : List i → s → Prop) (h : P [] x) (hs : ∀ pre y post x, all = pre ++ y :: post → P pre x → ∃ x', f y x = .ok x' ∧ P (pre ++ [y]) x') (hk : ∀ x', P all x' → ∃ r, k x' = .ok r ∧ Q r) : ∃ r, (loopN f all x >>= k) = .ok r ∧ Q r := by
  obtain ⟨st, e, g⟩ := loopN_run P h hs
  obtain ⟨r, e2, q⟩ := hk st g
  exact ⟨r, by rw [bind_ok e]; exact e2, q⟩
theorem compS_runB {i s b c : Type} {f : i → s → M (Option c × s)} {all : List i} {x : s} {k : List c × s → M b} {Q : b → Prop} (hl : all.length < 16777216) (P : List i → List c → s → Prop) (h : P [] [] x)
    (hs : ∀ pre y post acc x, all = pre ++ y :: post → P pre acc x → ∃ o x', f y x = .ok (o, x') ∧ P (pre ++ [y]) (match o with
      | some z => acc ++ [z]
      | none => acc) x') (hk : ∀ acc x', P all acc x' → ∃ r, k (acc, x') = .ok r ∧ Q r) : ∃ r, (compS f all x >>= k) = .ok r ∧ Q r := by
  obtain ⟨acc, st, e, g⟩ := compS_run hl P h hs
  obtain ⟨r, e2, q⟩ := hk acc st g
  exact ⟨r, by rw [bind_ok e]; exact e2, q⟩
theorem compS_pureB {i b c : Type} {f : i → Unit → M (Option c × Unit)} {all : List i} {k : List c × Unit → M b} {R : M b} (g : i → Option c) (hl : all.length < 16777216) (hs : ∀ y ∈ all, f y () = .ok (g y, ())) (hk : k (all.filterMap g, ()) = R) : (compS f all () >>= k) = R := by
  rw [bind_ok (compS_pure g hl hs)]
  exact hk
theorem compS_mapB {i b c : Type} {f : i → Unit → M (Option c × Unit)} {all : List i} {k : List c × Unit → M b} {R : M b} (g : i → c) (hl : all.length < 16777216) (hs : ∀ y ∈ all, f y () = .ok (some (g y), ())) (hk : k (all.map g, ()) = R) : (compS f all () >>= k) = R := by
  rw [bind_ok (compS_pure (fun y => some (g y)) hl hs), List.filterMap_eq_map']
  exact hk
theorem loopM_allB {i r b : Type} {f : i → Unit → M (Fl Unit r)} {all : List i} {k : Fl Unit r → M b} {R : M b} (hs : ∀ y ∈ all, f y () = .ok (.nx ())) (hk : k (.nx ()) = R) : (loopM f all () >>= k) = R := by
  rw [bind_ok (loopM_all hs)]
  exact hk
theorem loopM_hit {i r : Type} {f : i → Unit → M (Fl Unit r)} {z : r} {y : i} {post : List i} : ∀ {pre : List i}, (∀ x ∈ pre, f x () = .ok (.nx ())) → f y () = .ok (.rt z) → loopM f (pre ++ y :: post) () = .ok (.rt z)
  | [], _, h => by
    show (f y () >>= _) = _
    rw [bind_ok h]
  | x :: pre, hp, h => by
    show (f x () >>= _) = _
    rw [bind_ok (hp x List.mem_cons_self)]
    exact loopM_hit (fun w hw => hp w (List.mem_cons_of_mem _ hw)) h
theorem ok_of {b : Type} {m : M b} {v : b} (h : ∃ r, m = .ok r ∧ r = v) : m = .ok v := by
  obtain ⟨r, e, q⟩ := h
  rw [e, q]
theorem ex_imp {b : Type} {m : M b} {Q Q2 : b → Prop} (h : ∃ r, m = .ok r ∧ Q2 r) (i : ∀ r, Q2 r → Q r) : ∃ r, m = .ok r ∧ Q r := by
  obtain ⟨r, e, q⟩ := h
  exact ⟨r, e, i r q⟩

theorem rangeL_len0 (n : Nat) : (rangeL 0 (n : Int)).length = n := by rw [rangeL_length]; omega

/-! ### what stays true while a loop goes on that comes to its end -/
theorem b_inv {a b : Type} {m : M a} {k : a → M b} {y : b} (h : (m >>= k) = .ok y) : ∃ x, m = .ok x ∧ k x = .ok y := by
  cases m with
  | ok x => exact ⟨x, rfl, h⟩
  | error e => exact nomatch h
theorem o_inv {a b : Type} {o : Option a} {k : a → M b} {y : b} (h : (opt o >>= k) = .ok y) : ∃ x, o = some x ∧ k x = .ok y := by
  obtain ⟨x, h1, h2⟩ := b_inv h
  cases o with
  | some z => exact ⟨z, rfl, by cases h1; exact h2⟩
  | none => exact nomatch h1
theorem c_inv {b : Type} {c : Prop} [Decidable c] {k : Unit → M b} {y : b} (h : (chk c >>= k) = .ok y) : c ∧ k () = .ok y := by
  by_cases z : c
  · rw [chk_b z] at h; exact ⟨z, h⟩
  · unfold chk at h
    rw [if_neg z] at h
    exact nomatch h
theorem a_inv {a b : Type} {xs : List a} {y : a} {k : List a → M b} {z : b} (h : (appL xs y >>= k) = .ok z) : k (xs ++ [y]) = .ok z := by
  unfold appL at h
  by_cases c : xs.length < 16777216
  · rw [if_pos c] at h; exact h
  · rw [if_neg c] at h; exact nomatch h
theorem loopN_keep {i s : Type} {f : i → s → M s} (P : s → Prop) : ∀ {xs : List i} {x x' : s}, (∀ y ∈ xs, ∀ x x', P x → f y x = .ok x' → P x') → P x → loopN f xs x = .ok x' → P x'
  | [], x, x', _, h, e => by cases e; exact h
  | y :: ys, x, x', hs, h, e => by
    have e : (f y x >>= fun x1 => loopN f ys x1) = .ok x' := e
    obtain ⟨x1, e1, e2⟩ := b_inv e
    exact loopN_keep P (fun z hz => hs z (List.mem_cons_of_mem _ hz)) (hs y List.mem_cons_self x x1 h e1) e2
theorem whL_keep {s r : Type} {b : s → M (Ws s r)} (P Q : s → Prop) (hg : ∀ x x', P x → b x = .ok (.go x') → P x') (hs : ∀ x x', P x → b x = .ok (.stop x') → Q x') : ∀ (n : Nat) (x x' : s), P x → whL b n x = .ok (.nx x') → Q x'
  | 0, _, _, _, e => nomatch e
  | n + 1, x, x', h, e => by
    have e : (b x >>= fun w => match w with
      | .go x' => whL b n x'
      | .stop x' => .ok (.nx x')
      | .rt z => .ok (.rt z)) = .ok (.nx x') := e
    obtain ⟨w, e1, e2⟩ := b_inv e
    cases w with
    | go x1 => exact whL_keep P Q hg hs n x1 x' (hg x x1 h e1) e2
    | stop x1 =>
      have e2 : Except.ok (Fl.nx x1 : Fl s r) = (Except.ok (.nx x') : M (Fl s r)) := e2
      injection e2 with e2
      injection e2 with e2
      rw [← e2]
      exact hs x x1 h e1
    | rt z => exact nomatch e2

theorem dPut_new {κ β : Type} [DecidableEq κ] {xs : List (κ × β)} {k : κ} {y : β} (h : ∀ p ∈ xs, p.1 ≠ k) : dPut xs k y = xs ++ [(k, y)] := by
  unfold dPut
  rw [if_neg]
  intro z
  obtain ⟨p, hp, e⟩ := List.any_eq_true.mp z
  exact h p hp (of_decide_eq_true e)

def lenOf (ts : List Tie) : List ((Int × Int) × Int) := ts.flatMap fun t => [((t.a, t.b), t.c), ((t.b, t.a), t.c)]
theorem lenOf_mem {ts : List Tie} {p : (Int × Int) × Int} : p ∈ lenOf ts ↔ ∃ t ∈ ts, p = ((t.a, t.b), t.c) ∨ p = ((t.b, t.a), t.c) := by
  unfold lenOf
  simp [List.mem_flatMap]
theorem lenOf_len : ∀ ts : List Tie, (lenOf ts).length = 2 * ts.length
  | [] => rfl
  | t :: ts => by
    show (lenOf ts).length + 1 + 1 = 2 * (ts.length + 1)
    rw [lenOf_len ts]
    omega
theorem grown_pairs {ps : List Int} {ts : List Tie} (g : Grown ps ts) : (ts.map fun x => (x.a, x.b)).Nodup := by
  induction g with
  | one p => exact List.nodup_nil
  | @more ps ts q p c g hq hp ih =>
    rw [List.map_append, List.nodup_append]
    refine ⟨ih, by simp, fun x hx y hy e => ?_⟩
    obtain ⟨t, ht, rfl⟩ := List.mem_map.mp hx
    rw [List.map_singleton, List.mem_singleton] at hy
    have hpq : p ≠ q := fun z => hp (z ▸ hq)
    obtain ⟨h1, h2, _⟩ := tieOf_lt (c := c) hpq
    obtain ⟨i1, i2, _⟩ := g.in t ht
    rw [hy] at e
    injection e with e1 e2
    rcases h2 with ⟨a, b⟩ | ⟨a, b⟩
    · rw [e1, a] at i1; exact hp i1
    · rw [e2, b] at i2; exact hp i2
theorem tree_pairs {t : Tr} (h : TreeOk t) : (t.2.map fun x => (x.a, x.b)).Nodup := by
  obtain ⟨o, ts, g, _, e⟩ := h.ex
  rw [e]
  exact ((sortT_perm ts).map _).nodup_iff.mpr (grown_pairs g)
theorem lengths_ok (t : Tr) (ht : TreeOk t) (hn : t.1.length ≤ 1000000) : m_lengths_of t = .ok (lenOf t.2) := by
  have hlen := ht.len
  have nd := tree_pairs ht
  obtain ⟨st, e1, e2⟩ := loopN_run (f := fun (y19 : (T3 Int Int Int)) (st30 : (List ((Int × Int) × Int))) =>
    putD st30 ((y19.a, y19.b).1, (y19.a, y19.b).2) y19.c >>= fun z64 =>
    putD z64 ((y19.b, y19.a).1, (y19.b, y19.a).2) y19.c >>= fun z82 =>
    (.ok z82 : M _)) (all := t.2) (x := []) (fun pre st => st = lenOf pre) rfl fun pre y post st ea es => by
      subst es
      have hm : ∀ x ∈ pre, x ∈ t.2 := fun x hx => by rw [ea]; exact List.mem_append_left _ hx
      have hy := ht.tie y (by rw [ea]; simp)
      have hlp : (lenOf pre).length = 2 * pre.length := lenOf_len pre
      have hpl : pre.length + 1 ≤ t.2.length := by
        rw [ea, List.length_append, List.length_cons]
        omega
      have n1 : ∀ x ∈ pre, ¬ (x.a = y.a ∧ x.b = y.b) := fun x hx ⟨z1, z2⟩ => by
        rw [ea, List.map_append, List.map_cons, List.nodup_append] at nd
        exact nd.2.2 (x.a, x.b) (List.mem_map.mpr ⟨x, hx, rfl⟩) (y.a, y.b) List.mem_cons_self (by rw [z1, z2])
      have k1 : ∀ p ∈ lenOf pre, p.1 ≠ (y.a, y.b) := fun p hp e => by
        obtain ⟨x, hx, h | h⟩ := lenOf_mem.mp hp
        · rw [h] at e; injection e with z1 z2; exact n1 x hx ⟨z1, z2⟩
        · rw [h] at e
          injection e with z1 z2
          have := ht.tie x (hm x hx)
          have z1 : x.b = y.a := z1
          have z2 : x.a = y.b := z2
          omega
      have k2 : ∀ p ∈ lenOf pre ++ [((y.a, y.b), y.c)], p.1 ≠ (y.b, y.a) := fun p hp e => by
        rcases List.mem_append.mp hp with hp | hp
        · obtain ⟨x, hx, h | h⟩ := lenOf_mem.mp hp
          · rw [h] at e
            injection e with z1 z2
            have := ht.tie x (hm x hx)
            have z1 : x.a = y.b := z1
            have z2 : x.b = y.a := z2
            omega
          · rw [h] at e; injection e with z1 z2; exact n1 x hx ⟨z2, z1⟩
        · rw [List.mem_singleton.mp hp] at e
          injection e with z1 z2
          have z1 : y.a = y.b := z1
          omega
      refine ⟨_, ?_, rfl⟩
      show (putD (lenOf pre) (y.a, y.b) y.c >>= fun z64 => putD z64 (y.b, y.a) y.c >>= fun z82 => _) = _
      rw [bind_ok (show putD (lenOf pre) (y.a, y.b) y.c = .ok (lenOf pre ++ [((y.a, y.b), y.c)]) by unfold putD; rw [if_pos (by omega), dPut_new k1])]
      rw [bind_ok (show putD (lenOf pre ++ [((y.a, y.b), y.c)]) (y.b, y.a) y.c = .ok ((lenOf pre ++ [((y.a, y.b), y.c)]) ++ [((y.b, y.a), y.c)]) by unfold putD; rw [if_pos (by rw [List.length_append, List.length_singleton]; omega), dPut_new k2])]
      unfold lenOf
      rw [List.flatMap_append, List.append_assoc]
      rfl
  unfold m_lengths_of
  rw [bind_ok e1, e2]
theorem keys_perm : ∀ ts : List Tie, ((lenOf ts).map (·.1)).Perm (ts.map (fun t => (t.a, t.b)) ++ ts.map (fun t => (t.b, t.a)))
  | [] => .nil
  | t :: ts => by
    show ((t.a, t.b) :: (t.b, t.a) :: (lenOf ts).map (·.1)).Perm ((t.a, t.b) :: (ts.map (fun t => (t.a, t.b)) ++ (t.b, t.a) :: ts.map (fun t => (t.b, t.a))))
    refine .cons _ (((keys_perm ts).cons _).trans List.perm_middle.symm)

/-! ### neighbours -/
def other (p : Int) (t : Tie) : Option Int := if t.a = p then some t.b else if t.b = p then some t.a else none
/-- the neighbours of a place, rising -/
def nearOf (ties : List Tie) (p : Int) : List Int := sortT (ties.filterMap (other p))
def nearAll (n : Nat) (ties : List Tie) : List (List Int) := (List.range n).map fun (i : Nat) => nearOf ties (i : Int)
theorem addAt_ok {fs : List (List Int)} {x y : Int} {l : List Int} (h0 : 0 ≤ x) (h : fs[x.toNat]? = some l) (hl : l.length < 16777216) : addAt fs x y = .ok (fs.set x.toNat (l ++ [y])) := by
  have h1 := (List.getElem?_eq_some_iff.mp h).1
  unfold addAt
  rw [ixN_nat h0 (by omega)]
  show (match fs[x.toNat]? with
    | some x_1 => appL x_1 y >>= fun y => .ok (fs.set x.toNat y)
    | none => bad) = _
  rw [h]
  show (appL l y >>= fun y => (.ok (fs.set x.toNat y) : M _)) = _
  rw [bind_ok (appL_ok hl)]
theorem tied_places_ok (n : Int) (ties : List Tie) (h0 : 0 ≤ n) (h1 : n ≤ 1000000) (hl : ties.length < 16777216) (hv : ∀ t ∈ ties, 0 ≤ t.a ∧ t.a < t.b ∧ t.b < n) : m_tied_places n ties = .ok (nearAll n.toNat ties) := by
  unfold m_tied_places
  rw [chk_b (show okR n from ⟨by omega, h1⟩)]
  obtain ⟨fs, e, h⟩ := loopN_run (f := fun (t : T3 Int Int Int) (fs : List (List Int)) => addAt fs t.a t.b >>= fun f1 => addAt f1 t.b t.a) (all := sortT ties) (x := List.replicate n.toNat [])
    (fun pre fs => fs = (List.range n.toNat).map fun (i : Nat) => pre.filterMap (other (i : Int))) (by
      refine List.ext_getElem? fun i => ?_
      rw [List.getElem?_replicate, List.getElem?_map]
      by_cases hi : i < n.toNat
      · rw [if_pos hi, List.getElem?_range hi]; rfl
      · rw [if_neg hi, List.getElem?_eq_none (by simpa using hi)]; rfl) fun pre t post fs ea hf => by
      subst hf
      have mt : t ∈ ties := sortT_mem.mp (by rw [ea]; simp)
      obtain ⟨a0, ab, bn⟩ := hv t mt
      have plen : pre.length < 16777216 := by
        have := congrArg List.length ea
        rw [sortT_len, List.length_append, List.length_cons] at this
        omega
      have g1 : ((List.range n.toNat).map fun (i : Nat) => pre.filterMap (other (i : Int)))[t.a.toNat]? = some (pre.filterMap (other t.a)) := by
        rw [List.getElem?_map, List.getElem?_range (by omega)]
        show some (pre.filterMap (other ((t.a.toNat : Nat) : Int))) = _
        rw [Int.toNat_of_nonneg a0]
      have l1 : (pre.filterMap (other t.a)).length < 16777216 := Nat.lt_of_le_of_lt (List.length_filterMap_le _ _) plen
      have g2 : (((List.range n.toNat).map fun (i : Nat) => pre.filterMap (other (i : Int))).set t.a.toNat (pre.filterMap (other t.a) ++ [t.b]))[t.b.toNat]? = some (pre.filterMap (other t.b)) := by
        rw [List.getElem?_set_ne (by omega), List.getElem?_map, List.getElem?_range (by omega)]
        show some (pre.filterMap (other ((t.b.toNat : Nat) : Int))) = _
        rw [Int.toNat_of_nonneg (by omega)]
      have l2 : (pre.filterMap (other t.b)).length < 16777216 := Nat.lt_of_le_of_lt (List.length_filterMap_le _ _) plen
      refine ⟨_, by rw [bind_ok (addAt_ok a0 g1 l1)]; exact addAt_ok (by omega) g2 l2, ?_⟩
      refine List.ext_getElem? fun i => ?_
      rw [List.getElem?_map]
      by_cases hi : i < n.toNat
      · rw [List.getElem?_range hi]
        show _ = some ((pre ++ [t]).filterMap (other (i : Int)))
        rw [List.filterMap_append]
        by_cases hb : t.b.toNat = i
        · subst hb
          rw [List.getElem?_set_self (by simpa using hi)]
          have e1 : other ((t.b.toNat : Nat) : Int) t = some t.a := by
            unfold other
            rw [if_neg (by omega), if_pos (by omega)]
          have e2 : ((t.b.toNat : Nat) : Int) = t.b := Int.toNat_of_nonneg (by omega)
          rw [List.filterMap_cons, e1, List.filterMap_nil, e2]
        · rw [List.getElem?_set_ne hb]
          by_cases ha : t.a.toNat = i
          · subst ha
            rw [List.getElem?_set_self (by simpa using hi)]
            have e1 : other ((t.a.toNat : Nat) : Int) t = some t.b := by
              unfold other
              rw [if_pos (by omega)]
            have e2 : ((t.a.toNat : Nat) : Int) = t.a := Int.toNat_of_nonneg a0
            rw [List.filterMap_cons, e1, List.filterMap_nil, e2]
          · rw [List.getElem?_set_ne ha, List.getElem?_map, List.getElem?_range hi]
            have e1 : other (i : Int) t = none := by
              unfold other
              rw [if_neg (by omega), if_neg (by omega)]
            rw [List.filterMap_cons, e1, List.filterMap_nil, List.append_nil]
            rfl
      · have z : (List.range n.toNat)[i]? = none := List.getElem?_eq_none (by simpa using hi)
        rw [z]
        show _ = none
        refine List.getElem?_eq_none ?_
        rw [List.length_set, List.length_set, List.length_map, List.length_range]
        omega
  rw [bind_ok e, h]
  refine congrArg Except.ok ?_
  unfold nearAll
  rw [List.map_map]
  refine List.map_congr_left fun i _ => ?_
  show sortT ((sortT ties).filterMap (other (i : Int))) = nearOf ties (i : Int)
  exact sortT_eq ((sortT_perm ties).filterMap _)
theorem nearAll_at {n : Nat} {ties : List Tie} {p : Int} (h0 : 0 ≤ p) (h : p < n) : L2.atI (nearAll n ties) p = some (nearOf ties p) := by
  refine atI_of h0 ?_
  unfold nearAll
  rw [List.getElem?_map, List.getElem?_range (by omega)]
  show some (nearOf ties ((p.toNat : Nat) : Int)) = _
  rw [Int.toNat_of_nonneg h0]

abbrev Rule := T4 (List Sm) (List Sm) (List Sm) Sm
theorem need_place_ok (t : Tr) (p : Int) (h0 : 0 ≤ p) (h : p < (t.1.length : Int)) : m_need_place t p = .ok () := by
  unfold m_need_place
  rw [if_pos h0, if_pos h]

theorem whL_run {s r : Type} {b : s → M (Ws s r)} (P : s → Prop) (μ : s → Nat) (Qf : s → Prop) (step : ∀ x, P x → (∃ x', b x = .ok (.go x') ∧ P x' ∧ μ x' < μ x) ∨ (∃ x', b x = .ok (.stop x') ∧ Qf x')) : ∀ (n : Nat) (x : s), P x → μ x < n → ∃ x', whL b n x = .ok (.nx x') ∧ Qf x'
  | 0, x, _, h => absurd h (Nat.not_lt_zero _)
  | n + 1, x, p, h => by
    rcases step x p with ⟨x', e, p', l⟩ | ⟨x', e, q⟩
    · obtain ⟨x2, e2, q2⟩ := whL_run P μ Qf step n x' p' (by omega)
      refine ⟨x2, ?_, q2⟩
      show (b x >>= _) = _
      rw [bind_ok e]
      exact e2
    · refine ⟨x', ?_, q⟩
      show (b x >>= _) = _
      rw [bind_ok e]
theorem nd_sub_len {a : Type} [DecidableEq a] : ∀ {l m : List a}, l.Nodup → (∀ x ∈ l, x ∈ m) → l.length ≤ m.length
  | [], _, _, _ => Nat.zero_le _
  | x :: l, m, nd, h => by
    have hx := h x List.mem_cons_self
    obtain ⟨n1, n2⟩ := List.nodup_cons.mp nd
    have := nd_sub_len (l := l) (m := m.erase x) n2 fun y hy => (List.mem_erase_of_ne fun e => n1 (by rw [← e]; exact hy)).mpr (h y (List.mem_cons_of_mem _ hy))
    rw [List.length_erase_of_mem hx] at this
    have hp := List.length_pos_of_mem hx
    rw [List.length_cons]
    omega
theorem nearOf_mem {ts : List Tie} {x y : Int} (h : ∀ t ∈ ts, t.a < t.b) : y ∈ nearOf ts x ↔ ∃ t ∈ ts, (t.a = x ∧ t.b = y) ∨ (t.b = x ∧ t.a = y) := by
  unfold nearOf
  rw [sortT_mem, List.mem_filterMap]
  constructor
  · rintro ⟨t, ht, e⟩
    unfold other at e
    by_cases ha : t.a = x
    · rw [if_pos ha] at e
      exact ⟨t, ht, .inl ⟨ha, Option.some.inj e⟩⟩
    · rw [if_neg ha] at e
      by_cases hb : t.b = x
      · rw [if_pos hb] at e
        exact ⟨t, ht, .inr ⟨hb, Option.some.inj e⟩⟩
      · rw [if_neg hb] at e; cases e
  · rintro ⟨t, ht, ⟨ha, hb⟩ | ⟨hb, ha⟩⟩
    · refine ⟨t, ht, ?_⟩
      unfold other
      rw [if_pos ha, hb]
    · refine ⟨t, ht, ?_⟩
      have := h t ht
      unfold other
      rw [if_neg (by omega), if_pos hb, ha]
/-- what holds of one place and goes over ties holds of all -/
theorem grown_all {ps : List Int} {ts : List Tie} (g : Grown ps ts) (S : Int → Prop) (hS : ∀ t ∈ ts, S t.a ↔ S t.b) : (∃ x ∈ ps, S x) → ∀ x ∈ ps, S x := by
  induction g with
  | one p =>
    rintro ⟨x, hx, h⟩ y hy
    rw [List.mem_singleton.mp hx] at h
    rw [List.mem_singleton.mp hy]
    exact h
  | @more ps ts q p c g hq hp ih =>
    have ih := ih fun t ht => hS t (List.mem_append_left _ ht)
    have hpq : p ≠ q := fun z => hp (z ▸ hq)
    have hl := hS (tieOf p q c) (by simp)
    obtain ⟨_, h2, _⟩ := tieOf_lt (c := c) hpq
    have hpq2 : S p ↔ S q := by
      rcases h2 with ⟨a, b⟩ | ⟨a, b⟩
      · rw [a, b] at hl; exact hl
      · rw [a, b] at hl; exact hl.symm
    rintro ⟨x, hx, h⟩
    have hall : ∀ y ∈ ps, S y := by
      rcases List.mem_append.mp hx with hx | hx
      · exact ih ⟨x, hx, h⟩
      · rw [List.mem_singleton.mp hx] at h
        exact ih ⟨q, hq, hpq2.mp h⟩
    intro y hy
    rcases List.mem_append.mp hy with hy | hy
    · exact hall y hy
    · rw [List.mem_singleton.mp hy]
      exact hpq2.mpr (hall q hq)
theorem tree_all {t : Tr} (ht : TreeOk t) (S : Int → Prop) (hS : ∀ x ∈ t.2, S x.a ↔ S x.b) (x : Int) (x0 : 0 ≤ x) (x1 : x < (t.1.length : Int)) (h : S x) : ∀ y, 0 ≤ y → y < (t.1.length : Int) → S y := by
  obtain ⟨ps, ts, g, p, e⟩ := ht.ex
  rw [e] at hS
  intro y y0 y1
  exact grown_all g S (fun t ht => hS t (sortT_mem.mpr ht)) ⟨x, p.mem_iff.mpr (rangeL_mem.mpr ⟨x0, x1⟩), h⟩ y (p.mem_iff.mpr (rangeL_mem.mpr ⟨y0, y1⟩))
theorem nearAll_len (n : Nat) (ts : List Tie) : (nearAll n ts).length = n := by unfold nearAll; simp

/-! ### which places lie in a branch: m a b x is 1 where x hangs at b seen from a -/
def nbr (ts : List Tie) (b : Int) : List Int := ts.filterMap (other b)
theorem other_tie {p q c b : Int} (h : p ≠ q) : other b (tieOf p q c) = if b = p then some q else if b = q then some p else none := by
  unfold other tieOf
  by_cases hl : p ≤ q
  · rw [if_pos hl]
    show (if p = b then some q else if q = b then some p else none) = _
    by_cases h1 : b = p
    · rw [if_pos h1.symm, if_pos h1]
    · rw [if_neg (fun z => h1 z.symm), if_neg h1]
      by_cases h2 : b = q
      · rw [if_pos h2.symm, if_pos h2]
      · rw [if_neg (fun z => h2 z.symm), if_neg h2]
  · rw [if_neg hl]
    show (if q = b then some p else if p = b then some q else none) = _
    by_cases h1 : b = p
    · rw [if_neg (by omega), if_pos h1.symm, if_pos h1]
    · rw [if_neg h1]
      by_cases h2 : b = q
      · rw [if_pos h2.symm, if_pos h2]
      · rw [if_neg (fun z => h2 z.symm), if_neg (fun z => h1 z.symm), if_neg h2]
theorem nbr_snoc (ts : List Tie) {p q c b : Int} (h : p ≠ q) : nbr (ts ++ [tieOf p q c]) b = nbr ts b ++ (if b = p then [q] else if b = q then [p] else []) := by
  unfold nbr
  rw [List.filterMap_append, List.filterMap_cons, other_tie h, List.filterMap_nil]
  by_cases h1 : b = p
  · rw [if_pos h1, if_pos h1]
  · rw [if_neg h1, if_neg h1]
    by_cases h2 : b = q
    · rw [if_pos h2, if_pos h2]
    · rw [if_neg h2, if_neg h2]
theorem nbr_in {ps : List Int} {ts : List Tie} (g : Grown ps ts) {a b : Int} (h : a ∈ nbr ts b) : a ∈ ps ∧ b ∈ ps ∧ a ≠ b := by
  unfold nbr at h
  obtain ⟨t, ht, e⟩ := List.mem_filterMap.mp h
  obtain ⟨h1, h2, h3⟩ := g.in t ht
  unfold other at e
  by_cases ha : t.a = b
  · rw [if_pos ha] at e
    have e := Option.some.inj e
    rw [← e, ← ha]
    exact ⟨h2, h1, by omega⟩
  · rw [if_neg ha] at e
    by_cases hb : t.b = b
    · rw [if_pos hb] at e
      have e := Option.some.inj e
      rw [← e, ← hb]
      exact ⟨h1, h2, by omega⟩
    · rw [if_neg hb] at e; cases e
def sumF (l : List Int) (f : Int → Nat) : Nat := (l.map f).sum
theorem sumF_app (l m : List Int) (f : Int → Nat) : sumF (l ++ m) f = sumF l f + sumF m f := by unfold sumF; rw [List.map_append, List.sum_append]
theorem sumF_congr {l : List Int} {f g : Int → Nat} (h : ∀ x ∈ l, f x = g x) : sumF l f = sumF l g := by unfold sumF; rw [List.map_congr_left h]
theorem sumF_one (x : Int) (f : Int → Nat) : sumF [x] f = f x := by unfold sumF; simp
theorem sumF_nil (f : Int → Nat) : sumF [] f = 0 := rfl
def ind (x y : Int) : Nat := if x = y then 1 else 0
structure Wt (ps : List Int) (ts : List Tie) (m : Int → Int → Int → Nat) : Prop where
  one : ∀ a b x, a ∈ nbr ts b → x ∈ ps → m a b x = ind x b + sumF ((nbr ts b).filter fun c => decide (c ≠ a)) (fun c => m b c x)
  all : ∀ q x, q ∈ ps → x ∈ ps → ind x q + sumF (nbr ts q) (fun c => m q c x) = 1
def stepM (m : Int → Int → Int → Nat) (p q : Int) (a b x : Int) : Nat :=
  if a = q ∧ b = p then (if x = p then 1 else 0) else if a = p ∧ b = q then (if x = p then 0 else 1) else if x = p then m a b q else m a b x
theorem stepM_old {m : Int → Int → Int → Nat} {p q a b x : Int} (h1 : ¬ (a = q ∧ b = p)) (h2 : ¬ (a = p ∧ b = q)) : stepM m p q a b x = m a b (if x = p then q else x) := by
  unfold stepM
  rw [if_neg h1, if_neg h2]
  split <;> rfl
theorem weights {ps : List Int} {ts : List Tie} (g : Grown ps ts) : ∃ m, Wt ps ts m := by
  induction g with
  | one p =>
    refine ⟨fun _ _ _ => 0, ⟨fun a b x h => (nomatch (show a ∈ ([] : List Int) from h)), fun q x hq hx => ?_⟩⟩
    rw [List.mem_singleton.mp hq, List.mem_singleton.mp hx]
    show ind p p + 0 = 1
    unfold ind
    rw [if_pos rfl]
  | @more ps ts q p c g hq hp ih =>
    obtain ⟨m, M⟩ := ih
    have hpq : p ≠ q := fun z => hp (z ▸ hq)
    have nin : ∀ {a b}, a ∈ nbr ts b → a ≠ p ∧ b ≠ p := fun {a b} h => by
      obtain ⟨h1, h2, _⟩ := nbr_in g h
      exact ⟨fun z => hp (z ▸ h1), fun z => hp (z ▸ h2)⟩
    have np : nbr ts p = [] := List.eq_nil_iff_forall_not_mem.mpr fun a h => (nin h).2 rfl
    -- where x stands: the new place stands where its neighbour stands
    have back : ∀ x, x ∈ ps ++ [p] → (if x = p then q else x) ∈ ps := fun x hx => by
      by_cases hxp : x = p
      · rw [if_pos hxp]; exact hq
      · rw [if_neg hxp]
        rcases List.mem_append.mp hx with z | z
        · exact z
        · exact (hxp (List.mem_singleton.mp z)).elim
    have oldS : ∀ (l : List Int) (b x : Int), b ≠ p → (∀ c ∈ l, c ≠ p) → sumF l (fun c => stepM m p q b c x) = sumF l (fun c => m b c (if x = p then q else x)) := fun l b x hb hl =>
      sumF_congr fun c hc => stepM_old (fun z => hl c hc z.2) (fun z => hb z.1)
    have indx : ∀ x b : Int, b ≠ p → b ≠ q → ind x b = ind (if x = p then q else x) b := fun x b hb hbq => by
      by_cases hxp : x = p
      · rw [if_pos hxp, hxp]
        unfold ind
        rw [if_neg (fun z => hb z.symm), if_neg (fun z => hbq z.symm)]
      · rw [if_neg hxp]
    have memf : ∀ (l : List Int) (a : Int), (∀ c ∈ l, c ≠ p) → ∀ c ∈ l.filter (fun c => decide (c ≠ a)), c ≠ p := fun l a hl c hc => hl c (List.mem_filter.mp hc).1
    have lp : ∀ b, ∀ c ∈ nbr ts b, c ≠ p := fun b c hc => (nin hc).1
    refine ⟨stepM m p q, ⟨fun a b x ha hx => ?_, fun q0 x hq0 hx => ?_⟩⟩
    · rw [nbr_snoc ts hpq] at ha ⊢
      have hb' := back x hx
      by_cases hbp : b = p
      · subst hbp
        rw [np, if_pos rfl] at ha ⊢
        have ha : a = q := List.mem_singleton.mp ha
        subst ha
        have : ([a].filter fun c => decide (c ≠ a)) = [] := by simp
        show stepM m b a a b x = ind x b + sumF (([] ++ [a]).filter fun c => decide (c ≠ a)) _
        rw [List.nil_append, this, sumF_nil]
        unfold stepM ind
        rw [if_pos ⟨rfl, rfl⟩]
        rfl
      · rw [if_neg hbp] at ha ⊢
        by_cases hbq : b = q
        · subst hbq
          rw [if_pos rfl] at ha ⊢
          rw [List.filter_append, sumF_app]
          by_cases hap : a = p
          · subst hap
            have f1 : ((nbr ts b).filter fun c => decide (c ≠ a)) = nbr ts b := List.filter_eq_self.mpr fun c hc => decide_eq_true (lp b c hc)
            have f2 : ([a].filter fun c => decide (c ≠ a)) = [] := by simp
            rw [f1, f2, sumF_nil, oldS _ _ _ hbp (lp b)]
            have al := M.all b _ hq hb'
            unfold stepM
            rw [if_neg (fun z => hbp z.2), if_pos ⟨rfl, rfl⟩]
            by_cases hxp : x = a
            · rw [if_pos hxp] at al ⊢
              rw [if_pos hxp]
              have i1 : ind b b = 1 := if_pos rfl
              have i2 : ind x b = 0 := if_neg (fun z => hbp (by rw [← z, hxp]))
              rw [i1] at al
              rw [i2]
              omega
            · rw [if_neg hxp] at al ⊢
              rw [if_neg hxp]
              omega
          · have ha' : a ∈ nbr ts b := by
              rcases List.mem_append.mp ha with z | z
              · exact z
              · exact (hap (List.mem_singleton.mp z)).elim
            have f2 : ([p].filter fun c => decide (c ≠ a)) = [p] := List.filter_eq_self.mpr fun c hc => by rw [List.mem_singleton.mp hc]; exact decide_eq_true (fun z => hap z.symm)
            rw [f2, sumF_one, oldS _ _ _ hbp (memf _ _ (lp b)), stepM_old (fun z => hbp z.2) (fun z => hap z.1)]
            have on := M.one a b _ ha' hb'
            have sp : stepM m p b b p x = if x = p then 1 else 0 := if_pos ⟨rfl, rfl⟩
            rw [sp, on]
            by_cases hxp : x = p
            · rw [if_pos hxp, if_pos hxp]
              have i1 : ind b b = 1 := if_pos rfl
              have i2 : ind x b = 0 := if_neg (fun z => hbp (by rw [← z, hxp]))
              rw [i1, i2]
              omega
            · rw [if_neg hxp, if_neg hxp]
              omega
        · rw [if_neg hbq, List.append_nil] at ha ⊢
          have hap := (nin ha).1
          rw [oldS _ _ _ hbp (memf _ _ (lp b)), stepM_old (fun z => hbp z.2) (fun z => hap z.1), indx x b hbp hbq]
          exact M.one a b _ ha hb'
    · rw [nbr_snoc ts hpq]
      have hb' := back x hx
      by_cases hbp : q0 = p
      · subst hbp
        rw [np, if_pos rfl, List.nil_append, sumF_one]
        have sp : stepM m q0 q q0 q x = if x = q0 then 0 else 1 := by
          unfold stepM
          rw [if_neg (fun z => hpq z.1), if_pos ⟨rfl, rfl⟩]
        rw [sp]
        unfold ind
        split <;> rfl
      · rw [if_neg hbp]
        have hq0' : q0 ∈ ps := by
          rcases List.mem_append.mp hq0 with z | z
          · exact z
          · exact (hbp (List.mem_singleton.mp z)).elim
        have al := M.all q0 _ hq0' hb'
        rw [sumF_app, oldS _ _ _ hbp (lp q0)]
        by_cases hbq : q0 = q
        · subst hbq
          rw [if_pos rfl, sumF_one]
          have sp : stepM m p q0 q0 p x = if x = p then 1 else 0 := if_pos ⟨rfl, rfl⟩
          rw [sp]
          by_cases hxp : x = p
          · rw [if_pos hxp] at al ⊢
            rw [if_pos hxp]
            have i1 : ind q0 q0 = 1 := if_pos rfl
            have i2 : ind x q0 = 0 := if_neg (fun z => hbp (by rw [← z, hxp]))
            rw [i1] at al
            rw [i2]
            omega
          · rw [if_neg hxp] at al ⊢
            rw [if_neg hxp]
            omega
        · rw [if_neg hbq, sumF_nil, indx x q0 hbp hbq]
          omega

theorem sumF_add (l : List Int) (f g : Int → Nat) : sumF l (fun x => f x + g x) = sumF l f + sumF l g := by
  induction l with
  | nil => rfl
  | cons x l ih =>
    show (f x + g x) + sumF l _ = (f x + sumF l f) + (g x + sumF l g)
    rw [ih]
    omega
theorem sumF_zero (l : List Int) : sumF l (fun _ => 0) = 0 := by
  induction l with
  | nil => rfl
  | cons x l ih => show 0 + sumF l _ = 0; rw [ih]
theorem sumF_swap (l k : List Int) (f : Int → Int → Nat) : sumF l (fun x => sumF k (fun c => f c x)) = sumF k (fun c => sumF l (fun x => f c x)) := by
  induction k with
  | nil => exact sumF_zero l
  | cons c k ih =>
    show sumF l (fun x => f c x + sumF k (fun c => f c x)) = sumF l (fun x => f c x) + sumF k (fun c => sumF l (fun x => f c x))
    rw [sumF_add, ih]
theorem sumF_ind {l : List Int} (nd : l.Nodup) {b : Int} (h : b ∈ l) : sumF l (fun x => ind x b) = 1 := by
  induction l with
  | nil => cases h
  | cons x l ih =>
    obtain ⟨n1, n2⟩ := List.nodup_cons.mp nd
    show ind x b + sumF l (fun x => ind x b) = 1
    by_cases e : x = b
    · have : sumF l (fun x => ind x b) = sumF l (fun _ => 0) := sumF_congr fun y hy => if_neg (fun z => n1 (by rw [e, ← z]; exact hy))
      rw [this, sumF_zero]
      unfold ind
      rw [if_pos e]
    · have hb : b ∈ l := by
        rcases List.mem_cons.mp h with z | z
        · exact (e z.symm).elim
        · exact z
      rw [ih n2 hb]
      unfold ind
      rw [if_neg e]
theorem sumF_le {l : List Int} {f : Int → Nat} (h : ∀ x ∈ l, f x ≤ 1) : sumF l f ≤ l.length := by
  induction l with
  | nil => exact Nat.le_refl _
  | cons x l ih =>
    show f x + sumF l f ≤ l.length + 1
    have := h x List.mem_cons_self
    have := ih fun y hy => h y (List.mem_cons_of_mem _ hy)
    omega
theorem sumF_mem {l : List Int} {f : Int → Nat} {x : Int} (h : x ∈ l) : f x ≤ sumF l f := by
  induction l with
  | nil => cases h
  | cons y l ih =>
    show f x ≤ f y + sumF l f
    rcases List.mem_cons.mp h with z | z
    · rw [z]; omega
    · have := ih z
      omega
theorem sumF_perm {l k : List Int} (h : l.Perm k) (f : Int → Nat) : sumF l f = sumF k f := by
  unfold sumF
  exact (h.map f).sum_nat
theorem nbr_sym {ts : List Tie} {a b : Int} (hv : ∀ t ∈ ts, t.a < t.b) (h : a ∈ nbr ts b) : b ∈ nbr ts a := by
  unfold nbr at h ⊢
  obtain ⟨t, ht, e⟩ := List.mem_filterMap.mp h
  refine List.mem_filterMap.mpr ⟨t, ht, ?_⟩
  have := hv t ht
  unfold other at e ⊢
  by_cases ha : t.a = b
  · rw [if_pos ha] at e
    have e := Option.some.inj e
    rw [if_neg (by omega), if_pos e, ha]
  · rw [if_neg ha] at e
    by_cases hb : t.b = b
    · rw [if_pos hb] at e
      have e := Option.some.inj e
      rw [if_pos e, hb]
    · rw [if_neg hb] at e; cases e
/-- how many places hang at b seen from a -/
theorem weight_tree {t : Tr} (ht : TreeOk t) : ∃ w : Int → Int → Nat, ∀ a b, a ∈ nearOf t.2 b → w a b = 1 + sumF ((nearOf t.2 b).filter fun c => decide (c ≠ a)) (w b) ∧ w a b ≤ t.1.length := by
  obtain ⟨ps, ts, g, hp, e⟩ := ht.ex
  obtain ⟨m, M⟩ := weights g
  have nd := g.nd
  have hpl := hp.length_eq
  rw [rangeL_length] at hpl
  have hn : ps.length = t.1.length := by omega
  have hv : ∀ x ∈ ts, x.a < x.b := fun x hx => (g.in x hx).2.2
  have perm : ∀ b, (nearOf t.2 b).Perm (nbr ts b) := fun b => by
    unfold nearOf nbr
    rw [e]
    exact (sortT_perm _).trans ((sortT_perm ts).filterMap _)
  refine ⟨fun a b => sumF ps (fun x => m a b x), fun a b ha => ?_⟩
  have ha' : a ∈ nbr ts b := (perm b).mem_iff.mp ha
  obtain ⟨h1, h2, h3⟩ := nbr_in g ha'
  constructor
  · have e1 : sumF ps (fun x => m a b x) = sumF ps (fun x => ind x b + sumF ((nbr ts b).filter fun c => decide (c ≠ a)) (fun c => m b c x)) := sumF_congr fun x hx => M.one a b x ha' hx
    show sumF ps (fun x => m a b x) = _
    rw [e1, sumF_add, sumF_ind nd h2, sumF_swap]
    rw [sumF_perm ((perm b).filter _)]
  · rw [← hn]
    refine sumF_le fun x hx => ?_
    have := M.all a x h1 hx
    have hb := nbr_sym hv ha'
    have := sumF_mem (f := fun c => m a c x) hb
    omega

/-! ### ways -/
def Step (t : Tr) (x y c : Int) : Prop := ∃ z ∈ t.2, ((z.a = x ∧ z.b = y) ∨ (z.a = y ∧ z.b = x)) ∧ z.c = c
theorem whL_runN {s r : Type} {b : s → M (Ws s r)} (P : Nat → s → Prop) (Qf : s → Prop) (step : ∀ m x, P m x → (∃ x' m', m' < m ∧ b x = .ok (.go x') ∧ P m' x') ∨ (∃ x', b x = .ok (.stop x') ∧ Qf x')) : ∀ (n m : Nat) (x : s), P m x → m < n → ∃ x', whL b n x = .ok (.nx x') ∧ Qf x'
  | 0, m, x, _, h => absurd h (Nat.not_lt_zero _)
  | n + 1, m, x, p, h => by
    rcases step m x p with ⟨x', m', l, e, p'⟩ | ⟨x', e, q⟩
    · obtain ⟨x2, e2, q2⟩ := whL_runN P Qf step n m' x' p' (by omega)
      refine ⟨x2, ?_, q2⟩
      show (b x >>= _) = _
      rw [bind_ok e]
      exact e2
    · refine ⟨x', ?_, q⟩
      show (b x >>= _) = _
      rw [bind_ok e]
theorem dGet_mem {κ β : Type} [DecidableEq κ] [Py β] : ∀ {xs : List (κ × β)} {k : κ} {v : β}, (xs.map (·.1)).Nodup → (k, v) ∈ xs → dGet xs k = some v
  | [], _, _, _, h => by cases h
  | p :: xs, k, v, nd, h => by
    rw [List.map_cons, List.nodup_cons] at nd
    rcases List.mem_cons.mp h with e | h
    · rw [← e]; exact dGet_pos rfl
    · rw [dGet_neg (fun e => nd.1 (List.mem_map.mpr ⟨(k, v), h, e.symm⟩))]
      exact dGet_mem nd.2 h
theorem dHas_iff {κ β : Type} [DecidableEq κ] [Py β] : ∀ {xs : List (κ × β)} {k : κ}, dHas xs k = true ↔ k ∈ xs.map (·.1)
  | [], k => by simp [dHas, dGet]
  | p :: xs, k => by
    rw [List.map_cons, List.mem_cons]
    unfold dHas
    by_cases e : p.1 = k
    · rw [dGet_pos e]; simp [e]
    · rw [dGet_neg e]
      have := dHas_iff (xs := xs) (k := k)
      unfold dHas at this
      rw [this]
      constructor
      · exact .inr
      · rintro (z | z)
        · exact (e z.symm).elim
        · exact z
theorem lenOf_nd {t : Tr} (ht : TreeOk t) : ((lenOf t.2).map (·.1)).Nodup := by
  refine (keys_perm t.2).nodup_iff.mpr (List.nodup_append.mpr ⟨tree_pairs ht, ?_, ?_⟩)
  · have h : (t.2.map fun x => (x.b, x.a)) = (t.2.map fun x => (x.a, x.b)).map fun p => (p.2, p.1) := by rw [List.map_map]; rfl
    rw [h]
    refine List.Pairwise.map _ ?_ (tree_pairs ht)
    intro a b hab e
    injection e with e1 e2
    exact hab (Prod.ext e2 e1)
  · rintro p hp q hq e
    subst e
    obtain ⟨x, hx, e1⟩ := List.mem_map.mp hp
    obtain ⟨y, hy, e2⟩ := List.mem_map.mp hq
    have h1 := ht.tie x hx
    have h2 := ht.tie y hy
    rw [← e2] at e1
    injection e1 with a1 a2
    omega
theorem step_len {t : Tr} (ht : TreeOk t) {x y c : Int} (h : Step t x y c) : dGet (lenOf t.2) (x, y) = some c := by
  obtain ⟨z, hz, ⟨a, b⟩ | ⟨a, b⟩, e⟩ := h
  · exact dGet_mem (lenOf_nd ht) (lenOf_mem.mpr ⟨z, hz, .inl (by rw [a, b, e])⟩)
  · exact dGet_mem (lenOf_nd ht) (lenOf_mem.mpr ⟨z, hz, .inr (by rw [a, b, e])⟩)
theorem step_rg {t : Tr} (ht : TreeOk t) {x y c : Int} (h : Step t x y c) : (0 ≤ x ∧ x < (t.1.length : Int)) ∧ (0 ≤ y ∧ y < (t.1.length : Int)) ∧ x ≠ y := by
  obtain ⟨z, hz, h, e⟩ := h
  have := ht.tie z hz
  omega
theorem near_step {t : Tr} (ht : TreeOk t) {x y : Int} : y ∈ nearOf t.2 x ↔ ∃ c, Step t x y c := by
  rw [nearOf_mem fun z hz => (ht.tie z hz).2.1]
  constructor
  · rintro ⟨z, hz, h⟩
    exact ⟨z.c, z, hz, by omega, rfl⟩
  · rintro ⟨c, z, hz, h, e⟩
    exact ⟨z, hz, by omega⟩

/-! ### ways: the one way between two places -/
inductive Way (t : Tr) : Int → List Int → Int → Int → Prop
  | one (x : Int) : Way t x [] x 0
  | cons {x y z l d : Int} {ps : List Int} : Step t x y l → Way t y ps z d → Way t x (y :: ps) z (l + d)
theorem sumF_two {l : List Int} {f : Int → Nat} {x y : Int} (hx : x ∈ l) (hy : y ∈ l) (h : x ≠ y) : f x + f y ≤ sumF l f := by
  induction l with
  | nil => cases hx
  | cons z l ih =>
    have e : sumF (z :: l) f = f z + sumF l f := rfl
    rw [e]
    rcases List.mem_cons.mp hx with hx | hx <;> rcases List.mem_cons.mp hy with hy | hy
    · exact (h (hx.trans hy.symm)).elim
    · rw [hx]
      have := sumF_mem (f := f) hy
      omega
    · rw [hy]
      have := sumF_mem (f := f) hx
      omega
    · have := ih hx hy
      omega
theorem stp_sym {t : Tr} {a b l : Int} (h : Step t a b l) : Step t b a l := by
  obtain ⟨z, hz, h, e⟩ := h
  exact ⟨z, hz, by omega, e⟩
structure Ld (t : Tr) (m : Int → Int → Int → Nat) : Prop where
  le : ∀ a b c x, a ∈ nearOf t.2 b → c ∈ nearOf t.2 b → c ≠ a → 0 ≤ x → x < (t.1.length : Int) → m b c x ≤ m a b x
  at_ : ∀ a b, a ∈ nearOf t.2 b → 1 ≤ m a b b
  one : ∀ q x c c', 0 ≤ x → x < (t.1.length : Int) → c ∈ nearOf t.2 q → c' ∈ nearOf t.2 q → 1 ≤ m q c x → 1 ≤ m q c' x → c = c'
theorem leads {t : Tr} (ht : TreeOk t) : ∃ m, Ld t m := by
  obtain ⟨ps, ts, g, hp, e⟩ := ht.ex
  obtain ⟨m, M⟩ := weights g
  have perm : ∀ b, (nearOf t.2 b).Perm (nbr ts b) := fun b => by
    unfold nearOf nbr
    rw [e]
    exact (sortT_perm _).trans ((sortT_perm ts).filterMap _)
  have inp : ∀ x : Int, 0 ≤ x → x < (t.1.length : Int) → x ∈ ps := fun x h0 h1 => hp.mem_iff.mpr (rangeL_mem.mpr ⟨h0, h1⟩)
  refine ⟨m, fun a b c x ha hc hca x0 x1 => ?_, fun a b ha => ?_, fun q x c c' x0 x1 hc hc' h1 h2 => ?_⟩
  · have ha' := (perm b).mem_iff.mp ha
    have hc' := (perm b).mem_iff.mp hc
    rw [M.one a b x ha' (inp x x0 x1)]
    have := sumF_mem (l := (nbr ts b).filter fun c => decide (c ≠ a)) (f := fun c => m b c x) (List.mem_filter.mpr ⟨hc', decide_eq_true hca⟩)
    have h2 : m b c x ≤ _ := this
    omega
  · have ha' := (perm b).mem_iff.mp ha
    rw [M.one a b b ha' (nbr_in g ha').2.1]
    unfold ind
    rw [if_pos rfl]
    omega
  · refine Classical.byContradiction fun hne => ?_
    have k1 := (perm q).mem_iff.mp hc
    have k2 := (perm q).mem_iff.mp hc'
    have h3 := M.all q x (nbr_in g k1).2.1 (inp x x0 x1)
    have h4 := sumF_two (f := fun c => m q c x) k1 k2 hne
    have h4 : m q c x + m q c' x ≤ _ := h4
    omega
section
variable {t : Tr} (ht : TreeOk t)
include ht
theorem way_rg {x z d : Int} {ps : List Int} (h : Way t x ps z d) (x0 : 0 ≤ x) (x1 : x < (t.1.length : Int)) : 0 ≤ z ∧ z < (t.1.length : Int) := by
  induction h with
  | one x => exact ⟨x0, x1⟩
  | cons hs _ ih =>
    have := step_rg ht hs
    exact ih this.2.1.1 this.2.1.2
theorem way_lead {m : Int → Int → Int → Nat} (L : Ld t m) {y z d : Int} {ps : List Int} (h : Way t y ps z d) : ∀ {x l : Int}, Step t x y l → (x :: y :: ps).Nodup → 1 ≤ m x y z := by
  induction h with
  | one y =>
    intro x l hs _
    exact L.at_ x y ((near_step ht).mpr ⟨l, stp_sym hs⟩)
  | @cons y y2 z l2 d ps hs2 hw ih =>
    intro x l hs nd
    have hn := List.nodup_cons.mp nd
    have h1 := ih hs2 hn.2
    have rg := step_rg ht hs2
    have hz := way_rg ht hw rg.2.1.1 rg.2.1.2
    have h2 := L.le x y y2 z ((near_step ht).mpr ⟨l, stp_sym hs⟩) ((near_step ht).mpr ⟨l2, hs2⟩) (fun e => hn.1 (by rw [← e]; simp)) hz.1 hz.2
    omega
omit ht in
theorem way_mem {x z d : Int} {ps : List Int} (h : Way t x ps z d) : z ∈ x :: ps := by
  induction h with
  | one x => simp
  | cons _ _ ih => exact List.mem_cons_of_mem _ ih
theorem way_uniq {x z d : Int} {ps : List Int} (h : Way t x ps z d) : ∀ {qs : List Int} {e : Int}, Way t x qs z e → (x :: ps).Nodup → (x :: qs).Nodup → ps = qs ∧ d = e := by
  obtain ⟨m, L⟩ := leads ht
  induction h with
  | one x =>
    intro qs e hq _ nq
    cases hq with
    | one => exact ⟨rfl, rfl⟩
    | cons hs hw => exact absurd (way_mem hw) (List.nodup_cons.mp nq).1
  | @cons x y z l d ps hs hw ih =>
    intro qs e hq np nq
    cases hq with
    | one => exact absurd (way_mem hw) (List.nodup_cons.mp np).1
    | @cons _ y' _ l' d' qs hs' hw' =>
      have rg := step_rg ht hs
      have hz := way_rg ht hw rg.2.1.1 rg.2.1.2
      have e1 := L.one x z y y' hz.1 hz.2 ((near_step ht).mpr ⟨l, hs⟩) ((near_step ht).mpr ⟨l', hs'⟩) (way_lead ht L hw hs np) (way_lead ht L hw' hs' nq)
      subst e1
      have el : l = l' := Option.some.inj ((step_len ht hs).symm.trans (step_len ht hs'))
      subst el
      obtain ⟨i1, i2⟩ := ih hw' (List.nodup_cons.mp np).2 (List.nodup_cons.mp nq).2
      exact ⟨by rw [i1], by rw [i2]⟩
omit ht
theorem way_snoc {x z d y l : Int} {ps : List Int} (h : Way t x ps z d) (hs : Step t z y l) : Way t x (ps ++ [y]) y (d + l) := by
  induction h with
  | one x =>
    have := Way.cons hs (Way.one y)
    rw [Int.add_zero] at this
    rw [Int.zero_add]
    exact this
  | cons h1 _ ih =>
    rw [Int.add_assoc]
    exact Way.cons h1 (ih hs)
theorem way_pre {x z d b : Int} {ps : List Int} (h : Way t x ps z d) : b ∈ x :: ps → ∃ qs e, Way t x qs b e ∧ ∃ rs, ps = qs ++ rs := by
  induction h with
  | one x =>
    intro hb
    have hb := List.mem_singleton.mp hb
    subst hb
    exact ⟨[], 0, Way.one _, [], rfl⟩
  | @cons x y z l d ps hs _ ih =>
    intro hb
    by_cases e : b = x
    · subst e
      exact ⟨[], 0, Way.one _, y :: ps, rfl⟩
    · obtain ⟨qs, e2, h1, rs, h2⟩ := ih (by
        rcases List.mem_cons.mp hb with h | h
        · exact (e h).elim
        · exact h)
      exact ⟨y :: qs, l + e2, Way.cons hs h1, rs, by rw [h2]; rfl⟩
theorem way_app {x y z d e : Int} {ps qs : List Int} (h : Way t x ps y d) (h2 : Way t y qs z e) : Way t x (ps ++ qs) z (d + e) := by
  induction h with
  | one x => rw [Int.zero_add]; exact h2
  | cons hs _ ih => rw [Int.add_assoc]; exact Way.cons hs (ih h2)
theorem way_rev {x z d : Int} {ps : List Int} (h : Way t x ps z d) : ∃ qs, Way t z qs x d ∧ z :: qs = (x :: ps).reverse := by
  induction h with
  | one x => exact ⟨[], Way.one x, rfl⟩
  | @cons x y z l d ps hs _ ih =>
    obtain ⟨qs, h1, h2⟩ := ih
    refine ⟨qs ++ [x], ?_, ?_⟩
    · rw [Int.add_comm]
      exact way_snoc h1 (stp_sym hs)
    · rw [List.reverse_cons, ← h2]
      rfl
/-- how far it is -/
def Dist (t : Tr) (x y d : Int) : Prop := ∃ ps, Way t x ps y d ∧ (x :: ps).Nodup
theorem dist_uniq (ht : TreeOk t) {x y d e : Int} (h : Dist t x y d) (h2 : Dist t x y e) : d = e := by
  obtain ⟨ps, h, n⟩ := h
  obtain ⟨qs, h2, n2⟩ := h2
  exact (way_uniq ht h h2 n n2).2
theorem dist_self (x : Int) : Dist t x x 0 := ⟨[], Way.one x, by simp⟩
theorem dist_sym {x y d : Int} (h : Dist t x y d) : Dist t y x d := by
  obtain ⟨ps, h, n⟩ := h
  obtain ⟨qs, h1, h2⟩ := way_rev h
  exact ⟨qs, h1, by rw [h2]; exact (List.reverse_perm _).nodup_iff.mpr n⟩
theorem dist_all (ht : TreeOk t) {x : Int} (x0 : 0 ≤ x) (x1 : x < (t.1.length : Int)) : ∀ y, 0 ≤ y → y < (t.1.length : Int) → ∃ d, Dist t x y d := by
  have go : ∀ {a b l : Int}, Step t a b l → (∃ d, Dist t x a d) → ∃ d, Dist t x b d := fun {a b l} hs ⟨d, ps, h, n⟩ => by
    by_cases hb : b ∈ x :: ps
    · obtain ⟨qs, e, h1, rs, h2⟩ := way_pre h hb
      refine ⟨e, qs, h1, ?_⟩
      rw [h2] at n
      exact n.sublist (List.Sublist.cons_cons _ (List.sublist_append_left qs rs))
    · refine ⟨d + l, ps ++ [b], way_snoc h hs, ?_⟩
      rw [← List.cons_append]
      exact List.nodup_append.mpr ⟨n, by simp, fun u hu v hv e => hb (by rw [List.mem_singleton.mp hv] at e; rw [← e]; exact hu)⟩
  exact tree_all ht (fun y => ∃ d, Dist t x y d) (fun z hz => ⟨go ⟨z, hz, .inl ⟨rfl, rfl⟩, rfl⟩, go ⟨z, hz, .inr ⟨rfl, rfl⟩, rfl⟩⟩) x x0 x1 ⟨0, dist_self x⟩
theorem dist_fun (ht : TreeOk t) : ∃ D : Int → Int → Int, ∀ x y, 0 ≤ x → x < (t.1.length : Int) → 0 ≤ y → y < (t.1.length : Int) → Dist t x y (D x y) := by
  have h : ∀ p : Int × Int, ∃ d, 0 ≤ p.1 → p.1 < (t.1.length : Int) → 0 ≤ p.2 → p.2 < (t.1.length : Int) → Dist t p.1 p.2 d := fun p => by
    by_cases c : (0 ≤ p.1 ∧ p.1 < (t.1.length : Int)) ∧ 0 ≤ p.2 ∧ p.2 < (t.1.length : Int)
    · obtain ⟨d, hd⟩ := dist_all ht c.1.1 c.1.2 p.2 c.2.1 c.2.2
      exact ⟨d, fun _ _ _ _ => hd⟩
    · exact ⟨0, fun h1 h2 h3 h4 => (c ⟨⟨h1, h2⟩, h3, h4⟩).elim⟩
  obtain ⟨D, hD⟩ := Classical.skolem.mp h
  exact ⟨fun x y => D (x, y), fun x y h1 h2 h3 h4 => hD (x, y) h1 h2 h3 h4⟩
/-- .. by places of a list alone -/
def DistIn (t : Tr) (F : List Int) (x y d : Int) : Prop := ∃ ps, Way t x ps y d ∧ (x :: ps).Nodup ∧ ∀ p ∈ x :: ps, p ∈ F
theorem DistIn.dist {F : List Int} {x y d : Int} (h : DistIn t F x y d) : Dist t x y d := by
  obtain ⟨ps, h1, h2, _⟩ := h
  exact ⟨ps, h1, h2⟩
theorem DistIn.mono {F G : List Int} {x y d : Int} (h : DistIn t F x y d) (s : ∀ p ∈ F, p ∈ G) : DistIn t G x y d := by
  obtain ⟨ps, h1, h2, h3⟩ := h
  exact ⟨ps, h1, h2, fun p hp => s p (h3 p hp)⟩
theorem DistIn.next {F : List Int} {x y z l d : Int} (h : DistIn t F x y d) (hs : Step t y z l) (hz : z ∉ F) : DistIn t (F ++ [z]) x z (d + l) := by
  obtain ⟨ps, h1, h2, h3⟩ := h
  refine ⟨ps ++ [z], way_snoc h1 hs, ?_, fun p hp => ?_⟩
  · rw [← List.cons_append]
    exact List.nodup_append.mpr ⟨h2, by simp, fun u hu v hv e => hz (by rw [List.mem_singleton.mp hv] at e; rw [← e]; exact h3 u hu)⟩
  · rw [← List.cons_append] at hp
    rcases List.mem_append.mp hp with hp | hp
    · exact List.mem_append_left _ (h3 p hp)
    · exact List.mem_append_right _ hp
end
section
variable {t : Tr}
theorem way_split {x z d b : Int} {ps : List Int} (h : Way t x ps z d) : b ∈ x :: ps → ∃ qs rs e f, Way t x qs b e ∧ Way t b rs z f ∧ ps = qs ++ rs ∧ d = e + f := by
  induction h with
  | one x =>
    intro hb
    have hb := List.mem_singleton.mp hb
    subst hb
    exact ⟨[], [], 0, 0, Way.one _, Way.one _, rfl, rfl⟩
  | @cons x y z l d ps hs hw ih =>
    intro hb
    by_cases e : b = x
    · subst e
      exact ⟨[], y :: ps, 0, l + d, Way.one _, Way.cons hs hw, rfl, (Int.zero_add _).symm⟩
    · obtain ⟨qs, rs, e2, f, h1, h2, h3, h4⟩ := ih (by
        rcases List.mem_cons.mp hb with h | h
        · exact (e h).elim
        · exact h)
      exact ⟨y :: qs, rs, l + e2, f, Way.cons hs h1, h2, by rw [h3]; rfl, by rw [h4, Int.add_assoc]⟩
/-- a way without going round -/
theorem way_short {x z d : Int} {ps : List Int} (h : Way t x ps z d) : ∃ qs e, Way t x qs z e ∧ (x :: qs).Nodup ∧ ∀ p ∈ x :: qs, p ∈ x :: ps := by
  induction h with
  | one x => exact ⟨[], 0, Way.one x, by simp, fun p hp => hp⟩
  | @cons x y z l d ps hs _ ih =>
    obtain ⟨qs, e, h1, h2, h3⟩ := ih
    by_cases hx : x ∈ y :: qs
    · obtain ⟨us, rs, e1, f, g1, g2, g3, g4⟩ := way_split h1 hx
      refine ⟨rs, f, g2, ?_, fun p hp => ?_⟩
      · rw [g3, ← List.cons_append] at h2
        have n := List.nodup_append.mp h2
        exact List.nodup_cons.mpr ⟨fun hr => n.2.2 x (way_mem g1) x hr rfl, n.2.1⟩
      · rcases List.mem_cons.mp hp with e | hp
        · rw [e]; exact List.mem_cons_self
        · refine List.mem_cons_of_mem _ (h3 p ?_)
          rw [g3]
          exact List.mem_cons_of_mem _ (List.mem_append_right _ hp)
    · exact ⟨y :: qs, l + e, Way.cons hs h1, List.nodup_cons.mpr ⟨hx, h2⟩, fun p hp => by
        rcases List.mem_cons.mp hp with e | hp
        · rw [e]; exact List.mem_cons_self
        · exact List.mem_cons_of_mem _ (h3 p hp)⟩
end

/-! ### going over a tree from a place -/
structure Fs (t : Tr) (p : Int) (ks : List Int) (v : Int → Int) : Prop where
  nd : ks.Nodup
  rg : ∀ x ∈ ks, 0 ≤ x ∧ x < (t.1.length : Int)
  st : p ∈ ks
  ds : ∀ x ∈ ks, DistIn t ks p x (v x)
def updV (v : Int → Int) (k d : Int) : Int → Int := fun x => if x = k then d else v x
section
variable {t : Tr} {p : Int} {ks : List Int} {v : Int → Int}
theorem Fs.one (p0 : 0 ≤ p) (p1 : p < (t.1.length : Int)) {v : Int → Int} (h : v p = 0) : Fs t p [p] v where
  nd := by simp
  rg := fun x hx => by rw [List.mem_singleton.mp hx]; exact ⟨p0, p1⟩
  st := List.mem_singleton.mpr rfl
  ds := fun x hx => by
    rw [List.mem_singleton.mp hx, h]
    exact ⟨[], Way.one p, by simp, fun q hq => hq⟩
theorem Fs.len (h : Fs t p ks v) : ks.length ≤ t.1.length := by
  have := nd_sub_len (m := rangeL 0 (t.1.length : Int)) h.nd fun x hx => rangeL_mem.mpr (h.rg x hx)
  rw [rangeL_length] at this
  omega
theorem Fs.add (ht : TreeOk t) (h : Fs t p ks v) {y z l : Int} (hs : Step t y z l) (hy : y ∈ ks) (hz : z ∉ ks) : Fs t p (ks ++ [z]) (updV v z (v y + l)) where
  nd := List.nodup_append.mpr ⟨h.nd, by simp, fun a ha b hb e => hz (by rw [List.mem_singleton.mp hb] at e; rw [← e]; exact ha)⟩
  rg := fun x hx => by
    rcases List.mem_append.mp hx with hx | hx
    · exact h.rg x hx
    · rw [List.mem_singleton.mp hx]; exact (step_rg ht hs).2.1
  st := List.mem_append_left _ h.st
  ds := fun x hx => by
    unfold updV
    by_cases e : x = z
    · rw [if_pos e, e]
      exact (h.ds y hy).next hs hz
    · rw [if_neg e]
      rcases List.mem_append.mp hx with hx | hx
      · exact (h.ds x hx).mono fun q hq => List.mem_append_left _ hq
      · exact (e (List.mem_singleton.mp hx)).elim
theorem Fs.all (ht : TreeOk t) (h : Fs t p ks v) (hc : ∀ x ∈ ks, ∀ y l, Step t x y l → y ∈ ks) : ∀ y, 0 ≤ y → y < (t.1.length : Int) → y ∈ ks ∧ Dist t p y (v y) := by
  have hp := h.rg p h.st
  have := tree_all ht (fun y => y ∈ ks) (fun z hz => ⟨fun q => hc _ q _ _ ⟨z, hz, .inl ⟨rfl, rfl⟩, rfl⟩, fun q => hc _ q _ _ ⟨z, hz, .inr ⟨rfl, rfl⟩, rfl⟩⟩) p hp.1 hp.2 h.st
  exact fun y y0 y1 => ⟨this y y0 y1, (h.ds y (this y y0 y1)).dist⟩
end
/-- while the neighbours of one place are looked at -/
structure Vs (t : Tr) (p : Int) (ks0 ini ks : List Int) (v : Int → Int) (wt : List Int) : Prop where
  f : Fs t p ks v
  s0 : ∀ x ∈ ks0, x ∈ ks
  ln : wt.length + ks0.length = ini.length + ks.length
  ws : ∀ x ∈ wt, x ∈ ks
  is : ∀ x ∈ ini, x ∈ wt
  nw : ∀ x ∈ ks, x ∈ ks0 ∨ x ∈ wt
/-- ahead of it and behind it -/
structure Ws (t : Tr) (p : Int) (m : Nat) (ks : List Int) (v : Int → Int) (wt : List Int) : Prop where
  f : Fs t p ks v
  m1 : m + 2 * ks.length = 2 * t.1.length + wt.length
  m2 : m ≤ 2 * t.1.length
  ws : ∀ x ∈ wt, x ∈ ks
  cl : ∀ x ∈ ks, x ∈ wt ∨ ∀ y l, Step t x y l → y ∈ ks
section
variable {t : Tr} {p : Int} {ks0 ini ks wt : List Int} {v : Int → Int} {m : Nat}
theorem Ws.one (p0 : 0 ≤ p) (p1 : p < (t.1.length : Int)) {v : Int → Int} (h : v p = 0) : Ws t p (2 * t.1.length - 1) [p] v [p] where
  f := Fs.one p0 p1 h
  m1 := by show 2 * t.1.length - 1 + 2 * 1 = 2 * t.1.length + 1; omega
  m2 := by omega
  ws := fun _ h => h
  cl := fun _ h => .inl h
theorem Ws.enter {here : Int} (h : Ws t p m ks v (ini ++ [here])) : Vs t p ks ini ks v ini where
  f := h.f
  s0 := fun _ h => h
  ln := by omega
  ws := fun x hx => h.ws x (List.mem_append_left _ hx)
  is := fun _ h => h
  nw := fun _ h => .inl h
theorem Vs.add (ht : TreeOk t) (h : Vs t p ks0 ini ks v wt) {here y l : Int} (hh : here ∈ ks0) (hs : Step t here y l) (hy : y ∉ ks) : Vs t p ks0 ini (ks ++ [y]) (updV v y (v here + l)) (wt ++ [y]) where
  f := h.f.add ht hs (h.s0 here hh) hy
  s0 := fun x hx => List.mem_append_left _ (h.s0 x hx)
  ln := by
    have := h.ln
    rw [List.length_append, List.length_append, List.length_singleton]
    omega
  ws := fun x hx => by
    rcases List.mem_append.mp hx with hx | hx
    · exact List.mem_append_left _ (h.ws x hx)
    · exact List.mem_append_right _ hx
  is := fun x hx => List.mem_append_left _ (h.is x hx)
  nw := fun x hx => by
    rcases List.mem_append.mp hx with hx | hx
    · rcases h.nw x hx with z | z
      · exact .inl z
      · exact .inr (List.mem_append_left _ z)
    · exact .inr (List.mem_append_right _ hx)
theorem Vs.leave {here : Int} (h0 : Ws t p m ks0 v (ini ++ [here])) {v' : Int → Int} (h : Vs t p ks0 ini ks v' wt) (hn : ∀ y l, Step t here y l → y ∈ ks) : ∃ m', m' < m ∧ Ws t p m' ks v' wt := by
  have h1 := h0.m1
  have h2 := h0.m2
  have h3 := h.ln
  have h4 := h.f.len
  rw [List.length_append, List.length_singleton] at h1
  have h5 : ks0.length ≤ ks.length := nd_sub_len h0.f.nd h.s0
  have h6 := h0.f.len
  refine ⟨2 * t.1.length + wt.length - 2 * ks.length, by omega, h.f, by omega, by omega, h.ws, fun x hx => ?_⟩
  rcases h.nw x hx with z | z
  · rcases h0.cl x z with q | q
    · rcases List.mem_append.mp q with q | q
      · exact .inl (h.is x q)
      · rw [List.mem_singleton.mp q]; exact .inr hn
    · exact .inr fun y l hs => h.s0 y (q y l hs)
  · exact .inl z
theorem Ws.fin (ht : TreeOk t) (h : Ws t p m ks v []) : ∀ y, 0 ≤ y → y < (t.1.length : Int) → y ∈ ks ∧ Dist t p y (v y) := h.f.all ht fun x hx => by
  rcases h.cl x hx with z | z
  · exact nomatch z
  · exact z
end
/-- the last one of a list, and the others -/
theorem nil_or_last {a : Type} : ∀ l : List a, l = [] ∨ ∃ i x, l = i ++ [x]
  | [] => .inl rfl
  | x :: xs => by
    rcases nil_or_last xs with e | ⟨i, y, e⟩
    · exact .inr ⟨[], x, by rw [e]; rfl⟩
    · exact .inr ⟨x :: i, y, by rw [e]; rfl⟩
theorem popL_last {a : Type} (xs : List a) (x : a) : popL (xs ++ [x]) = .ok (x, xs) := by
  unfold popL
  rw [List.length_append, List.length_singleton, Nat.add_sub_cancel, List.getElem?_append_right (Nat.le_refl _), Nat.sub_self]
  show Except.ok (x, (xs ++ [x]).dropLast) = _
  rw [List.dropLast_concat]
theorem whL_runM {s r : Type} {b : s → M (PG.Ws s r)} (P : Nat → s → Prop) (Qf : s → Prop) (step : ∀ m x, P m x → (∃ x' m', m' < m ∧ b x = .ok (.go x') ∧ P m' x') ∨ (∃ x', b x = .ok (.stop x') ∧ Qf x')) : ∀ (n m : Nat) (x : s), P m x → m < n → ∃ x', whL b n x = .ok (.nx x') ∧ Qf x'
  | 0, m, x, _, h => absurd h (Nat.not_lt_zero _)
  | n + 1, m, x, p, h => by
    rcases step m x p with ⟨x', m', l, e, p'⟩ | ⟨x', e, q⟩
    · obtain ⟨x2, e2, q2⟩ := whL_runM P Qf step n m' x' p' (by omega)
      refine ⟨x2, ?_, q2⟩
      show (b x >>= _) = _
      rw [bind_ok e]
      exact e2
    · refine ⟨x', ?_, q⟩
      show (b x >>= _) = _
      rw [bind_ok e]

theorem whL_runB {s r b : Type} {f : s → M (PG.Ws s r)} {n : Nat} {x : s} {k : Fl s r → M b} {Q : b → Prop} (m : Nat) (P : Nat → s → Prop) (Qf : s → Prop) (step : ∀ m x, P m x → (∃ x' m', m' < m ∧ f x = .ok (.go x') ∧ P m' x') ∨ (∃ x', f x = .ok (.stop x') ∧ Qf x')) (p : P m x) (h : m < n) (hk : ∀ x', Qf x' → ∃ y, k (.nx x') = .ok y ∧ Q y) : ∃ y, (whL f n x >>= k) = .ok y ∧ Q y := by
  obtain ⟨st, e, g⟩ := whL_runM P Qf step n m x p h
  obtain ⟨r, e2, q⟩ := hk st g
  exact ⟨r, by rw [bind_ok e]; exact e2, q⟩
theorem go_of {s r : Type} {m : M (PG.Ws s r)} {n : Nat} {P : Nat → s → Prop} (h : ∃ y, m = .ok y ∧ ∃ m' x', y = .go x' ∧ m' < n ∧ P m' x') : ∃ x' m', m' < n ∧ m = .ok (.go x') ∧ P m' x' := by
  obtain ⟨y, e, m', x', e2, l, p⟩ := h
  subst e2
  exact ⟨x', m', l, e, p⟩

def valD (f : List (Int × Int)) (x : Int) : Int := (dGet f x).getD 0
theorem dGet_in {f : List (Int × Int)} {x : Int} (h : x ∈ f.map (·.1)) : dGet f x = some (valD f x) := by
  unfold valD
  cases e : dGet f x with
  | some v => rfl
  | none =>
    have := (dHas_iff (xs := f) (k := x)).mpr h
    unfold dHas at this
    rw [e] at this
    exact nomatch this
theorem dGet_end : ∀ {f : List (Int × Int)} {x k d : Int}, k ∉ f.map (·.1) → dGet (f ++ [(k, d)]) x = if x = k then some d else dGet f x
  | [], x, k, d, _ => by
    by_cases h : x = k
    · rw [if_pos h, List.nil_append, dGet_pos (p := (k, d)) h.symm]
    · rw [if_neg h, List.nil_append, dGet_neg (p := (k, d)) (fun z => h z.symm)]
  | p :: f, x, k, d, hk => by
    rw [List.map_cons] at hk
    have h1 : p.1 ≠ k := fun e => hk (by rw [e]; exact List.mem_cons_self)
    rw [List.cons_append]
    by_cases e2 : p.1 = x
    · rw [dGet_pos e2, dGet_pos e2, if_neg (fun z => h1 (e2.trans z))]
    · rw [dGet_neg e2, dGet_neg e2, dGet_end fun z => hk (List.mem_cons_of_mem _ z)]
theorem dGet_app {f : List (Int × Int)} {x k d : Int} (hk : k ∉ f.map (·.1)) : valD (f ++ [(k, d)]) x = updV (valD f) k d x := by
  unfold updV valD
  rw [dGet_end hk]
  by_cases h : x = k
  · rw [if_pos h, if_pos h]; rfl
  · rw [if_neg h, if_neg h]

/-! ### numbers, worths, ties, a tree -/
theorem numbers_ok (c m base : Int) (m0 : 0 ≤ m) (m1 : m ≤ 1000) (t0 : 0 < base) (t1 : base ≤ 10 ^ 40) : ∃ xs, m_law_numbers c m base = .ok xs ∧ (xs.length : Int) = m ∧ ∀ x ∈ xs, 0 ≤ x ∧ x < base := by
  unfold m_law_numbers
  rw [chk_b (show CMulX ((10 : Int) ^ Int.toNat (45 : Int)) ((10 : Int) ^ Int.toNat (45 : Int)) from .inr (cmulW (by decide +kernel) (by decide +kernel))), chk_b (by decide), ret_b, chk_b (show okR m from ⟨by omega, by omega⟩)]
  obtain ⟨C, hC⟩ : ∃ C, C = c % ((10 : Int) ^ Int.toNat (45 : Int) * (10 : Int) ^ Int.toNat (45 : Int)) := ⟨_, rfl⟩
  rw [← hC]
  refine loopN_runB (fun pre st => st.2.length = pre.length ∧ ∀ x ∈ st.2, 0 ≤ x ∧ x < base) ⟨rfl, fun _ z => nomatch z⟩ (fun pre y post ⟨r, xs⟩ ea ⟨g1, g2⟩ => ?_) (fun st ⟨g1, g2⟩ => ?_)
  · have g1 : xs.length = pre.length := g1
    have g2 : ∀ x ∈ xs, 0 ≤ x ∧ x < base := g2
    have hpl : pre.length < (rangeL 0 m).length := by rw [ea]; simp
    rw [rangeL_length] at hpl
    dsimp only
    rw [chk_b (mulx_l (by decide) (by decide)), chk_b (mulx_r (by decide) (by decide)), chk_b (by decide), ret_b]
    have b0 := Int.emod_nonneg ((C + 977 * y + 1) * 48271) (show (2147483647 : Int) ≠ 0 by decide)
    have b1 := Int.emod_lt_of_pos ((C + 977 * y + 1) * 48271) (show (0 : Int) < 2147483647 by decide)
    rw [chk_b (mulx_l (by omega) (by omega)), chk_b (by decide), ret_b, chk_b (mulx_l (by decide) (by decide)), chk_b (mulx_r (by decide) (by decide)), chk_b (by decide), chk_b (cdivW (by decide) (by decide)), ret_b]
    have both : ∀ z : Int, (xs ++ [z % base]).length = (pre ++ [y]).length ∧ ∀ x ∈ xs ++ [z % base], 0 ≤ x ∧ x < base := fun z => by
      refine ⟨by rw [List.length_append, List.length_append, g1]; rfl, fun x hx => ?_⟩
      rcases List.mem_append.mp hx with hx | hx
      · exact g2 x hx
      · rw [List.mem_singleton.mp hx]
        exact ⟨Int.emod_nonneg _ (by omega), Int.emod_lt_of_pos _ t0⟩
    by_cases hc : ((10 : Int) ^ Int.toNat (18 : Int)) ≤ C
    · rw [if_pos hc]
      exact ⟨_, by rw [chk_b (cdivW t0 t1), chk_b t0, bind_ok (appL_ok (by omega))], both r⟩
    · rw [if_neg hc]
      exact ⟨_, by rw [chk_b t0, bind_ok (appL_ok (by omega))], both _⟩
  · rw [rangeL_length] at g1
    exact ⟨st.2, rfl, by omega, g2⟩
theorem worths_ok (s : List Int) (m : Int) (m0 : 0 ≤ m) (m1 : m ≤ 1000) : ∃ ws, m_law_worths s m = .ok ws ∧ (ws.length : Int) = m ∧ ∀ x ∈ ws, x.natAbs < 2 ^ 99 := by
  obtain ⟨c3, e3⟩ := cell_ok s 3 (by decide)
  obtain ⟨c0, e0⟩ := cell_ok s 0 (by decide)
  obtain ⟨ns, e1, l1, b1⟩ := numbers_ok c3 m 90 m0 m1 (by decide) (by decide)
  unfold m_law_worths
  rw [bind_ok e3, bind_ok e0, chk_b (cdivW (by decide) (by decide)), chk_b (by decide)]
  obtain ⟨kd, hkd⟩ : ∃ kd, kd = c0 / 2048 % 4 := ⟨_, rfl⟩
  rw [← hkd]
  by_cases h1 : kd = 1
  · rw [if_pos h1, chk_b (show CRep ([(0 : Int)]).length m from ⟨by omega, by omega, by show 1 * _ < _; omega⟩)]
    refine ⟨_, rfl, by rw [rep0, List.length_replicate]; omega, fun x hx => ?_⟩
    rw [rep0] at hx
    rw [(List.mem_replicate.mp hx).2]
    decide
  · rw [if_neg h1, bind_ok e1]
    refine loopN_runB (fun pre st => st.length = pre.length ∧ ∀ x ∈ st, x.natAbs < 2 ^ 99) ⟨rfl, fun _ z => nomatch z⟩ (fun pre y post st ea ⟨g1, g2⟩ => ?_) (fun st ⟨g1, g2⟩ => ⟨st, rfl, by omega, g2⟩)
    have hy := b1 y (by rw [ea]; simp)
    have hpl : pre.length < ns.length := by rw [ea]; simp
    have both : ∀ z : Int, z.natAbs < 2 ^ 99 → ∃ x', (appL st z >>= fun _ => (.ok (st ++ [z]) : M (List Int))) = .ok x' ∧ x'.length = (pre ++ [y]).length ∧ ∀ x ∈ x', x.natAbs < 2 ^ 99 := fun z hz => by
      refine ⟨st ++ [z], by rw [bind_ok (appL_ok (by omega))], by rw [List.length_append, List.length_append, g1]; rfl, fun x hx => ?_⟩
      rcases List.mem_append.mp hx with hx | hx
      · exact g2 x hx
      · rw [List.mem_singleton.mp hx]; exact hz
    have e28 : (10 : Int) ^ Int.toNat 28 = 10000000000000000000000000000 := by decide
    rw [chk_b (by decide)]
    by_cases h2 : kd = 2
    · rw [if_pos h2, if_neg (by omega), e28, chk_b (cmulW (Nat.lt_of_lt_of_le (show (y - 45).natAbs < 100 by omega) (by decide +kernel)) (by decide +kernel))]
      refine both _ (Nat.lt_of_le_of_lt (m := 460000000000000000000000000000) (by omega) (by decide))
    · rw [if_neg h2]
      by_cases h3 : kd = 3
      · rw [if_pos h3, chk_b (by decide)]
        exact both _ (Nat.lt_of_le_of_lt (m := 1000) (by omega) (by decide))
      · rw [if_neg h3]
        exact both _ (Nat.lt_of_le_of_lt (m := 1000) (by omega) (by decide))
theorem names_ok (os : List Int) (m : Int) (m0 : 0 ≤ m) (m1 : m ≤ 1000) (ol : (os.length : Int) = m) : ∃ o, (∀ {b : Type} (k : List Int × List Int → M b), (compS (fun (y58 : Int) (st76 : (List Int)) =>
    opt (L2.atI os y58) >>= fun y87 =>
    chk (0 < (st76.length : Int)) >>= fun _ =>
    popI st76 (y87 % (st76.length : Int)) >>= fun t102 =>
    .ok (some t102.1, t102.2)) (rangeL 0 m) (rangeL 0 m) >>= k) = k (o, [])) ∧ o.Perm (rangeL 0 m) := by
  obtain ⟨acc, st, e, g1, g2⟩ := compS_run (f := fun (y58 : Int) (st76 : (List Int)) =>
    opt (L2.atI os y58) >>= fun y87 =>
    chk (0 < (st76.length : Int)) >>= fun _ =>
    popI st76 (y87 % (st76.length : Int)) >>= fun t102 =>
    (.ok (some t102.1, t102.2) : M _)) (all := rangeL 0 m) (x := rangeL 0 m) (by rw [rangeL_length]; omega) (fun pre acc st => acc.length = pre.length ∧ (acc ++ st).Perm (rangeL 0 m)) ⟨rfl, List.Perm.refl _⟩ fun pre y post acc st ea ⟨g1, g2⟩ => by
      obtain ⟨hpl, y0, y1⟩ := range_pre ea
      have hl := g2.length_eq
      rw [List.length_append, rangeL_length] at hl
      have sl : 0 < st.length := by omega
      obtain ⟨x, x1, _⟩ := at_in (xs := os) y0 (by omega)
      have z0 := Int.emod_nonneg x (show (st.length : Int) ≠ 0 by omega)
      have z1 := Int.emod_lt_of_pos x (show (0 : Int) < (st.length : Int) by omega)
      obtain ⟨w, w1, w2⟩ := atI_some (xs := st) (j := x % (st.length : Int)) z0 z1
      have hj := (List.getElem?_eq_some_iff.mp w2)
      obtain ⟨hj1, hj2⟩ := hj
      refine ⟨some w, _, by rw [opt_b x1, chk_b (by omega), bind_ok (popI_ok z0 w2 (by omega))], by show (acc ++ [w]).length = _; rw [List.length_append, List.length_append, g1]; rfl, ?_⟩
      have hp := erase_perm hj1
      rw [hj2] at hp
      show (acc ++ [w] ++ st.eraseIdx (x % (st.length : Int)).toNat).Perm _
      rw [List.append_assoc]
      exact (List.Perm.append_left acc hp).trans g2
  have hl := g2.length_eq
  rw [List.length_append, g1] at hl
  have hst : st = [] := List.length_eq_zero_iff.mp (by omega)
  subst hst
  refine ⟨acc, fun k => by rw [bind_ok e], ?_⟩
  rw [List.append_nil] at g2
  exact g2
theorem ties_ok (s : List Int) (m least : Int) (m1 : 1 ≤ m) (m2 : m ≤ 100) (l0 : -1000 ≤ least) (l1 : least ≤ 1000) : ∃ ts, m_law_ties s m least = .ok ts ∧ (∀ ws : List Int, (ws.length : Int) = m → TreeOk (ws, ts)) ∧ (∀ z ∈ ts, z.c.natAbs < 2 ^ 100) ∧ (0 ≤ least → ∀ z ∈ ts, 0 ≤ z.c) := by
  obtain ⟨c1, e1⟩ := cell_ok s 1 (by decide)
  obtain ⟨c2, e2⟩ := cell_ok s 2 (by decide)
  obtain ⟨c0, e0⟩ := cell_ok s 0 (by decide)
  obtain ⟨c4, e4⟩ := cell_ok s 4 (by decide)
  obtain ⟨sh, f1, fl1, fb1⟩ := numbers_ok c1 m 120 (by omega) (by omega) (by decide) (by decide)
  obtain ⟨os, f2, fl2, _⟩ := numbers_ok c2 m 120 (by omega) (by omega) (by decide) (by decide)
  obtain ⟨ns, f4, fl4, fb4⟩ := numbers_ok c4 m 90 (by omega) (by omega) (by decide) (by decide)
  obtain ⟨o, ho, hp⟩ := names_ok os m (by omega) (by omega) fl2
  have ol := hp.length_eq
  rw [rangeL_length] at ol
  have ond : o.Nodup := hp.nodup_iff.mpr (rangeL_nodup _ _)
  unfold m_law_ties
  rw [bind_ok e1, bind_ok f1, bind_ok e2, bind_ok f2, chk_b (show okR m from ⟨by omega, by omega⟩), chk_b (show okR m from ⟨by omega, by omega⟩), ho]
  rw [bind_ok e0, chk_b (cdivW (by decide) (by decide)), chk_b (by decide), bind_ok e4, bind_ok f4]
  obtain ⟨kd, hkd⟩ : ∃ kd, kd = c0 / 512 % 4 := ⟨_, rfl⟩
  have k0 : 0 ≤ kd := by omega
  have k1 : kd < 4 := by omega
  rw [← hkd]
  have e28 : (10 : Int) ^ Int.toNat 28 = 10000000000000000000000000000 := by decide
  rw [e28]
  refine loopN_runB (fun pre st => (∀ z ∈ st, z.c.natAbs < 2 ^ 100) ∧ (0 ≤ least → ∀ z ∈ st, 0 ≤ z.c) ∧ (pre = [] ∧ st = [] ∨ Grown (o.take pre.length) st)) ⟨(fun _ z => nomatch z), (fun _ _ z => nomatch z), .inl ⟨rfl, rfl⟩⟩ (fun pre y post ts ea ⟨g1, g2, g3⟩ => ?_) (fun ts ⟨g1, g2, g3⟩ => ?_)
  · -- one place more
    have hpl : pre.length < ns.length := by
      have := congrArg List.length ea
      rw [enumL_len, List.length_append, List.length_cons] at this
      omega
    have hy : y.1 = (pre.length : Int) ∧ y.2 ∈ ns := by
      have h1 : (enumL ns)[pre.length]? = some y := by rw [ea, List.getElem?_append_right (Nat.le_refl _), Nat.sub_self]; rfl
      have h2 := enumL_get (xs := ns) (i := pre.length) (List.getElem?_eq_getElem hpl)
      have h3 : (enumL ns)[pre.length]? = some ((pre.length : Int), ns[pre.length]) := by
        have := congrArg (fun l => l[0]?) h2
        simpa using this
      rw [h3] at h1
      have h1 := Option.some.inj h1
      rw [← h1]
      exact ⟨rfl, List.getElem_mem hpl⟩
    obtain ⟨q, n⟩ := y
    obtain ⟨hq, hn⟩ := hy
    have hq : q = (pre.length : Int) := hq
    have hn := fb4 n hn
    dsimp only
    rw [chk_b (by decide), chk_b (by decide), chk_b (cmulW (Nat.lt_of_lt_of_le (show n.natAbs < 100 by omega) (by decide +kernel)) (by decide +kernel))]
    obtain ⟨l, b1, b2⟩ := atI_some (xs := [n % 9 + least, n % 3, n * 10000000000000000000000000000 + 1, 1]) (j := kd) k0 (by show kd < ((4 : Nat) : Int); omega)
    have hl : l.natAbs < 2 ^ 100 ∧ (0 ≤ least → 0 ≤ l) := by
      have hm := List.mem_of_getElem? b2
      simp only [List.mem_cons, List.not_mem_nil, or_false] at hm
      rcases hm with e | e | e | e
      · exact ⟨Nat.lt_of_le_of_lt (m := 10000) (by omega) (by decide), fun _ => by omega⟩
      · exact ⟨Nat.lt_of_le_of_lt (m := 10000) (by omega) (by decide), fun _ => by omega⟩
      · exact ⟨Nat.lt_of_le_of_lt (m := 900000000000000000000000000001) (by omega) (by decide), fun _ => by omega⟩
      · exact ⟨Nat.lt_of_le_of_lt (m := 10000) (by omega) (by decide), fun _ => by omega⟩
    rw [opt_b b1]
    obtain ⟨ok, p1, p2, p3⟩ := at_in (xs := o) (k := q) (by omega) (by omega)
    have tk : o.take (pre ++ [(q, n)]).length = o.take pre.length ++ [ok] := by
      rw [List.length_append, List.length_singleton, List.take_succ, show pre.length = q.toNat by omega, p3]
      rfl
    by_cases hq0 : (0 : Int) < q
    · rw [if_pos hq0]
      have gr : Grown (o.take pre.length) ts := by
        rcases g3 with ⟨e, _⟩ | g
        · rw [e] at hq; have hq : q = 0 := hq; omega
        · exact g
      have glen := gr.len
      rw [List.length_take] at glen
      have hnt : ok ∉ o.take pre.length := fun hm => by
        obtain ⟨i, hi⟩ := List.mem_iff_getElem?.mp hm
        rw [List.getElem?_take] at hi
        by_cases c : i < pre.length
        · rw [if_pos c] at hi
          have := nd_ix ond hi p3
          omega
        · rw [if_neg c] at hi; exact nomatch hi
      have fin : ∀ (j to : Int), 0 ≤ j → j < q → L2.atI o j = some to → o[j.toNat]? = some to →
          ∃ x', (appL ts (T3.mk (if to < ok then to else ok) (if to > ok then to else ok) l) >>= fun _ => (.ok (ts ++ [(T3.mk (if to < ok then to else ok) (if to > ok then to else ok) l)]) : M (List Tie))) = .ok x' ∧ (∀ z ∈ x', z.c.natAbs < 2 ^ 100) ∧ (0 ≤ least → ∀ z ∈ x', 0 ≤ z.c) ∧ (pre ++ [(q, n)] = [] ∧ x' = [] ∨ Grown (o.take (pre ++ [(q, n)]).length) x') := fun j to j0 j1 _ s3 => by
        have hto : to ∈ o.take pre.length := by
          refine List.mem_of_getElem? (i := j.toNat) ?_
          rw [List.getElem?_take, if_pos (by omega)]
          exact s3
        have hne : ok ≠ to := fun e => hnt (by rw [e]; exact hto)
        have gm := Grown.more to ok l gr hto hnt
        have et : (T3.mk (if to < ok then to else ok) (if to > ok then to else ok) l : Tie) = tieOf ok to l := by
          unfold tieOf
          by_cases c : ok ≤ to
          · rw [if_pos c, if_neg (by omega), if_pos (by omega)]
          · rw [if_neg c, if_pos (by omega), if_neg (by omega)]
        rw [et]
        refine ⟨ts ++ [tieOf ok to l], by rw [bind_ok (appL_ok (by omega))], fun z hz => ?_, fun h0 z hz => ?_, .inr (by rw [tk]; exact gm)⟩
        · rcases List.mem_append.mp hz with hz | hz
          · exact g1 z hz
          · rw [List.mem_singleton.mp hz, (tieOf_lt hne).2.2]; exact hl.1
        · rcases List.mem_append.mp hz with hz | hz
          · exact g2 h0 z hz
          · rw [List.mem_singleton.mp hz, (tieOf_lt hne).2.2]; exact hl.2 h0
      obtain ⟨w, w1, w2, _⟩ := at_in (xs := sh) (k := q) (by omega) (by omega)
      have z0 := Int.emod_nonneg w (show q ≠ 0 by omega)
      have z1 := Int.emod_lt_of_pos w hq0
      obtain ⟨to, s1, _, s3⟩ := at_in (xs := o) (k := w % q) z0 (by omega)
      rw [opt_b w1, chk_b hq0, opt_b s1, opt_b w1, chk_b (cdivW (by decide) (by decide))]
      by_cases c40 : w / 40 = 1
      · obtain ⟨to2, u1, _, u3⟩ := at_in (xs := o) (k := q - 1) (by omega) (by omega)
        rw [if_pos c40, opt_b u1, opt_b p1, opt_b p1]
        exact fin (q - 1) to2 (by omega) (by omega) u1 u3
      · rw [if_neg c40, opt_b p1, opt_b p1]
        exact fin (w % q) to z0 z1 s1 s3
    · rw [if_neg hq0]
      have hpe : pre = [] := List.length_eq_zero_iff.mp (by omega)
      have hts : ts = [] := by
        rcases g3 with ⟨_, e⟩ | g
        · exact e
        · have := g.len
          rw [hpe] at this
          simp at this
      refine ⟨ts, rfl, g1, g2, .inr ?_⟩
      rw [tk, hts, hpe]
      exact Grown.one ok
  · refine ⟨sortT ts, rfl, fun ws hw => ⟨o, ts, ?_, ?_, rfl⟩, fun z hz => g1 z (sortT_mem.mp hz), fun h0 z hz => g2 h0 z (sortT_mem.mp hz)⟩
    · rcases g3 with ⟨e, _⟩ | g
      · have : (enumL ns).length = 0 := by rw [e]; rfl
        rw [enumL_len] at this
        omega
      · rw [enumL_len, List.take_of_length_le (by omega)] at g
        exact g
    · show o.Perm (rangeL 0 (ws.length : Int))
      rw [hw]
      exact hp
theorem btree_ok (s : List Int) (most least : Int) (h1 : 1 ≤ most) (h2 : most ≤ 40) (l0 : -1000 ≤ least) (l1 : least ≤ 1000) : ∃ t, m_law_tree s most least = .ok t ∧ TreeOk t ∧ t.1.length ≤ 40 ∧ (∀ x ∈ t.1, x.natAbs < 2 ^ 99) ∧ (∀ z ∈ t.2, z.c.natAbs < 2 ^ 100) ∧ (0 ≤ least → ∀ z ∈ t.2, 0 ≤ z.c) := by
  obtain ⟨c0, e0⟩ := cell_ok s 0 (by decide)
  have fin : ∀ m : Int, 1 ≤ m → m ≤ 40 → ∃ t, (m_law_worths s m >>= fun r34 => m_law_ties s m least >>= fun r53 => (.ok (r34, r53) : M Tr)) = .ok t ∧ TreeOk t ∧ t.1.length ≤ 40 ∧ (∀ x ∈ t.1, x.natAbs < 2 ^ 99) ∧ (∀ z ∈ t.2, z.c.natAbs < 2 ^ 100) ∧ (0 ≤ least → ∀ z ∈ t.2, 0 ≤ z.c) := fun m m1 m2 => by
    obtain ⟨ws, w1, w2, w3⟩ := worths_ok s m (by omega) (by omega)
    obtain ⟨ts, t1, t2, t3, t4⟩ := ties_ok s m least m1 (by omega) l0 l1
    exact ⟨(ws, ts), by rw [bind_ok w1, bind_ok t1], t2 ws w2, by show ws.length ≤ 40; omega, w3, t3, t4⟩
  unfold m_law_tree
  have hm : 1 ≤ (if (9 : Int) < most then (9 : Int) else most) ∧ (if (9 : Int) < most then (9 : Int) else most) ≤ 40 := by
    by_cases c : (9 : Int) < most
    · rw [if_pos c]; omega
    · rw [if_neg c]; omega
  obtain ⟨q, hq⟩ : ∃ q, q = (if (9 : Int) < most then (9 : Int) else most) := ⟨_, rfl⟩
  rw [← hq] at hm ⊢
  have z0 := Int.emod_nonneg c0 (show q ≠ 0 by omega)
  have z1 := Int.emod_lt_of_pos c0 (show 0 < q by omega)
  rw [bind_ok e0, chk_b (by omega)]
  by_cases c9 : (9 : Int) < most
  · rw [if_pos c9, chk_b (cdivW (by decide) (by decide)), chk_b (by decide)]
    by_cases c3 : c0 / 16 % 8 = 3
    · rw [if_pos c3, chk_b (cdivW (by decide) (by decide)), chk_b (by omega), chk_b (cdivW (by decide) (by decide)), chk_b (by decide)]
      have y0 := Int.emod_nonneg (c0 / 4096) (show most - 9 ≠ 0 by omega)
      have y1 := Int.emod_lt_of_pos (c0 / 4096) (show 0 < most - 9 by omega)
      obtain ⟨m, b1, b2⟩ := atI_some (xs := [most, 10 + c0 / 4096 % (most - 9)]) (j := c0 / 128 % 2) (by omega) (by show c0 / 128 % 2 < ((2 : Nat) : Int); omega)
      have hm := List.mem_of_getElem? b2
      simp only [List.mem_cons, List.not_mem_nil, or_false] at hm
      rw [opt_b b1]
      exact fin m (by omega) (by omega)
    · rw [if_neg c3]
      exact fin _ (by omega) (by omega)
  · rw [if_neg c9]
    exact fin _ (by omega) (by omega)

/-! ### the order of the branches -/
theorem nr_nd {t : Tr} (ht : TreeOk t) (x : Int) : (nearOf t.2 x).Nodup := by
  unfold nearOf
  refine (sortT_perm _).nodup_iff.mpr ?_
  refine List.pairwise_filterMap.mpr ?_
  have h := List.pairwise_map.mp (tree_pairs ht)
  refine List.Pairwise.imp_of_mem ?_ h
  intro s u hs hu ne b eb b' eb' ebb
  have v1 := ht.tie s hs
  have v2 := ht.tie u hu
  subst ebb
  refine ne ?_
  unfold other at eb eb'
  by_cases a1 : s.a = x
  · rw [if_pos a1] at eb
    have eb := Option.some.inj eb
    by_cases a2 : u.a = x
    · rw [if_pos a2] at eb'
      have eb' := Option.some.inj eb'
      rw [a1, a2, eb, eb']
    · rw [if_neg a2] at eb'
      by_cases a3 : u.b = x
      · rw [if_pos a3] at eb'
        have eb' := Option.some.inj eb'
        omega
      · rw [if_neg a3] at eb'; cases eb'
  · rw [if_neg a1] at eb
    by_cases a3 : s.b = x
    · rw [if_pos a3] at eb
      have eb := Option.some.inj eb
      by_cases a2 : u.a = x
      · rw [if_pos a2] at eb'
        have eb' := Option.some.inj eb'
        omega
      · rw [if_neg a2] at eb'
        by_cases a4 : u.b = x
        · rw [if_pos a4] at eb'
          have eb' := Option.some.inj eb'
          rw [a3, a4, eb, eb']
        · rw [if_neg a4] at eb'; cases eb'
    · rw [if_neg a3] at eb; cases eb
theorem nr_sym {t : Tr} (ht : TreeOk t) {x y : Int} : y ∈ nearOf t.2 x ↔ x ∈ nearOf t.2 y := by
  rw [nearOf_mem fun z hz => (ht.tie z hz).2.1, nearOf_mem fun z hz => (ht.tie z hz).2.1]
  constructor
  · rintro ⟨z, hz, h⟩; exact ⟨z, hz, by omega⟩
  · rintro ⟨z, hz, h⟩; exact ⟨z, hz, by omega⟩
def brs (t : Tr) : List (Int × Int) := sortT ((lenOf t.2).map (·.1))
theorem brs_mem {t : Tr} (ht : TreeOk t) {p : Int × Int} : p ∈ brs t ↔ p.2 ∈ nearOf t.2 p.1 := by
  unfold brs
  rw [sortT_mem, nearOf_mem fun z hz => (ht.tie z hz).2.1]
  constructor
  · intro h
    obtain ⟨q, hq, e⟩ := List.mem_map.mp h
    obtain ⟨z, hz, h | h⟩ := lenOf_mem.mp hq
    · rw [h] at e; subst e; exact ⟨z, hz, .inl ⟨rfl, rfl⟩⟩
    · rw [h] at e; subst e; exact ⟨z, hz, .inr ⟨rfl, rfl⟩⟩
  · rintro ⟨z, hz, ⟨a, b⟩ | ⟨a, b⟩⟩
    · exact List.mem_map.mpr ⟨((z.a, z.b), z.c), lenOf_mem.mpr ⟨z, hz, .inl rfl⟩, Prod.ext a b⟩
    · exact List.mem_map.mpr ⟨((z.b, z.a), z.c), lenOf_mem.mpr ⟨z, hz, .inr rfl⟩, Prod.ext a b⟩
theorem brs_nd {t : Tr} (ht : TreeOk t) : (brs t).Nodup := (sortT_perm _).nodup_iff.mpr (lenOf_nd ht)
theorem brs_len {t : Tr} : (brs t).length = 2 * t.2.length := by unfold brs; rw [sortT_len, List.length_map, lenOf_len]
theorem merge_newT {β : Type} : ∀ {xs m : List ((Int × Int) × β)}, ((m ++ xs).map (·.1)).Nodup → xs.foldl (fun m p => dPut m p.1 p.2) m = m ++ xs
  | [], m, _ => by simp
  | x :: xs, m, h => by
    rw [List.foldl_cons]
    have hn : ∀ p ∈ m, p.1 ≠ x.1 := fun p hp e => by
      rw [List.map_append, List.map_cons, List.nodup_append] at h
      exact h.2.2 p.1 (List.mem_map.mpr ⟨p, hp, rfl⟩) x.1 List.mem_cons_self e
    rw [dPut_new hn, merge_newT (by rw [List.append_assoc]; exact h), List.append_assoc]
    rfl
theorem dPut_keys {β : Type} {xs : List ((Int × Int) × β)} {k : Int × Int} {y : β} (h : k ∈ xs.map (·.1)) : (dPut xs k y).map (·.1) = xs.map (·.1) := by
  unfold dPut
  obtain ⟨p, hp, e⟩ := List.mem_map.mp h
  rw [if_pos (List.any_eq_true.mpr ⟨p, hp, decide_eq_true e⟩), List.map_map]
  refine List.map_congr_left fun q _ => ?_
  show (if q.1 = k then (q.1, y) else q).1 = q.1
  by_cases z : q.1 = k
  · rw [if_pos z]
  · rw [if_neg z]
theorem dGet_map {β : Type} [Py β] {k j : Int × Int} {y : β} : ∀ xs : List ((Int × Int) × β), dGet (xs.map fun p => if p.1 = k then (p.1, y) else p) j = if j = k then (dGet xs j).map (fun _ => y) else dGet xs j
  | [] => by by_cases e : j = k <;> simp [dGet, e]
  | p :: xs => by
    rw [List.map_cons]
    by_cases e : p.1 = k
    · rw [if_pos e]
      by_cases e2 : p.1 = j
      · rw [dGet_pos (p := (p.1, y)) e2, dGet_pos e2, if_pos (e2.symm.trans e)]; rfl
      · rw [dGet_neg (p := (p.1, y)) e2, dGet_neg e2, dGet_map xs]
    · rw [if_neg e]
      by_cases e2 : p.1 = j
      · rw [dGet_pos e2, dGet_pos e2, if_neg (fun z => e (e2.trans z))]
      · rw [dGet_neg e2, dGet_neg e2, dGet_map xs]
theorem dGet_none {β : Type} [Py β] {xs : List ((Int × Int) × β)} {k : Int × Int} (h : ∀ p ∈ xs, p.1 ≠ k) : dGet xs k = none := by
  induction xs with
  | nil => rfl
  | cons p xs ih => rw [dGet_neg (h p List.mem_cons_self), ih fun q hq => h q (List.mem_cons_of_mem _ hq)]
theorem dGet_snoc {β : Type} [Py β] {k j : Int × Int} {y : β} : ∀ {xs : List ((Int × Int) × β)}, (∀ p ∈ xs, p.1 ≠ k) → dGet (xs ++ [(k, y)]) j = if j = k then some y else dGet xs j
  | [], _ => by
    by_cases e : j = k
    · rw [if_pos e, List.nil_append, dGet_pos (p := (k, y)) e.symm]
    · rw [if_neg e, List.nil_append, dGet_neg (p := (k, y)) (fun z => e z.symm)]
  | p :: xs, h => by
    rw [List.cons_append]
    by_cases e2 : p.1 = j
    · rw [dGet_pos e2, dGet_pos e2, if_neg (fun z => h p List.mem_cons_self (e2.trans z))]
    · rw [dGet_neg e2, dGet_neg e2, dGet_snoc fun q hq => h q (List.mem_cons_of_mem _ hq)]
theorem dGet_put {β : Type} [Py β] {xs : List ((Int × Int) × β)} {k j : Int × Int} {y : β} : dGet (dPut xs k y) j = if j = k then some y else dGet xs j := by
  unfold dPut
  by_cases h : (xs.any fun p => decide (p.1 = k)) = true
  · rw [if_pos h, dGet_map]
    by_cases e : j = k
    · rw [if_pos e, if_pos e]
      obtain ⟨p, hp, e2⟩ := List.any_eq_true.mp h
      have e2 := of_decide_eq_true e2
      have : dGet xs j ≠ none := by
        unfold dGet
        rw [ne_eq, Option.map_eq_none_iff, List.find?_eq_none]
        intro z
        exact z p hp (decide_eq_true (e2.trans e.symm))
      cases hh : dGet xs j with
      | none => exact (this hh).elim
      | some v => rfl
    · rw [if_neg e, if_neg e]
  · rw [if_neg h]
    refine dGet_snoc fun p hp e => h (List.any_eq_true.mpr ⟨p, hp, decide_eq_true e⟩)
/-- how many of the branches in (x, y) are still wanted, those of D being there -/
def need (t : Tr) (D : List (Int × Int)) (x y : Int) : Nat := ((nearOf t.2 y).filter fun c => decide (c ≠ x ∧ (y, c) ∉ D)).length
theorem need_zero {t : Tr} {D : List (Int × Int)} {x y : Int} : need t D x y = 0 ↔ ∀ c ∈ nearOf t.2 y, c ≠ x → (y, c) ∈ D := by
  unfold need
  rw [List.length_eq_zero_iff, List.filter_eq_nil_iff]
  constructor
  · intro h c hc hx
    exact Classical.byContradiction fun z => h c hc (decide_eq_true ⟨hx, z⟩)
  · intro h c hc z
    have z := of_decide_eq_true z
    exact z.2 (h c hc z.1)
theorem need_nil {t : Tr} (ht : TreeOk t) {x y : Int} (h : x ∈ nearOf t.2 y) : ((need t [] x y : Nat) : Int) = ((nearOf t.2 y).length : Int) - 1 := by
  have e : need t [] x y = ((nearOf t.2 y).erase x).length := by
    unfold need
    rw [(nr_nd ht y).erase_eq_filter]
    congr 2
    funext c
    simp [bne]
    by_cases z : c = x <;> simp [z]
  rw [e, List.length_erase_of_mem h]
  have := List.length_pos_of_mem h
  omega
theorem need_same {t : Tr} {D : List (Int × Int)} {a b x y : Int} (h : y ≠ a ∨ x = b) : need t (D ++ [(a, b)]) x y = need t D x y := by
  unfold need
  congr 1
  refine List.filter_congr fun c _ => ?_
  refine decide_eq_decide.mpr ?_
  rw [List.mem_append, List.mem_singleton]
  constructor
  · rintro ⟨h1, h2⟩; exact ⟨h1, fun z => h2 (.inl z)⟩
  · rintro ⟨h1, h2⟩
    refine ⟨h1, fun z => z.elim h2 fun z => ?_⟩
    injection z with z1 z2
    rcases h with h | h
    · exact h z1
    · exact h1 (z2.trans h.symm)
theorem filt_one {l : List Int} (nd : l.Nodup) {b : Int} (hb : b ∈ l) {p q : Int → Bool} (h1 : p b = true) (h2 : q b = false) (h : ∀ c ∈ l, c ≠ b → p c = q c) : (l.filter p).length = (l.filter q).length + 1 := by
  induction l with
  | nil => exact nomatch hb
  | cons x l ih =>
    obtain ⟨n1, n2⟩ := List.nodup_cons.mp nd
    by_cases e : x = b
    · subst e
      rw [List.filter_cons_of_pos h1, List.filter_cons_of_neg (by rw [h2]; decide), List.length_cons]
      rw [List.filter_congr (l := l) fun c hc => h c (List.mem_cons_of_mem _ hc) fun z => n1 (z ▸ hc)]
    · have hb' : b ∈ l := (List.mem_cons.mp hb).resolve_left fun z => e z.symm
      have i := ih n2 hb' fun c hc => h c (List.mem_cons_of_mem _ hc)
      have hx := h x List.mem_cons_self e
      by_cases px : p x = true
      · rw [List.filter_cons_of_pos px, List.filter_cons_of_pos (hx ▸ px), List.length_cons, List.length_cons, i]
      · rw [List.filter_cons_of_neg px, List.filter_cons_of_neg (hx ▸ px), i]
theorem need_less {t : Tr} (ht : TreeOk t) {D : List (Int × Int)} {a b x : Int} (hb : b ∈ nearOf t.2 a) (hx : x ≠ b) (hD : (a, b) ∉ D) : need t D x a = need t (D ++ [(a, b)]) x a + 1 := by
  unfold need
  refine filt_one (nr_nd ht a) hb (decide_eq_true ⟨fun z => hx z.symm, hD⟩) (decide_eq_false fun z => z.2 (by simp)) fun c _ hc => ?_
  refine decide_eq_decide.mpr ?_
  rw [List.mem_append, List.mem_singleton]
  constructor
  · rintro ⟨h1, h2⟩
    refine ⟨h1, fun z => z.elim h2 fun z => ?_⟩
    injection z with z1 z2
    exact hc z2
  · rintro ⟨h1, h2⟩; exact ⟨h1, fun z => h2 (.inl z)⟩
theorem take_app {a : Type} {l : List a} {n : Nat} (m : List a) (h : n ≤ l.length) : (l ++ m).take n = l.take n := by
  rw [List.take_append_of_le_length h]
/-- each branch stands behind those in it -/
def Behind (t : Tr) (found : List (Int × Int)) : Prop := ∀ (j : Nat) (p : Int × Int), found[j]? = some p → ∀ c ∈ nearOf t.2 p.2, c ≠ p.1 → (p.2, c) ∈ found.take j
theorem Behind.snoc {t : Tr} {found : List (Int × Int)} {q : Int × Int} {n : Nat} (h : Behind t found) (hn : n ≤ found.length) (hq : need t (found.take n) q.1 q.2 = 0) : Behind t (found ++ [q]) := by
  intro j p e c hc hx
  by_cases hj : j < found.length
  · rw [List.getElem?_append_left hj] at e
    rw [take_app _ (Nat.le_of_lt hj)]
    exact h j p e c hc hx
  · rw [List.getElem?_append_right (by omega)] at e
    have hj2 : j - found.length = 0 := by
      have := (List.getElem?_eq_some_iff.mp e).1
      simp at this
      omega
    rw [hj2] at e
    cases e
    have hj3 : j = found.length := by omega
    subst hj3
    rw [take_app _ (Nat.le_refl _), List.take_length]
    exact List.mem_of_mem_take (need_zero.mp hq c hc hx)
structure Ord (t : Tr) (D : List (Int × Int)) (left : List ((Int × Int) × Int)) (found : List (Int × Int)) (cnt : Int × Int → Nat) : Prop where
  nd : found.Nodup
  sub : ∀ p ∈ found, p ∈ brs t
  keys : left.map (·.1) = brs t
  get : ∀ p ∈ brs t, dGet left p = some ((cnt p : Nat) : Int)
  iff : ∀ p ∈ brs t, (p ∈ found ↔ cnt p = 0)
  bh : Behind t found

def turnO (a b : Int) : Int → (List ((Int × Int) × Int)) × (List (Int × Int)) → M ((List ((Int × Int) × Int)) × (List (Int × Int))) := fun (y201 : Int) (st212 : (List ((Int × Int) × Int)) × (List (Int × Int))) =>
  if y201 ≠ b then (
  opt (dGet st212.1 ((y201, a).1, (y201, a).2)) >>= fun y230 =>
  putD st212.1 ((y201, a).1, (y201, a).2) (y230 - (1 : Int)) >>= fun z243 =>
  opt (dGet z243 (y201, a)) >>= fun y253 =>
  if y253 = (0 : Int) then (
  appL st212.2 (y201, a) >>= fun _ =>
  .ok (z243, (st212.2 ++ [(y201, a)])))
  else (
  .ok (z243, st212.2)))
  else (
  .ok (st212.1, st212.2))
theorem putD_ok {β : Type} {xs : List ((Int × Int) × β)} {k : Int × Int} {y : β} (h : xs.length < 16777216) : putD xs k y = .ok (dPut xs k y) := by
  unfold putD
  rw [if_pos h]
theorem inner_ok {t : Tr} (ht : TreeOk t) (hn : t.1.length ≤ 100000) {a b : Int} (hb : b ∈ nearOf t.2 a) {n : Nat} {left : List ((Int × Int) × Int)} {found : List (Int × Int)} (hat : found[n]? = some (a, b))
    (I : Ord t (found.take n) left found fun p => need t (found.take n) p.1 p.2) :
    ∃ left' found', loopN (turnO a b) (nearOf t.2 a) (left, found) = .ok (left', found') ∧ found <+: found' ∧ Ord t (found'.take (n + 1)) left' found' fun p => need t (found'.take (n + 1)) p.1 p.2 := by
  have hlen := ht.len
  have hn1 : n < found.length := (List.getElem?_eq_some_iff.mp hat).1
  have hD' : found.take (n + 1) = found.take n ++ [(a, b)] := by
    rw [List.take_add_one, hat]; rfl
  have hnot : (a, b) ∉ found.take n := fun z => by
    obtain ⟨m, hm, e⟩ := List.getElem_of_mem z
    rw [List.length_take] at hm
    have e2 : found[m]? = some (a, b) := by rw [← List.getElem?_take_of_lt (show m < n by omega), List.getElem?_eq_getElem (by rw [List.length_take]; exact hm), e]
    have := (List.getElem?_inj (by omega) I.nd).mp (e2.trans hat.symm)
    omega
  have bl := brs_len (t := t)
  obtain ⟨st, e, hP⟩ := loopN_run (f := turnO a b) (all := nearOf t.2 a) (x := (left, found))
    (fun pre st => found <+: st.2 ∧ Ord t (found.take n) st.1 st.2 fun p => if p.2 = a ∧ p.1 ∈ pre then need t (found.take n ++ [(a, b)]) p.1 p.2 else need t (found.take n) p.1 p.2)
    ⟨List.prefix_refl _, { I with
      get := fun p hp => by rw [if_neg fun z => nomatch z.2]; exact I.get p hp
      iff := fun p hp => by rw [if_neg fun z => nomatch z.2]; exact I.iff p hp }⟩ fun pre c post st ea ⟨hpre, J⟩ => by
      obtain ⟨lf, fd⟩ := st
      have hc : c ∈ nearOf t.2 a := by rw [ea]; simp
      have hcp : c ∉ pre := fun z => by
        have nd := nr_nd ht a
        rw [ea, List.nodup_append] at nd
        exact nd.2.2 c z c List.mem_cons_self rfl
      have hbr : (c, a) ∈ brs t := (brs_mem ht).mpr ((nr_sym ht).mpr hc)
      have other : ∀ p : Int × Int, p ≠ (c, a) → (if p.2 = a ∧ p.1 ∈ pre ++ [c] then need t (found.take n ++ [(a, b)]) p.1 p.2 else need t (found.take n) p.1 p.2) = (if p.2 = a ∧ p.1 ∈ pre then need t (found.take n ++ [(a, b)]) p.1 p.2 else need t (found.take n) p.1 p.2) := fun p hp => by
        by_cases z : p.2 = a ∧ p.1 ∈ pre
        · rw [if_pos z, if_pos ⟨z.1, List.mem_append_left _ z.2⟩]
        · rw [if_neg z, if_neg]
          rintro ⟨z1, z2⟩
          rcases List.mem_append.mp z2 with z2 | z2
          · exact z ⟨z1, z2⟩
          · exact hp (Prod.ext (List.mem_singleton.mp z2) z1)
      have mine : (if ((c, a) : Int × Int).2 = a ∧ ((c, a) : Int × Int).1 ∈ pre ++ [c] then need t (found.take n ++ [(a, b)]) c a else need t (found.take n) c a) = need t (found.take n ++ [(a, b)]) c a := if_pos ⟨rfl, by simp⟩
      have mine0 : (if ((c, a) : Int × Int).2 = a ∧ ((c, a) : Int × Int).1 ∈ pre then need t (found.take n ++ [(a, b)]) c a else need t (found.take n) c a) = need t (found.take n) c a := if_neg fun z => hcp z.2
      by_cases hcb : c = b
      · refine ⟨(lf, fd), by unfold turnO; rw [if_neg fun z => z hcb], hpre, { J with get := fun p hp => ?_, iff := fun p hp => ?_ }⟩
        · by_cases z : p = (c, a)
          · subst z
            rw [mine, need_same (.inr hcb), ← mine0]
            exact J.get _ hp
          · rw [other p z]; exact J.get p hp
        · by_cases z : p = (c, a)
          · subst z
            rw [mine, need_same (.inr hcb), ← mine0]
            exact J.iff _ hp
          · rw [other p z]; exact J.iff p hp
      · have g0 : dGet lf (c, a) = some ((need t (found.take n) c a : Nat) : Int) := by rw [← mine0]; exact J.get _ hbr
        have hl := need_less ht hb hcb hnot
        have hz : ((need t (found.take n) c a : Nat) : Int) - 1 = ((need t (found.take n ++ [(a, b)]) c a : Nat) : Int) := by omega
        have hlf : lf.length = (brs t).length := by rw [← J.keys, List.length_map]
        have hni : (c, a) ∉ fd := fun z => by
          have := (J.iff _ hbr).mp z
          rw [mine0] at this
          omega
        have g1 : ∀ p, dGet (dPut lf (c, a) ((need t (found.take n ++ [(a, b)]) c a : Nat) : Int)) p = if p = (c, a) then some ((need t (found.take n ++ [(a, b)]) c a : Nat) : Int) else dGet lf p := fun p => dGet_put
        have k1 : (dPut lf (c, a) ((need t (found.take n ++ [(a, b)]) c a : Nat) : Int)).map (·.1) = brs t := by rw [dPut_keys (by rw [J.keys]; exact hbr), J.keys]
        have get : ∀ p ∈ brs t, dGet (dPut lf (c, a) ((need t (found.take n ++ [(a, b)]) c a : Nat) : Int)) p = some (((if p.2 = a ∧ p.1 ∈ pre ++ [c] then need t (found.take n ++ [(a, b)]) p.1 p.2 else need t (found.take n) p.1 p.2) : Nat) : Int) := fun p hp => by
          rw [g1]
          by_cases z : p = (c, a)
          · subst z; rw [if_pos rfl, mine]
          · rw [if_neg z, other p z]; exact J.get p hp
        have fl : fd.length ≤ (brs t).length := nd_sub_len J.nd J.sub
        have step : turnO a b c (lf, fd) = if ((need t (found.take n ++ [(a, b)]) c a : Nat) : Int) = 0 then .ok (dPut lf (c, a) ((need t (found.take n ++ [(a, b)]) c a : Nat) : Int), fd ++ [(c, a)]) else .ok (dPut lf (c, a) ((need t (found.take n ++ [(a, b)]) c a : Nat) : Int), fd) := by
          unfold turnO
          rw [if_pos hcb, opt_b (show dGet (lf, fd).1 (((c, a) : Int × Int).1, ((c, a) : Int × Int).2) = _ from g0), hz, bind_ok (putD_ok (show (lf, fd).1.length < 16777216 by show lf.length < _; omega)), opt_b (show dGet (dPut (lf, fd).1 (((c, a) : Int × Int).1, ((c, a) : Int × Int).2) _) (c, a) = _ from (g1 _).trans (if_pos rfl))]
          by_cases z : ((need t (found.take n ++ [(a, b)]) c a : Nat) : Int) = 0
          · rw [if_pos z, if_pos z, bind_ok (appL_ok (show (lf, fd).2.length < 16777216 by show fd.length < _; omega))]
          · rw [if_neg z, if_neg z]
        by_cases z : ((need t (found.take n ++ [(a, b)]) c a : Nat) : Int) = 0
        · refine ⟨(_, fd ++ [(c, a)]), step.trans (if_pos z), hpre.trans (List.prefix_append _ _), ?_⟩
          have z' : need t (found.take n ++ [(a, b)]) c a = 0 := by omega
          have hfl : found.length ≤ fd.length := hpre.length_le
          have htk : fd.take (n + 1) = found.take n ++ [(a, b)] := by
            rw [← hD']
            obtain ⟨r, rfl⟩ := hpre
            rw [take_app _ (by omega)]
          exact {
            nd := List.nodup_append.mpr ⟨J.nd, by simp, fun x hx y hy e => hni (by rw [List.mem_singleton] at hy; rw [← hy, ← e]; exact hx)⟩
            sub := fun p hp => by
              rcases List.mem_append.mp hp with hp | hp
              · exact J.sub p hp
              · rw [List.mem_singleton.mp hp]; exact hbr
            keys := k1
            get := get
            iff := fun p hp => by
              by_cases q : p = (c, a)
              · subst q; rw [mine]; exact ⟨fun _ => z', fun _ => by simp⟩
              · rw [other p q]
                exact ⟨fun h => (J.iff p hp).mp ((List.mem_append.mp h).resolve_right fun h => q (List.mem_singleton.mp h)), fun h => List.mem_append_left _ ((J.iff p hp).mpr h)⟩
            bh := J.bh.snoc (n := n + 1) (by omega) (by rw [htk]; exact z') }
        · refine ⟨(_, fd), step.trans (if_neg z), hpre, ?_⟩
          exact { J with
            keys := k1
            get := get
            iff := fun p hp => by
              by_cases q : p = (c, a)
              · subst q; rw [mine]
                exact ⟨fun h => (hni h).elim, fun h => (z (by omega)).elim⟩
              · rw [other p q]; exact J.iff p hp }
  obtain ⟨left', found'⟩ := st
  obtain ⟨hpre, J⟩ := hP
  have htk : found'.take (n + 1) = found.take n ++ [(a, b)] := by
    rw [← hD']
    obtain ⟨r, rfl⟩ := hpre
    rw [take_app _ (by omega)]
  have cn : ∀ p ∈ brs t, (if p.2 = a ∧ p.1 ∈ nearOf t.2 a then need t (found.take n ++ [(a, b)]) p.1 p.2 else need t (found.take n) p.1 p.2) = need t (found'.take (n + 1)) p.1 p.2 := fun p hp => by
    rw [htk]
    by_cases z : p.2 = a
    · rw [if_pos ⟨z, by rw [← z]; exact (nr_sym ht).mp ((brs_mem ht).mp hp)⟩]
    · rw [if_neg fun q => z q.1, need_same (.inl z)]
  exact ⟨left', found', e, hpre, { J with get := fun p hp => by rw [← cn p hp]; exact J.get p hp, iff := fun p hp => by rw [← cn p hp]; exact J.iff p hp }⟩
theorem orders_ok (t : Tr) (ht : TreeOk t) (hn : t.1.length ≤ 100000) : ∃ od, m_order_of (nearAll t.1.length t.2) (brs t) = .ok od ∧ od.Nodup ∧ (∀ p, p ∈ od ↔ p ∈ brs t) ∧ Behind t od := by
  have hlen := ht.len
  have bl := brs_len (t := t)
  obtain ⟨w, hw⟩ := weight_tree ht
  have rg : ∀ p ∈ brs t, (0 ≤ p.1 ∧ p.1 < (t.1.length : Int)) ∧ (0 ≤ p.2 ∧ p.2 < (t.1.length : Int)) := fun p hp => by
    obtain ⟨c, hc⟩ := (near_step ht).mp ((brs_mem ht).mp hp)
    have := step_rg ht hc
    exact ⟨this.1, this.2.1⟩
  have near_at : ∀ x : Int, 0 ≤ x → x < (t.1.length : Int) → L2.atI (nearAll t.1.length t.2) x = some (nearOf t.2 x) := fun x h0 h1 => nearAll_at h0 (by omega)
  unfold m_order_of
  rw [bind_ok (compS_pure (fun p => some ((p.1, p.2), (((nearOf t.2 p.2).length : Int) - (1 : Int)))) (by omega) fun p hp => by
    rw [opt_b (near_at p.2 (rg p hp).2.1 (rg p hp).2.2)])]
  rw [List.filterMap_eq_map']
  have e0 : mergeDT ((brs t).map fun p => ((p.1, p.2), (((nearOf t.2 p.2).length : Int) - (1 : Int)))) = (brs t).map fun p => ((p.1, p.2), (((nearOf t.2 p.2).length : Int) - (1 : Int))) := by
    unfold mergeDT
    rw [merge_newT (by rw [List.nil_append, List.map_map]; exact (List.map_id (brs t)).symm ▸ brs_nd ht)]
    rfl
  have k0 : ((brs t).map fun p => ((p.1, p.2), (((nearOf t.2 p.2).length : Int) - (1 : Int)))).map (·.1) = brs t := by rw [List.map_map]; exact List.map_id (brs t)
  have g0 : ∀ p ∈ brs t, dGet ((brs t).map fun p => ((p.1, p.2), (((nearOf t.2 p.2).length : Int) - (1 : Int)))) p = some ((need t [] p.1 p.2 : Nat) : Int) := fun p hp => by
    rw [need_nil ht ((nr_sym ht).mp ((brs_mem ht).mp hp))]
    exact dGet_mem (by rw [k0]; exact brs_nd ht) (List.mem_map.mpr ⟨p, hp, rfl⟩)
  rw [e0]
  rw [bind_ok (compS_pure (fun p => if need t [] p.1 p.2 = 0 then some p else none) (by omega) fun p hp => by
    show (opt (dGet ((brs t).map fun p => ((p.1, p.2), (((nearOf t.2 p.2).length : Int) - (1 : Int)))) p) >>= _) = _
    rw [opt_b (g0 p hp)]
    by_cases z : need t [] p.1 p.2 = 0
    · rw [if_pos z, if_pos (by omega)]
    · rw [if_neg z, if_neg (by omega)])]
  have ef : (brs t).filterMap (fun p => if need t [] p.1 p.2 = 0 then some p else none) = (brs t).filter fun p => decide (need t [] p.1 p.2 = 0) := by
    rw [← List.filterMap_eq_filter]
    refine fm_congr fun p _ => ?_
    by_cases z : need t [] p.1 p.2 = 0 <;> simp [z, Option.guard]
  rw [ef]
  have I0 : Ord t [] ((brs t).map fun p => ((p.1, p.2), (((nearOf t.2 p.2).length : Int) - (1 : Int)))) ((brs t).filter fun p => decide (need t [] p.1 p.2 = 0)) fun p => need t [] p.1 p.2 := {
    nd := (brs_nd ht).filter _
    sub := fun p hp => (List.mem_filter.mp hp).1
    keys := k0
    get := g0
    iff := fun p hp => by rw [List.mem_filter]; exact ⟨fun h => of_decide_eq_true h.2, fun h => ⟨hp, decide_eq_true h⟩⟩
    bh := fun j p e c hc hx => by
      have h := of_decide_eq_true (List.mem_filter.mp (List.mem_of_getElem? e)).2
      exact nomatch need_zero.mp h c hc hx }
  obtain ⟨st, e, hQ⟩ := whL_run (r := Unit) (b := fun (st162 : Int × (List ((Int × Int) × Int)) × (List (Int × Int))) =>
    if st162.1 < (st162.2.2.length : Int) then (
    opt (atI st162.2.2 st162.1) >>= fun y174 =>
    opt (atI (nearAll t.1.length t.2) y174.1) >>= fun y191 =>
    loopN (turnO y174.1 y174.2) y191 (st162.2.1, st162.2.2) >>= fun st280 =>
    .ok (.go ((st162.1 + (1 : Int)), st280.1, st280.2)))
    else (
    .ok (.stop (st162.1, st162.2.1, st162.2.2))))
    (fun st => ∃ n : Nat, st.1 = (n : Int) ∧ n ≤ st.2.2.length ∧ Ord t (st.2.2.take n) st.2.1 st.2.2 fun p => need t (st.2.2.take n) p.1 p.2)
    (fun st => (brs t).length - st.1.toNat)
    (fun st => Ord t st.2.2 st.2.1 st.2.2 fun p => need t st.2.2 p.1 p.2) (fun st hst => by
      obtain ⟨at_, left, found⟩ := st
      obtain ⟨n, h1, h2, I⟩ := hst
      have h1 : at_ = (n : Int) := h1
      have h2 : n ≤ found.length := h2
      have I : Ord t (found.take n) left found fun p => need t (found.take n) p.1 p.2 := I
      subst h1
      have fl : found.length ≤ (brs t).length := nd_sub_len I.nd I.sub
      by_cases z : n < found.length
      · left
        obtain ⟨⟨a, b⟩, hab⟩ : ∃ p, found[n]? = some p := ⟨found[n], List.getElem?_eq_getElem z⟩
        have hbr := I.sub _ (List.mem_of_getElem? hab)
        have hb := (brs_mem ht).mp hbr
        obtain ⟨left', found', e, hpre, J⟩ := inner_ok ht hn hb hab I
        have hfl := hpre.length_le
        refine ⟨((n : Int) + 1, left', found'), ?_, ⟨n + 1, rfl, (show n + 1 ≤ found'.length by omega), J⟩, show (brs t).length - ((n : Int) + 1).toNat < (brs t).length - ((n : Nat) : Int).toNat by omega⟩
        show (if ((n : Nat) : Int) < (found.length : Int) then _ else _) = _
        rw [if_pos (by omega), opt_b (show L2.atI found ((n : Nat) : Int) = some (a, b) by rw [atI_nat]; exact hab)]
        show (opt (atI (nearAll t.1.length t.2) a) >>= _) = _
        rw [opt_b (near_at a (rg _ hbr).1.1 (rg _ hbr).1.2)]
        show (loopN (turnO a b) (nearOf t.2 a) (left, found) >>= _) = _
        rw [bind_ok e]
      · right
        refine ⟨_, by show (if ((n : Nat) : Int) < (found.length : Int) then _ else _) = _; rw [if_neg (by omega)], ?_⟩
        have hn2 : n = found.length := by omega
        rw [hn2, List.take_length] at I
        exact I) 1000000 (0, (brs t).map (fun (p : Int × Int) => ((p.1, p.2), (((nearOf t.2 p.2).length : Int) - (1 : Int)))), (brs t).filter fun p => decide (need t [] p.1 p.2 = 0)) ⟨0, rfl, Nat.zero_le _, I0⟩ (show (brs t).length - (0 : Int).toNat < 1000000 by omega)
  obtain ⟨at_, left, found⟩ := st
  have J : Ord t found left found fun p => need t found p.1 p.2 := hQ
  refine ⟨found, ?_, J.nd, fun p => ⟨J.sub p, fun hp => ?_⟩, J.bh⟩
  · exact bind_ok e _
  · have all : ∀ (N : Nat) (p : Int × Int), p ∈ brs t → w p.1 p.2 ≤ N → p ∈ found := fun N => by
      induction N with
      | zero =>
        intro p hp hN
        have := (hw p.1 p.2 ((nr_sym ht).mp ((brs_mem ht).mp hp))).1
        omega
      | succ N ih =>
        intro p hp hN
        refine (J.iff p hp).mpr (need_zero.mpr fun c hc hx => ih (p.2, c) ((brs_mem ht).mpr hc) ?_)
        have h1 := (hw p.1 p.2 ((nr_sym ht).mp ((brs_mem ht).mp hp))).1
        have h2 := sumF_mem (f := w p.2) (List.mem_filter.mpr ⟨hc, decide_eq_true hx⟩ : c ∈ (nearOf t.2 p.2).filter fun c => decide (c ≠ p.1))
        show w p.2 c ≤ N
        omega
    exact all _ p hp (Nat.le_refl _)

/-! ### rows and seats by the program alone -/
def subs (t : Tr) (a b : Int) : List Int := (nearOf t.2 b).filter fun c => decide (c ≠ a)
/-- f tells the rows, g the seats -/
structure RP (t : Tr) (r : Rule) (f : Int → Int → List Int) (g : Int → Int) : Prop where
  need : m_need_rule r = .ok ()
  prog : ∀ a b l, Step t a b l → ∃ so own, m_row_with t r b ((subs t a b).map (f b)) = .ok so ∧ L2.atI t.1 b = some own ∧ m_over_tie r so own l = .ok (f a b)
  seat : ∀ p, 0 ≤ p → p < (t.1.length : Int) → ∃ so own, L2.atI t.1 p = some own ∧ m_row_with t r p ((nearOf t.2 p).map (f p)) = .ok so ∧ m_told_by r so own = .ok (g p)
theorem rows_known_ok (t : Tr) (ht : TreeOk t) (hn : t.1.length ≤ 100000) {r : Rule} {f : Int → Int → List Int} {g : Int → Int} (RF : RP t r f g) :
    ∃ rows, m_rows_known t r = .ok rows ∧ ∀ a b l, Step t a b l → dGet rows (a, b) = some (f a b) := by
  have hlen := ht.len
  have bl := brs_len (t := t)
  obtain ⟨od, o1, o2, o3, o4⟩ := orders_ok t ht hn
  have odl : od.length ≤ (brs t).length := nd_sub_len o2 fun p hp => (o3 p).mp hp
  unfold m_rows_known
  rw [bind_ok (tied_places_ok (t.1.length : Int) t.2 (by omega) (by omega) (by omega) ht.tie)]
  rw [show ((t.1.length : Int)).toNat = t.1.length from rfl]
  rw [bind_ok (lengths_ok t ht (by omega)), bind_ok (show m_every_branch t = .ok (brs t) by unfold m_every_branch; rw [bind_ok (lengths_ok t ht (by omega))]; rfl), bind_ok o1]
  obtain ⟨rows, e, h1, h2⟩ := loopN_run (f := fun (y89 : (Int × Int)) (st100 : (List ((Int × Int) × (List Int)))) =>
    opt (atI (nearAll t.1.length t.2) y89.2) >>= fun y122 =>
    compS (fun (y132 : Int) (st149 : Unit) =>
    if y132 ≠ y89.1 then (
    opt (dGet st100 (y89.2, y132)) >>= fun y163 =>
    .ok (some y163, ()))
    else (
    .ok (none, ()))) y122 () >>= fun q186 =>
    m_row_with t r y89.2 q186.1 >>= fun r192 =>
    opt (atI t.1 y89.2) >>= fun y205 =>
    opt (dGet (lenOf t.2) (y89.1, y89.2)) >>= fun y222 =>
    m_over_tie r r192 y205 y222 >>= fun r234 =>
    putD st100 ((y89.1, y89.2).1, (y89.1, y89.2).2) r234 >>= fun z268 =>
    .ok z268) (all := od) (x := []) (fun pre st => (∀ p ∈ pre, dGet st p = some (f p.1 p.2)) ∧ st.length ≤ pre.length) ⟨(fun _ h => nomatch h), Nat.le_refl _⟩ fun pre y post st ea ⟨h1, h2⟩ => by
      obtain ⟨a, b⟩ := y
      have hbr : (a, b) ∈ brs t := (o3 _).mp (by rw [ea]; simp)
      obtain ⟨l, hs⟩ := (near_step ht).mp ((brs_mem ht).mp hbr)
      have rg := (step_rg ht hs).2.1
      have hnl : (nearOf t.2 b).length ≤ t.2.length := by
        unfold nearOf
        rw [sortT_len]
        exact List.length_filterMap_le _ _
      have hod : od[pre.length]? = some (a, b) := by rw [ea, List.getElem?_append_right (Nat.le_refl _), Nat.sub_self]; rfl
      have htk : od.take pre.length = pre := by rw [ea]; simp
      have hb := o4 _ _ hod
      rw [htk] at hb
      obtain ⟨so, own, p1, p2, p3⟩ := RF.prog a b l hs
      have hpl : pre.length < od.length := (List.getElem?_eq_some_iff.mp hod).1
      refine ⟨dPut st (a, b) (f a b), ?_, fun p hp => ?_, ?_⟩
      · show (opt (atI (nearAll t.1.length t.2) b) >>= _) = _
        rw [opt_b (show L2.atI (nearAll t.1.length t.2) b = some (nearOf t.2 b) from nearAll_at rg.1 (by omega))]
        rw [bind_ok (compS_pure (fun c => if c ≠ a then some (f b c) else none) (by omega) fun c hc => by
          show (if c ≠ a then _ else _) = _
          by_cases z : c ≠ a
          · rw [if_pos z, if_pos z]
            show (opt (dGet st (b, c)) >>= _) = _
            rw [opt_b (h1 _ (hb c hc z))]
          · rw [if_neg z, if_neg z])]
        have ef : (nearOf t.2 b).filterMap (fun c => if c ≠ a then some (f b c) else none) = (subs t a b).map (f b) := by
          unfold subs
          rw [← List.filterMap_eq_map', List.filterMap_filter]
          refine fm_congr fun c _ => ?_
          by_cases z : c ≠ a
          · rw [if_pos z, if_pos (decide_eq_true z)]
          · rw [if_neg z, if_neg (by simpa using z)]
        rw [ef]
        show (m_row_with t r b _ >>= _) = _
        rw [bind_ok p1]
        show (opt (atI t.1 b) >>= _) = _
        rw [opt_b p2]
        show (opt (dGet (lenOf t.2) (a, b)) >>= _) = _
        rw [opt_b (step_len ht hs), bind_ok p3]
        show (putD st (a, b) (f a b) >>= _) = _
        rw [bind_ok (putD_ok (by omega))]
      · rw [dGet_put]
        rcases List.mem_append.mp hp with hp | hp
        · by_cases z : p = (a, b)
          · subst z; rw [if_pos rfl]
          · rw [if_neg z]; exact h1 p hp
        · rw [List.mem_singleton.mp hp, if_pos rfl]
      · rw [List.length_append, List.length_singleton]
        unfold dPut
        split
        · rw [List.length_map]; omega
        · rw [List.length_append, List.length_singleton]; omega
  refine ⟨rows, (bind_ok e _).trans rfl, fun a b l hs => h1 (a, b) ((o3 _).mpr ((brs_mem ht).mpr ((near_step ht).mpr ⟨l, hs⟩)))⟩
theorem enumL_mem {b : Type} {xs : List b} {y : Int × b} (h : y ∈ enumL xs) : 0 ≤ y.1 ∧ y.1 < (xs.length : Int) ∧ xs[y.1.toNat]? = some y.2 := by
  unfold enumL at h
  obtain ⟨q, hq, e⟩ := List.mem_map.mp h
  obtain ⟨h1, h2, h3⟩ := List.mem_zipIdx hq
  subst e
  show (0 : Int) ≤ (q.2 : Int) ∧ (q.2 : Int) < (xs.length : Int) ∧ xs[((q.2 : Int)).toNat]? = some q.1
  have h2 : q.2 < xs.length := by omega
  refine ⟨by omega, by omega, ?_⟩
  rw [Int.toNat_natCast, List.getElem?_eq_getElem h2, h3]
  simp
theorem seats_by_ok (t : Tr) (ht : TreeOk t) (hn : t.1.length ≤ 100000) {r : Rule} {f : Int → Int → List Int} {g : Int → Int} (RF : RP t r f g) {rows : List ((Int × Int) × List Int)} (hr : ∀ a b l, Step t a b l → dGet rows (a, b) = some (f a b)) :
    m_seats_by t r rows = .ok ((rangeL 0 (t.1.length : Int)).map g) := by
  have hlen := ht.len
  unfold m_seats_by
  rw [bind_ok (tied_places_ok (t.1.length : Int) t.2 (by omega) (by omega) (by omega) ht.tie)]
  rw [show ((t.1.length : Int)).toNat = t.1.length from rfl]
  obtain ⟨st, e, h⟩ := loopN_run (f := fun (y43 : (Int × Int)) (st54 : (List Int)) =>
    opt (atI (nearAll t.1.length t.2) y43.1) >>= fun y88 =>
    compS (fun (y98 : Int) (st115 : Unit) =>
    opt (dGet rows (y43.1, y98)) >>= fun y133 =>
    .ok (some y133, ())) y88 () >>= fun q156 =>
    m_row_with t r y43.1 q156.1 >>= fun r162 =>
    m_told_by r r162 y43.2 >>= fun r170 =>
    appL st54 r170 >>= fun _ =>
    .ok (st54 ++ [r170])) (all := enumL t.1) (x := []) (fun pre st => st = pre.map fun y => g y.1) rfl fun pre y post st ea es => by
      obtain ⟨p, own⟩ := y
      have hy : (p, own) ∈ enumL t.1 := by rw [ea]; simp
      obtain ⟨p0, p1, hp⟩ := enumL_mem hy
      have p0 : 0 ≤ p := p0
      have p1 : p < (t.1.length : Int) := p1
      obtain ⟨so, own', q1, q2, q3⟩ := RF.seat p p0 p1
      obtain ⟨ow, w1, w2⟩ := atI_some (xs := t.1) (j := p) p0 p1
      have : own' = own := by
        have h1 : ow = own := Option.some.inj (w2.symm.trans hp)
        exact (Option.some.inj (q1.symm.trans w1)).trans h1
      subst this
      have hnl : (nearOf t.2 p).length ≤ t.2.length := by
        unfold nearOf
        rw [sortT_len]
        exact List.length_filterMap_le _ _
      have hpl : pre.length < (enumL t.1).length := by rw [ea]; simp
      rw [enumL_len] at hpl
      refine ⟨st ++ [g p], ?_, by rw [es, List.map_append]; rfl⟩
      show (opt (atI (nearAll t.1.length t.2) p) >>= _) = _
      rw [opt_b (show L2.atI (nearAll t.1.length t.2) p = some (nearOf t.2 p) from nearAll_at p0 (by omega))]
      rw [bind_ok (compS_pure (fun c => some (f p c)) (by omega) fun c hc => by
        obtain ⟨lc, hsc⟩ := (near_step ht).mp hc
        show (opt (dGet rows (p, c)) >>= _) = _
        rw [opt_b (hr p c lc hsc)])]
      rw [List.filterMap_eq_map']
      show (m_row_with t r p _ >>= _) = _
      rw [bind_ok q2]
      show (m_told_by r so own' >>= _) = _
      rw [bind_ok q3, bind_ok (appL_ok (by rw [es, List.length_map]; omega))]
  rw [bind_ok e, h]
  have he : (enumL t.1).map (fun y => g y.1) = (rangeL 0 (t.1.length : Int)).map g := by
    unfold enumL rangeL
    rw [List.map_map, List.map_map]
    have h1 : (t.1.zipIdx.map fun p => g ((p.2 : Nat) : Int)) = (t.1.zipIdx.map Prod.snd).map fun (i : Nat) => g (i : Int) := by rw [List.map_map]; rfl
    show (t.1.zipIdx.map fun p => g ((p.2 : Nat) : Int)) = _
    rw [h1, List.zipIdx_map_snd, ← List.range_eq_range']
    rw [show ((t.1.length : Int) - 0).toNat = t.1.length by omega]
    refine List.map_congr_left fun i _ => ?_
    show g (i : Int) = g (0 + (i : Int))
    rw [Int.zero_add]
  rw [he]
theorem all_seats_rp (t : Tr) (ht : TreeOk t) (hn : t.1.length ≤ 100000) {r : Rule} {f : Int → Int → List Int} {g : Int → Int} (RF : RP t r f g) : m_all_seats t r = .ok ((rangeL 0 (t.1.length : Int)).map g) := by
  obtain ⟨rows, h1, h2⟩ := rows_known_ok t ht hn RF
  unfold m_all_seats
  rw [bind_ok RF.need, bind_ok h1, bind_ok (seats_by_ok t ht hn RF h2)]
theorem near_len (t : Tr) (b : Int) : (nearOf t.2 b).length ≤ t.2.length := by
  unfold nearOf
  rw [sortT_len]
  exact List.length_filterMap_le _ _

/-! ### the part that hangs at a neighbour -/
inductive Cn (t : Tr) (p : Int) : Int → Int → Prop
  | me (x : Int) : Cn t p x x
  | on {x y z l : Int} : Cn t p x y → Step t y z l → z ≠ p → Cn t p x z
theorem Cn.trans {t : Tr} {p x y z : Int} (h : Cn t p x y) (h2 : Cn t p y z) : Cn t p x z := by
  induction h2 with
  | me => exact h
  | on _ hs hz ih => exact Cn.on ih hs hz
theorem Cn.ne {t : Tr} {p x y : Int} (h : Cn t p x y) (hx : x ≠ p) : y ≠ p := by
  cases h with
  | me => exact hx
  | on _ _ hz => exact hz
theorem Cn.sym {t : Tr} {p x y : Int} (h : Cn t p x y) (hx : x ≠ p) : Cn t p y x := by
  induction h with
  | me => exact Cn.me _
  | on h1 hs hz ih => exact (Cn.on (Cn.me _) (stp_sym hs) (h1.ne hx)).trans ih
theorem Cn.more {t t' : Tr} {p x y : Int} (h : Cn t p x y) (hm : ∀ a b l, Step t a b l → Step t' a b l) : Cn t' p x y := by
  induction h with
  | me => exact Cn.me _
  | on _ hs hz ih => exact Cn.on ih (hm _ _ _ hs) hz
theorem Cn.way {t : Tr} {p x y : Int} (h : Cn t p x y) : ∃ ps d, Way t x ps y d := by
  induction h with
  | me => exact ⟨[], 0, Way.one _⟩
  | on _ hs _ ih =>
    obtain ⟨ps, d, hw⟩ := ih
    exact ⟨_, _, way_snoc hw hs⟩
theorem Way.more {t t' : Tr} {x y d : Int} {ps : List Int} (h : Way t x ps y d) (hm : ∀ a b l, Step t a b l → Step t' a b l) : Way t' x ps y d := by
  induction h with
  | one x => exact Way.one x
  | cons hs _ ih => exact Way.cons (hm _ _ _ hs) ih
theorem Way.cn {t : Tr} {p x y d : Int} {ps : List Int} (h : Way t x ps y d) (hp : p ∉ ps) : Cn t p x y := by
  induction h with
  | one x => exact Cn.me x
  | cons hs _ ih => exact (Cn.on (Cn.me _) hs fun e => hp (by rw [← e]; exact List.mem_cons_self)).trans (ih fun z => hp (List.mem_cons_of_mem _ z))

/-! ### the part that hangs at b, from a on -/
section
variable {t : Tr} (ht : TreeOk t)
include ht
theorem cn_path {a b z : Int} (h : Cn t a b z) (hb : b ≠ a) : ∃ ps d, Way t b ps z d ∧ (b :: ps).Nodup ∧ a ∉ b :: ps := by
  have hw : ∃ ps d, Way t b ps z d ∧ a ∉ b :: ps := by
    induction h with
    | me => exact ⟨[], 0, Way.one _, fun z => hb (List.mem_singleton.mp z).symm⟩
    | on h1 hs hz ih =>
      obtain ⟨ps, d, hw, ha⟩ := ih
      refine ⟨_, _, way_snoc hw hs, fun z => ?_⟩
      rw [← List.cons_append] at z
      rcases List.mem_append.mp z with z | z
      · exact ha z
      · exact hz (List.mem_singleton.mp z).symm
  obtain ⟨ps, d, hw, ha⟩ := hw
  obtain ⟨qs, e, h1, nd, hm⟩ := way_short hw
  exact ⟨qs, e, h1, nd, fun z => ha (hm a z)⟩
/-- a way to a place tied to b that does not lead over it at once leads away -/
theorem no_back {a b c l z d : Int} {ps : List Int} (hs : Step t a b l) (hc : c ≠ a) (hw : Way t c ps z d) (hbc : ∃ m, Step t b c m) (nd : (b :: c :: ps).Nodup) : a ∉ c :: ps := fun ha => by
  obtain ⟨m, hbc⟩ := hbc
  obtain ⟨qs, e, h1, rs, h2⟩ := way_pre hw ha
  rw [h2] at nd
  have w1 : Way t b (c :: qs) a (m + e) := Way.cons hbc h1
  have hab := (step_rg ht hs).2.2
  have n1 : (b :: c :: qs).Nodup := by
    rw [← List.cons_append, ← List.cons_append] at nd
    exact (List.nodup_append.mp nd).1
  have e1 := (way_uniq ht (Way.cons (stp_sym hs) (Way.one a)) w1 (List.nodup_cons.mpr ⟨fun z => hab (List.mem_singleton.mp z).symm, by simp⟩) n1).1
  exact hc (List.cons.inj e1).1.symm
theorem cn_split {a b l z : Int} (hs : Step t a b l) : Cn t a b z ↔ z = b ∨ ∃ c ∈ subs t a b, Cn t b c z := by
  have hab := (step_rg ht hs).2.2
  constructor
  · intro h
    obtain ⟨ps, d, hw, nd, ha⟩ := cn_path ht h hab.symm
    cases hw with
    | one => exact .inl rfl
    | @cons _ c _ m e qs hs2 hw2 =>
      have nd := List.nodup_cons.mp nd
      refine .inr ⟨c, List.mem_filter.mpr ⟨(near_step ht).mpr ⟨m, hs2⟩, decide_eq_true fun e => ha (by rw [← e]; simp)⟩, hw2.cn fun z => nd.1 (List.mem_cons_of_mem _ z)⟩
  · rintro (e | ⟨c, hc, h⟩)
    · rw [e]; exact Cn.me b
    · obtain ⟨hc1, hc2⟩ := List.mem_filter.mp hc
      have hca := of_decide_eq_true hc2
      obtain ⟨m, hbc⟩ := (near_step ht).mp hc1
      obtain ⟨ps, d, hw, nd, hb⟩ := cn_path ht h (step_rg ht hbc).2.2.symm
      have na := no_back ht hs hca hw ⟨m, hbc⟩ (List.nodup_cons.mpr ⟨hb, nd⟩)
      exact (Way.cons hbc hw).cn na
theorem cn_dist {D : Int → Int → Int} (hD : ∀ x y, 0 ≤ x → x < (t.1.length : Int) → 0 ≤ y → y < (t.1.length : Int) → Dist t x y (D x y)) {a b l z : Int} (hs : Step t a b l) (h : Cn t a b z) : (0 ≤ z ∧ z < (t.1.length : Int)) ∧ z ≠ a ∧ D a z = l + D b z := by
  have rg := step_rg ht hs
  obtain ⟨ps, d, hw, nd, ha⟩ := cn_path ht h rg.2.2.symm
  have rz := way_rg ht hw rg.2.1.1 rg.2.1.2
  refine ⟨rz, fun e => ha (by rw [← e]; exact way_mem hw), ?_⟩
  rw [dist_uniq ht (hD b z rg.2.1.1 rg.2.1.2 rz.1 rz.2) ⟨ps, hw, nd⟩]
  exact dist_uniq ht (hD a z rg.1.1 rg.1.2 rz.1 rz.2) ⟨b :: ps, Way.cons hs hw, List.nodup_cons.mpr ⟨ha, nd⟩⟩
theorem cn_apart {b c c' z : Int} (hc : c ∈ nearOf t.2 b) (hc' : c' ∈ nearOf t.2 b) (h : Cn t b c z) (h' : Cn t b c' z) : c = c' := by
  obtain ⟨m, hs⟩ := (near_step ht).mp hc
  obtain ⟨m', hs'⟩ := (near_step ht).mp hc'
  obtain ⟨ps, d, hw, nd, hb⟩ := cn_path ht h (step_rg ht hs).2.2.symm
  obtain ⟨ps', d', hw', nd', hb'⟩ := cn_path ht h' (step_rg ht hs').2.2.symm
  have e := (way_uniq ht (Way.cons hs hw) (Way.cons hs' hw') (List.nodup_cons.mpr ⟨hb, nd⟩) (List.nodup_cons.mpr ⟨hb', nd'⟩)).1
  exact (List.cons.inj e).1
theorem cn_all {p z : Int} (p0 : 0 ≤ p) (p1 : p < (t.1.length : Int)) (z0 : 0 ≤ z) (z1 : z < (t.1.length : Int)) (h : z ≠ p) : ∃ c ∈ nearOf t.2 p, Cn t p c z := by
  obtain ⟨d, ps, hw, nd⟩ := dist_all ht p0 p1 z z0 z1
  cases hw with
  | one => exact (h rfl).elim
  | @cons _ q _ l d' qs hs hw2 =>
    have nd := List.nodup_cons.mp nd
    exact ⟨q, (near_step ht).mpr ⟨_, hs⟩, hw2.cn fun z => nd.1 (List.mem_cons_of_mem _ z)⟩
end
open Classical in
/-- the places of it -/
noncomputable def partL (t : Tr) (a b : Int) : List Int := (rangeL 0 (t.1.length : Int)).filter fun z => decide (Cn t a b z)
theorem partL_nd (t : Tr) (a b : Int) : (partL t a b).Nodup := (rangeL_nodup _ _).filter _
theorem partL_len (t : Tr) (a b : Int) : (partL t a b).length ≤ t.1.length := by
  unfold partL
  refine Nat.le_trans (List.length_filter_le _ _) ?_
  rw [rangeL_length]
  omega
section
variable {t : Tr} (ht : TreeOk t)
include ht
theorem partL_mem {a b l z : Int} (hs : Step t a b l) : z ∈ partL t a b ↔ Cn t a b z := by
  obtain ⟨D, hD⟩ := dist_fun ht
  unfold partL
  rw [List.mem_filter, rangeL_mem]
  exact ⟨fun h => @of_decide_eq_true _ (Classical.propDecidable _) h.2, fun h => ⟨(cn_dist ht hD hs h).1, @decide_eq_true _ (Classical.propDecidable _) h⟩⟩
theorem flat_parts_nd {b : Int} : ∀ {cs : List Int}, cs.Nodup → (∀ c ∈ cs, c ∈ nearOf t.2 b) → (cs.flatMap (partL t b)).Nodup ∧ ∀ z, z ∈ cs.flatMap (partL t b) ↔ ∃ c ∈ cs, Cn t b c z
  | [], _, _ => ⟨by simp, fun z => by simp⟩
  | c :: cs, nd, hc => by
    obtain ⟨n1, n2⟩ := List.nodup_cons.mp nd
    obtain ⟨i1, i2⟩ := flat_parts_nd n2 fun x hx => hc x (List.mem_cons_of_mem _ hx)
    obtain ⟨m, hs⟩ := (near_step ht).mp (hc c List.mem_cons_self)
    rw [List.flatMap_cons]
    refine ⟨List.nodup_append.mpr ⟨partL_nd t b c, i1, fun u hu v hv e => ?_⟩, fun z => ?_⟩
    · subst e
      obtain ⟨c', hc', h'⟩ := (i2 u).mp hv
      have := cn_apart ht (hc c List.mem_cons_self) (hc c' (List.mem_cons_of_mem _ hc')) ((partL_mem ht hs).mp hu) h'
      exact n1 (by rw [this]; exact hc')
    · rw [List.mem_append, partL_mem ht hs, i2]
      constructor
      · rintro (h | ⟨c', h1, h2⟩)
        · exact ⟨c, List.mem_cons_self, h⟩
        · exact ⟨c', List.mem_cons_of_mem _ h1, h2⟩
      · rintro ⟨c', h1, h2⟩
        rcases List.mem_cons.mp h1 with e | e
        · exact .inl (by rw [← e]; exact h2)
        · exact .inr ⟨c', e, h2⟩
theorem subs_nd (a b : Int) : (subs t a b).Nodup := (nr_nd ht b).filter _
theorem partL_perm {a b l : Int} (hs : Step t a b l) : (partL t a b).Perm (b :: (subs t a b).flatMap (partL t b)) := by
  obtain ⟨D, hD⟩ := dist_fun ht
  have hsub : ∀ c ∈ subs t a b, c ∈ nearOf t.2 b := fun c hc => (List.mem_filter.mp hc).1
  obtain ⟨n1, n2⟩ := flat_parts_nd ht (subs_nd ht a b) hsub
  refine (List.perm_ext_iff_of_nodup (partL_nd t a b) (List.nodup_cons.mpr ⟨fun h => ?_, n1⟩)).mpr fun z => ?_
  · obtain ⟨c, hc, h2⟩ := (n2 b).mp h
    obtain ⟨m, hs2⟩ := (near_step ht).mp (hsub c hc)
    exact (cn_dist ht hD hs2 h2).2.1 rfl
  · rw [partL_mem ht hs, cn_split ht hs, List.mem_cons, n2]
theorem all_perm {p : Int} (p0 : 0 ≤ p) (p1 : p < (t.1.length : Int)) : (rangeL 0 (t.1.length : Int)).Perm (p :: (nearOf t.2 p).flatMap (partL t p)) := by
  obtain ⟨D, hD⟩ := dist_fun ht
  obtain ⟨n1, n2⟩ := flat_parts_nd ht (nr_nd ht p) fun c hc => hc
  refine (List.perm_ext_iff_of_nodup (rangeL_nodup _ _) (List.nodup_cons.mpr ⟨fun h => ?_, n1⟩)).mpr fun z => ?_
  · obtain ⟨c, hc, h2⟩ := (n2 p).mp h
    obtain ⟨m, hs2⟩ := (near_step ht).mp hc
    exact (cn_dist ht hD hs2 h2).2.1 rfl
  · rw [rangeL_mem, List.mem_cons, n2]
    constructor
    · intro h
      by_cases e : z = p
      · exact .inl e
      · exact .inr (cn_all ht p0 p1 h.1 h.2 e)
    · rintro (e | ⟨c, hc, h2⟩)
      · rw [e]; exact ⟨p0, p1⟩
      · obtain ⟨m, hs2⟩ := (near_step ht).mp hc
        exact (cn_dist ht hD hs2 h2).1
end

/-! ### the row down a branch, a seat, one by one -/
theorem row_down_rp (t : Tr) (ht : TreeOk t) (hn : t.1.length ≤ 100000) {r : Rule} {f : Int → Int → List Int} {g : Int → Int} (RF : RP t r f g) {w : Int → Int → Nat} (hw : ∀ a b, a ∈ nearOf t.2 b → w a b = 1 + sumF ((nearOf t.2 b).filter fun c => decide (c ≠ a)) (w b) ∧ w a b ≤ t.1.length) :
    ∀ (k : Nat) (a b l : Int), Step t a b l → w a b ≤ k → m_row_down k t r (nearAll t.1.length t.2) (lenOf t.2) (a, b) = .ok (f a b)
  | 0, a, b, l, hs, h => by
    have := (hw a b ((near_step ht).mpr ⟨l, stp_sym hs⟩)).1
    omega
  | k + 1, a, b, l, hs, h => by
    have hlen := ht.len
    have rg := (step_rg ht hs).2.1
    have nl := near_len t b
    have hab := (hw a b ((near_step ht).mpr ⟨l, stp_sym hs⟩)).1
    obtain ⟨so, own, p1, p2, p3⟩ := RF.prog a b l hs
    unfold m_row_down
    rw [opt_b (show L2.atI (nearAll t.1.length t.2) b = some (nearOf t.2 b) from nearAll_at rg.1 (by omega))]
    refine compS_pureB (fun c => if c ≠ a then some (f b c) else none) (by omega) (fun c hc => ?_) ?_
    · show (if c ≠ a then _ else _) = _
      by_cases z : c ≠ a
      · obtain ⟨lc, hsc⟩ := (near_step ht).mp hc
        have := sumF_mem (l := (nearOf t.2 b).filter fun c => decide (c ≠ a)) (f := w b) (List.mem_filter.mpr ⟨hc, decide_eq_true z⟩)
        rw [if_pos z, if_pos z]
        show (m_row_down k t r (nearAll t.1.length t.2) (lenOf t.2) (b, c) >>= _) = _
        rw [bind_ok (row_down_rp t ht hn RF hw k b c lc hsc (by omega))]
      · rw [if_neg z, if_neg z]
    · have ef : (nearOf t.2 b).filterMap (fun c => if c ≠ a then some (f b c) else none) = (subs t a b).map (f b) := by
        unfold subs
        rw [← List.filterMap_eq_map', List.filterMap_filter]
        refine fm_congr fun c _ => ?_
        by_cases z : c ≠ a
        · rw [if_pos z, if_pos (decide_eq_true z)]
        · rw [if_neg z, if_neg (by simpa using z)]
      rw [ef]
      dsimp only
      rw [bind_ok p1, opt_b p2, opt_b (step_len ht hs), bind_ok p3]
theorem seat_worth_rp (t : Tr) (ht : TreeOk t) (hn : t.1.length ≤ 60) {r : Rule} {f : Int → Int → List Int} {g : Int → Int} (RF : RP t r f g) {p : Int} (p0 : 0 ≤ p) (p1 : p < (t.1.length : Int)) : m_seat_worth t r p = .ok (g p) := by
  have hlen := ht.len
  obtain ⟨w, hw⟩ := weight_tree ht
  obtain ⟨so, own, q1, q2, q3⟩ := RF.seat p p0 p1
  have nl := near_len t p
  unfold m_seat_worth
  rw [bind_ok RF.need, bind_ok (need_place_ok t p p0 p1), bind_ok (tied_places_ok (t.1.length : Int) t.2 (by omega) (by omega) (by omega) ht.tie)]
  rw [show ((t.1.length : Int)).toNat = t.1.length from rfl]
  rw [bind_ok (lengths_ok t ht (by omega)), opt_b (show L2.atI (nearAll t.1.length t.2) p = some (nearOf t.2 p) from nearAll_at p0 (by omega))]
  refine compS_mapB (f p) (by omega) (fun c hc => ?_) ?_
  · obtain ⟨lc, hsc⟩ := (near_step ht).mp hc
    have := (hw p c ((near_step ht).mpr ⟨lc, stp_sym hsc⟩)).2
    show (m_row_down 60 t r (nearAll t.1.length t.2) (lenOf t.2) (p, c) >>= _) = _
    rw [bind_ok (row_down_rp t ht (by omega) RF hw 60 p c lc hsc (by omega))]
  · dsimp only
    rw [bind_ok q2, opt_b q1, bind_ok q3]

theorem range_map_at {b : Type} (f : Int → b) {n : Nat} {x : Int} (x0 : 0 ≤ x) (x1 : x < (n : Int)) : ((rangeL 0 (n : Int)).map f)[x.toNat]? = some (f x) := by
  unfold rangeL
  rw [List.map_map, List.getElem?_map, List.getElem?_range (by omega)]
  show some (f (0 + ((x.toNat : Nat) : Int))) = _
  rw [show (0 : Int) + ((x.toNat : Nat) : Int) = x by omega]
theorem range_map_get {b : Type} (f : Int → b) {n : Nat} {x : Int} (x0 : 0 ≤ x) (x1 : x < (n : Int)) : L2.atI ((rangeL 0 (n : Int)).map f) x = some (f x) := atI_of x0 (range_map_at f x0 x1)

/-! ### what is tied to each place, how far all are, by the law -/
def dirs (a : Int) (z : Tie) : Option (Int × Int) := if z.a = a then some (z.b, z.c) else if z.b = a then some (z.a, z.c) else none
def bes (n : Nat) (ts : List Tie) : List (List (Int × Int)) := (rangeL 0 (n : Int)).map fun a => ts.filterMap (dirs a)
theorem bes_len (n : Nat) (ts : List Tie) : (bes n ts).length = n := by unfold bes; rw [List.length_map, rangeL_length]; omega
theorem bes_at (n : Nat) (ts : List Tie) {a : Int} (a0 : 0 ≤ a) (a1 : a < (n : Int)) : (bes n ts)[a.toNat]? = some (ts.filterMap (dirs a)) := range_map_at _ a0 a1
theorem bes_step {n : Nat} {ts : List Tie} {z : Tie} (h0 : 0 ≤ z.a) (h1 : z.a < z.b) (h2 : z.b < (n : Int)) :
    ((bes n ts).set z.a.toNat (ts.filterMap (dirs z.a) ++ [(z.b, z.c)])).set z.b.toNat (ts.filterMap (dirs z.b) ++ [(z.a, z.c)]) = bes n (ts ++ [z]) := by
  refine List.ext_getElem? fun i => ?_
  rw [List.getElem?_set, List.getElem?_set, List.length_set, bes_len]
  by_cases hi : i < n
  · have e1 := bes_at n ts (a := (i : Int)) (by omega) (by omega)
    have e2 := bes_at n (ts ++ [z]) (a := (i : Int)) (by omega) (by omega)
    rw [Int.toNat_natCast] at e1 e2
    rw [e1, e2, List.filterMap_append]
    by_cases cb : z.b.toNat = i
    · have : z.b = (i : Int) := by omega
      rw [if_pos cb, if_pos (by omega), ← this]
      refine congrArg some (congrArg (_ ++ ·) ?_)
      have : dirs z.b z = some (z.a, z.c) := by unfold dirs; rw [if_neg (by omega), if_pos rfl]
      simp [this]
    · rw [if_neg cb]
      by_cases ca : z.a.toNat = i
      · have : z.a = (i : Int) := by omega
        rw [if_pos ca, if_pos (by omega), ← this]
        refine congrArg some (congrArg (_ ++ ·) ?_)
        have : dirs z.a z = some (z.b, z.c) := by unfold dirs; rw [if_pos rfl]
        simp [this]
      · rw [if_neg ca]
        have : dirs (i : Int) z = none := by unfold dirs; rw [if_neg (by omega), if_neg (by omega)]
        simp [this]
  · rw [List.getElem?_eq_none (by rw [bes_len]; omega), if_neg (by omega), if_neg (by omega), List.getElem?_eq_none (by rw [bes_len]; omega)]
theorem beside_ok (t : Tr) (ht : TreeOk t) (hn : t.1.length ≤ 100000) : m_law_beside t = .ok (bes t.1.length t.2) := by
  have hlen := ht.len
  unfold m_law_beside
  refine compS_mapB (fun _ => []) (by omega) (fun _ _ => rfl) ?_
  have e0 : (t.1.map fun _ => ([] : List (Int × Int))) = bes t.1.length [] := by
    refine List.ext_getElem? fun i => ?_
    rw [List.getElem?_map]
    by_cases hi : i < t.1.length
    · have e2 := bes_at t.1.length [] (a := (i : Int)) (by omega) (by omega)
      rw [Int.toNat_natCast] at e2
      rw [e2, List.getElem?_eq_getElem hi]
      rfl
    · rw [List.getElem?_eq_none (by omega), List.getElem?_eq_none (by rw [bes_len]; omega)]
      rfl
  dsimp only
  rw [e0]
  refine ok_of ?_
  refine loopN_runB (fun pre st => st = bes t.1.length pre) rfl (fun pre z post st ea es => ?_) (fun st es => ⟨st, rfl, es⟩)
  subst es
  have hz : z ∈ t.2 := by rw [ea]; simp
  have hzt := ht.tie z hz
  have lp : pre.length < t.2.length := by rw [ea]; simp
  have la := Nat.le_trans (List.length_filterMap_le (dirs z.a) pre) (Nat.le_of_lt lp)
  have lb := Nat.le_trans (List.length_filterMap_le (dirs z.b) pre) (Nat.le_of_lt lp)
  refine ⟨_, ?_, bes_step (ts := pre) hzt.1 hzt.2.1 hzt.2.2⟩
  rw [opt_b (atI_of hzt.1 (bes_at _ _ hzt.1 (by omega))), bind_ok (appL_ok (by omega)), bind_ok (setI_ok hzt.1 (by rw [bes_len]; omega))]
  have eb : L2.atI ((bes t.1.length pre).set z.a.toNat (pre.filterMap (dirs z.a) ++ [(z.b, z.c)])) z.b = some (pre.filterMap (dirs z.b)) := by
    refine atI_of (by omega) ?_
    rw [List.getElem?_set_ne (by omega)]
    exact bes_at _ _ (by omega) (by omega)
  rw [opt_b eb, bind_ok (appL_ok (by omega)), bind_ok (setI_ok (by omega) (by rw [List.length_set, bes_len]; omega))]
theorem dirs_step {t : Tr} (ht : TreeOk t) {a y l : Int} : (y, l) ∈ t.2.filterMap (dirs a) ↔ Step t a y l := by
  rw [List.mem_filterMap]
  constructor
  · rintro ⟨z, hz, e⟩
    unfold dirs at e
    by_cases c : z.a = a
    · rw [if_pos c] at e
      have e := Option.some.inj e
      exact ⟨z, hz, .inl ⟨c, congrArg Prod.fst e⟩, congrArg Prod.snd e⟩
    · rw [if_neg c] at e
      by_cases c2 : z.b = a
      · rw [if_pos c2] at e
        have e := Option.some.inj e
        exact ⟨z, hz, .inr ⟨congrArg Prod.fst e, c2⟩, congrArg Prod.snd e⟩
      · rw [if_neg c2] at e; exact nomatch e
  · rintro ⟨z, hz, h, e⟩
    have := ht.tie z hz
    refine ⟨z, hz, ?_⟩
    unfold dirs
    rcases h with ⟨a1, a2⟩ | ⟨a1, a2⟩
    · rw [if_pos a1, a2, e]
    · rw [if_neg (by omega), if_pos a2, a1, e]
theorem lawfar_ok (t : Tr) (ht : TreeOk t) (hn : t.1.length ≤ 100000) {D : Int → Int → Int} (hD : ∀ x y, 0 ≤ x → x < (t.1.length : Int) → 0 ≤ y → y < (t.1.length : Int) → Dist t x y (D x y)) :
    m_law_far t = .ok ((rangeL 0 (t.1.length : Int)).map fun p => (rangeL 0 (t.1.length : Int)).map (D p)) := by
  have hlen := ht.len
  unfold m_law_far
  rw [bind_ok (beside_ok t ht hn), chk_b (show okR (t.1.length : Int) from ⟨by omega, by omega⟩)]
  refine ok_of ?_
  refine loopN_runB (fun pre st => st = pre.map fun p => (rangeL 0 (t.1.length : Int)).map (D p)) rfl (fun pre p post st ea es => ?_) (fun st es => ⟨st, rfl, es⟩)
  obtain ⟨hpl, p0, p1⟩ := range_pre ea
  have lst : st.length = pre.length := by rw [es, List.length_map]
  refine ex_imp (Q2 := fun x' => x' = st ++ [(rangeL 0 (t.1.length : Int)).map (D p)]) ?_ fun x' e2 => by rw [e2, List.map_append, es]; rfl
  · refine whL_runB (2 * t.1.length - 1) (fun m st => Ws t p m (st.2.map (·.1)) (valD st.2) st.1) (fun st => ∃ m, Ws t p m (st.2.map (·.1)) (valD st.2) []) (fun m ⟨wt, f⟩ h => ?_) (Ws.one p0 p1 (show valD [(p, 0)] p = 0 from by unfold valD; rw [dGet_pos rfl]; rfl)) (by omega) (fun ⟨wt, f⟩ hf => ?_)
    · have h : Ws t p m (f.map (·.1)) (valD f) wt := h
      dsimp only
      rcases nil_or_last wt with e | ⟨ini, here, e⟩
      · subst e
        exact .inr ⟨([], f), by rw [if_neg (fun z => z rfl)], m, h⟩
      · subst e
        refine .inl (go_of ?_)
        have hh : here ∈ f.map (·.1) := h.ws here (by simp)
        have hr := h.f.rg here hh
        rw [if_pos (by simp), popL_last]
        · show ∃ x', (opt (L2.atI (bes t.1.length t.2) here) >>= _) = .ok x' ∧ _
          rw [opt_b (atI_of hr.1 (bes_at _ _ hr.1 hr.2)), List.dropLast_concat]
          refine loopN_runB (fun pre st => Vs t p (f.map (·.1)) ini (st.1.map (·.1)) (valD st.1) st.2 ∧ ∀ y ∈ pre, y.1 ∈ st.1.map (·.1)) ⟨h.enter, fun _ z => nomatch z⟩ (fun pre y post ⟨f2, w2⟩ ea ⟨g1, g2⟩ => ?_) (fun ⟨f', wt'⟩ ⟨i1, i2⟩ => ?_)
          · obtain ⟨y, c⟩ := y
            have g1 : Vs t p (f.map (·.1)) ini (f2.map (·.1)) (valD f2) w2 := g1
            have g2 : ∀ y ∈ pre, y.1 ∈ f2.map (·.1) := g2
            have hs : Step t here y c := (dirs_step ht).mp (by rw [ea]; simp)
            dsimp only
            by_cases hm : dHas f2 y = true
            · refine ⟨(f2, w2), by rw [if_pos hm], g1, fun z hz => ?_⟩
              rcases List.mem_append.mp hz with hz | hz
              · exact g2 z hz
              · rw [List.mem_singleton.mp hz]; exact dHas_iff.mp hm
            · have hk : y ∉ f2.map (·.1) := fun z => hm (dHas_iff.mpr z)
              have g3 := g1.add ht hh hs hk
              have l1 := g1.f.len
              have l2 := g1.ln
              have l3 := h.f.len
              rw [List.length_map] at l1
              rw [List.length_map, List.length_map] at l2
              rw [List.length_map] at l3
              have l4 := h.m1
              have l5 := h.m2
              rw [List.length_append, List.length_singleton, List.length_map] at l4
              have eput : putD f2 y (valD f2 here + c) = .ok (f2 ++ [(y, valD f2 here + c)]) := by
                unfold putD
                rw [if_pos (by omega), dPut_new fun q hq e => hk (List.mem_map.mpr ⟨q, hq, e⟩)]
              refine ⟨(f2 ++ [(y, valD f2 here + c)], w2 ++ [y]), ?_, ?_, fun z hz => ?_⟩
              · rw [if_neg hm, opt_b (dGet_in (g1.s0 here hh)), bind_ok eput, bind_ok (appL_ok (show w2.length < 16777216 by omega))]
              · have ev : valD (f2 ++ [(y, valD f2 here + c)]) = updV (valD f2) y (valD f2 here + c) := funext fun x => dGet_app hk
                show Vs t p (f.map (·.1)) ini ((f2 ++ [(y, valD f2 here + c)]).map (·.1)) (valD (f2 ++ [(y, valD f2 here + c)])) (w2 ++ [y])
                rw [ev, List.map_append]
                exact g3
              · rw [List.map_append]
                rcases List.mem_append.mp hz with hz | hz
                · exact List.mem_append_left _ (g2 z hz)
                · rw [List.mem_singleton.mp hz]
                  exact List.mem_append_right _ (List.mem_singleton.mpr rfl)
          · have i1 : Vs t p (f.map (·.1)) ini (f'.map (·.1)) (valD f') wt' := i1
            have i2 : ∀ y ∈ t.2.filterMap (dirs here), y.1 ∈ f'.map (·.1) := i2
            obtain ⟨m', hm', hw⟩ := Vs.leave h i1 fun y l hs => i2 (y, l) ((dirs_step ht).mpr hs)
            exact ⟨_, rfl, m', (wt', f'), rfl, hm', hw⟩
    · obtain ⟨m, hw⟩ := hf
      have hw : Ws t p m (f.map (·.1)) (valD f) [] := hw
      have fin := hw.fin ht
      refine ⟨_, ?_, rfl⟩
      dsimp only
      rw [chk_b (show okR (t.1.length : Int) from ⟨by omega, by omega⟩)]
      refine compS_mapB (D p) (by rw [rangeL_length]; omega) (fun y hy => ?_) ?_
      · have hy := rangeL_mem.mp hy
        obtain ⟨f1, f2⟩ := fin y hy.1 hy.2
        rw [opt_b (dGet_in f1), dist_uniq ht f2 (hD p y p0 p1 hy.1 hy.2)]
      · dsimp only
        rw [bind_ok (appL_ok (by omega))]

theorem mxI_some {xs : List Int} (h : xs ≠ []) : ∃ m, mxI xs = some m := by
  cases e : mxI xs with
  | none => exact (h (mxI_none e)).elim
  | some m => exact ⟨m, rfl⟩

theorem merge_newS {β : Type} : ∀ {xs ac : List (Str × β)}, ((ac ++ xs).map (·.1)).Nodup → xs.foldl (fun acc p => dPut acc p.1 p.2) ac = ac ++ xs
  | [], ac, _ => by simp
  | x :: xs, ac, h => by
    rw [List.foldl_cons]
    have hn : ∀ p ∈ ac, p.1 ≠ x.1 := fun p hp e => by
      rw [List.map_append, List.map_cons, List.nodup_append] at h
      exact h.2.2 p.1 (List.mem_map.mpr ⟨p, hp, rfl⟩) x.1 List.mem_cons_self e
    rw [dPut_new hn, merge_newS (by rw [List.append_assoc]; exact h), List.append_assoc]
    rfl

/-! ### sums, rules of any shape, by the program alone -/
theorem comp2 {i c : Type} {f : i → Unit → M (Option c × Unit)} {a b : i} {va vb : c} (ha : f a () = .ok (some va, ())) (hb : f b () = .ok (some vb, ())) : compS f [a, b] () = .ok ([va, vb], ()) := by
  unfold compS
  rw [chk_b (show [a, b].length < 16777216 by show 2 < 16777216; decide)]
  show (nox (f a ()) >>= _) = _
  rw [ha]
  show (nox (f b ()) >>= _) = _
  rw [hb]
  rfl
theorem s_no : ¬ ("own" : Str) = ("number" : Str) := by decide +kernel
theorem s_nt : ¬ ("tie" : Str) = ("number" : Str) := by decide +kernel
theorem s_ns : ¬ ("so" : Str) = ("number" : Str) := by decide +kernel
theorem s_nm : ¬ ("more" : Str) = ("number" : Str) := by decide +kernel
theorem s_to : ¬ ("tie" : Str) = ("own" : Str) := by decide +kernel
theorem s_so : ¬ ("so" : Str) = ("own" : Str) := by decide +kernel
theorem s_mo : ¬ ("more" : Str) = ("own" : Str) := by decide +kernel
theorem s_st : ¬ ("so" : Str) = ("tie" : Str) := by decide +kernel
theorem s_mt : ¬ ("more" : Str) = ("tie" : Str) := by decide +kernel
theorem s_ms : ¬ ("more" : Str) = ("so" : Str) := by decide +kernel
section
variable {own tie : Int} {so more : List Int}
def OpW (w : Str) : Prop := w = "plus" ∨ w = "less" ∨ w = "times" ∨ w = "most" ∨ w = "least"
theorem op_sum {d : Nat} {w : Str} {a b : Sm} {va vb : Int} (hw : OpW w) (ha : m_sum_at d a own tie so more = .ok va) (hb : m_sum_at d b own tie so more = .ok vb) :
    m_sum_at (d + 1) (.two w a b) own tie so more = (if w = ("plus" : Str) then .ok (va + vb) else if w = ("less" : Str) then .ok (va - vb) else if w = ("times" : Str) then (chk (CMulW va vb) >>= fun _ => .ok (va * vb)) else if w = ("most" : Str) then .ok (if vb > va then vb else va) else .ok (if vb < va then vb else va)) := by
  have h1 : ¬ w = ("number" : Str) ∧ ¬ w = ("own" : Str) ∧ ¬ w = ("tie" : Str) ∧ ¬ w = ("so" : Str) ∧ ¬ w = ("more" : Str) := by
    rcases hw with e | e | e | e | e <;> subst e <;> decide +kernel
  unfold m_sum_at
  rw [if_neg (show ¬ Sm.word (.two w a b) = _ from h1.1), if_neg (show ¬ Sm.word (.two w a b) = _ from h1.2.1), if_neg (show ¬ Sm.word (.two w a b) = _ from h1.2.2.1), if_neg (show ¬ Sm.word (.two w a b) = _ from h1.2.2.2.1), if_neg (show ¬ Sm.word (.two w a b) = _ from h1.2.2.2.2)]
  rw [opt_b (show Sm.two? (.two w a b) = some (a, b) from rfl)]
  rw [bind_ok (comp2 (va := va) (vb := vb) (by show (m_sum_at d a own tie so more >>= _) = _; rw [bind_ok ha]) (by show (m_sum_at d b own tie so more >>= _) = _; rw [bind_ok hb]))]
  rfl
end
/-! ### sums of any words, and which of them may stand -/
def Lf (x : Sm) : Prop := (∃ n : Int, x = .num "number" n) ∨ x = .nam "own" ∨ x = .nam "tie" ∨ (∃ k : Int, x = .num "so" k) ∨ ∃ k : Int, x = .num "more" k
def Sh : Nat → Sm → Prop
  | 0, _ => False
  | d + 1, x => Lf x ∨ ∃ w a b, x = .two w a b ∧ OpW w ∧ Sh d a ∧ Sh d b
theorem sh_up : ∀ {d e : Nat} {x : Sm}, Sh d x → d ≤ e → Sh e x
  | 0, _, _, h, _ => h.elim
  | d + 1, 0, _, _, l => absurd l (by omega)
  | d + 1, e + 1, x, h, l => by
    rcases h with h | ⟨w, a, b, z, hw, ha, hb⟩
    · exact .inl h
    · exact .inr ⟨w, a, b, z, hw, sh_up ha (by omega), sh_up hb (by omega)⟩
def lfOk (may : List Str) (many : Int) : Sm → Bool
  | .num w k => decide (w = ("number" : Str)) || (decide (w ∈ may) && decide (0 ≤ k) && decide (k < many))
  | .nam w => decide (w ∈ may)
  | .two _ _ _ => false
def mayB (may : List Str) (many : Int) : Sm → Bool
  | .two _ a b => mayB may many a && mayB may many b
  | .num w k => lfOk may many (.num w k)
  | .nam w => lfOk may many (.nam w)
theorem mayB_num {may : List Str} {many : Int} {w : Str} {k : Int} : mayB may many (.num w k) = (decide (w = ("number" : Str)) || (decide (w ∈ may) && decide (0 ≤ k) && decide (k < many))) := rfl
theorem may_lf {may : List Str} {many : Int} {x : Sm} (h : Lf x) (n : Nat) : m_may_stand (n + 1) x ⟨may⟩ many = .ok (mayB may many x) := by
  unfold m_may_stand
  rcases h with ⟨k, e⟩ | e | e | ⟨k, e⟩ | ⟨k, e⟩
  · subst e
    rw [if_pos (show Sm.word (.num "number" k) = ("number" : Str) from rfl)]
    rw [mayB_num, decide_eq_true rfl, Bool.true_or]
  · subst e
    rw [if_neg (show ¬ Sm.word (.nam "own") = ("number" : Str) from s_no), if_pos (show Sm.word (.nam "own") ∈ ([("own" : Str), "tie"] : List Str) from List.mem_cons_self)]
    rfl
  · subst e
    rw [if_neg (show ¬ Sm.word (.nam "tie") = ("number" : Str) from s_nt), if_pos (show Sm.word (.nam "tie") ∈ ([("own" : Str), "tie"] : List Str) from List.mem_cons_of_mem _ List.mem_cons_self)]
    rfl
  · subst e
    rw [if_neg (show ¬ Sm.word (.num "so" k) = ("number" : Str) from s_ns), if_neg (show ¬ Sm.word (.num "so" k) ∈ ([("own" : Str), "tie"] : List Str) from fun z => by
      rcases List.mem_cons.mp z with z | z
      · exact s_so z
      · exact s_st (List.mem_singleton.mp z)), if_pos (show Sm.word (.num "so" k) ∈ ([("so" : Str), "more"] : List Str) from List.mem_cons_self)]
    have e : mayB may many (.num "so" k) = (decide (("so" : Str) ∈ may) && decide (0 ≤ k) && decide (k < many)) := by
      rw [mayB_num, decide_eq_false s_ns, Bool.false_or]
    rw [e]
    by_cases hm : ("so" : Str) ∈ may
    · rw [if_pos (show Sm.word (.num "so" k) ∈ may from hm), opt_b (show Sm.int? (.num "so" k) = some k from rfl), decide_eq_true hm, Bool.true_and]
      by_cases h0 : 0 ≤ k
      · rw [if_pos h0, decide_eq_true h0, Bool.true_and]
      · rw [if_neg h0, decide_eq_false h0, Bool.false_and]
    · rw [if_neg (show ¬ Sm.word (.num "so" k) ∈ may from hm), decide_eq_false hm, Bool.false_and, Bool.false_and]
  · subst e
    rw [if_neg (show ¬ Sm.word (.num "more" k) = ("number" : Str) from s_nm), if_neg (show ¬ Sm.word (.num "more" k) ∈ ([("own" : Str), "tie"] : List Str) from fun z => by
      rcases List.mem_cons.mp z with z | z
      · exact s_mo z
      · exact s_mt (List.mem_singleton.mp z)), if_pos (show Sm.word (.num "more" k) ∈ ([("so" : Str), "more"] : List Str) from List.mem_cons_of_mem _ List.mem_cons_self)]
    have e : mayB may many (.num "more" k) = (decide (("more" : Str) ∈ may) && decide (0 ≤ k) && decide (k < many)) := by
      rw [mayB_num, decide_eq_false s_nm, Bool.false_or]
    rw [e]
    by_cases hm : ("more" : Str) ∈ may
    · rw [if_pos (show Sm.word (.num "more" k) ∈ may from hm), opt_b (show Sm.int? (.num "more" k) = some k from rfl), decide_eq_true hm, Bool.true_and]
      by_cases h0 : 0 ≤ k
      · rw [if_pos h0, decide_eq_true h0, Bool.true_and]
      · rw [if_neg h0, decide_eq_false h0, Bool.false_and]
    · rw [if_neg (show ¬ Sm.word (.num "more" k) ∈ may from hm), decide_eq_false hm, Bool.false_and, Bool.false_and]
theorem may_val {may : List Str} {many : Int} : ∀ (n d : Nat) (x : Sm), d ≤ n → Sh d x → m_may_stand n x ⟨may⟩ many = .ok (mayB may many x)
  | _, 0, _, _, h => h.elim
  | 0, d + 1, _, l, _ => absurd l (by omega)
  | n + 1, d + 1, x, l, h => by
    rcases h with h | ⟨w, a, b, e, hw, ha, hb⟩
    · exact may_lf h n
    · subst e
      have h1 : ¬ w = ("number" : Str) ∧ ¬ w ∈ ([("own" : Str), "tie"] : List Str) ∧ ¬ w ∈ ([("so" : Str), "more"] : List Str) := by
        rcases hw with e | e | e | e | e <;> subst e <;> decide +kernel
      unfold m_may_stand
      rw [if_neg (show ¬ Sm.word (.two w a b) = _ from h1.1), if_neg (show ¬ Sm.word (.two w a b) ∈ ([("own" : Str), "tie"] : List Str) from h1.2.1), if_neg (show ¬ Sm.word (.two w a b) ∈ ([("so" : Str), "more"] : List Str) from h1.2.2)]
      rw [opt_b (show Sm.two? (.two w a b) = some (a, b) from rfl)]
      show (m_may_stand n a ⟨may⟩ many >>= _) = _
      rw [bind_ok (may_val n d a (by omega) ha)]
      show _ = Except.ok (mayB may many a && mayB may many b)
      by_cases z : mayB may many a = true
      · rw [if_pos z, opt_b (show Sm.two? (.two w a b) = some (a, b) from rfl)]
        show (m_may_stand n b ⟨may⟩ many >>= _) = _
        rw [bind_ok (may_val n d b (by omega) hb), z, Bool.true_and]
      · rw [if_neg z, Bool.eq_false_iff.mpr z, Bool.false_and]
/-- loops that end where a test fails -/
theorem loopM_test {i r : Type} {f : i → Unit → M (Fl Unit r)} {z : r} (p : i → Bool) : ∀ {xs : List i}, (∀ y ∈ xs, f y () = if p y = true then .ok (.nx ()) else .ok (.rt z)) → loopM f xs () = if xs.all p = true then .ok (.nx ()) else .ok (.rt z)
  | [], _ => rfl
  | x :: xs, h => by
    have h1 := h x List.mem_cons_self
    have h2 := loopM_test p (fun y hy => h y (List.mem_cons_of_mem _ hy))
    show (f x () >>= _) = _
    rw [h1, List.all_cons]
    by_cases e : p x = true
    · rw [if_pos e, e, Bool.true_and, ← h2]
      rfl
    · rw [if_neg e, Bool.eq_false_iff.mpr e, Bool.false_and, if_neg Bool.false_ne_true]
      rfl
structure RSh (r : Rule) : Prop where
  la : r.a.length ≤ 1000
  lb : r.b.length ≤ 1000
  lc : r.c.length ≤ 1000
  sa : ∀ x ∈ r.a, Sh 10 x
  sb : ∀ x ∈ r.b, Sh 10 x
  sc : ∀ x ∈ r.c, Sh 10 x
  sd : Sh 10 r.d
abbrev mB : List Str := ["own"]
abbrev mO : List Str := ["own", "tie", "more"]
abbrev mJ : List Str := ["own", "so", "more"]
abbrev mT : List Str := ["own", "so"]
def sumsB (r : Rule) : Bool := r.a.all (mayB mB r.a.length) && r.b.all (mayB mO r.a.length) && r.c.all (mayB mJ r.a.length) && mayB mT r.a.length r.d
def ruleB (r : Rule) : Bool := decide (1 ≤ r.a.length ∧ r.a.length ≤ 3 ∧ r.b.length = r.a.length ∧ r.c.length = r.a.length) && sumsB r
theorem is_rule_val {r : Rule} (R : RSh r) : m_is_rule r = .ok (ruleB r) := by
  have h1 := R.la
  have h2 := R.lb
  have h3 := R.lc
  unfold m_is_rule ruleB
  by_cases c1 : (1 : Int) ≤ (r.a.length : Int)
  · rw [if_pos c1]
    by_cases c2 : (r.a.length : Int) ≤ 3
    · rw [if_pos c2]
      by_cases c3 : (r.b.length : Int) = (r.a.length : Int)
      · rw [if_neg (fun z => z c3)]
        by_cases c4 : (r.c.length : Int) = (r.a.length : Int)
        · rw [if_neg (fun z => z c4), decide_eq_true (show 1 ≤ r.a.length ∧ r.a.length ≤ 3 ∧ r.b.length = r.a.length ∧ r.c.length = r.a.length by omega), Bool.true_and]
          have one : ∀ (xs : List Sm) (may : List Str), xs.length < 16777216 → (∀ x ∈ xs, Sh 10 x) →
              (compS (fun (y123 : Sm) (st140 : Unit) =>
                m_may_stand 60 y123 ⟨may⟩ (r.a.length : Int) >>= fun r146 =>
                if r146 = true then (
                .ok (none, ()))
                else (
                .ok (some y123, ()))) xs () >>= fun q164 =>
                if q164.1 ≠ ([] : List Sm) then (
                .ok (.rt false))
                else (
                (.ok (.nx ()) : M (Fl Unit Bool)))) = if xs.all (mayB may (r.a.length : Int)) = true then .ok (.nx ()) else .ok (.rt false) := fun xs may hl hs => by
            rw [bind_ok (compS_pure (fun y => if mayB may (r.a.length : Int) y = true then none else some y) hl fun y hy => by
              rw [bind_ok (may_val 60 10 y (by decide) (hs y hy))]
              by_cases z : mayB may (r.a.length : Int) y = true
              · rw [if_pos z, if_pos z]
              · rw [if_neg z, if_neg z])]
            by_cases z : xs.all (mayB may (r.a.length : Int)) = true
            · rw [if_pos z, if_neg]
              intro q
              refine q ?_
              show List.filterMap _ _ = []
              rw [List.filterMap_eq_nil_iff]
              exact fun y hy => if_pos (List.all_eq_true.mp z y hy)
            · rw [if_neg z, if_pos]
              intro q
              have q : List.filterMap _ xs = [] := q
              rw [List.filterMap_eq_nil_iff] at q
              refine z (List.all_eq_true.mpr fun y hy => ?_)
              have := q y hy
              by_cases u : mayB may (r.a.length : Int) y = true
              · exact u
              · rw [if_neg u] at this; exact nomatch this
          rw [loopM_test (z := false) (fun (y : List Sm × Tp Str) => y.1.all (mayB y.2.l (r.a.length : Int))) (fun y hy => by
            simp only [List.mem_cons, List.not_mem_nil, or_false] at hy
            rcases hy with e | e | e
            · subst e; exact one r.a mB (by omega) R.sa
            · subst e; exact one r.b mO (by omega) R.sb
            · subst e; exact one r.c mJ (by omega) R.sc)]
          have ea : (([(r.a, Tp.mk mB), (r.b, Tp.mk mO), (r.c, Tp.mk mJ)] : List (List Sm × Tp Str)).all (fun (y : List Sm × Tp Str) => y.1.all (mayB y.2.l (r.a.length : Int)))) = (r.a.all (mayB mB r.a.length) && r.b.all (mayB mO r.a.length) && r.c.all (mayB mJ r.a.length)) := by
            show (_ && (_ && (_ && true))) = _
            rw [Bool.and_true, ← Bool.and_assoc]
          refine (congrArg (· >>= _) (congrArg (fun (c : Bool) => if c = true then (.ok (.nx ()) : M (Fl Unit Bool)) else .ok (.rt false)) ea)).trans ?_
          unfold sumsB
          by_cases z : (r.a.all (mayB mB r.a.length) && r.b.all (mayB mO r.a.length) && r.c.all (mayB mJ r.a.length)) = true
          · rw [z, Bool.true_and]
            show (m_may_stand 60 r.d ⟨mT⟩ (r.a.length : Int) >>= _) = _
            rw [bind_ok (may_val 60 10 r.d (by decide) R.sd)]
          · rw [Bool.eq_false_iff.mpr z, Bool.false_and]
            rfl
        · rw [if_pos c4, decide_eq_false (by omega), Bool.false_and]
      · rw [if_pos c3, decide_eq_false (by omega), Bool.false_and]
    · rw [if_neg c2, decide_eq_false (by omega), Bool.false_and]
  · rw [if_neg c1, decide_eq_false (by omega), Bool.false_and]

/-! ### sums told of, leaf by leaf -/
section
variable {k : Nat} {own tie : Int} {so more : List Int}
theorem l_num (n : Int) : m_sum_at (k + 1) (Sm.num "number" n) own tie so more = .ok n := by
  unfold m_sum_at
  rw [if_pos (show Sm.word (Sm.num "number" n) = ("number" : Str) from rfl)]
  rfl
theorem l_own : m_sum_at (k + 1) (Sm.nam "own") own tie so more = .ok own := by
  unfold m_sum_at
  rw [if_neg (show ¬ Sm.word (Sm.nam "own") = ("number" : Str) from s_no), if_pos (show Sm.word (Sm.nam "own") = ("own" : Str) from rfl)]
theorem l_tie : m_sum_at (k + 1) (Sm.nam "tie") own tie so more = .ok tie := by
  unfold m_sum_at
  rw [if_neg (show ¬ Sm.word (Sm.nam "tie") = ("number" : Str) from s_nt), if_neg (show ¬ Sm.word (Sm.nam "tie") = ("own" : Str) from s_to), if_pos (show Sm.word (Sm.nam "tie") = ("tie" : Str) from rfl)]
theorem l_so {n v : Int} (h : L2.atI so n = some v) : m_sum_at (k + 1) (Sm.num "so" n) own tie so more = .ok v := by
  unfold m_sum_at
  rw [if_neg (show ¬ Sm.word (Sm.num "so" n) = ("number" : Str) from s_ns), if_neg (show ¬ Sm.word (Sm.num "so" n) = ("own" : Str) from s_so), if_neg (show ¬ Sm.word (Sm.num "so" n) = ("tie" : Str) from s_st), if_pos (show Sm.word (Sm.num "so" n) = ("so" : Str) from rfl)]
  rw [opt_b (show Sm.int? (Sm.num "so" n) = some n from rfl), opt_b h]
theorem l_more {n v : Int} (h : L2.atI more n = some v) : m_sum_at (k + 1) (Sm.num "more" n) own tie so more = .ok v := by
  unfold m_sum_at
  rw [if_neg (show ¬ Sm.word (Sm.num "more" n) = ("number" : Str) from s_nm), if_neg (show ¬ Sm.word (Sm.num "more" n) = ("own" : Str) from s_mo), if_neg (show ¬ Sm.word (Sm.num "more" n) = ("tie" : Str) from s_mt), if_neg (show ¬ Sm.word (Sm.num "more" n) = ("so" : Str) from s_ms), if_pos (show Sm.word (Sm.num "more" n) = ("more" : Str) from rfl)]
  rw [opt_b (show Sm.int? (Sm.num "more" n) = some n from rfl), opt_b h]
theorem o_plus {a b : Sm} {va vb : Int} (ha : m_sum_at k a own tie so more = .ok va) (hb : m_sum_at k b own tie so more = .ok vb) : m_sum_at (k + 1) (.two "plus" a b) own tie so more = .ok (va + vb) := by
  rw [op_sum (.inl rfl) ha hb, if_pos rfl]
theorem o_times {a b : Sm} {va vb : Int} (ha : m_sum_at k a own tie so more = .ok va) (hb : m_sum_at k b own tie so more = .ok vb) (hc : CMulW va vb) : m_sum_at (k + 1) (.two "times" a b) own tie so more = .ok (va * vb) := by
  rw [op_sum (.inr (.inr (.inl rfl))) ha hb, if_neg (by decide +kernel), if_neg (by decide +kernel), if_pos rfl, chk_b hc]
theorem o_most {a b : Sm} {va vb : Int} (ha : m_sum_at k a own tie so more = .ok va) (hb : m_sum_at k b own tie so more = .ok vb) : m_sum_at (k + 1) (.two "most" a b) own tie so more = .ok (if vb > va then vb else va) := by
  rw [op_sum (.inr (.inr (.inr (.inl rfl)))) ha hb, if_neg (by decide +kernel), if_neg (by decide +kernel), if_neg (by decide +kernel), if_pos rfl]
end
theorem comp1 {i c : Type} {f : i → Unit → M (Option c × Unit)} {a : i} {va : c} (ha : f a () = .ok (some va, ())) : compS f [a] () = .ok ([va], ()) := by
  unfold compS
  rw [chk_b (show [a].length < 16777216 by show 1 < 16777216; decide)]
  show (nox (f a ()) >>= _) = _
  rw [ha]
  rfl
theorem need_of {r : Rule} (R : RSh r) (h : ruleB r = true) : m_need_rule r = .ok () := by
  unfold m_need_rule
  rw [bind_ok (is_rule_val R), if_pos h]
/-- the rows put together one by one -/
theorem row_fold {σ : Type} {r : Rule} {own : Int} {f : Int → List Int} {G : σ → List Int} {step : σ → Int → σ} : ∀ {cs : List Int} {s : σ}, (∀ s, ∀ c ∈ cs, m_joined r (G s) (f c) own = .ok (G (step s c))) →
    loopN (fun (y42 : (List Int)) (st53 : (List Int)) => m_joined r st53 y42 own >>= fun r61 => (.ok r61 : M _)) (cs.map f) (G s) = .ok (G (cs.foldl step s))
  | [], s, _ => rfl
  | c :: cs, s, h => by
    show ((m_joined r (G s) (f c) own >>= fun r61 => (.ok r61 : M _)) >>= _) = _
    rw [h s c List.mem_cons_self]
    exact row_fold fun s x hx => h s x (List.mem_cons_of_mem _ hx)
theorem row_with_fold {σ : Type} {t : Tr} {r : Rule} {p own : Int} {f : Int → List Int} {G : σ → List Int} {step : σ → Int → σ} {cs : List Int} {s : σ} (ho : L2.atI t.1 p = some own) (hb : m_begun r own = .ok (G s)) (hj : ∀ s, ∀ c ∈ cs, m_joined r (G s) (f c) own = .ok (G (step s c))) : m_row_with t r p (cs.map f) = .ok (G (cs.foldl step s)) := by
  unfold m_row_with
  rw [opt_b ho, bind_ok hb, bind_ok (row_fold hj)]
/-! ### two rules by name -/
def farR : Rule := T4.mk [Sm.num "number" 0] [Sm.two "plus" (Sm.num "more" 0) (Sm.nam "tie")] [Sm.two "most" (Sm.num "so" 0) (Sm.num "more" 0)] (Sm.num "so" 0)
def sumR : Rule := T4.mk [Sm.num "number" 0, Sm.num "number" 1] [Sm.two "plus" (Sm.num "more" 0) (Sm.two "times" (Sm.nam "tie") (Sm.num "more" 1)), Sm.num "more" 1] [Sm.two "plus" (Sm.num "so" 0) (Sm.num "more" 0), Sm.two "plus" (Sm.num "so" 1) (Sm.num "more" 1)] (Sm.num "so" 0)
theorem lf_num (d : Nat) (n : Int) : Sh (d + 1) (Sm.num "number" n) := .inl (.inl ⟨n, rfl⟩)
theorem lf_tie (d : Nat) : Sh (d + 1) (Sm.nam "tie") := .inl (.inr (.inr (.inl rfl)))
theorem lf_so (d : Nat) (n : Int) : Sh (d + 1) (Sm.num "so" n) := .inl (.inr (.inr (.inr (.inl ⟨n, rfl⟩))))
theorem lf_more (d : Nat) (n : Int) : Sh (d + 1) (Sm.num "more" n) := .inl (.inr (.inr (.inr (.inr ⟨n, rfl⟩))))
theorem sh_plus {d : Nat} {a b : Sm} (ha : Sh d a) (hb : Sh d b) : Sh (d + 1) (Sm.two "plus" a b) := .inr ⟨_, _, _, rfl, .inl rfl, ha, hb⟩
theorem sh_times {d : Nat} {a b : Sm} (ha : Sh d a) (hb : Sh d b) : Sh (d + 1) (Sm.two "times" a b) := .inr ⟨_, _, _, rfl, .inr (.inr (.inl rfl)), ha, hb⟩
theorem sh_most {d : Nat} {a b : Sm} (ha : Sh d a) (hb : Sh d b) : Sh (d + 1) (Sm.two "most" a b) := .inr ⟨_, _, _, rfl, .inr (.inr (.inr (.inl rfl))), ha, hb⟩
theorem farR_need : m_need_rule farR = .ok () := need_of {
    la := by decide
    lb := by decide
    lc := by decide
    sa := fun x hx => by rw [List.mem_singleton.mp hx]; exact lf_num 9 0
    sb := fun x hx => by rw [List.mem_singleton.mp hx]; exact sh_plus (lf_more 8 0) (lf_tie 8)
    sc := fun x hx => by rw [List.mem_singleton.mp hx]; exact sh_most (lf_so 8 0) (lf_more 8 0)
    sd := lf_so 9 0 } (by decide +kernel)
theorem sumR_need : m_need_rule sumR = .ok () := need_of {
    la := by decide
    lb := by decide
    lc := by decide
    sa := fun x hx => by
      rcases List.mem_cons.mp hx with e | e
      · rw [e]; exact lf_num 9 0
      · rw [List.mem_singleton.mp e]; exact lf_num 9 1
    sb := fun x hx => by
      rcases List.mem_cons.mp hx with e | e
      · rw [e]; exact sh_plus (lf_more 8 0) (sh_times (lf_tie 7) (lf_more 7 1))
      · rw [List.mem_singleton.mp e]; exact lf_more 9 1
    sc := fun x hx => by
      rcases List.mem_cons.mp hx with e | e
      · rw [e]; exact sh_plus (lf_so 8 0) (lf_more 8 0)
      · rw [List.mem_singleton.mp e]; exact sh_plus (lf_so 8 1) (lf_more 8 1)
    sd := lf_so 9 0 } (by decide +kernel)

theorem named_far : m_rule_named "farthest" = .ok farR := by
  unfold m_rule_named m_all_rules
  rfl
theorem named_sum : m_rule_named "sum" = .ok sumR := by
  unfold m_rule_named m_all_rules
  rfl

/-! ### farthest and sum: their rows and seats -/
theorem sum_perm {l m : List Int} (h : l.Perm m) : l.sum = m.sum := by
  induction h with
  | nil => rfl
  | cons x _ ih => rw [List.sum_cons, List.sum_cons, ih]
  | swap x y l => rw [List.sum_cons, List.sum_cons, List.sum_cons, List.sum_cons]; omega
  | trans _ _ h1 h2 => rw [h1, h2]
theorem sum_flat (P : Int → List Int) (g : Int → Int) : ∀ cs : List Int, ((cs.flatMap P).map g).sum = (cs.map fun c => ((P c).map g).sum).sum
  | [] => rfl
  | c :: cs => by rw [List.flatMap_cons, List.map_append, List.sum_append, sum_flat P g cs, List.map_cons, List.sum_cons]
theorem len_flat (P : Int → List Int) : ∀ cs : List Int, ((cs.flatMap P).length : Int) = (cs.map fun c => ((P c).length : Int)).sum
  | [] => rfl
  | c :: cs => by
    rw [List.flatMap_cons, List.length_append, List.map_cons, List.sum_cons, ← len_flat P cs]
    omega
theorem sum_shift (l : Int) (g : Int → Int) : ∀ xs : List Int, (xs.map fun z => l + g z).sum = l * (xs.length : Int) + (xs.map g).sum
  | [] => by simp
  | x :: xs => by
    rw [List.map_cons, List.sum_cons, List.map_cons, List.sum_cons, sum_shift l g xs, List.length_cons]
    rw [show ((xs.length + 1 : Nat) : Int) = (xs.length : Int) + 1 by omega, Int.mul_add, Int.mul_one]
    omega
def mx2 (s m : Int) : Int := if m > s then m else s
theorem mx2_is (s m : Int) : s ≤ mx2 s m ∧ m ≤ mx2 s m ∧ (mx2 s m = s ∨ mx2 s m = m) := by
  unfold mx2
  by_cases h : m > s
  · rw [if_pos h]; exact ⟨by omega, by omega, .inr rfl⟩
  · rw [if_neg h]; exact ⟨by omega, by omega, .inl rfl⟩
theorem mx_fold (v : Int → Int) : ∀ (cs : List Int) (s : Int), s ≤ cs.foldl (fun s c => mx2 s (v c)) s ∧ (∀ c ∈ cs, v c ≤ cs.foldl (fun s c => mx2 s (v c)) s) ∧ (cs.foldl (fun s c => mx2 s (v c)) s = s ∨ ∃ c ∈ cs, cs.foldl (fun s c => mx2 s (v c)) s = v c)
  | [], s => ⟨Int.le_refl s, (fun _ h => nomatch h), .inl rfl⟩
  | c :: cs, s => by
    obtain ⟨a1, a2, a3⟩ := mx2_is s (v c)
    obtain ⟨b1, b2, b3⟩ := mx_fold v cs (mx2 s (v c))
    show s ≤ cs.foldl _ (mx2 s (v c)) ∧ (∀ x ∈ c :: cs, v x ≤ cs.foldl _ (mx2 s (v c))) ∧ (cs.foldl _ (mx2 s (v c)) = s ∨ ∃ x ∈ c :: cs, cs.foldl _ (mx2 s (v c)) = v x)
    refine ⟨by omega, fun x hx => ?_, ?_⟩
    · rcases List.mem_cons.mp hx with e | e
      · rw [e]; omega
      · exact b2 x e
    · rcases b3 with e | ⟨x, hx, e⟩
      · rcases a3 with f | f
        · exact .inl (e.trans f)
        · exact .inr ⟨c, List.mem_cons_self, e.trans f⟩
      · exact .inr ⟨x, List.mem_cons_of_mem _ hx, e⟩
noncomputable def Vf (t : Tr) (D : Int → Int → Int) (a b : Int) : Int := (mxI ((partL t a b).map (D a))).getD 0
section
variable {t : Tr} (ht : TreeOk t) {D : Int → Int → Int} (hD : ∀ x y, 0 ≤ x → x < (t.1.length : Int) → 0 ≤ y → y < (t.1.length : Int) → Dist t x y (D x y))
include ht hD
theorem D_self {p : Int} (p0 : 0 ≤ p) (p1 : p < (t.1.length : Int)) : D p p = 0 := dist_uniq ht (hD p p p0 p1 p0 p1) (dist_self p)
theorem Vf_is {a b l : Int} (hs : Step t a b l) : (∀ z, Cn t a b z → D a z ≤ Vf t D a b) ∧ ∃ z, Cn t a b z ∧ D a z = Vf t D a b := by
  have hb : b ∈ partL t a b := (partL_mem ht hs).mpr (Cn.me b)
  obtain ⟨m, hm⟩ := mxI_some (xs := (partL t a b).map (D a)) (fun e => by
    have := List.map_eq_nil_iff.mp e
    rw [this] at hb
    exact nomatch hb)
  obtain ⟨m1, m2⟩ := mxI_is hm
  have ev : Vf t D a b = m := by unfold Vf; rw [hm]; rfl
  rw [ev]
  obtain ⟨z, hz, e⟩ := List.mem_map.mp m1
  exact ⟨fun z hz => m2 _ (List.mem_map.mpr ⟨z, (partL_mem ht hs).mpr hz, rfl⟩), z, (partL_mem ht hs).mp hz, e⟩
/-- one place's own 0 and what comes of its next ones -/
theorem far_top {p M : Int} {cs : List Int} {S : Int → Prop} (p0 : 0 ≤ p) (p1 : p < (t.1.length : Int)) (hc : ∀ c ∈ cs, c ∈ nearOf t.2 p) (hS : ∀ z, S z ↔ z = p ∨ ∃ c ∈ cs, Cn t p c z) (hM : M = cs.foldl (fun s c => mx2 s (Vf t D p c)) 0) : (∀ z, S z → D p z ≤ M) ∧ ∃ z, S z ∧ D p z = M := by
  obtain ⟨a1, a2, a3⟩ := mx_fold (Vf t D p) cs 0
  rw [← hM] at a1 a2 a3
  refine ⟨fun z hz => ?_, ?_⟩
  · rcases (hS z).mp hz with e | ⟨c, h1, h2⟩
    · rw [e, D_self ht hD p0 p1]; exact a1
    · obtain ⟨m, hs⟩ := (near_step ht).mp (hc c h1)
      have := (Vf_is ht hD hs).1 z h2
      have := a2 c h1
      omega
  · rcases a3 with e | ⟨c, h1, e⟩
    · exact ⟨p, (hS p).mpr (.inl rfl), by rw [D_self ht hD p0 p1, e]⟩
    · obtain ⟨m, hs⟩ := (near_step ht).mp (hc c h1)
      obtain ⟨z, z1, z2⟩ := (Vf_is ht hD hs).2
      exact ⟨z, (hS z).mpr (.inr ⟨c, h1, z1⟩), by rw [z2, e]⟩
theorem far_begun {own : Int} : m_begun farR own = .ok [0] := by
  unfold m_begun
  refine (bind_ok (comp1 (va := (0 : Int)) ?_) _).trans rfl
  rw [bind_ok (l_num 0)]
theorem far_joined {own s v : Int} : m_joined farR [s] [v] own = .ok [mx2 s v] := by
  unfold m_joined
  refine (bind_ok (comp1 (va := mx2 s v) ?_) _).trans rfl
  rw [bind_ok (o_most (l_so rfl) (l_more rfl))]
  rfl
theorem far_over {own v l : Int} : m_over_tie farR [v] own l = .ok [v + l] := by
  unfold m_over_tie
  refine (bind_ok (comp1 (va := v + l) ?_) _).trans rfl
  rw [bind_ok (o_plus (l_more rfl) l_tie)]
theorem far_rp : RP t farR (fun a b => [Vf t D a b]) (fun p => ((rangeL 0 (t.1.length : Int)).map (D p)).foldl mx2 0) where
  need := farR_need
  prog := fun a b l hs => by
    have rg := step_rg ht hs
    obtain ⟨own, o1, o2⟩ := atI_some (xs := t.1) (j := b) rg.2.1.1 rg.2.1.2
    obtain ⟨M, hM⟩ : ∃ M, M = (subs t a b).foldl (fun s c => mx2 s (Vf t D b c)) 0 := ⟨_, rfl⟩
    refine ⟨[M], own, ?_, o1, ?_⟩
    · rw [hM]
      exact row_with_fold (G := fun s => [s]) (step := fun s c => mx2 s (Vf t D b c)) (s := 0) o1 (far_begun ht hD) fun s c _ => far_joined ht hD
    · rw [far_over ht hD]
      refine congrArg (fun z => Except.ok [z]) ?_
      obtain ⟨b1, z, b2, b3⟩ := far_top ht hD (S := fun z => Cn t a b z) rg.2.1.1 rg.2.1.2 (fun c hc => (List.mem_filter.mp hc).1) (fun z => cn_split ht hs) hM
      obtain ⟨c1, y, c2, c3⟩ := Vf_is ht hD hs
      have h1 := c1 z b2
      have h2 := (cn_dist ht hD hs b2).2.2
      have h3 := b1 y c2
      have h4 := (cn_dist ht hD hs c2).2.2
      omega
  seat := fun p p0 p1 => by
    obtain ⟨own, o1, o2⟩ := atI_some (xs := t.1) (j := p) p0 p1
    obtain ⟨M, hM⟩ : ∃ M, M = (nearOf t.2 p).foldl (fun s c => mx2 s (Vf t D p c)) 0 := ⟨_, rfl⟩
    refine ⟨[M], own, o1, ?_, ?_⟩
    · rw [hM]
      exact row_with_fold (G := fun s => [s]) (step := fun s c => mx2 s (Vf t D p c)) (s := 0) o1 (far_begun ht hD) fun s c _ => far_joined ht hD
    · unfold m_told_by
      rw [bind_ok (show m_sum_at 12 farR.d own 0 [M] [] = .ok M from l_so rfl)]
      refine congrArg Except.ok ?_
      obtain ⟨b1, z, b2, b3⟩ := far_top ht hD (S := fun z => 0 ≤ z ∧ z < (t.1.length : Int)) p0 p1 (fun c hc => hc) (fun z => ⟨fun h => by
        by_cases e : z = p
        · exact .inl e
        · exact .inr (cn_all ht p0 p1 h.1 h.2 e), fun h => by
        rcases h with e | ⟨c, h1, h2⟩
        · rw [e]; exact ⟨p0, p1⟩
        · obtain ⟨m, hs⟩ := (near_step ht).mp h1
          exact (cn_dist ht hD hs h2).1⟩) hM
      have hf := mx_fold (fun y => y) ((rangeL 0 (t.1.length : Int)).map (D p)) 0
      obtain ⟨a1, a2, a3⟩ := hf
      have e0 : (fun s c => mx2 s ((fun y : Int => y) c)) = mx2 := rfl
      rw [e0] at a1 a2 a3
      obtain ⟨N, hN⟩ : ∃ N, N = ((rangeL 0 (t.1.length : Int)).map (D p)).foldl mx2 0 := ⟨_, rfl⟩
      rw [← hN] at a1 a2 a3 ⊢
      have h1 : M ≤ N := by
        rw [← b3]
        exact a2 _ (List.mem_map.mpr ⟨z, rangeL_mem.mpr b2, rfl⟩)
      have h2 : N ≤ M := by
        rcases a3 with e | ⟨c, hc, e⟩
        · rw [e, ← D_self ht hD p0 p1]
          exact b1 p ⟨p0, p1⟩
        · obtain ⟨y, hy, e2⟩ := List.mem_map.mp hc
          rw [e]
          show c ≤ M
          rw [← e2]
          exact b1 y (rangeL_mem.mp hy)
      omega
theorem sum_begun {own : Int} : m_begun sumR own = .ok [0, 1] := by
  unfold m_begun
  refine (bind_ok (comp2 (va := (0 : Int)) (vb := (1 : Int)) ?_ ?_) _).trans rfl
  · rw [bind_ok (l_num 0)]
  · rw [bind_ok (l_num 1)]
theorem sum_joined {own s n v m : Int} : m_joined sumR [s, n] [v, m] own = .ok [s + v, n + m] := by
  unfold m_joined
  refine (bind_ok (comp2 (va := s + v) (vb := n + m) ?_ ?_) _).trans rfl
  · rw [bind_ok (o_plus (l_so rfl) (l_more rfl))]
  · rw [bind_ok (o_plus (l_so (n := 1) rfl) (l_more (n := 1) rfl))]
theorem sum_over {own v m l : Int} (hc : CMulW l m) : m_over_tie sumR [v, m] own l = .ok [v + l * m, m] := by
  unfold m_over_tie
  refine (bind_ok (comp2 (va := v + l * m) (vb := m) ?_ ?_) _).trans rfl
  · rw [bind_ok (o_plus (l_more rfl) (o_times l_tie (l_more (n := 1) rfl) hc))]
  · rw [bind_ok (l_more (n := 1) rfl)]
theorem sum_fold (S N : Int → Int) : ∀ (cs : List Int) (s n : Int), cs.foldl (fun (q : Int × Int) c => (q.1 + S c, q.2 + N c)) (s, n) = (s + (cs.map S).sum, n + (cs.map N).sum)
  | [], s, n => by simp
  | c :: cs, s, n => by
    show cs.foldl _ (s + S c, n + N c) = _
    rw [sum_fold S N cs, List.map_cons, List.sum_cons, List.map_cons, List.sum_cons]
    refine Prod.ext ?_ ?_
    · show s + S c + _ = s + (S c + _); omega
    · show n + N c + _ = n + (N c + _); omega
theorem sum_rp (hn : t.1.length ≤ 100000) (hb : ∀ z ∈ t.2, z.c.natAbs < 2 ^ 100) : RP t sumR (fun a b => [((partL t a b).map (D a)).sum, ((partL t a b).length : Int)]) (fun p => ((rangeL 0 (t.1.length : Int)).map (D p)).sum) where
  need := sumR_need
  prog := fun a b l hs => by
    have rg := step_rg ht hs
    obtain ⟨own, o1, o2⟩ := atI_some (xs := t.1) (j := b) rg.2.1.1 rg.2.1.2
    have pp := partL_perm ht hs
    have pl := pp.length_eq
    have el : ((partL t a b).length : Int) = 1 + ((subs t a b).map fun c => ((partL t b c).length : Int)).sum := by
      rw [pl, List.length_cons, ← len_flat]; omega
    have es : ((partL t a b).map (D b)).sum = ((subs t a b).map fun c => ((partL t b c).map (D b)).sum).sum := by
      rw [sum_perm (pp.map (D b)), List.map_cons, List.sum_cons, sum_flat, D_self ht hD rg.2.1.1 rg.2.1.2, Int.zero_add]
    have ed : ((partL t a b).map (D a)).sum = l * ((partL t a b).length : Int) + ((partL t a b).map (D b)).sum := by
      rw [← sum_shift]
      exact congrArg List.sum (List.map_congr_left fun z hz => (cn_dist ht hD hs ((partL_mem ht hs).mp hz)).2.2)
    refine ⟨[((partL t a b).map (D b)).sum, ((partL t a b).length : Int)], own, ?_, o1, ?_⟩
    · have h := row_with_fold (t := t) (r := sumR) (p := b) (cs := subs t a b) (f := fun c => [((partL t b c).map (D b)).sum, ((partL t b c).length : Int)]) (G := fun (q : Int × Int) => [q.1, q.2]) (step := fun q c => (q.1 + ((partL t b c).map (D b)).sum, q.2 + ((partL t b c).length : Int))) (s := (0, 1)) o1 (sum_begun ht hD) fun s c _ => sum_joined ht hD
      rw [sum_fold ht hD] at h
      rw [h, es, el]
      refine congrArg (fun z => Except.ok [z, _]) ?_
      show 0 + _ = _
      rw [Int.zero_add]
    · have hl : l.natAbs < 2 ^ 100 := by
        obtain ⟨z, hz, _, e⟩ := hs
        rw [← e]
        exact hb z hz
      have ple := partL_len t a b
      rw [sum_over ht hD (cmulW (Nat.lt_of_lt_of_le hl (by decide +kernel)) (Nat.lt_of_lt_of_le (show ((partL t a b).length : Int).natAbs < 2 ^ 20 by omega) (by decide +kernel))), ed]
      refine congrArg (fun z => Except.ok [z, _]) ?_
      omega
  seat := fun p p0 p1 => by
    obtain ⟨own, o1, o2⟩ := atI_some (xs := t.1) (j := p) p0 p1
    have pp := all_perm ht p0 p1
    have es : ((rangeL 0 (t.1.length : Int)).map (D p)).sum = ((nearOf t.2 p).map fun c => ((partL t p c).map (D p)).sum).sum := by
      rw [sum_perm (pp.map (D p)), List.map_cons, List.sum_cons, sum_flat, D_self ht hD p0 p1, Int.zero_add]
    have h := row_with_fold (t := t) (r := sumR) (p := p) (cs := nearOf t.2 p) (f := fun c => [((partL t p c).map (D p)).sum, ((partL t p c).length : Int)]) (G := fun (q : Int × Int) => [q.1, q.2]) (step := fun q c => (q.1 + ((partL t p c).map (D p)).sum, q.2 + ((partL t p c).length : Int))) (s := (0, 1)) o1 (sum_begun ht hD) fun s c _ => sum_joined ht hD
    rw [sum_fold ht hD] at h
    refine ⟨_, own, o1, h, ?_⟩
    unfold m_told_by
    rw [bind_ok (show m_sum_at 12 sumR.d own 0 _ [] = .ok (0 + ((nearOf t.2 p).map fun c => ((partL t p c).map (D p)).sum).sum) from l_so rfl), Int.zero_add, ← es]
end

theorem cut_take {a : Type} (xs : List a) (k : Int) (h : 0 ≤ k) : cutL xs none (some k) = xs.take k.toNat := by
  unfold cutL
  rw [HT.sIx_none, show HT.sIx xs.length xs.length (some k) = min k.toNat xs.length by show (if k < 0 then (k + (xs.length : Int)).toNat else min k.toNat xs.length) = _; rw [if_neg (by omega)], List.drop_zero, Nat.sub_zero]
  by_cases z : k.toNat ≤ xs.length
  · rw [Nat.min_eq_left z]
  · rw [Nat.min_eq_right (by omega), List.take_length, List.take_of_length_le (by omega)]
theorem cut_drop {a : Type} (xs : List a) (k : Int) (h : 0 ≤ k) : cutL xs (some k) none = xs.drop k.toNat := by
  unfold cutL
  rw [HT.sIx_none, show HT.sIx xs.length 0 (some k) = min k.toNat xs.length by show (if k < 0 then (k + (xs.length : Int)).toNat else min k.toNat xs.length) = _; rw [if_neg (by omega)]]
  by_cases z : k.toNat ≤ xs.length
  · rw [Nat.min_eq_left z, List.take_of_length_le (by rw [List.length_drop]; omega)]
  · rw [Nat.min_eq_right (by omega), List.drop_length, List.drop_of_length_le (by omega), List.take_nil]

/-! ### rows put together, told by what is gone through -/
def wt (t : Tr) (z : Int) : Int := (L2.atI t.1 z).getD 0
theorem near_at {t : Tr} (ht : TreeOk t) {p : Int} (p0 : 0 ≤ p) (p1 : p < (t.1.length : Int)) : L2.atI t.1 p = some (wt t p) := by
  obtain ⟨own, o1, _⟩ := atI_some (xs := t.1) (j := p) p0 p1
  rw [o1]
  unfold wt
  rw [o1]
  rfl
theorem row_fold_pre {r : Rule} {own : Int} {f : Int → List Int} {G : List Int → List Int} : ∀ (cs pre : List Int), (∀ p c post, pre ++ cs = p ++ c :: post → m_joined r (G p) (f c) own = .ok (G (p ++ [c]))) →
    loopN (fun (y42 : (List Int)) (st53 : (List Int)) => m_joined r st53 y42 own >>= fun r61 => (.ok r61 : M _)) (cs.map f) (G pre) = .ok (G (pre ++ cs))
  | [], pre, _ => by rw [List.append_nil]; rfl
  | c :: cs, pre, h => by
    show ((m_joined r (G pre) (f c) own >>= fun r61 => (.ok r61 : M _)) >>= _) = _
    rw [h pre c cs rfl]
    have := row_fold_pre cs (pre ++ [c]) fun p d post e => h p d post (by rw [← e, List.append_assoc]; rfl)
    rw [List.append_assoc] at this
    exact this
theorem row_with_pre {t : Tr} {r : Rule} {p own : Int} {f : Int → List Int} {G : List Int → List Int} {cs : List Int} (ho : L2.atI t.1 p = some own) (hb : m_begun r own = .ok (G [])) (hj : ∀ pre c post, cs = pre ++ c :: post → m_joined r (G pre) (f c) own = .ok (G (pre ++ [c]))) : m_row_with t r p (cs.map f) = .ok (G cs) := by
  unfold m_row_with
  rw [opt_b ho, bind_ok hb, bind_ok (row_fold_pre cs [] hj)]
  rfl

/-! ### all lists of places within some: families of sums -/
def sbl : List Int → List (List Int)
  | [] => [[]]
  | x :: xs => (sbl xs).map (x :: ·) ++ sbl xs
theorem sbl_app : ∀ (xs ys : List Int), sbl (xs ++ ys) = (sbl xs).flatMap fun s => (sbl ys).map (s ++ ·)
  | [], ys => by
    show sbl ys = ([[]] : List (List Int)).flatMap _
    simp
  | x :: xs, ys => by
    show (sbl (xs ++ ys)).map (x :: ·) ++ sbl (xs ++ ys) = ((sbl xs).map (x :: ·) ++ sbl xs).flatMap _
    rw [sbl_app xs ys, List.flatMap_append, List.map_flatMap, List.flatMap_map]
    congr 2
    funext s
    rw [List.map_map]
    rfl
theorem sbl_sub : ∀ {xs s : List Int}, s ∈ sbl xs → s.Sublist xs
  | [], s, h => by
    rw [List.mem_singleton.mp h]
    exact List.Sublist.refl _
  | x :: xs, s, h => by
    rcases List.mem_append.mp h with h | h
    · obtain ⟨r, hr, rfl⟩ := List.mem_map.mp h
      exact (sbl_sub hr).cons₂ x
    · exact (sbl_sub h).cons x
theorem sbl_len : ∀ xs : List Int, (sbl xs).length = 2 ^ xs.length
  | [] => rfl
  | x :: xs => by
    show ((sbl xs).map (x :: ·) ++ sbl xs).length = _
    rw [List.length_append, List.length_map, sbl_len xs, List.length_cons, Nat.pow_succ]
    omega
theorem sbl_map_perm {α : Type} {xs ys : List Int} (h : xs.Perm ys) : ∀ (F : List Int → α), (∀ s r, s.Perm r → F s = F r) → ((sbl xs).map F).Perm ((sbl ys).map F) := by
  induction h with
  | nil => exact fun F _ => List.Perm.refl _
  | cons x h ih =>
    intro F hF
    show (((sbl _).map (x :: ·) ++ sbl _).map F).Perm (((sbl _).map (x :: ·) ++ sbl _).map F)
    rw [List.map_append, List.map_append, List.map_map, List.map_map]
    exact (ih (F ∘ (x :: ·)) fun s r h => hF _ _ (h.cons x)).append (ih F hF)
  | swap x y l =>
    intro F hF
    show ((((sbl l).map (x :: ·) ++ sbl l).map (y :: ·) ++ ((sbl l).map (x :: ·) ++ sbl l)).map F).Perm ((((sbl l).map (y :: ·) ++ sbl l).map (x :: ·) ++ ((sbl l).map (y :: ·) ++ sbl l)).map F)
    simp only [List.map_append, List.map_map]
    have e : (sbl l).map (F ∘ (fun x_1 => y :: x_1) ∘ fun x_1 => x :: x_1) = (sbl l).map (F ∘ (fun x_1 => x :: x_1) ∘ fun x_1 => y :: x_1) := List.map_congr_left fun s _ => hF _ _ (List.Perm.swap _ _ _)
    rw [e, List.append_assoc, List.append_assoc]
    refine List.Perm.append_left _ ?_
    rw [← List.append_assoc, ← List.append_assoc]
    exact List.Perm.append_right _ List.perm_append_comm
  | trans _ _ i1 i2 => exact fun F hF => (i1 F hF).trans (i2 F hF)
/-- what is told of those lists that have a number -/
def fam (F : List Int → Option Int) (xs : List Int) : List Int := (sbl xs).filterMap F
theorem fam_perm {F : List Int → Option Int} (hF : ∀ s r, s.Perm r → F s = F r) {xs ys : List Int} (h : xs.Perm ys) : (fam F xs).Perm (fam F ys) := by
  have h1 := (sbl_map_perm h F hF).filterMap id
  rw [List.filterMap_map, List.filterMap_map] at h1
  exact h1
theorem fam_cons (F : List Int → Option Int) (x : Int) (xs : List Int) : fam F (x :: xs) = fam (fun s => F (x :: s)) xs ++ fam F xs := by
  show ((sbl xs).map (x :: ·) ++ sbl xs).filterMap F = _
  rw [List.filterMap_append, List.filterMap_map]
  rfl
theorem fam_congr {F G : List Int → Option Int} {xs : List Int} (h : ∀ s ∈ sbl xs, F s = G s) : fam F xs = fam G xs := PG.fm_congr h
def prodL (L M : List Int) : List Int := L.flatMap fun x => M.map (x + ·)
def oadd (x y : Option Int) : Option Int := x.bind fun a => y.map (a + ·)
theorem fam_app {F G H : List Int → Option Int} {xs ys : List Int} (h : ∀ s ∈ sbl xs, ∀ r ∈ sbl ys, F (s ++ r) = oadd (G s) (H r)) : fam F (xs ++ ys) = prodL (fam G xs) (fam H ys) := by
  unfold fam prodL
  rw [sbl_app]
  generalize sbl xs = A at h
  induction A with
  | nil => rfl
  | cons s A ih =>
    rw [List.flatMap_cons, List.filterMap_append, ih fun s hs => h s (List.mem_cons_of_mem _ hs), List.filterMap_cons]
    have h := h s List.mem_cons_self
    have e : ((sbl ys).map (s ++ ·)).filterMap F = (sbl ys).filterMap fun r => oadd (G s) (H r) := by
      rw [List.filterMap_map]
      exact PG.fm_congr h
    rw [e]
    cases G s with
    | none =>
      have : (sbl ys).filterMap (fun r => oadd none (H r)) = [] := List.filterMap_eq_nil_iff.mpr fun _ _ => rfl
      rw [this]
      rfl
    | some a =>
      show _ = List.flatMap _ (a :: _)
      rw [List.flatMap_cons]
      congr 1
      show _ = ((sbl ys).filterMap H).map _
      rw [List.map_filterMap]
      rfl
theorem fam_nil_only {F : List Int → Option Int} {v : Int} : ∀ {xs : List Int}, (∀ s ∈ sbl xs, F s = if s = [] then some v else none) → fam F xs = [v]
  | [], h => by
    show ([[]] : List (List Int)).filterMap F = _
    rw [List.filterMap_cons, h [] (List.mem_singleton.mpr rfl)]
    rfl
  | x :: xs, h => by
    rw [fam_cons, fam_nil_only (xs := xs) fun s hs => h s (List.mem_append_right _ hs)]
    have : fam (fun s => F (x :: s)) xs = [] := List.filterMap_eq_nil_iff.mpr fun s hs => by
      rw [h (x :: s) (List.mem_append_left _ (List.mem_map.mpr ⟨s, hs, rfl⟩))]
      rfl
    rw [this]
    rfl
theorem fam_none {F : List Int → Option Int} {xs : List Int} (h : ∀ s ∈ sbl xs, F s = none) : fam F xs = [] := List.filterMap_eq_nil_iff.mpr h
theorem fam_len (F : List Int → Option Int) (xs : List Int) : (fam F xs).length ≤ 2 ^ xs.length := by
  rw [← sbl_len]
  exact List.length_filterMap_le _ _
theorem prodL_len (L M : List Int) : (prodL L M).length = L.length * M.length := by
  unfold prodL
  induction L with
  | nil => simp
  | cons x L ih => rw [List.flatMap_cons, List.length_append, ih, List.length_map, List.length_cons, Nat.succ_mul, Nat.add_comm]
theorem prodL_perm {L L' M M' : List Int} (h1 : L.Perm L') (h2 : M.Perm M') : (prodL L M).Perm (prodL L' M') := by
  unfold prodL
  refine (h1.flatMap_right _).trans ?_
  clear h1
  induction L' with
  | nil => exact List.Perm.refl _
  | cons x L ih => rw [List.flatMap_cons, List.flatMap_cons]; exact (h2.map _).append ih
theorem sbl_nil_mem : ∀ xs : List Int, [] ∈ sbl xs
  | [] => List.mem_singleton.mpr rfl
  | _ :: xs => List.mem_append_right _ (sbl_nil_mem xs)
/-! how many there are, and the greatest one -/
structure Ev (e : List Int → Int) (mul add : Int → Int → Int) : Prop where
  perm : ∀ {L M : List Int}, L.Perm M → e L = e M
  mul : ∀ {L M : List Int}, L ≠ [] → M ≠ [] → e (prodL L M) = mul (e L) (e M)
  add : ∀ {L M : List Int}, L ≠ [] → M ≠ [] → e (L ++ M) = add (e L) (e M)
def evN (L : List Int) : Int := (L.length : Int)
theorem ev_n : Ev evN (· * ·) (· + ·) where
  perm h := by unfold evN; rw [h.length_eq]
  mul _ _ := by
    show ((prodL _ _).length : Int) = (_ : Int) * (_ : Int)
    rw [prodL_len, Int.natCast_mul]
    rfl
  add _ _ := by
    show ((_ ++ _ : List Int).length : Int) = (_ : Int) + (_ : Int)
    rw [List.length_append, Int.natCast_add]
    rfl

/-! ### how many ties have both ends within, what places are worth together -/
def tin (s : List Int) (z : Tie) : Bool := decide (z.a ∈ s) && decide (z.b ∈ s)
def tt (t : Tr) (s : List Int) : Nat := t.2.countP (tin s)
def Wo (t : Tr) (s : List Int) : Int := (s.map (wt t)).sum
theorem tin_iff {s : List Int} {z : Tie} : tin s z = true ↔ z.a ∈ s ∧ z.b ∈ s := by
  unfold tin
  rw [Bool.and_eq_true, decide_eq_true_eq, decide_eq_true_eq]
theorem tt_perm {t : Tr} {s r : List Int} (h : s.Perm r) : tt t s = tt t r := by
  unfold tt
  refine congrArg (fun f => List.countP f t.2) (funext fun z => ?_)
  rw [Bool.eq_iff_iff, tin_iff, tin_iff, h.mem_iff, h.mem_iff]
theorem Wo_perm {t : Tr} {s r : List Int} (h : s.Perm r) : Wo t s = Wo t r := by
  unfold Wo
  have := h.map (wt t)
  generalize s.map (wt t) = a, r.map (wt t) = b at this
  induction this with
  | nil => rfl
  | cons x _ ih => rw [List.sum_cons, List.sum_cons, ih]
  | swap x y l => rw [List.sum_cons, List.sum_cons, List.sum_cons, List.sum_cons]; omega
  | trans _ _ i1 i2 => exact i1.trans i2
theorem Wo_app (t : Tr) (s r : List Int) : Wo t (s ++ r) = Wo t s + Wo t r := by
  unfold Wo
  rw [List.map_append, List.sum_append]
theorem countP_two {α : Type} {p q r : α → Bool} : ∀ {l : List α}, (∀ z ∈ l, (if p z = true then 1 else 0) = (if q z = true then 1 else 0) + (if r z = true then 1 else 0)) → l.countP p = l.countP q + l.countP r
  | [], _ => rfl
  | z :: l, h => by
    have h1 := h z List.mem_cons_self
    have h2 := countP_two (l := l) fun y hy => h y (List.mem_cons_of_mem _ hy)
    rw [List.countP_cons, List.countP_cons, List.countP_cons, h2]
    omega
theorem countP_three {α : Type} {p q r u : α → Bool} : ∀ {l : List α}, (∀ z ∈ l, (if p z = true then 1 else 0) = (if q z = true then 1 else 0) + (if r z = true then 1 else 0) + (if u z = true then 1 else 0)) → l.countP p = l.countP q + l.countP r + l.countP u
  | [], _ => rfl
  | z :: l, h => by
    have h1 := h z List.mem_cons_self
    have h2 := countP_three (l := l) fun y hy => h y (List.mem_cons_of_mem _ hy)
    rw [List.countP_cons, List.countP_cons, List.countP_cons, List.countP_cons, h2]
    omega
/-- places tied within are fewer than places -/
theorem grown_tt {ps : List Int} {ts : List Tie} (g : Grown ps ts) : ∀ s : List Int, s.Nodup → s ≠ [] → ts.countP (tin s) + 1 ≤ s.length := by
  induction g with
  | one p =>
    intro s _ h
    have := List.length_pos_iff.mpr h
    show 0 + 1 ≤ _
    omega
  | @more ps ts q p c g hq hp ih =>
    intro s nd h
    rw [List.countP_append, List.countP_cons, List.countP_nil]
    by_cases hc : tin s (tieOf p q c) = true
    · rw [if_pos hc]
      have hpq : p ≠ q := fun e => hp (e ▸ hq)
      obtain ⟨_, hab, _⟩ := tieOf_lt (c := c) hpq
      have hm : p ∈ s ∧ q ∈ s := by
        have := tin_iff.mp hc
        rcases hab with ⟨e1, e2⟩ | ⟨e1, e2⟩
        · rw [e1, e2] at this; exact this
        · rw [e1, e2] at this; exact ⟨this.2, this.1⟩
      have hq' : q ∈ s.erase p := (List.mem_erase_of_ne (fun e => hpq e.symm)).mpr hm.2
      have i := ih (s.erase p) (nd.erase p) (List.ne_nil_of_mem hq')
      rw [List.length_erase_of_mem hm.1] at i
      have hl := List.length_pos_iff.mpr h
      have e : ts.countP (tin (s.erase p)) = ts.countP (tin s) := List.countP_congr fun z hz => by
        obtain ⟨z1, z2, _⟩ := g.in z hz
        rw [tin_iff, tin_iff, List.mem_erase_of_ne (show z.a ≠ p from fun e => hp (by rw [← e]; exact z1)), List.mem_erase_of_ne (show z.b ≠ p from fun e => hp (by rw [← e]; exact z2))]
      omega
    · rw [if_neg hc]
      exact ih s nd h
section
variable {t : Tr} (ht : TreeOk t)
include ht
theorem tt_lt {s : List Int} (nd : s.Nodup) (h : s ≠ []) : tt t s + 1 ≤ s.length := by
  obtain ⟨ps, ts, g, _, e⟩ := ht.ex
  unfold tt
  rw [e, (sortT_perm ts).countP_eq]
  exact grown_tt g s nd h
theorem tt_app {s r : List Int} (h : ∀ x ∈ s, ∀ y ∈ r, ∀ l, ¬ Step t x y l) : tt t (s ++ r) = tt t s + tt t r := by
  refine countP_two fun z hz => ?_
  have s1 : Step t z.a z.b z.c := ⟨z, hz, .inl ⟨rfl, rfl⟩, rfl⟩
  have s2 : Step t z.b z.a z.c := ⟨z, hz, .inr ⟨rfl, rfl⟩, rfl⟩
  have e1 : tin (s ++ r) z = true ↔ (tin s z = true ∨ tin r z = true) := by
    rw [tin_iff, tin_iff, tin_iff, List.mem_append, List.mem_append]
    constructor
    · rintro ⟨a | a, b | b⟩
      · exact .inl ⟨a, b⟩
      · exact (h _ a _ b _ s1).elim
      · exact (h _ b _ a _ s2).elim
      · exact .inr ⟨a, b⟩
    · rintro (⟨a, b⟩ | ⟨a, b⟩)
      · exact ⟨.inl a, .inl b⟩
      · exact ⟨.inr a, .inr b⟩
  by_cases h1 : tin s z = true
  · have h2 : ¬ tin r z = true := fun h2 => h _ (tin_iff.mp h1).1 _ (tin_iff.mp h2).2 _ s1
    rw [if_pos (e1.mpr (.inl h1)), if_pos h1, if_neg h2]
  · by_cases h2 : tin r z = true
    · rw [if_pos (e1.mpr (.inr h2)), if_neg h1, if_pos h2]
    · rw [if_neg (fun z => (e1.mp z).elim h1 h2), if_neg h1, if_neg h2]
theorem one_tie {b c : Int} (hc : c ∈ nearOf t.2 b) : t.2.countP (fun z => decide (other b z = some c)) = 1 := by
  have nd := (nr_nd ht b)
  unfold nearOf at nd hc
  have nd := (sortT_perm _).nodup_iff.mp nd
  have hc := sortT_mem.mp hc
  have e : ∀ l : List Tie, l.countP (fun z => decide (other b z = some c)) = (l.filterMap (other b)).count c := fun l => by
    induction l with
    | nil => rfl
    | cons z l ih =>
      rw [List.countP_cons, List.filterMap_cons, ih]
      cases h : other b z with
      | none => rfl
      | some x =>
        show _ = List.count c (x :: _)
        rw [List.count_cons]
        by_cases e : x = c
        · rw [if_pos (decide_eq_true (by rw [e])), if_pos (by simpa using e)]
        · rw [if_neg (by simpa using e), if_neg (by simpa using e)]
  rw [e, nd.count, if_pos hc]
theorem tt_step {b c : Int} {s r : List Int} (hc : c ∈ nearOf t.2 b) (h1 : ∀ x ∈ s, ∀ y ∈ r, ∀ l, ¬ Step t x y l) (h2 : ∀ y ∈ r, ∀ l, Step t b y l → y = c) (h3 : ∀ y ∈ r, y ≠ b ∧ y ∉ s) : tt t (b :: (s ++ r)) = tt t (b :: s) + tt t r + (if c ∈ r then 1 else 0) := by
  have key : tt t (b :: (s ++ r)) = tt t (b :: s) + tt t r + t.2.countP (fun z => decide (c ∈ r) && decide (other b z = some c)) := by
    refine countP_three fun z hz => ?_
    have s1 : Step t z.a z.b z.c := ⟨z, hz, .inl ⟨rfl, rfl⟩, rfl⟩
    have s2 : Step t z.b z.a z.c := ⟨z, hz, .inr ⟨rfl, rfl⟩, rfl⟩
    have hlt := (step_rg ht s1).2.2
    have eo : other b z = some c ↔ (z.a = b ∧ z.b = c) ∨ (z.b = b ∧ z.a = c) := by
      unfold other
      by_cases q1 : z.a = b
      · rw [if_pos q1]
        refine ⟨fun e => .inl ⟨q1, Option.some.inj e⟩, fun e => ?_⟩
        rcases e with e | e
        · rw [e.2]
        · exact (hlt (q1.trans e.1.symm)).elim
      · rw [if_neg q1]
        by_cases q2 : z.b = b
        · rw [if_pos q2]
          refine ⟨fun e => .inr ⟨q2, Option.some.inj e⟩, fun e => ?_⟩
          rcases e with e | e
          · exact (q1 e.1).elim
          · rw [e.2]
        · rw [if_neg q2]
          exact ⟨(fun e => nomatch e), fun e => Or.elim e (fun e => (q1 e.1).elim) (fun e => (q2 e.1).elim)⟩
    have eu : (decide (c ∈ r) && decide (other b z = some c)) = true ↔ c ∈ r ∧ ((z.a = b ∧ z.b = c) ∨ (z.b = b ∧ z.a = c)) := by
      rw [Bool.and_eq_true, decide_eq_true_eq, decide_eq_true_eq, eo]
    have ep : tin (b :: (s ++ r)) z = true ↔ (z.a ∈ b :: s ∨ z.a ∈ r) ∧ (z.b ∈ b :: s ∨ z.b ∈ r) := by
      rw [tin_iff, ← List.cons_append, List.mem_append, List.mem_append]
    have cross : ∀ x y l, Step t x y l → x ∈ b :: s → y ∈ r → x = b ∧ y = c := fun x y l hs hx hy => by
      rcases List.mem_cons.mp hx with e | e
      · rw [e] at hs
        exact ⟨e, h2 y hy l hs⟩
      · exact (h1 x e y hy l hs).elim
    have dis : ∀ y, y ∈ r → ¬ y ∈ b :: s := fun y hy hm => by
      rcases List.mem_cons.mp hm with e | e
      · exact (h3 y hy).1 e
      · exact (h3 y hy).2 e
    by_cases qa : z.a ∈ b :: s
    · have na : ¬ z.a ∈ r := fun q => dis _ q qa
      have nr : ¬ tin r z = true := fun q => na (tin_iff.mp q).1
      rw [if_neg nr]
      by_cases qb : z.b ∈ b :: s
      · have nb : ¬ z.b ∈ r := fun q => dis _ q qb
        rw [if_pos (ep.mpr ⟨.inl qa, .inl qb⟩), if_pos (tin_iff.mpr ⟨qa, qb⟩), if_neg]
        intro q
        obtain ⟨q0, q | q⟩ := eu.mp q
        · exact nb (by rw [q.2]; exact q0)
        · exact na (by rw [q.2]; exact q0)
      · rw [if_neg (show ¬ tin (b :: s) z = true from fun q => qb (tin_iff.mp q).2)]
        by_cases nb : z.b ∈ r
        · have := cross _ _ _ s1 qa nb
          rw [if_pos (ep.mpr ⟨.inl qa, .inr nb⟩), if_pos (eu.mpr ⟨by rw [← this.2]; exact nb, .inl this⟩)]
        · rw [if_neg (fun q => (ep.mp q).2.elim qb nb), if_neg]
          intro q
          obtain ⟨q0, q | q⟩ := eu.mp q
          · exact nb (by rw [q.2]; exact q0)
          · exact na (by rw [q.2]; exact q0)
    · rw [if_neg (show ¬ tin (b :: s) z = true from fun q => qa (tin_iff.mp q).1)]
      by_cases na : z.a ∈ r
      · by_cases nb : z.b ∈ r
        · have qb : ¬ z.b ∈ b :: s := dis _ nb
          rw [if_pos (ep.mpr ⟨.inr na, .inr nb⟩), if_pos (tin_iff.mpr ⟨na, nb⟩), if_neg]
          intro q
          obtain ⟨q0, q | q⟩ := eu.mp q
          · exact qa (by rw [q.1]; exact List.mem_cons_self)
          · exact qb (by rw [q.1]; exact List.mem_cons_self)
        · rw [if_neg (show ¬ tin r z = true from fun q => nb (tin_iff.mp q).2)]
          by_cases qb : z.b ∈ b :: s
          · have := cross _ _ _ s2 qb na
            rw [if_pos (ep.mpr ⟨.inr na, .inl qb⟩), if_pos (eu.mpr ⟨by rw [← this.2]; exact na, .inr this⟩)]
          · rw [if_neg (fun q => (ep.mp q).2.elim qb nb), if_neg]
            intro q
            obtain ⟨q0, q | q⟩ := eu.mp q
            · exact qa (by rw [q.1]; exact List.mem_cons_self)
            · exact qb (by rw [q.1]; exact List.mem_cons_self)
      · rw [if_neg (fun q => (ep.mp q).1.elim qa na), if_neg (show ¬ tin r z = true from fun q => na (tin_iff.mp q).1), if_neg]
        intro q
        obtain ⟨q0, q | q⟩ := eu.mp q
        · exact qa (by rw [q.1]; exact List.mem_cons_self)
        · exact na (by rw [q.2]; exact q0)
  rw [key]
  congr 1
  by_cases q : c ∈ r
  · rw [if_pos q, ← one_tie ht hc]
    refine congrArg (fun f => List.countP f t.2) (funext fun z => ?_)
    rw [decide_eq_true q, Bool.true_and]
  · rw [if_neg q]
    refine List.countP_eq_zero.mpr fun z _ => ?_
    rw [decide_eq_false q, Bool.false_and]
    exact Bool.false_ne_true
end

/-! ### families of lists over the parts that hang at a place -/
noncomputable def flatP (t : Tr) (b : Int) (cs : List Int) : List Int := cs.flatMap (partL t b)
def Find (t : Tr) (s : List Int) : Option Int := if tt t s = 0 then some (Wo t s) else none
def Fcon (t : Tr) (s : List Int) : Option Int := if tt t s + 1 = s.length then some (Wo t s) else none
/-- lists no two of them tied, with b and without it -/
noncomputable def A1 (t : Tr) (b : Int) (cs : List Int) : List Int := fam (fun s => Find t (b :: s)) (flatP t b cs)
noncomputable def A0 (t : Tr) (b : Int) (cs : List Int) : List Int := fam (Find t) (flatP t b cs)
/-- lists with b that hang together -/
noncomputable def Pc (t : Tr) (b : Int) (cs : List Int) : List Int := fam (fun s => Fcon t (b :: s)) (flatP t b cs)
theorem Find_perm {t : Tr} {s r : List Int} (h : s.Perm r) : Find t s = Find t r := by
  unfold Find
  rw [tt_perm h, Wo_perm h]
theorem Fcon_perm {t : Tr} {s r : List Int} (h : s.Perm r) : Fcon t s = Fcon t r := by
  unfold Fcon
  rw [tt_perm h, Wo_perm h, h.length_eq]
theorem tt_nil (t : Tr) : tt t [] = 0 := List.countP_eq_zero.mpr fun z _ h => nomatch (tin_iff.mp h).1
theorem Wo_nil (t : Tr) : Wo t [] = 0 := rfl
theorem Wo_cons (t : Tr) (b : Int) (s : List Int) : Wo t (b :: s) = wt t b + Wo t s := by
  unfold Wo
  rw [List.map_cons, List.sum_cons]
theorem tt_one {t : Tr} (ht : TreeOk t) (b : Int) : tt t [b] = 0 := by
  have := tt_lt ht (s := [b]) (by simp) (by simp)
  have e : [b].length = 1 := rfl
  omega
theorem fam_has {F : List Int → Option Int} {xs : List Int} {v : Int} (h : F [] = some v) : fam F xs ≠ [] := by
  refine List.ne_nil_of_mem (a := v) (List.mem_filterMap.mpr ⟨[], sbl_nil_mem xs, h⟩)
section
variable {t : Tr} (ht : TreeOk t)
include ht
theorem A1_ne (b : Int) (cs : List Int) : A1 t b cs ≠ [] := fam_has (v := Wo t [b]) (by unfold Find; rw [tt_one ht, if_pos rfl])
theorem A0_ne (b : Int) (cs : List Int) : A0 t b cs ≠ [] := fam_has (v := 0) (by unfold Find; rw [tt_nil, if_pos rfl]; rfl)
theorem Pc_ne (b : Int) (cs : List Int) : Pc t b cs ≠ [] := fam_has (v := Wo t [b]) (by unfold Fcon; rw [tt_one ht, if_pos (show 0 + 1 = [b].length from rfl)])
theorem A1_nil (b : Int) : A1 t b [] = [wt t b] := by
  show ([[]] : List (List Int)).filterMap (fun s => Find t (b :: s)) = _
  rw [List.filterMap_cons]
  have : Find t [b] = some (wt t b) := by
    unfold Find
    rw [tt_one ht, if_pos rfl, Wo_cons, Wo_nil, Int.add_zero]
  rw [this]
  rfl
theorem A0_nil (b : Int) : A0 t b [] = [0] := by
  show ([[]] : List (List Int)).filterMap _ = _
  rw [List.filterMap_cons]
  have : Find t [] = some 0 := by
    unfold Find
    rw [tt_nil, if_pos rfl, Wo_nil]
  rw [this]
  rfl
theorem Pc_nil (b : Int) : Pc t b [] = [wt t b] := by
  show ([[]] : List (List Int)).filterMap (fun s => Fcon t (b :: s)) = _
  rw [List.filterMap_cons]
  have : Fcon t [b] = some (wt t b) := by
    unfold Fcon
    rw [tt_one ht, if_pos (show 0 + 1 = [b].length from rfl), Wo_cons, Wo_nil, Int.add_zero]
  rw [this]
  rfl
/-- what holds of lists over the parts ahead, and over one more -/
structure Ap (t : Tr) (b c : Int) (s r : List Int) : Prop where
  no : ∀ x ∈ s, ∀ y ∈ r, ∀ l, ¬ Step t x y l
  st : ∀ y ∈ r, ∀ l, Step t b y l → y = c
  dis : ∀ y ∈ r, y ≠ b ∧ y ∉ s
  nds : (b :: s).Nodup
  ndr : r.Nodup
theorem flat_in {b : Int} {cs : List Int} (hc : ∀ c ∈ cs, c ∈ nearOf t.2 b) {x : Int} (h : x ∈ flatP t b cs) : ∃ c ∈ cs, Cn t b c x := by
  obtain ⟨c, h1, h2⟩ := List.mem_flatMap.mp h
  obtain ⟨m, hs⟩ := (near_step ht).mp (hc c h1)
  exact ⟨c, h1, (partL_mem ht hs).mp h2⟩
theorem ap_of {b c : Int} {pre s r : List Int} (nd : (pre ++ [c]).Nodup) (hc : ∀ x ∈ pre ++ [c], x ∈ nearOf t.2 b) (hs : s ∈ sbl (flatP t b pre)) (hr : r ∈ sbl (partL t b c)) : Ap t b c s r := by
  have hcn := hc c (by simp)
  obtain ⟨m, hbc⟩ := (near_step ht).mp hcn
  have hpre : ∀ x ∈ pre, x ∈ nearOf t.2 b := fun x hx => hc x (List.mem_append_left _ hx)
  have hncp : c ∉ pre := fun z => (List.nodup_append.mp nd).2.2 c z c (List.mem_singleton.mpr rfl) rfl
  have is : ∀ x ∈ s, ∃ c' ∈ pre, Cn t b c' x := fun x hx => flat_in ht hpre ((sbl_sub hs).subset hx)
  have ir : ∀ y ∈ r, Cn t b c y := fun y hy => (partL_mem ht hbc).mp ((sbl_sub hr).subset hy)
  have neb : ∀ c', c' ∈ nearOf t.2 b → ∀ x, Cn t b c' x → x ≠ b := fun c' h1 x h2 => by
    obtain ⟨m', h'⟩ := (near_step ht).mp h1
    exact h2.ne (step_rg ht h').2.2.symm
  obtain ⟨n1, n2⟩ := flat_parts_nd ht (List.nodup_append.mp nd).1 hpre
  exact {
    no := fun x hx y hy l hst => by
      obtain ⟨c', h1, h2⟩ := is x hx
      have h3 := ir y hy
      have := cn_apart ht (hpre c' h1) hcn (h2.on hst (neb c hcn y h3)) h3
      exact hncp (this ▸ h1)
    st := fun y hy l hst => cn_apart ht ((near_step ht).mpr ⟨l, hst⟩) hcn (Cn.me y) (ir y hy)
    dis := fun y hy => ⟨neb c hcn y (ir y hy), fun hys => by
      obtain ⟨c', h1, h2⟩ := is y hys
      exact hncp (cn_apart ht (hpre c' h1) hcn h2 (ir y hy) ▸ h1)⟩
    nds := List.nodup_cons.mpr ⟨fun hb => by
      obtain ⟨c', h1, h2⟩ := is b hb
      exact neb c' (hpre c' h1) b h2 rfl, (sbl_sub hs).nodup n1⟩
    ndr := (sbl_sub hr).nodup (partL_nd t b c) }
theorem flatP_app (b c : Int) (pre : List Int) : flatP t b (pre ++ [c]) = flatP t b pre ++ partL t b c := by
  unfold flatP
  rw [List.flatMap_append, List.flatMap_singleton]
theorem not_own {b c : Int} {s cs : List Int} (hc : ∀ x ∈ cs, x ∈ nearOf t.2 c) (hs : s ∈ sbl (flatP t c cs)) : c ∉ s := fun h => by
  obtain ⟨d, h1, h2⟩ := flat_in ht hc ((sbl_sub hs).subset h)
  obtain ⟨m, h3⟩ := (near_step ht).mp (hc d h1)
  exact h2.ne (step_rg ht h3).2.2.symm rfl
theorem subs_near (a b : Int) : ∀ x ∈ subs t a b, x ∈ nearOf t.2 b := fun x hx => (List.mem_filter.mp hx).1
theorem A0_step {b c : Int} {pre : List Int} (nd : (pre ++ [c]).Nodup) (hc : ∀ x ∈ pre ++ [c], x ∈ nearOf t.2 b) : (A0 t b (pre ++ [c])).Perm (prodL (A0 t b pre) (A1 t c (subs t b c) ++ A0 t c (subs t b c))) := by
  obtain ⟨m, hbc⟩ := (near_step ht).mp (hc c (by simp))
  unfold A0
  rw [flatP_app ht, fam_app (G := Find t) (H := Find t) fun s hs r hr => by
    have A := ap_of ht nd hc hs hr
    unfold Find
    rw [tt_app ht A.no, Wo_app]
    by_cases h1 : tt t s = 0
    · by_cases h2 : tt t r = 0
      · rw [if_pos (by omega), if_pos h1, if_pos h2]; rfl
      · rw [if_neg (by omega), if_pos h1, if_neg h2]; rfl
    · rw [if_neg (by omega), if_neg h1]; rfl]
  refine prodL_perm (List.Perm.refl _) ((fam_perm (fun s r h => Find_perm h) (partL_perm ht hbc)).trans ?_)
  rw [fam_cons]
  exact List.Perm.refl _
theorem A1_step {b c : Int} {pre : List Int} (nd : (pre ++ [c]).Nodup) (hc : ∀ x ∈ pre ++ [c], x ∈ nearOf t.2 b) : (A1 t b (pre ++ [c])).Perm (prodL (A1 t b pre) (A0 t c (subs t b c))) := by
  have hcn := hc c (by simp)
  obtain ⟨m, hbc⟩ := (near_step ht).mp hcn
  unfold A1 A0
  rw [flatP_app ht, fam_app (G := fun s => Find t (b :: s)) (H := fun r => if c ∈ r then none else Find t r) fun s hs r hr => by
    have A := ap_of ht nd hc hs hr
    unfold Find
    rw [tt_step ht hcn A.no A.st A.dis, ← List.cons_append, Wo_app]
    by_cases h0 : c ∈ r
    · rw [if_pos h0, if_pos h0, if_neg (by omega)]
      by_cases h1 : tt t (b :: s) = 0
      · rw [if_pos h1]; rfl
      · rw [if_neg h1]; rfl
    · rw [if_neg h0, if_neg h0]
      by_cases h1 : tt t (b :: s) = 0
      · by_cases h2 : tt t r = 0
        · rw [if_pos (by omega), if_pos h1, if_pos h2]; rfl
        · rw [if_neg (by omega), if_pos h1, if_neg h2]; rfl
      · rw [if_neg (by omega), if_neg h1]; rfl]
  refine prodL_perm (List.Perm.refl _) ((fam_perm (fun s r h => ?_) (partL_perm ht hbc)).trans ?_)
  · show (if c ∈ s then none else Find t s) = if c ∈ r then none else Find t r
    rw [Find_perm h]
    by_cases z : c ∈ s
    · rw [if_pos z, if_pos (h.mem_iff.mp z)]
    · rw [if_neg z, if_neg (fun q => z (h.mem_iff.mpr q))]
  · rw [fam_cons, fam_none fun s _ => if_pos List.mem_cons_self, List.nil_append]
    exact List.Perm.of_eq (fam_congr fun s hs => if_neg (not_own ht (b := b) (subs_near ht b c) hs))
theorem Pc_step {b c : Int} {pre : List Int} (nd : (pre ++ [c]).Nodup) (hc : ∀ x ∈ pre ++ [c], x ∈ nearOf t.2 b) : (Pc t b (pre ++ [c])).Perm (prodL (Pc t b pre) (Pc t c (subs t b c) ++ [0])) := by
  have hcn := hc c (by simp)
  obtain ⟨m, hbc⟩ := (near_step ht).mp hcn
  unfold Pc
  rw [flatP_app ht, fam_app (G := fun s => Fcon t (b :: s)) (H := fun r => if tt t r + (if c ∈ r then 1 else 0) = r.length then some (Wo t r) else none) fun s hs r hr => by
    have A := ap_of ht nd hc hs hr
    unfold Fcon
    have l1 := tt_lt ht A.nds (by simp)
    have l2 : tt t r + (if c ∈ r then 1 else 0) ≤ r.length := by
      by_cases z : r = []
      · subst z
        rw [if_neg (by simp), tt_nil]
        exact Nat.le_refl _
      · have := tt_lt ht A.ndr z
        by_cases q : c ∈ r
        · rw [if_pos q]; omega
        · rw [if_neg q]; omega
    rw [tt_step ht hcn A.no A.st A.dis, ← List.cons_append, Wo_app, List.length_append]
    generalize (if c ∈ r then 1 else 0) = k at l2 ⊢
    by_cases h1 : tt t (b :: s) + 1 = (b :: s).length
    · by_cases h2 : tt t r + k = r.length
      · rw [if_pos (by omega), if_pos h1, if_pos h2]; rfl
      · rw [if_neg (by omega), if_pos h1, if_neg h2]; rfl
    · rw [if_neg (by omega), if_neg h1]; rfl]
  refine prodL_perm (List.Perm.refl _) ((fam_perm (fun s r h => ?_) (partL_perm ht hbc)).trans ?_)
  · show (if tt t s + (if c ∈ s then 1 else 0) = s.length then some (Wo t s) else none) = if tt t r + (if c ∈ r then 1 else 0) = r.length then some (Wo t r) else none
    rw [tt_perm h, Wo_perm h, h.length_eq]
    by_cases z : c ∈ s
    · rw [if_pos z, if_pos (h.mem_iff.mp z)]
    · rw [if_neg z, if_neg (fun q => z (h.mem_iff.mpr q))]
  · rw [fam_cons]
    refine List.Perm.of_eq (congr (congrArg _ ?_) ?_)
    · exact fam_congr fun s _ => by
        unfold Fcon
        rw [if_pos List.mem_cons_self]
    · obtain ⟨n1, _⟩ := flat_parts_nd ht (subs_nd ht b c) (subs_near ht b c)
      exact fam_nil_only fun s hs => by
        rw [if_neg (not_own ht (b := b) (subs_near ht b c) hs)]
        by_cases z : s = []
        · subst z
          rw [if_pos rfl, if_pos (show tt t [] + 0 = ([] : List Int).length from tt_nil t), Wo_nil]
        · have := tt_lt ht ((sbl_sub hs).nodup n1) z
          rw [if_neg z, if_neg (by omega)]
end

/-! ### rows of the rules apart, best, piece, pieces -/
def big (L : List Int) : Prop := L.length ≤ 2 ^ 60
structure Two (r : Rule) (e : List Int → Int) (mul add : Int → Int → Int) : Prop where
  ev : Ev e mul add
  need : m_need_rule r = .ok ()
  begun : ∀ own, m_begun r own = .ok [e [own], e [0]]
  joined : ∀ {own : Int} {L1 L0 M1 M0 : List Int}, big L1 → big L0 → big M1 → big M0 → m_joined r [e L1, e L0] [e M1, e M0] own = .ok [mul (e L1) (e M0), mul (e L0) (add (e M1) (e M0))]
  over : ∀ (x y own l : Int), m_over_tie r [x, y] own l = .ok [x, y]
  told : ∀ (x y own : Int), m_told_by r [x, y] own = .ok (add x y)
structure One (r : Rule) (e : List Int → Int) (mul add : Int → Int → Int) : Prop where
  ev : Ev e mul add
  need : m_need_rule r = .ok ()
  begun : ∀ own, m_begun r own = .ok [e [own]]
  joined : ∀ {own : Int} {L M : List Int}, big L → big M → m_joined r [e L] [e M] own = .ok [mul (e L) (e M)]
  over : ∀ {L : List Int} (own l : Int), L ≠ [] → m_over_tie r [e L] own l = .ok [e (L ++ [0])]
  told : ∀ (x own : Int), m_told_by r [x] own = .ok x
section
variable {t : Tr} (ht : TreeOk t)
include ht
theorem flatP_len {b : Int} {cs : List Int} (nd : cs.Nodup) (hc : ∀ x ∈ cs, x ∈ nearOf t.2 b) : (flatP t b cs).length ≤ t.1.length := by
  have := nd_sub_len (m := rangeL 0 (t.1.length : Int)) (flat_parts_nd ht nd hc).1 fun x hx => by
    obtain ⟨c, _, h⟩ := List.mem_flatMap.mp hx
    exact (List.mem_filter.mp h).1
  rw [rangeL_length] at this
  unfold flatP
  omega
theorem fam_big (hn : t.1.length ≤ 59) {F : List Int → Option Int} {b : Int} {cs : List Int} (nd : cs.Nodup) (hc : ∀ x ∈ cs, x ∈ nearOf t.2 b) : (fam F (flatP t b cs)).length ≤ 2 ^ 59 :=
  Nat.le_trans (fam_len _ _) (Nat.pow_le_pow_right (by decide) (Nat.le_trans (flatP_len ht nd hc) hn))
theorem two_row (hn : t.1.length ≤ 59) {r : Rule} {e : List Int → Int} {mul add : Int → Int → Int} (T : Two r e mul add) {b : Int} {cs : List Int} (b0 : 0 ≤ b) (b1 : b < (t.1.length : Int)) (nd : cs.Nodup) (hc : ∀ x ∈ cs, x ∈ nearOf t.2 b) :
    m_row_with t r b (cs.map fun c => [e (A1 t c (subs t b c)), e (A0 t c (subs t b c))]) = .ok [e (A1 t b cs), e (A0 t b cs)] := by
  refine row_with_pre (G := fun pre => [e (A1 t b pre), e (A0 t b pre)]) (near_at ht b0 b1) ?_ fun pre c post ec => ?_
  · rw [T.begun]
    show _ = Except.ok [e (A1 t b []), e (A0 t b [])]
    rw [A1_nil ht, A0_nil ht]
  · have nd1 : (pre ++ [c]).Nodup := by
      rw [ec, show pre ++ c :: post = (pre ++ [c]) ++ post by rw [List.append_assoc]; rfl] at nd
      exact (List.nodup_append.mp nd).1
    have hc1 : ∀ x ∈ pre ++ [c], x ∈ nearOf t.2 b := fun x hx => hc x (by
      rw [ec]
      rcases List.mem_append.mp hx with h | h
      · exact List.mem_append_left _ h
      · rw [List.mem_singleton.mp h]; simp)
    have hp : ∀ x ∈ pre, x ∈ nearOf t.2 b := fun x hx => hc1 x (List.mem_append_left _ hx)
    have ndp := (List.nodup_append.mp nd1).1
    have bg : ∀ {F : List Int → Option Int} {b : Int} {cs : List Int}, cs.Nodup → (∀ x ∈ cs, x ∈ nearOf t.2 b) → big (fam F (flatP t b cs)) := fun h1 h2 => Nat.le_trans (fam_big ht hn h1 h2) (by decide)
    show m_joined r [e (A1 t b pre), e (A0 t b pre)] [e (A1 t c (subs t b c)), e (A0 t c (subs t b c))] _ = Except.ok [e (A1 t b (pre ++ [c])), e (A0 t b (pre ++ [c]))]
    rw [T.joined (L1 := A1 t b pre) (L0 := A0 t b pre) (M1 := A1 t c (subs t b c)) (M0 := A0 t c (subs t b c)) (bg ndp hp) (bg ndp hp) (bg (subs_nd ht b c) (subs_near ht b c)) (bg (subs_nd ht b c) (subs_near ht b c))]
    rw [T.ev.perm (A1_step ht nd1 hc1), T.ev.perm (A0_step ht nd1 hc1), T.ev.mul (A1_ne ht _ _) (A0_ne ht _ _), T.ev.mul (A0_ne ht _ _) (fun z => A1_ne ht _ _ (List.append_eq_nil_iff.mp z).1), T.ev.add (A1_ne ht _ _) (A0_ne ht _ _)]
theorem two_rp (hn : t.1.length ≤ 59) {r : Rule} {e : List Int → Int} {mul add : Int → Int → Int} (T : Two r e mul add) :
    RP t r (fun a b => [e (A1 t b (subs t a b)), e (A0 t b (subs t a b))]) (fun _ => e (fam (Find t) (rangeL 0 (t.1.length : Int)))) where
  need := T.need
  prog := fun a b l hs => by
    have rg := step_rg ht hs
    exact ⟨_, _, two_row ht hn T rg.2.1.1 rg.2.1.2 (subs_nd ht a b) (subs_near ht a b), near_at ht rg.2.1.1 rg.2.1.2, T.over _ _ _ _⟩
  seat := fun p p0 p1 => by
    refine ⟨_, _, near_at ht p0 p1, two_row ht hn T p0 p1 (nr_nd ht p) fun c hc => hc, ?_⟩
    rw [T.told, ← T.ev.add (A1_ne ht _ _) (A0_ne ht _ _)]
    refine congrArg Except.ok (T.ev.perm ?_)
    refine List.Perm.trans ?_ (fam_perm (fun s r h => Find_perm h) (all_perm ht p0 p1)).symm
    rw [fam_cons]
    exact List.Perm.refl _
theorem one_row (hn : t.1.length ≤ 59) {r : Rule} {e : List Int → Int} {mul add : Int → Int → Int} (T : One r e mul add) {b : Int} {cs : List Int} (b0 : 0 ≤ b) (b1 : b < (t.1.length : Int)) (nd : cs.Nodup) (hc : ∀ x ∈ cs, x ∈ nearOf t.2 b) :
    m_row_with t r b (cs.map fun c => [e (Pc t c (subs t b c) ++ [0])]) = .ok [e (Pc t b cs)] := by
  refine row_with_pre (G := fun pre => [e (Pc t b pre)]) (near_at ht b0 b1) ?_ fun pre c post ec => ?_
  · rw [T.begun]
    show _ = Except.ok [e (Pc t b [])]
    rw [Pc_nil ht]
  · have nd1 : (pre ++ [c]).Nodup := by
      rw [ec, show pre ++ c :: post = (pre ++ [c]) ++ post by rw [List.append_assoc]; rfl] at nd
      exact (List.nodup_append.mp nd).1
    have hc1 : ∀ x ∈ pre ++ [c], x ∈ nearOf t.2 b := fun x hx => hc x (by
      rw [ec]
      rcases List.mem_append.mp hx with h | h
      · exact List.mem_append_left _ h
      · rw [List.mem_singleton.mp h]; simp)
    have hp : ∀ x ∈ pre, x ∈ nearOf t.2 b := fun x hx => hc1 x (List.mem_append_left _ hx)
    have ndp := (List.nodup_append.mp nd1).1
    have bg : ∀ {F : List Int → Option Int} {b : Int} {cs : List Int}, cs.Nodup → (∀ x ∈ cs, x ∈ nearOf t.2 b) → (fam F (flatP t b cs)).length ≤ 2 ^ 59 := fun h1 h2 => fam_big ht hn h1 h2
    show m_joined r [e (Pc t b pre)] [e (Pc t c (subs t b c) ++ [0])] _ = Except.ok [e (Pc t b (pre ++ [c]))]
    rw [T.joined (L := Pc t b pre) (M := Pc t c (subs t b c) ++ [0]) (Nat.le_trans (bg ndp hp) (by decide)) (by
      show (_ ++ _ : List Int).length ≤ 2 ^ 60
      rw [List.length_append]
      exact Nat.le_trans (Nat.add_le_add_right (bg (subs_nd ht b c) (subs_near ht b c)) _) (by decide))]
    rw [T.ev.perm (Pc_step ht nd1 hc1), T.ev.mul (Pc_ne ht _ _) (M := Pc t c (subs t b c) ++ [0]) (by simp)]
theorem one_rp (hn : t.1.length ≤ 59) {r : Rule} {e : List Int → Int} {mul add : Int → Int → Int} (T : One r e mul add) :
    RP t r (fun a b => [e (Pc t b (subs t a b) ++ [0])]) (fun p => e (Pc t p (nearOf t.2 p))) where
  need := T.need
  prog := fun a b l hs => by
    have rg := step_rg ht hs
    exact ⟨_, _, one_row ht hn T rg.2.1.1 rg.2.1.2 (subs_nd ht a b) (subs_near ht a b), near_at ht rg.2.1.1 rg.2.1.2, T.over _ _ (Pc_ne ht _ _)⟩
  seat := fun p p0 p1 => ⟨_, _, near_at ht p0 p1, one_row ht hn T p0 p1 (nr_nd ht p) fun c hc => hc, T.told _ _⟩
end
/-! ### the greatest one -/
def evX (L : List Int) : Int := (mxI L).getD 0
theorem evX_is {L : List Int} (h : L ≠ []) : evX L ∈ L ∧ ∀ y ∈ L, y ≤ evX L := by
  obtain ⟨m, hm⟩ := mxI_some h
  unfold evX
  rw [hm]
  exact mxI_is hm
theorem evX_eq {L : List Int} {m : Int} (h1 : m ∈ L) (h2 : ∀ y ∈ L, y ≤ m) : evX L = m := by
  have h := evX_is (List.ne_nil_of_mem h1)
  have := h2 _ h.1
  have := h.2 _ h1
  omega
theorem ev_x : Ev evX (· + ·) (fun s v => if v > s then v else s) where
  perm {L M} h := by
    by_cases z : M = []
    · subst z
      rw [h.eq_nil]
    · have := evX_is z
      exact evX_eq (h.mem_iff.mpr this.1) fun y hy => this.2 y (h.mem_iff.mp hy)
  mul {L M} h1 h2 := by
    have a := evX_is h1
    have b := evX_is h2
    refine evX_eq (List.mem_flatMap.mpr ⟨_, a.1, List.mem_map.mpr ⟨_, b.1, rfl⟩⟩) fun y hy => ?_
    obtain ⟨x, hx, hy⟩ := List.mem_flatMap.mp hy
    obtain ⟨z, hz, rfl⟩ := List.mem_map.mp hy
    have := a.2 x hx
    have := b.2 z hz
    show x + z ≤ evX L + evX M
    omega
  add {L M} h1 h2 := by
    have a := evX_is h1
    have b := evX_is h2
    show _ = if evX M > evX L then evX M else evX L
    by_cases c : evX M > evX L
    · rw [if_pos c]
      refine evX_eq (List.mem_append_right _ b.1) fun y hy => ?_
      rcases List.mem_append.mp hy with hy | hy
      · have := a.2 y hy; omega
      · exact b.2 y hy
    · rw [if_neg c]
      refine evX_eq (List.mem_append_left _ a.1) fun y hy => ?_
      rcases List.mem_append.mp hy with hy | hy
      · exact a.2 y hy
      · have := b.2 y hy; omega
/-! ### the four rules -/
abbrev so0 : Sm := Sm.num "so" 0
abbrev so1 : Sm := Sm.num "so" 1
abbrev mo0 : Sm := Sm.num "more" 0
abbrev mo1 : Sm := Sm.num "more" 1
abbrev nm0 : Sm := Sm.num "number" 0
abbrev nm1 : Sm := Sm.num "number" 1
def apartR : Rule := T4.mk [nm1, nm1] [mo0, mo1] [Sm.two "times" so0 mo1, Sm.two "times" so1 (Sm.two "plus" mo0 mo1)] (Sm.two "plus" so0 so1)
def bestR : Rule := T4.mk [Sm.nam "own", nm0] [mo0, mo1] [Sm.two "plus" so0 mo1, Sm.two "plus" so1 (Sm.two "most" mo0 mo1)] (Sm.two "most" so0 so1)
def pieceR : Rule := T4.mk [Sm.nam "own"] [Sm.two "most" nm0 mo0] [Sm.two "plus" so0 mo0] so0
def piecesR : Rule := T4.mk [nm1] [Sm.two "plus" mo0 nm1] [Sm.two "times" so0 mo0] so0
theorem named_apart : m_rule_named "apart" = .ok apartR := by
  unfold m_rule_named m_all_rules
  rfl
theorem named_best : m_rule_named "best" = .ok bestR := by
  unfold m_rule_named m_all_rules
  rfl
theorem named_piece : m_rule_named "piece" = .ok pieceR := by
  unfold m_rule_named m_all_rules
  rfl
theorem named_pieces : m_rule_named "pieces" = .ok piecesR := by
  unfold m_rule_named m_all_rules
  rfl
theorem lf_own (d : Nat) : Sh (d + 1) (Sm.nam "own") := .inl (.inr (.inl rfl))
theorem m2 {α : Type} {P : α → Prop} {a b : α} (ha : P a) (hb : P b) : ∀ x ∈ [a, b], P x := fun x hx => by
  rcases List.mem_cons.mp hx with e | e
  · rw [e]; exact ha
  · rw [List.mem_singleton.mp e]; exact hb
theorem m1 {α : Type} {P : α → Prop} {a : α} (ha : P a) : ∀ x ∈ [a], P x := fun x hx => by rw [List.mem_singleton.mp hx]; exact ha
theorem apartR_need : m_need_rule apartR = .ok () := need_of {
    la := by decide
    lb := by decide
    lc := by decide
    sa := m2 (lf_num 9 1) (lf_num 9 1)
    sb := m2 (lf_more 9 0) (lf_more 9 1)
    sc := m2 (sh_times (lf_so 8 0) (lf_more 8 1)) (sh_times (lf_so 8 1) (sh_plus (lf_more 7 0) (lf_more 7 1)))
    sd := sh_plus (lf_so 8 0) (lf_so 8 1) } (by decide +kernel)
theorem bestR_need : m_need_rule bestR = .ok () := need_of {
    la := by decide
    lb := by decide
    lc := by decide
    sa := m2 (lf_own 9) (lf_num 9 0)
    sb := m2 (lf_more 9 0) (lf_more 9 1)
    sc := m2 (sh_plus (lf_so 8 0) (lf_more 8 1)) (sh_plus (lf_so 8 1) (sh_most (lf_more 7 0) (lf_more 7 1)))
    sd := sh_most (lf_so 8 0) (lf_so 8 1) } (by decide +kernel)
theorem pieceR_need : m_need_rule pieceR = .ok () := need_of {
    la := by decide
    lb := by decide
    lc := by decide
    sa := m1 (lf_own 9)
    sb := m1 (sh_most (lf_num 8 0) (lf_more 8 0))
    sc := m1 (sh_plus (lf_so 8 0) (lf_more 8 0))
    sd := lf_so 9 0 } (by decide +kernel)
theorem piecesR_need : m_need_rule piecesR = .ok () := need_of {
    la := by decide
    lb := by decide
    lc := by decide
    sa := m1 (lf_num 9 1)
    sb := m1 (sh_plus (lf_more 8 0) (lf_num 8 1))
    sc := m1 (sh_times (lf_so 8 0) (lf_more 8 0))
    sd := lf_so 9 0 } (by decide +kernel)
theorem evN_mul {L M : List Int} (h1 : big L) (h2 : big M) : CMulW (evN L) (evN M) :=
  cmulW (Nat.lt_of_le_of_lt (m := 2 ^ 60) (by show (L.length : Int).natAbs ≤ _; rw [Int.natAbs_natCast]; exact h1) (by decide +kernel)) (Nat.lt_of_le_of_lt (m := 2 ^ 60) (by show (M.length : Int).natAbs ≤ _; rw [Int.natAbs_natCast]; exact h2) (by decide +kernel))
theorem evN_mul2 {L M N : List Int} (h1 : big L) (h2 : big M) (h3 : big N) : CMulW (evN L) (evN M + evN N) :=
  cmulW (Nat.lt_of_le_of_lt (m := 2 ^ 60) (by show (L.length : Int).natAbs ≤ _; rw [Int.natAbs_natCast]; exact h1) (by decide +kernel)) (Nat.lt_of_le_of_lt (m := 2 ^ 61) (by
    show ((M.length : Int) + (N.length : Int)).natAbs ≤ _
    unfold big at h2 h3
    omega) (by decide +kernel))
theorem apart_two : Two apartR evN (· * ·) (· + ·) where
  ev := ev_n
  need := apartR_need
  begun own := by
    unfold m_begun
    refine (bind_ok (comp2 (va := (1 : Int)) (vb := (1 : Int)) ?_ ?_) _).trans rfl
    · rw [bind_ok (l_num 1)]
    · rw [bind_ok (l_num 1)]
  joined {own L1 L0 M1 M0} b1 b0 c1 c0 := by
    unfold m_joined
    refine (bind_ok (comp2 (va := evN L1 * evN M0) (vb := evN L0 * (evN M1 + evN M0)) ?_ ?_) _).trans rfl
    · rw [bind_ok (o_times (l_so (n := 0) rfl) (l_more (n := 1) rfl) (evN_mul b1 c0))]
    · rw [bind_ok (o_times (l_so (n := 1) rfl) (o_plus (l_more (n := 0) rfl) (l_more (n := 1) rfl)) (evN_mul2 b0 c1 c0))]
  over x y own l := by
    unfold m_over_tie
    refine (bind_ok (comp2 (va := x) (vb := y) ?_ ?_) _).trans rfl
    · rw [bind_ok (l_more (n := 0) rfl)]
    · rw [bind_ok (l_more (n := 1) rfl)]
  told x y own := by
    unfold m_told_by
    rw [bind_ok (show m_sum_at 12 apartR.d own 0 [x, y] [] = .ok (x + y) from o_plus (l_so (n := 0) rfl) (l_so (n := 1) rfl))]
theorem best_two : Two bestR evX (· + ·) (fun s v => if v > s then v else s) where
  ev := ev_x
  need := bestR_need
  begun own := by
    unfold m_begun
    refine (bind_ok (comp2 (va := own) (vb := (0 : Int)) ?_ ?_) _).trans rfl
    · rw [bind_ok l_own]
    · rw [bind_ok (l_num 0)]
  joined {own L1 L0 M1 M0} _ _ _ _ := by
    unfold m_joined
    refine (bind_ok (comp2 (va := evX L1 + evX M0) (vb := evX L0 + (if evX M0 > evX M1 then evX M0 else evX M1)) ?_ ?_) _).trans rfl
    · rw [bind_ok (o_plus (l_so (n := 0) rfl) (l_more (n := 1) rfl))]
    · rw [bind_ok (o_plus (l_so (n := 1) rfl) (o_most (l_more (n := 0) rfl) (l_more (n := 1) rfl)))]
  over x y own l := by
    unfold m_over_tie
    refine (bind_ok (comp2 (va := x) (vb := y) ?_ ?_) _).trans rfl
    · rw [bind_ok (l_more (n := 0) rfl)]
    · rw [bind_ok (l_more (n := 1) rfl)]
  told x y own := by
    unfold m_told_by
    rw [bind_ok (show m_sum_at 12 bestR.d own 0 [x, y] [] = .ok (if y > x then y else x) from o_most (l_so (n := 0) rfl) (l_so (n := 1) rfl))]
theorem pieces_one : One piecesR evN (· * ·) (· + ·) where
  ev := ev_n
  need := piecesR_need
  begun own := by
    unfold m_begun
    refine (bind_ok (comp1 (va := (1 : Int)) ?_) _).trans rfl
    rw [bind_ok (l_num 1)]
  joined {own L M} b c := by
    unfold m_joined
    refine (bind_ok (comp1 (va := evN L * evN M) ?_) _).trans rfl
    rw [bind_ok (o_times (l_so (n := 0) rfl) (l_more (n := 0) rfl) (evN_mul b c))]
  over {L} own l _ := by
    unfold m_over_tie
    refine (bind_ok (comp1 (va := evN L + 1) ?_) _).trans ?_
    · rw [bind_ok (o_plus (l_more (n := 0) rfl) (l_num 1))]
    · refine congrArg (fun z => Except.ok [z]) ?_
      show (L.length : Int) + 1 = ((L ++ [0]).length : Int)
      rw [List.length_append]
      rfl
  told x own := by
    unfold m_told_by
    rw [bind_ok (show m_sum_at 12 piecesR.d own 0 [x] [] = .ok x from l_so (n := 0) rfl)]
theorem piece_one : One pieceR evX (· + ·) (fun s v => if v > s then v else s) where
  ev := ev_x
  need := pieceR_need
  begun own := by
    unfold m_begun
    refine (bind_ok (comp1 (va := own) ?_) _).trans rfl
    rw [bind_ok l_own]
  joined {own L M} _ _ := by
    unfold m_joined
    refine (bind_ok (comp1 (va := evX L + evX M) ?_) _).trans rfl
    rw [bind_ok (o_plus (l_so (n := 0) rfl) (l_more (n := 0) rfl))]
  over {L} own l h := by
    unfold m_over_tie
    refine (bind_ok (comp1 (va := if evX L > 0 then evX L else 0) ?_) _).trans ?_
    · rw [bind_ok (o_most (l_num 0) (l_more (n := 0) rfl))]
    · refine congrArg (fun z => Except.ok [z]) ?_
      have := ev_x.add (L := [0]) (M := L) (by simp) h
      have e : evX [(0 : Int)] = 0 := rfl
      rw [e] at this
      rw [ev_x.perm (List.perm_append_comm (l₁ := L) (l₂ := [0])), this]
  told x own := by
    unfold m_told_by
    rw [bind_ok (show m_sum_at 12 pieceR.d own 0 [x] [] = .ok x from l_so (n := 0) rfl)]

/-! ### a tree with one place more -/
theorem range_snoc (n : Nat) : rangeL 0 (((n + 1 : Nat)) : Int) = rangeL 0 (n : Int) ++ [(n : Int)] := by
  unfold rangeL
  rw [show ((n + 1 : Nat) : Int) - 0 = ((n + 1 : Nat) : Int) by omega, show (n : Int) - 0 = (n : Int) by omega, Int.toNat_natCast, Int.toNat_natCast, List.range_succ, List.map_append]
  refine congrArg (_ ++ ·) ?_
  show [(0 : Int) + (n : Int)] = _
  rw [Int.zero_add]
def gr (t : Tr) (p l w : Int) : Tr := (t.1 ++ [w], sortT (t.2 ++ [(⟨p, (t.1.length : Int), l⟩ : Tie)]))
theorem gr_len (t : Tr) (p l w : Int) : (gr t p l w).1.length = t.1.length + 1 := by
  show (t.1 ++ [w]).length = _
  rw [List.length_append]
  rfl
section
variable {t : Tr} (ht : TreeOk t) {p : Int} (p0 : 0 ≤ p) (p1 : p < (t.1.length : Int)) (l w : Int)
include ht p0 p1
theorem gr_ok : TreeOk (gr t p l w) := by
  obtain ⟨ps, ts, g, hp, e⟩ := ht.ex
  have hm : ∀ u, u ∈ ps ↔ 0 ≤ u ∧ u < (t.1.length : Int) := fun u => (hp.mem_iff).trans rangeL_mem
  have et : (⟨p, (t.1.length : Int), l⟩ : Tie) = tieOf (t.1.length : Int) p l := by
    unfold tieOf
    rw [if_neg (by omega)]
  refine ⟨ps ++ [(t.1.length : Int)], ts ++ [tieOf (t.1.length : Int) p l], Grown.more p _ l g ((hm p).mpr ⟨p0, p1⟩) (fun z => by have := (hm _).mp z; omega), ?_, ?_⟩
  · rw [gr_len, range_snoc]
    exact hp.append_right _
  · show sortT (t.2 ++ [_]) = _
    rw [← et]
    refine sortT_eq ?_
    rw [e]
    exact (sortT_perm ts).append_right _
theorem gr_mem {z : Tie} : z ∈ (gr t p l w).2 ↔ z ∈ t.2 ∨ z = ⟨p, (t.1.length : Int), l⟩ := by
  show z ∈ sortT (t.2 ++ [_]) ↔ _
  rw [sortT_mem, List.mem_append, List.mem_singleton]
theorem gr_step {a b c : Int} (h : Step t a b c) : Step (gr t p l w) a b c := by
  obtain ⟨z, hz, h1, h2⟩ := h
  exact ⟨z, (gr_mem ht p0 p1 l w).mpr (.inl hz), h1, h2⟩
theorem gr_new : Step (gr t p l w) p (t.1.length : Int) l := ⟨_, (gr_mem ht p0 p1 l w).mpr (.inr rfl), .inl ⟨rfl, rfl⟩, rfl⟩
theorem gr_wt {z : Int} (z0 : 0 ≤ z) (z1 : z < (t.1.length : Int)) : wt (gr t p l w) z = wt t z := by
  unfold wt
  obtain ⟨x, e1, e2⟩ := atI_some (xs := t.1) (j := z) z0 z1
  rw [e1, show L2.atI (gr t p l w).1 z = some x from atI_of z0 (by
    show (t.1 ++ [w])[z.toNat]? = _
    rw [List.getElem?_append_left (by omega)]
    exact e2)]
theorem gr_wt_new : wt (gr t p l w) (t.1.length : Int) = w := by
  unfold wt
  rw [show L2.atI (gr t p l w).1 (t.1.length : Int) = some w from atI_of (by omega) (by
    show (t.1 ++ [w])[((t.1.length : Nat) : Int).toNat]? = _
    rw [Int.toNat_natCast, List.getElem?_append_right (Nat.le_refl _), Nat.sub_self]
    rfl)]
  rfl
theorem gr_tt (s : List Int) : tt (gr t p l w) s = tt t s + (if p ∈ s ∧ (t.1.length : Int) ∈ s then 1 else 0) := by
  unfold tt
  show (sortT (t.2 ++ [(⟨p, (t.1.length : Int), l⟩ : Tie)])).countP (tin s) = _
  rw [(sortT_perm _).countP_eq, List.countP_append, List.countP_cons, List.countP_nil]
  rw [Nat.zero_add]
  congr 1
  by_cases h : p ∈ s ∧ (t.1.length : Int) ∈ s
  · rw [if_pos h, if_pos (tin_iff.mpr h)]
  · rw [if_neg h, if_neg (fun q => h (tin_iff.mp q))]
/-- ties within, the new place there or not -/
theorem gr_in {s : List Int} (hs : s ∈ sbl (rangeL 0 (t.1.length : Int))) : tt (gr t p l w) s = tt t s ∧ Wo (gr t p l w) s = Wo t s ∧ tt (gr t p l w) ((t.1.length : Int) :: s) = tt t s + (if p ∈ s then 1 else 0) ∧ Wo (gr t p l w) ((t.1.length : Int) :: s) = w + Wo t s ∧ (t.1.length : Int) ∉ s := by
  have rg : ∀ x ∈ s, 0 ≤ x ∧ x < (t.1.length : Int) := fun x hx => rangeL_mem.mp ((sbl_sub hs).subset hx)
  have hn : (t.1.length : Int) ∉ s := fun h => by have := (rg _ h).2; omega
  have hw : Wo (gr t p l w) s = Wo t s := by
    unfold Wo
    rw [List.map_congr_left fun x hx => gr_wt ht p0 p1 l w (rg x hx).1 (rg x hx).2]
  have hc : tt t ((t.1.length : Int) :: s) = tt t s := by
    unfold tt
    refine List.countP_congr fun z hz => ?_
    have := ht.tie z hz
    rw [tin_iff, tin_iff, List.mem_cons, List.mem_cons]
    constructor
    · rintro ⟨a, b⟩
      exact ⟨a.elim (fun e => by omega) id, b.elim (fun e => by omega) id⟩
    · rintro ⟨a, b⟩
      exact ⟨.inr a, .inr b⟩
  refine ⟨?_, hw, ?_, ?_, hn⟩
  · rw [gr_tt ht p0 p1, if_neg (fun h => hn h.2), Nat.add_zero]
  · rw [gr_tt ht p0 p1, hc]
    congr 1
    have hpn : p ≠ (t.1.length : Int) := by omega
    by_cases h : p ∈ s
    · rw [if_pos h, if_pos ⟨List.mem_cons_of_mem _ h, List.mem_cons_self⟩]
    · rw [if_neg h, if_neg fun q => (List.mem_cons.mp q.1).elim hpn h]
  · rw [Wo_cons, gr_wt_new ht p0 p1, hw]
theorem gr_range : (rangeL 0 ((gr t p l w).1.length : Int)).Perm ((t.1.length : Int) :: rangeL 0 (t.1.length : Int)) := by
  rw [gr_len, range_snoc]
  exact List.perm_append_singleton _ _
/-- a family over the grown tree -/
theorem gr_fam {F : List Int → Option Int} (hF : ∀ s r, s.Perm r → F s = F r) : (fam F (rangeL 0 ((gr t p l w).1.length : Int))).Perm (fam (fun s => F ((t.1.length : Int) :: s)) (rangeL 0 (t.1.length : Int)) ++ fam F (rangeL 0 (t.1.length : Int))) := by
  refine (fam_perm hF (gr_range ht p0 p1 l w)).trans ?_
  rw [fam_cons]
/-- lists no two tied: those without the place, with the new one or without it -/
def Fout (t : Tr) (p : Int) (s : List Int) : Option Int := if p ∈ s then none else Find t s
theorem gr_ind : (fam (Find (gr t p l w)) (rangeL 0 ((gr t p l w).1.length : Int))).Perm ((fam (Fout t p) (rangeL 0 (t.1.length : Int))).map (w + ·) ++ fam (Find t) (rangeL 0 (t.1.length : Int))) := by
  refine (gr_fam ht p0 p1 l w (fun s r h => Find_perm h)).trans ?_
  refine List.Perm.of_eq (congr (congrArg _ ?_) (fam_congr fun s hs => ?_))
  · unfold fam
    rw [List.map_filterMap]
    refine fm_congr fun s hs => ?_
    obtain ⟨_, _, h3, h4, _⟩ := gr_in ht p0 p1 l w hs
    unfold Fout
    show Find _ _ = _
    unfold Find
    rw [h3, h4]
    by_cases q : p ∈ s
    · rw [if_pos q, if_pos q, if_neg (by omega)]
      rfl
    · rw [if_neg q, if_neg q, Nat.add_zero]
      by_cases c : tt t s = 0
      · rw [if_pos c, if_pos c]; rfl
      · rw [if_neg c, if_neg c]; rfl
  · obtain ⟨h1, h2, _⟩ := gr_in ht p0 p1 l w hs
    unfold Find
    rw [h1, h2]
/-- those without the place, in the grown tree: the new one is free -/
theorem gr_out : (fam (Fout (gr t p l w) p) (rangeL 0 ((gr t p l w).1.length : Int))).Perm ((fam (Fout t p) (rangeL 0 (t.1.length : Int))).map (w + ·) ++ fam (Fout t p) (rangeL 0 (t.1.length : Int))) := by
  have hpn : p ≠ (t.1.length : Int) := by omega
  refine (gr_fam ht p0 p1 l w (fun s r h => ?_)).trans ?_
  · unfold Fout
    rw [Find_perm h]
    by_cases q : p ∈ s
    · rw [if_pos q, if_pos (h.mem_iff.mp q)]
    · rw [if_neg q, if_neg (fun z => q (h.mem_iff.mpr z))]
  refine List.Perm.of_eq (congr (congrArg _ ?_) (fam_congr fun s hs => ?_))
  · unfold fam
    rw [List.map_filterMap]
    refine fm_congr fun s hs => ?_
    obtain ⟨_, _, h3, h4, _⟩ := gr_in ht p0 p1 l w hs
    show Fout _ _ _ = _
    unfold Fout Find
    rw [h3, h4]
    by_cases q : p ∈ s
    · simp only [if_pos q, if_pos (List.mem_cons_of_mem _ q)]
      rfl
    · rw [if_neg q, if_neg q, if_neg (fun z => (List.mem_cons.mp z).elim hpn q), Nat.add_zero]
      by_cases c : tt t s = 0
      · rw [if_pos c, if_pos c]; rfl
      · rw [if_neg c, if_neg c]; rfl
  · obtain ⟨h1, h2, _⟩ := gr_in ht p0 p1 l w hs
    unfold Fout Find
    rw [h1, h2]
end
/-- lists with a seat that hang together -/
def Fseat (t : Tr) (k : Int) (s : List Int) : Option Int := if k ∈ s then Fcon t s else none
theorem Fseat_perm {t : Tr} {k : Int} {s r : List Int} (h : s.Perm r) : Fseat t k s = Fseat t k r := by
  unfold Fseat
  rw [Fcon_perm h]
  by_cases q : k ∈ s
  · rw [if_pos q, if_pos (h.mem_iff.mp q)]
  · rw [if_neg q, if_neg (fun z => q (h.mem_iff.mpr z))]
theorem seat_fam {t : Tr} (ht : TreeOk t) {k : Int} (k0 : 0 ≤ k) (k1 : k < (t.1.length : Int)) : (fam (Fseat t k) (rangeL 0 (t.1.length : Int))).Perm (Pc t k (nearOf t.2 k)) := by
  refine (fam_perm (fun s r h => Fseat_perm h) (all_perm ht k0 k1)).trans ?_
  rw [fam_cons, fam_none (xs := (nearOf t.2 k).flatMap (partL t k)) (F := Fseat t k) fun s hs => if_neg (not_own ht (b := k) (c := k) (cs := nearOf t.2 k) (fun x hx => hx) hs), List.append_nil]
  exact List.Perm.of_eq (fam_congr fun s _ => if_pos List.mem_cons_self)
/-- .. with two seats -/
def Ftwo (t : Tr) (k p : Int) (s : List Int) : Option Int := if p ∈ s then Fseat t k s else none
section
variable {t : Tr} (ht : TreeOk t) {p : Int} (p0 : 0 ≤ p) (p1 : p < (t.1.length : Int)) (l w : Int)
include ht p0 p1
theorem gr_seat {k : Int} (k1 : k ≠ (t.1.length : Int)) : (fam (Fseat (gr t p l w) k) (rangeL 0 ((gr t p l w).1.length : Int))).Perm ((fam (Ftwo t k p) (rangeL 0 (t.1.length : Int))).map (w + ·) ++ fam (Fseat t k) (rangeL 0 (t.1.length : Int))) := by
  refine (gr_fam ht p0 p1 l w (fun s r h => Fseat_perm h)).trans ?_
  refine List.Perm.of_eq (congr (congrArg _ ?_) (fam_congr fun s hs => ?_))
  · unfold fam
    rw [List.map_filterMap]
    refine fm_congr fun s hs => ?_
    obtain ⟨_, _, h3, h4, _⟩ := gr_in ht p0 p1 l w hs
    have nd : s.Nodup := (sbl_sub hs).nodup (rangeL_nodup _ _)
    show Fseat _ _ _ = _
    unfold Ftwo Fseat Fcon
    rw [h3, h4, List.length_cons]
    by_cases q : k ∈ s
    · rw [if_pos (List.mem_cons_of_mem _ q), if_pos q]
      by_cases c : p ∈ s
      · rw [if_pos c, if_pos c]
        by_cases e : tt t s + 1 = s.length
        · rw [if_pos e, if_pos (by omega)]; rfl
        · rw [if_neg e, if_neg (by omega)]; rfl
      · have := tt_lt ht nd (List.ne_nil_of_mem q)
        rw [if_neg c, if_neg c, if_neg (by omega)]
        rfl
    · rw [if_neg (fun z => (List.mem_cons.mp z).elim k1 q), if_neg q]
      by_cases c : p ∈ s
      · rw [if_pos c]; rfl
      · rw [if_neg c]; rfl
  · obtain ⟨h1, h2, _⟩ := gr_in ht p0 p1 l w hs
    unfold Fseat Fcon
    rw [h1, h2]
theorem gr_seat_new : (fam (Fseat (gr t p l w) (t.1.length : Int)) (rangeL 0 ((gr t p l w).1.length : Int))).length = 1 + (fam (Fseat t p) (rangeL 0 (t.1.length : Int))).length := by
  rw [(gr_fam ht p0 p1 l w (fun s r h => Fseat_perm h)).length_eq, List.length_append]
  rw [fam_none (F := Fseat (gr t p l w) (t.1.length : Int)) fun s hs => if_neg (gr_in ht p0 p1 l w hs).2.2.2.2]
  show (fam (fun s => Fseat (gr t p l w) (t.1.length : Int) ((t.1.length : Int) :: s)) (rangeL 0 (t.1.length : Int))).length + 0 = _
  have key : ∀ (A : List (List Int)), (∀ s ∈ A, s.Nodup ∧ s ∈ sbl (rangeL 0 (t.1.length : Int))) → (A.filterMap fun s => Fseat (gr t p l w) (t.1.length : Int) ((t.1.length : Int) :: s)).length = A.countP (fun s => decide (s = [])) + (A.filterMap (Fseat t p)).length := by
    intro A
    induction A with
    | nil => intro _; rfl
    | cons s A ih =>
      intro h
      have i := ih fun s hs => h s (List.mem_cons_of_mem _ hs)
      obtain ⟨nd, hs⟩ := h s List.mem_cons_self
      obtain ⟨_, _, h3, h4, _⟩ := gr_in ht p0 p1 l w hs
      rw [List.filterMap_cons, List.filterMap_cons, List.countP_cons]
      have e1 : Fseat (gr t p l w) (t.1.length : Int) ((t.1.length : Int) :: s) = if tt t s + (if p ∈ s then 1 else 0) = s.length then some (w + Wo t s) else none := by
        unfold Fseat Fcon
        rw [if_pos List.mem_cons_self, h3, h4, List.length_cons]
        by_cases c : tt t s + (if p ∈ s then 1 else 0) = s.length
        · rw [if_pos c, if_pos (by omega)]
        · rw [if_neg c, if_neg (by omega)]
      rw [e1]
      by_cases z : s = []
      · subst z
        have e2 : Fseat t p [] = none := if_neg (fun h => nomatch h)
        rw [e2, tt_nil, if_neg (show ¬ p ∈ ([] : List Int) from fun h => nomatch h), if_pos (show 0 + 0 = ([] : List Int).length from rfl), if_pos (decide_eq_true rfl)]
        show (A.filterMap _).length + 1 = (A.countP (fun s => decide (s = [])) + 1) + (A.filterMap (Fseat t p)).length
        rw [i]
        omega
      · have hlt := tt_lt ht nd z
        rw [if_neg (show ¬ decide (s = []) = true from fun q => z (of_decide_eq_true q))]
        by_cases c : p ∈ s
        · have e2 : Fseat t p s = Fcon t s := if_pos c
          rw [if_pos c, e2]
          unfold Fcon
          by_cases e : tt t s + 1 = s.length
          · rw [if_pos e, if_pos e]
            show (A.filterMap _).length + 1 = _ + ((A.filterMap _).length + 1)
            rw [i]
            omega
          · rw [if_neg e, if_neg e]
            exact i
        · have e2 : Fseat t p s = none := if_neg c
          rw [if_neg c, e2, if_neg (by omega)]
          exact i
  have hk := key (sbl (rangeL 0 (t.1.length : Int))) fun s hs => ⟨(sbl_sub hs).nodup (rangeL_nodup _ _), hs⟩
  have one : ∀ xs : List Int, (sbl xs).countP (fun s => decide (s = [])) = 1 := by
    intro xs
    induction xs with
    | nil => rfl
    | cons x xs ih =>
      show ((sbl xs).map (x :: ·) ++ sbl xs).countP _ = 1
      rw [List.countP_append, ih, List.countP_map]
      rw [show (sbl xs).countP ((fun s : List Int => decide (s = [])) ∘ (x :: ·)) = 0 from List.countP_eq_zero.mpr fun s _ h => nomatch (of_decide_eq_true (show decide (x :: s = []) = true from h))]
  unfold fam
  rw [hk, one]
  omega
end
/-! how far, in the grown tree -/
def Dg (n : Nat) (p l : Int) (D : Int → Int → Int) (x y : Int) : Int := if x = (n : Int) then (if y = (n : Int) then 0 else l + D p y) else if y = (n : Int) then D x p + l else D x y
theorem gr_dist {t : Tr} (ht : TreeOk t) {p : Int} (p0 : 0 ≤ p) (p1 : p < (t.1.length : Int)) (l w : Int) {D : Int → Int → Int} (hD : ∀ x y, 0 ≤ x → x < (t.1.length : Int) → 0 ≤ y → y < (t.1.length : Int) → Dist t x y (D x y)) :
    ∀ x y, 0 ≤ x → x < ((gr t p l w).1.length : Int) → 0 ≤ y → y < ((gr t p l w).1.length : Int) → Dist (gr t p l w) x y (Dg t.1.length p l D x y) := by
  intro x y x0 x1 y0 y1
  rw [gr_len] at x1 y1
  have old : ∀ {x y d : Int}, Dist t x y d → Dist (gr t p l w) x y d := fun {x y d} h => by
    obtain ⟨ps, h1, h2⟩ := h
    exact ⟨ps, h1.more (fun a b c h => gr_step ht p0 p1 l w h), h2⟩
  have fresh : ∀ {x z d : Int} {ps : List Int}, Way t x ps z d → 0 ≤ x → x < (t.1.length : Int) → (t.1.length : Int) ∉ x :: ps := fun {x z d ps} h => by
    induction h with
    | one x => intro x0 x1 h; rw [List.mem_singleton.mp h] at x1; omega
    | cons hs _ ih =>
      intro x0 x1 h
      rcases List.mem_cons.mp h with e | e
      · omega
      · exact ih (step_rg ht hs).2.1.1 (step_rg ht hs).2.1.2 e
  have from_n : ∀ y, 0 ≤ y → y < (t.1.length : Int) → Dist (gr t p l w) (t.1.length : Int) y (l + D p y) := fun y y0 y1 => by
    obtain ⟨ps, h1, h2⟩ := hD p y p0 p1 y0 y1
    exact ⟨p :: ps, Way.cons (stp_sym (gr_new ht p0 p1 l w)) (h1.more fun a b c h => gr_step ht p0 p1 l w h), List.nodup_cons.mpr ⟨fresh h1 p0 p1, h2⟩⟩
  unfold Dg
  by_cases hx : x = (t.1.length : Int)
  · rw [if_pos hx, hx]
    by_cases hy : y = (t.1.length : Int)
    · rw [if_pos hy, hy]
      exact dist_self _
    · rw [if_neg hy]
      exact from_n y y0 (by omega)
  · rw [if_neg hx]
    by_cases hy : y = (t.1.length : Int)
    · rw [if_pos hy, hy]
      have h := dist_sym (from_n x x0 (by omega))
      have e : l + D p x = D x p + l := by
        rw [dist_uniq ht (hD p x p0 p1 x0 (by omega)) (dist_sym (hD x p x0 (by omega) p0 p1))]
        omega
      rw [← e]
      exact h
    · rw [if_neg hy]
      exact old (hD x y x0 (by omega) y0 (by omega))

/-! ### the two sides of a tie -/
theorem sides_perm {t : Tr} (ht : TreeOk t) {a b l : Int} (hs : Step t a b l) : (rangeL 0 (t.1.length : Int)).Perm (partL t a b ++ partL t b a) := by
  obtain ⟨D, hD⟩ := dist_fun ht
  have hs' := stp_sym hs
  have hab := (step_rg ht hs).2.2
  refine (List.perm_ext_iff_of_nodup (rangeL_nodup _ _) (List.nodup_append.mpr ⟨partL_nd t a b, partL_nd t b a, fun x hx y hy e => ?_⟩)).mpr fun z => ?_
  · subst e
    have h1 := (partL_mem ht hs).mp hx
    have h2 := (partL_mem ht hs').mp hy
    rcases (cn_split ht hs').mp h2 with e | ⟨c, hc, h3⟩
    · exact h1.ne hab.symm e
    · obtain ⟨c1, c2⟩ := List.mem_filter.mp hc
      have := cn_apart ht ((near_step ht).mpr ⟨l, hs⟩) c1 h1 h3
      exact of_decide_eq_true c2 this.symm
  · rw [rangeL_mem, List.mem_append, partL_mem ht hs, partL_mem ht hs']
    constructor
    · intro h
      by_cases e : z = a
      · exact .inr (by rw [e]; exact Cn.me a)
      · obtain ⟨c, hc, h2⟩ := cn_all ht (step_rg ht hs).1.1 (step_rg ht hs).1.2 h.1 h.2 e
        by_cases q : c = b
        · rw [q] at h2; exact .inl h2
        · exact .inr ((cn_split ht hs').mpr (.inr ⟨c, List.mem_filter.mpr ⟨hc, decide_eq_true q⟩, h2⟩))
    · rintro (h | h)
      · exact (cn_dist ht hD hs h).1
      · exact (cn_dist ht hD hs' h).1
theorem sides_len {t : Tr} (ht : TreeOk t) {a b l : Int} (hs : Step t a b l) : (t.1.length : Int) = ((partL t a b).length : Int) + ((partL t b a).length : Int) := by
  have := (sides_perm ht hs).length_eq
  rw [rangeL_length, List.length_append] at this
  omega
theorem sides_sum {t : Tr} (ht : TreeOk t) {D : Int → Int → Int} (hD : ∀ x y, 0 ≤ x → x < (t.1.length : Int) → 0 ≤ y → y < (t.1.length : Int) → Dist t x y (D x y)) {a b l : Int} (hs : Step t a b l) :
    ((rangeL 0 (t.1.length : Int)).map (D a)).sum - ((rangeL 0 (t.1.length : Int)).map (D b)).sum = l * (2 * ((partL t a b).length : Int) - (t.1.length : Int)) := by
  have hs' := stp_sym hs
  have pp := sides_perm ht hs
  rw [sum_perm (pp.map (D a)), sum_perm (pp.map (D b)), List.map_append, List.map_append, List.sum_append, List.sum_append]
  have e1 : ((partL t a b).map (D a)).sum = l * ((partL t a b).length : Int) + ((partL t a b).map (D b)).sum := by
    rw [← sum_shift]
    exact congrArg List.sum (List.map_congr_left fun z hz => (cn_dist ht hD hs ((partL_mem ht hs).mp hz)).2.2)
  have e2 : ((partL t b a).map (D b)).sum = l * ((partL t b a).length : Int) + ((partL t b a).map (D a)).sum := by
    rw [← sum_shift]
    exact congrArg List.sum (List.map_congr_left fun z hz => (cn_dist ht hD hs' ((partL_mem ht hs').mp hz)).2.2)
  have e3 := sides_len ht hs
  rw [e1, e2, e3]
  have e4 : 2 * ((partL t a b).length : Int) - (((partL t a b).length : Int) + ((partL t b a).length : Int)) = ((partL t a b).length : Int) - ((partL t b a).length : Int) := by omega
  rw [e4, Int.mul_sub]
  omega
/-- the law's own count of a side -/
structure Sd (t : Tr) (a b : Int) (at_ : Int) (fs : List Int) : Prop where
  nd : fs.Nodup
  hd : b ∈ fs
  cn : ∀ x ∈ fs, Cn t a b x
  a0 : 0 ≤ at_
  a1 : at_ ≤ (fs.length : Int)
  cl : ∀ i : Nat, (i : Int) < at_ → ∀ x, fs[i]? = some x → ∀ y l, Step t x y l → y = a ∨ y ∈ fs
theorem side_ok {t : Tr} (ht : TreeOk t) (hn : t.1.length ≤ 1000) {a b l : Int} (hs : Step t a b l) : m_law_side t a b = .ok ((partL t a b).length : Int) := by
  obtain ⟨D, hD⟩ := dist_fun ht
  have hlen := ht.len
  have hab := (step_rg ht hs).2.2
  have flen : ∀ {at_ : Int} {fs : List Int}, Sd t a b at_ fs → fs.length ≤ t.1.length := fun h => by
    have := nd_sub_len (m := rangeL 0 (t.1.length : Int)) h.nd fun x hx => rangeL_mem.mpr (cn_dist ht hD hs (h.cn x hx)).1
    rw [rangeL_length] at this
    omega
  unfold m_law_side
  rw [bind_ok (beside_ok t ht (by omega))]
  refine ok_of ?_
  refine whL_runB t.1.length (fun m st => Sd t a b st.1 st.2 ∧ (m : Int) + st.1 = (t.1.length : Int)) (fun st => Sd t a b st.1 st.2 ∧ st.1 = (st.2.length : Int)) (fun m st ⟨h, hm⟩ => ?_)
    ⟨⟨by simp, List.mem_singleton.mpr rfl, fun x hx => by rw [List.mem_singleton.mp hx]; exact Cn.me b, Int.le_refl _, by show (0 : Int) ≤ ((1 : Nat) : Int); decide, fun i hi => by have hi : (i : Int) < 0 := hi; omega⟩, by show (t.1.length : Int) + 0 = _; omega⟩ (by omega) (fun st ⟨h, hm⟩ => ?_)
  · obtain ⟨at_, fs⟩ := st
    have h : Sd t a b at_ fs := h
    have hm : (m : Int) + at_ = (t.1.length : Int) := hm
    have hl := flen h
    have h0 := h.a0
    by_cases c : at_ < (fs.length : Int)
    · refine .inl (go_of ?_)
      rw [if_pos c]
      obtain ⟨x, x1, x2⟩ := atI_some (xs := fs) (j := at_) h0 c
      have hx := List.mem_of_getElem? x2
      have rx := (cn_dist ht hD hs (h.cn x hx)).1
      rw [opt_b x1, opt_b (atI_of rx.1 (bes_at _ _ rx.1 rx.2))]
      refine loopN_runB (fun pre st => st.Nodup ∧ (∀ y ∈ fs, y ∈ st) ∧ (∀ y ∈ st, Cn t a b y) ∧ (∀ e ∈ pre, e.1 = a ∨ e.1 ∈ st) ∧ (∃ more, st = fs ++ more)) ⟨h.nd, fun y hy => hy, h.cn, (fun _ h => nomatch h), ⟨[], (List.append_nil _).symm⟩⟩ (fun pre e post st ea ⟨g1, g2, g3, g4, g5⟩ => ?_) (fun st ⟨g1, g2, g3, g4, g5⟩ => ?_)
      · obtain ⟨y, c⟩ := e
        have he : (y, c) ∈ t.2.filterMap (dirs x) := by rw [ea]; simp
        have hst := (dirs_step ht).mp he
        have hsl : st.length ≤ t.1.length := by
          have := nd_sub_len (m := rangeL 0 (t.1.length : Int)) g1 fun x hx => rangeL_mem.mpr (cn_dist ht hD hs (g3 x hx)).1
          rw [rangeL_length] at this
          omega
        dsimp only
        by_cases q1 : y ≠ a
        · rw [if_pos q1]
          by_cases q2 : y ∉ st
          · rw [if_pos q2, bind_ok (appL_ok (by omega))]
            refine ⟨_, rfl, List.nodup_append.mpr ⟨g1, by simp, fun u hu v hv e => q2 (by rw [← List.mem_singleton.mp hv, ← e]; exact hu)⟩, fun z hz => List.mem_append_left _ (g2 z hz), fun z hz => ?_, fun z hz => ?_, ?_⟩
            · rcases List.mem_append.mp hz with k | k
              · exact g3 z k
              · rw [List.mem_singleton.mp k]
                exact (h.cn x hx).on hst q1
            · rcases List.mem_append.mp hz with k | k
              · exact (g4 z k).imp id fun k => List.mem_append_left _ k
              · rw [List.mem_singleton.mp k]
                exact .inr (List.mem_append_right _ (List.mem_singleton.mpr rfl))
            · obtain ⟨more, e⟩ := g5
              exact ⟨more ++ [y], by rw [e, List.append_assoc]⟩
          · rw [if_neg q2]
            refine ⟨_, rfl, g1, g2, g3, fun z hz => ?_, g5⟩
            rcases List.mem_append.mp hz with k | k
            · exact g4 z k
            · rw [List.mem_singleton.mp k]
              exact .inr (Classical.byContradiction q2)
        · rw [if_neg q1]
          refine ⟨_, rfl, g1, g2, g3, fun z hz => ?_, g5⟩
          rcases List.mem_append.mp hz with k | k
          · exact g4 z k
          · rw [List.mem_singleton.mp k]
            exact .inl (Classical.byContradiction q1)
      · obtain ⟨more, e⟩ := g5
        refine ⟨_, rfl, m - 1, _, rfl, by omega, ⟨g1, g2 b h.hd, g3, by show 0 ≤ at_ + 1; omega, ?_, fun i hi u hu y l' hst => ?_⟩, ?_⟩
        · show at_ + 1 ≤ (st.length : Int)
          rw [e, List.length_append]
          omega
        · have hi : (i : Int) < at_ + 1 := hi
          have hif : i < fs.length := by omega
          rw [show (st)[i]? = fs[i]? by rw [e, List.getElem?_append_left hif]] at hu
          by_cases q : (i : Int) < at_
          · exact (h.cl i q u hu y l' hst).imp id (g2 y)
          · have : i = at_.toNat := by omega
            rw [this, x2] at hu
            rw [← Option.some.inj hu] at hst
            exact g4 (y, l') ((dirs_step ht).mpr hst)
        · show ((m - 1 : Nat) : Int) + (at_ + 1) = _
          omega
    · refine .inr ⟨_, if_neg c, h, ?_⟩
      have := h.a1
      show at_ = (fs.length : Int)
      omega
  · refine ⟨_, rfl, ?_⟩
    obtain ⟨at_, fs⟩ := st
    have h : Sd t a b at_ fs := h
    have hm : at_ = (fs.length : Int) := hm
    have all : ∀ z, Cn t a b z → z ∈ fs := fun z hz => by
      induction hz with
      | me => exact h.hd
      | on h1 hst hne ih =>
        obtain ⟨i, hi⟩ := List.mem_iff_getElem?.mp ih
        have hil := (List.getElem?_eq_some_iff.mp hi).1
        rcases h.cl i (by omega) _ hi _ _ hst with e | e
        · exact (hne e).elim
        · exact e
    have : fs.Perm (partL t a b) := (List.perm_ext_iff_of_nodup h.nd (partL_nd t a b)).mpr fun z => by
      rw [partL_mem ht hs]
      exact ⟨h.cn z, all z⟩
    show (fs.length : Int) = _
    rw [this.length_eq]

/-! ### all six by name -/
def R0 (t : Tr) : List Int := rangeL 0 (t.1.length : Int)
def apV (t : Tr) : Int := evN (fam (Find t) (R0 t))
def bsV (t : Tr) : Int := evX (fam (Find t) (R0 t))
def faV (t : Tr) (D : Int → Int → Int) (p : Int) : Int := ((R0 t).map (D p)).foldl mx2 0
noncomputable def piV (t : Tr) (p : Int) : Int := evX (Pc t p (nearOf t.2 p))
noncomputable def psV (t : Tr) (p : Int) : Int := evN (Pc t p (nearOf t.2 p))
def smV (t : Tr) (D : Int → Int → Int) (p : Int) : Int := ((R0 t).map (D p)).sum
noncomputable def toldL (t : Tr) (D : Int → Int → Int) : List (Str × List Int) := [("apart", (R0 t).map fun _ => apV t), ("best", (R0 t).map fun _ => bsV t), ("farthest", (R0 t).map (faV t D)), ("piece", (R0 t).map (piV t)), ("pieces", (R0 t).map (psV t)), ("sum", (R0 t).map (smV t D))]
theorem dneg {k j : Str} {v : List Int} {r : List (Str × List Int)} (h : ¬ k = j) : dGet ((k, v) :: r) j = dGet r j := dGet_neg h
theorem ne_fst {k j : Str} {v : List Int} (h : ¬ k = j) : ((k, v) : Str × List Int).1 ≠ j := h
section
variable {t : Tr} (ht : TreeOk t) {D : Int → Int → Int}
theorem g_apart : dGet (toldL t D) ("apart" : Str) = some ((R0 t).map fun _ => apV t) := by
  unfold toldL
  rw [dGet_pos rfl]
theorem g_best : dGet (toldL t D) ("best" : Str) = some ((R0 t).map fun _ => bsV t) := by
  unfold toldL
  rw [dneg (by decide +kernel), dGet_pos rfl]
theorem g_far : dGet (toldL t D) ("farthest" : Str) = some ((R0 t).map (faV t D)) := by
  unfold toldL
  rw [dneg (by decide +kernel), dneg (by decide +kernel), dGet_pos rfl]
theorem g_piece : dGet (toldL t D) ("piece" : Str) = some ((R0 t).map (piV t)) := by
  unfold toldL
  rw [dneg (by decide +kernel), dneg (by decide +kernel), dneg (by decide +kernel), dGet_pos rfl]
theorem g_pieces : dGet (toldL t D) ("pieces" : Str) = some ((R0 t).map (psV t)) := by
  unfold toldL
  rw [dneg (by decide +kernel), dneg (by decide +kernel), dneg (by decide +kernel), dneg (by decide +kernel), dGet_pos rfl]
theorem g_sum : dGet (toldL t D) ("sum" : Str) = some ((R0 t).map (smV t D)) := by
  unfold toldL
  rw [dneg (by decide +kernel), dneg (by decide +kernel), dneg (by decide +kernel), dneg (by decide +kernel), dneg (by decide +kernel), dGet_pos rfl]
theorem r0_len (t : Tr) (f : Int → Int) : ((R0 t).map f).length = t.1.length := by
  unfold R0
  rw [List.length_map, rangeL_length]
  omega
theorem r0_at {t : Tr} (f : Int → Int) {p : Int} (p0 : 0 ≤ p) (p1 : p < (t.1.length : Int)) : L2.atI ((R0 t).map f) p = some (f p) := range_map_get f p0 p1
include ht
theorem told_ok (hn : t.1.length ≤ 59) (hb : ∀ z ∈ t.2, z.c.natAbs < 2 ^ 100) (hD : ∀ x y, 0 ≤ x → x < (t.1.length : Int) → 0 ≤ y → y < (t.1.length : Int) → Dist t x y (D x y)) : m_law_told t = .ok (toldL t D) := by
  have step : ∀ (name : Str) (r : Rule) (f : Int → Int → List Int) (g : Int → Int) (st : List (Str × List Int)), m_rule_named name = .ok r → RP t r f g → st.length ≤ 10 → (∀ p ∈ st, p.1 ≠ name) →
      (m_rule_named name >>= fun r39 => m_all_seats t r39 >>= fun r47 => putD st name r47 >>= fun z67 => (.ok z67 : M (List (Str × List Int)))) = .ok (st ++ [(name, (R0 t).map g)]) := fun name r f g st h1 h2 h3 h4 => by
    rw [bind_ok h1, bind_ok (all_seats_rp t ht (by omega) h2)]
    have : putD st name ((rangeL 0 (t.1.length : Int)).map g) = .ok (st ++ [(name, (R0 t).map g)]) := by
      unfold putD
      rw [if_pos (by omega), dPut_new h4]
      rfl
    rw [bind_ok this]
  unfold m_law_told
  rw [show loopN (fun (y20 : Str) (st31 : (List (Str × (List Int)))) =>
    m_rule_named y20 >>= fun r39 =>
    m_all_seats t r39 >>= fun r47 =>
    putD st31 y20 r47 >>= fun z67 =>
    .ok z67) ([("apart" : Str), ("best" : Str), ("farthest" : Str), ("piece" : Str), ("pieces" : Str), ("sum" : Str)]) ([] : (List (Str × (List Int)))) = .ok (toldL t D) from ?_]
  · rfl
  show (_ >>= fun s1 => _ >>= fun s2 => _ >>= fun s3 => _ >>= fun s4 => _ >>= fun s5 => _ >>= fun s6 => _) = _
  rw [bind_ok (step "apart" _ _ _ [] named_apart (two_rp ht hn apart_two) (by decide) (fun _ h => nomatch h))]
  rw [bind_ok (step "best" _ _ _ _ named_best (two_rp ht hn best_two) (by show 1 ≤ 10; decide) (fun p hp => by
    simp only [List.nil_append, List.cons_append, List.mem_cons, List.not_mem_nil, or_false] at hp
    subst hp
    exact ne_fst (by decide +kernel)))]
  rw [bind_ok (step "farthest" _ _ _ _ named_far (far_rp ht hD) (by show 2 ≤ 10; decide) (fun p hp => by
    simp only [List.nil_append, List.cons_append, List.mem_cons, List.not_mem_nil, or_false] at hp
    rcases hp with e | e <;> subst e <;> exact ne_fst (by decide +kernel)))]
  rw [bind_ok (step "piece" _ _ _ _ named_piece (one_rp ht hn piece_one) (by show 3 ≤ 10; decide) (fun p hp => by
    simp only [List.nil_append, List.cons_append, List.mem_cons, List.not_mem_nil, or_false] at hp
    rcases hp with e | e | e <;> subst e <;> exact ne_fst (by decide +kernel)))]
  rw [bind_ok (step "pieces" _ _ _ _ named_pieces (one_rp ht hn pieces_one) (by show 4 ≤ 10; decide) (fun p hp => by
    simp only [List.nil_append, List.cons_append, List.mem_cons, List.not_mem_nil, or_false] at hp
    rcases hp with e | e | e | e <;> subst e <;> exact ne_fst (by decide +kernel)))]
  rw [bind_ok (step "sum" _ _ _ _ named_sum (sum_rp ht hD (by omega) hb) (by show 5 ≤ 10; decide) (fun p hp => by
    simp only [List.nil_append, List.cons_append, List.mem_cons, List.not_mem_nil, or_false] at hp
    rcases hp with e | e | e | e | e <;> subst e <;> exact ne_fst (by decide +kernel)))]
  rfl
end
/-! ### within one tree -/
theorem far_diff {t : Tr} (ht : TreeOk t) {D : Int → Int → Int} (hD : ∀ x y, 0 ≤ x → x < (t.1.length : Int) → 0 ≤ y → y < (t.1.length : Int) → Dist t x y (D x y)) (h0 : ∀ z ∈ t.2, 0 ≤ z.c) {a b l : Int} (hs : Step t a b l) : faV t D a ≤ faV t D b + l := by
  have rg := step_rg ht hs
  have l0 : 0 ≤ l := by
    obtain ⟨z, hz, _, e⟩ := hs
    rw [← e]; exact h0 z hz
  have fold : ∀ p, (0 ≤ faV t D p) ∧ (∀ y ∈ R0 t, D p y ≤ faV t D p) ∧ (faV t D p = 0 ∨ ∃ y ∈ R0 t, faV t D p = D p y) := fun p => by
    obtain ⟨a1, a2, a3⟩ := mx_fold (fun y => y) ((R0 t).map (D p)) 0
    refine ⟨a1, fun y hy => a2 _ (List.mem_map.mpr ⟨y, hy, rfl⟩), a3.imp id fun ⟨c, hc, e⟩ => ?_⟩
    obtain ⟨y, hy, e2⟩ := List.mem_map.mp hc
    exact ⟨y, hy, by rw [e2]; exact e⟩
  obtain ⟨b1, b2, _⟩ := fold b
  obtain ⟨_, _, a3⟩ := fold a
  rcases a3 with e | ⟨y, hy, e⟩
  · omega
  · have := b2 y hy
    have hy' := hy
    unfold R0 at hy'
    rcases List.mem_append.mp ((sides_perm ht hs).mem_iff.mp hy') with h | h
    · have := (cn_dist ht hD hs ((partL_mem ht hs).mp h)).2.2
      omega
    · have := (cn_dist ht hD (stp_sym hs) ((partL_mem ht (stp_sym hs)).mp h)).2.2
      omega
theorem pieces_many {t : Tr} (ht : TreeOk t) (b : Int) : ∀ (post pre : List Int), (pre ++ post).Nodup → (∀ x ∈ pre ++ post, x ∈ nearOf t.2 b) → (pre.length : Int) < evN (Pc t b pre) → ((pre ++ post).length : Int) < evN (Pc t b (pre ++ post))
  | [], pre, _, _, h => by rw [List.append_nil]; exact h
  | c :: post, pre, nd, hc, h => by
    have e : pre ++ c :: post = (pre ++ [c]) ++ post := by rw [List.append_assoc]; rfl
    rw [e] at nd hc ⊢
    refine pieces_many ht b post (pre ++ [c]) nd hc ?_
    rw [ev_n.perm (Pc_step ht (List.nodup_append.mp nd).1 fun x hx => hc x (List.mem_append_left _ hx)), ev_n.mul (Pc_ne ht _ _) (M := Pc t c (subs t b c) ++ [0]) (by simp), List.length_append]
    have h2 : (2 : Int) ≤ evN (Pc t c (subs t b c) ++ [0]) := by
      show (2 : Int) ≤ ((Pc t c (subs t b c) ++ [0]).length : Int)
      have := List.length_pos_iff.mpr (Pc_ne ht c (subs t b c))
      rw [List.length_append, List.length_singleton]
      omega
    have h3 : evN (Pc t b pre) * 2 ≤ evN (Pc t b pre) * evN (Pc t c (subs t b c) ++ [0]) := Int.mul_le_mul_of_nonneg_left h2 (by omega)
    show ((pre.length + 1 : Nat) : Int) < _ * _
    omega
theorem within_ok {t : Tr} (ht : TreeOk t) (hn : t.1.length ≤ 40) (hb : ∀ z ∈ t.2, z.c.natAbs < 2 ^ 100) (h0 : ∀ z ∈ t.2, 0 ≤ z.c) {D : Int → Int → Int} (hD : ∀ x y, 0 ≤ x → x < (t.1.length : Int) → 0 ≤ y → y < (t.1.length : Int) → Dist t x y (D x y)) : m_law_within t (toldL t D) = .ok true := by
  have hlen := ht.len
  have hpos := ht.pos
  unfold m_law_within
  rw [loopM_all fun z hz => by
    have hs : Step t z.a z.b z.c := ⟨z, hz, .inl ⟨rfl, rfl⟩, rfl⟩
    have rg := step_rg ht hs
    have pl := partL_len t z.a z.b
    rw [bind_ok (side_ok ht (by omega) hs), opt_b g_sum, opt_b (r0_at _ rg.1.1 rg.1.2), opt_b g_sum, opt_b (r0_at _ rg.2.1.1 rg.2.1.2)]
    rw [chk_b (cmulW (by decide +kernel) (Nat.lt_of_le_of_lt (m := 100) (by omega) (by decide +kernel))), chk_b (cmulW (Nat.lt_of_lt_of_le (hb z hz) (by decide +kernel)) (Nat.lt_of_le_of_lt (m := 1000) (by omega) (by decide +kernel)))]
    rw [if_neg (fun q => q (sides_sum ht hD hs)), opt_b g_far, opt_b (r0_at _ rg.1.1 rg.1.2), opt_b g_far, opt_b (r0_at _ rg.2.1.1 rg.2.1.2)]
    have d1 := far_diff ht hD h0 hs
    have d2 := far_diff ht hD h0 (stp_sym hs)
    rw [if_neg (by split <;> omega)]]
  rw [ok_b]
  dsimp only
  have same : ∀ (v : Int), (R0 t).map (fun _ => v) = repL (t.1.length : Int) (cutL ((R0 t).map fun _ => v) none (some (1 : Int))) := fun v => by
    have hc : cutL ((R0 t).map fun _ => v) none (some (1 : Int)) = [v] := by
      rw [cut_take _ _ (by decide)]
      unfold R0 rangeL
      rw [List.map_map]
      obtain ⟨k, hk⟩ : ∃ k, ((t.1.length : Int) - 0).toNat = k + 1 := ⟨t.1.length - 1, by omega⟩
      rw [hk, List.range_succ_eq_map]
      rfl
    rw [hc]
    have h1 : (R0 t).map (fun _ => v) = List.replicate t.1.length v := List.eq_replicate_iff.mpr ⟨r0_len t _, fun x hx => by
      obtain ⟨_, _, rfl⟩ := List.mem_map.mp hx
      rfl⟩
    rw [h1]
    unfold repL
    rw [Int.toNat_natCast]
    generalize t.1.length = n
    induction n with
    | zero => rfl
    | succ n ih => rw [List.replicate_succ, List.replicate_succ, List.flatten_cons, ← ih]; rfl
  have c1 : ∀ (v : Int), (cutL ((R0 t).map fun _ => v) none (some (1 : Int))).length = 1 := fun v => by
    rw [cut_take _ _ (by decide), List.length_take, r0_len]
    show min 1 _ = 1
    omega
  rw [loopM_all fun y hy => by
    simp only [List.mem_cons, List.not_mem_nil, or_false] at hy
    rcases hy with e | e <;> subst e
    · rw [opt_b g_apart, opt_b g_apart, c1, chk_b (show CRep 1 (t.1.length : Int) from ⟨by omega, by omega, by omega⟩), if_neg (fun q => q (same _))]
    · rw [opt_b g_best, opt_b g_best, c1, chk_b (show CRep 1 (t.1.length : Int) from ⟨by omega, by omega, by omega⟩), if_neg (fun q => q (same _))]]
  rw [ok_b]
  dsimp only
  have hx := evX_is (L := fam (Find t) (R0 t)) (fam_has (v := 0) (by unfold Find; rw [tt_nil, if_pos rfl]; rfl))
  have in0 : (0 : Int) ∈ fam (Find t) (R0 t) := List.mem_filterMap.mpr ⟨[], sbl_nil_mem _, by unfold Find; rw [tt_nil, if_pos rfl]; rfl⟩
  have in1 : ∀ p, 0 ≤ p → p < (t.1.length : Int) → wt t p ∈ fam (Find t) (R0 t) := fun p p0 p1 => by
    have hp : (fam (Find t) (R0 t)).Perm _ := fam_perm (fun s r h => Find_perm h) (all_perm ht p0 p1)
    rw [hp.mem_iff, fam_cons]
    refine List.mem_append_left _ (List.mem_filterMap.mpr ⟨[], sbl_nil_mem _, ?_⟩)
    unfold Find
    rw [tt_one ht, if_pos rfl, Wo_cons, Wo_nil, Int.add_zero]
  rw [opt_b g_best, opt_b (r0_at _ (by decide) (by omega)), chk_b (by show t.1.length + 1 < _; omega)]
  obtain ⟨m, hm⟩ := mxI_some (xs := t.1 ++ [0]) (by simp)
  have hm1 := (mxI_is hm).1
  rw [opt_b hm]
  have mle : m ≤ bsV t := by
    rcases List.mem_append.mp hm1 with h | h
    · obtain ⟨i, hi⟩ := List.mem_iff_getElem?.mp h
      have hil := (List.getElem?_eq_some_iff.mp hi).1
      have := near_at ht (p := (i : Int)) (by omega) (by omega)
      rw [atI_of (by omega) (show t.1[((i : Nat) : Int).toNat]? = some m from hi)] at this
      rw [Option.some.inj this]
      exact hx.2 _ (in1 _ (by omega) (by omega))
    · rw [List.mem_singleton.mp h]
      exact hx.2 _ in0
  rw [if_neg (by omega), bind_ok (beside_ok t ht (by omega)), chk_b (show okR (t.1.length : Int) from ⟨by omega, by omega⟩)]
  rw [loopM_all fun p hp => by
    have hp := rangeL_mem.mp hp
    have own : wt t p ≤ piV t p := by
      refine (evX_is (Pc_ne ht p _)).2 _ (List.mem_filterMap.mpr ⟨[], sbl_nil_mem _, ?_⟩)
      unfold Fcon
      rw [tt_one ht, if_pos (show 0 + 1 = [p].length from rfl), Wo_cons, Wo_nil, Int.add_zero]
    have many : ((nearOf t.2 p).length : Int) < psV t p := pieces_many ht p (nearOf t.2 p) [] (nr_nd ht p) (fun x hx => hx) (by
      rw [Pc_nil ht]
      show (0 : Int) < 1
      decide)
    have bl : (t.2.filterMap (dirs p)).length = (nearOf t.2 p).length := by
      unfold nearOf
      rw [sortT_len]
      have e : (t.2.filterMap (dirs p)).map (·.1) = t.2.filterMap (other p) := by
        rw [List.map_filterMap]
        refine fm_congr fun z _ => ?_
        unfold dirs other
        by_cases h1 : z.a = p
        · rw [if_pos h1, if_pos h1]; rfl
        · rw [if_neg h1, if_neg h1]
          by_cases h2 : z.b = p
          · rw [if_pos h2, if_pos h2]; rfl
          · rw [if_neg h2, if_neg h2]; rfl
      rw [← e, List.length_map]
    rw [opt_b g_piece, opt_b (r0_at _ hp.1 hp.2), opt_b (near_at ht hp.1 hp.2), if_neg (by omega), opt_b g_pieces, opt_b (r0_at _ hp.1 hp.2), opt_b (atI_of hp.1 (bes_at _ _ hp.1 hp.2)), bl, if_neg (by omega)]]
  rfl
/-! ### a place more -/
theorem grown_ok {t : Tr} (ht : TreeOk t) (hn : t.1.length ≤ 40) (hb : ∀ z ∈ t.2, z.c.natAbs < 2 ^ 100) (h0 : ∀ z ∈ t.2, 0 ≤ z.c) {D : Int → Int → Int} (hD : ∀ x y, 0 ≤ x → x < (t.1.length : Int) → 0 ≤ y → y < (t.1.length : Int) → Dist t x y (D x y)) {p l : Int} (p0 : 0 ≤ p) (p1 : p < (t.1.length : Int)) (l0 : 0 ≤ l) (l1 : l < 10 ^ 20) :
    m_law_grown t (toldL t D) p l = .ok true := by
  have hlen := ht.len
  have hpos := ht.pos
  have e20 : (10 : Int) ^ 20 = 100000000000000000000 := by decide
  rw [e20] at l1
  obtain ⟨t', ht'⟩ : ∃ t', t' = gr t p l 0 := ⟨_, rfl⟩
  have T1 : TreeOk t' := by rw [ht']; exact gr_ok ht p0 p1 l 0
  have n1 : t'.1.length = t.1.length + 1 := by rw [ht']; exact gr_len t p l 0
  obtain ⟨D', hD'e⟩ : ∃ D', D' = Dg t.1.length p l D := ⟨_, rfl⟩
  have hD' : ∀ x y, 0 ≤ x → x < (t'.1.length : Int) → 0 ≤ y → y < (t'.1.length : Int) → Dist t' x y (D' x y) := by
    rw [ht', hD'e]
    exact gr_dist ht p0 p1 l 0 hD
  have hb' : ∀ z ∈ t'.2, z.c.natAbs < 2 ^ 100 := fun z hz => by
    rw [ht'] at hz
    rcases (gr_mem ht p0 p1 l 0).mp hz with h | h
    · exact hb z h
    · rw [h]
      exact Nat.lt_of_le_of_lt (m := 100000000000000000000) (by show l.natAbs ≤ _; omega) (by decide)
  obtain ⟨t2, ht2⟩ : ∃ t2, t2 = gr t' p 0 5 := ⟨_, rfl⟩
  have T2 : TreeOk t2 := by rw [ht2]; exact gr_ok T1 p0 (by omega) 0 5
  have n2 : t2.1.length = t.1.length + 2 := by rw [ht2, gr_len, n1]
  have e1 : ((t.1 ++ [0], sortT (t.2 ++ [(⟨p, (t.1.length : Int), l⟩ : Tie)])) : Tr) = t' := by rw [ht']; rfl
  have e2 : ((t.1 ++ [0, 5], sortT ((t.2 ++ [(⟨p, (t.1.length : Int), l⟩ : Tie)]) ++ [(⟨p, (t.1.length : Int) + 1, 0⟩ : Tie)])) : Tr) = t2 := by
    rw [ht2]
    refine Prod.ext ?_ ?_
    · show t.1 ++ [0, 5] = t'.1 ++ [5]
      rw [ht']
      show _ = (t.1 ++ [0]) ++ [5]
      rw [List.append_assoc]
      rfl
    · show _ = sortT (t'.2 ++ [(⟨p, (t'.1.length : Int), 0⟩ : Tie)])
      rw [n1, ht']
      refine sortT_eq ?_
      show ((t.2 ++ [_]) ++ [_]).Perm (sortT (t.2 ++ [_]) ++ [_])
      exact (sortT_perm _).symm.append_right _
  -- lists no two tied
  obtain ⟨E, hE⟩ : ∃ E, E = evN (fam (Fout t p) (R0 t)) := ⟨_, rfl⟩
  have E1 : 1 ≤ E := by
    rw [hE]
    show (1 : Int) ≤ ((fam (Fout t p) (R0 t)).length : Int)
    have := List.length_pos_iff.mpr (fam_has (F := Fout t p) (xs := R0 t) (v := 0) (by unfold Fout Find; rw [if_neg (fun h => nomatch h), tt_nil, if_pos rfl]; rfl))
    omega
  have Eb : E ≤ 2 ^ 60 := by
    rw [hE]
    have h1 := fam_len (Fout t p) (R0 t)
    have h2 : (2 : Nat) ^ (R0 t).length ≤ 2 ^ 60 := Nat.pow_le_pow_right (by decide) (by unfold R0; rw [rangeL_length]; omega)
    show ((fam (Fout t p) (R0 t)).length : Int) ≤ 2 ^ 60
    omega
  have a1 : apV t' = apV t + E := by
    have := (gr_ind ht p0 p1 l 0).length_eq
    rw [← ht', List.length_append, List.length_map] at this
    unfold apV
    rw [hE]
    show ((fam (Find t') (R0 t')).length : Int) = ((fam (Find t) (R0 t)).length : Int) + ((fam (Fout t p) (R0 t)).length : Int)
    unfold R0
    omega
  have a2 : apV t2 = apV t' + 2 * E := by
    have h1 := (gr_ind T1 p0 (by omega) 0 5).length_eq
    rw [← ht2, List.length_append, List.length_map] at h1
    have h2 := (gr_out ht p0 p1 l 0).length_eq
    rw [← ht', List.length_append, List.length_map] at h2
    unfold apV
    rw [hE]
    show ((fam (Find t2) (R0 t2)).length : Int) = ((fam (Find t') (R0 t')).length : Int) + 2 * ((fam (Fout t p) (R0 t)).length : Int)
    unfold R0
    omega
  have b1 : bsV t' = bsV t := by
    have hx := evX_is (L := fam (Find t) (R0 t)) (fam_has (v := 0) (by unfold Find; rw [tt_nil, if_pos rfl]; rfl))
    unfold bsV
    rw [show fam (Find t') (R0 t') = fam (Find (gr t p l 0)) (rangeL 0 ((gr t p l 0).1.length : Int)) by rw [ht']; rfl, ev_x.perm (gr_ind ht p0 p1 l 0)]
    refine evX_eq (List.mem_append_right _ hx.1) fun y hy => ?_
    rcases List.mem_append.mp hy with h | h
    · obtain ⟨z, hz, rfl⟩ := List.mem_map.mp h
      obtain ⟨s, hs, e⟩ := List.mem_filterMap.mp hz
      unfold Fout at e
      by_cases q : p ∈ s
      · rw [if_pos q] at e; exact nomatch e
      · rw [if_neg q] at e
        show 0 + z ≤ _
        rw [Int.zero_add]
        exact hx.2 _ (List.mem_filterMap.mpr ⟨s, hs, e⟩)
    · exact hx.2 y h
  -- those that hang together
  have sf : ∀ {t : Tr}, TreeOk t → ∀ k, 0 ≤ k → k < (t.1.length : Int) → piV t k = evX (fam (Fseat t k) (R0 t)) ∧ psV t k = evN (fam (Fseat t k) (R0 t)) := fun h k k0 k1 => ⟨(ev_x.perm (seat_fam h k0 k1)).symm, (ev_n.perm (seat_fam h k0 k1)).symm⟩
  have c1 : ∀ k, 0 ≤ k → k < (t.1.length : Int) → piV t' k = piV t k := fun k k0 k1 => by
    rw [(sf T1 k k0 (by omega)).1, (sf ht k k0 k1).1]
    have hx := evX_is (L := fam (Fseat t k) (R0 t)) (fun z => by
      have h1 := seat_fam ht k0 k1
      unfold R0 at z
      rw [z] at h1
      exact Pc_ne ht k _ h1.symm.eq_nil)
    rw [show fam (Fseat t' k) (R0 t') = fam (Fseat (gr t p l 0) k) (rangeL 0 ((gr t p l 0).1.length : Int)) by rw [ht']; rfl, ev_x.perm (gr_seat ht p0 p1 l 0 (by omega))]
    refine evX_eq (List.mem_append_right _ hx.1) fun y hy => ?_
    rcases List.mem_append.mp hy with h | h
    · obtain ⟨z, hz, rfl⟩ := List.mem_map.mp h
      obtain ⟨s, hs, e⟩ := List.mem_filterMap.mp hz
      unfold Ftwo at e
      by_cases q : p ∈ s
      · rw [if_pos q] at e
        show 0 + z ≤ _
        rw [Int.zero_add]
        exact hx.2 _ (List.mem_filterMap.mpr ⟨s, hs, e⟩)
      · rw [if_neg q] at e; exact nomatch e
    · exact hx.2 y h
  have d1 : psV t' p = 2 * psV t p := by
    rw [(sf T1 p p0 (by omega)).2, (sf ht p p0 p1).2]
    have h1 := (gr_seat ht p0 p1 l 0 (k := p) (by omega)).length_eq
    rw [← ht', List.length_append, List.length_map] at h1
    have h2 : fam (Ftwo t p p) (rangeL 0 (t.1.length : Int)) = fam (Fseat t p) (rangeL 0 (t.1.length : Int)) := fam_congr fun s _ => by
      unfold Ftwo
      by_cases q : p ∈ s
      · rw [if_pos q]
      · rw [if_neg q]
        unfold Fseat
        rw [if_neg q]
    rw [h2] at h1
    show ((fam (Fseat t' p) (R0 t')).length : Int) = 2 * ((fam (Fseat t p) (R0 t)).length : Int)
    unfold R0
    omega
  have d2 : psV t' (t.1.length : Int) = 1 + psV t p := by
    rw [(sf T1 _ (by omega) (by omega)).2, (sf ht p p0 p1).2]
    have h1 := gr_seat_new ht p0 p1 l 0
    rw [← ht'] at h1
    show ((fam (Fseat t' (t.1.length : Int)) (R0 t')).length : Int) = 1 + ((fam (Fseat t p) (R0 t)).length : Int)
    unfold R0
    omega
  have psb : (psV t p).natAbs < 2 ^ 61 := by
    rw [(sf ht p p0 p1).2]
    have h1 := fam_len (Fseat t p) (R0 t)
    have h2 : (2 : Nat) ^ (R0 t).length ≤ 2 ^ 60 := Nat.pow_le_pow_right (by decide) (by unfold R0; rw [rangeL_length]; omega)
    show ((fam (Fseat t p) (R0 t)).length : Int).natAbs < _
    omega
  -- ways
  have dsym : ∀ x y, 0 ≤ x → x < (t.1.length : Int) → 0 ≤ y → y < (t.1.length : Int) → D x y = D y x := fun x y x0 x1 y0 y1 => dist_uniq ht (hD x y x0 x1 y0 y1) (dist_sym (hD y x y0 y1 x0 x1))
  have s1 : ∀ k, 0 ≤ k → k < (t.1.length : Int) → smV t' D' k = smV t D k + D p k + l := fun k k0 k1 => by
    unfold smV R0
    rw [n1, range_snoc, List.map_append, List.sum_append, hD'e]
    have h1 : (rangeL 0 (t.1.length : Int)).map (Dg t.1.length p l D k) = (rangeL 0 (t.1.length : Int)).map (D k) := List.map_congr_left fun y hy => by
      have hy := rangeL_mem.mp hy
      unfold Dg
      rw [if_neg (by omega), if_neg (by omega)]
    rw [h1]
    show _ + (Dg t.1.length p l D k (t.1.length : Int) + 0) = _
    unfold Dg
    rw [if_neg (by omega), if_pos rfl, dsym k p k0 k1 p0 p1]
    omega
  have f1 : faV t' D' (t.1.length : Int) = faV t D p + l := by
    have fold : ∀ (L : List Int), (0 ≤ L.foldl mx2 0) ∧ (∀ y ∈ L, y ≤ L.foldl mx2 0) ∧ (L.foldl mx2 0 = 0 ∨ ∃ y ∈ L, L.foldl mx2 0 = y) := fun L => mx_fold (fun y => y) L 0
    unfold faV R0
    obtain ⟨x1, x2, x3⟩ := fold ((rangeL 0 (t'.1.length : Int)).map (D' (t.1.length : Int)))
    obtain ⟨y1, y2, y3⟩ := fold ((rangeL 0 (t.1.length : Int)).map (D p))
    generalize ((rangeL 0 (t'.1.length : Int)).map (D' (t.1.length : Int))).foldl mx2 0 = A at x1 x2 x3 ⊢
    generalize ((rangeL 0 (t.1.length : Int)).map (D p)).foldl mx2 0 = B at y1 y2 y3 ⊢
    have up : ∀ y, 0 ≤ y → y < (t.1.length : Int) → l + D p y ≤ A := fun y z0 z1 => by
      have := x2 (D' (t.1.length : Int) y) (List.mem_map.mpr ⟨y, rangeL_mem.mpr ⟨z0, by omega⟩, rfl⟩)
      rw [hD'e] at this
      unfold Dg at this
      rw [if_pos rfl, if_neg (by omega)] at this
      exact this
    have h1 : B + l ≤ A := by
      rcases y3 with e | ⟨y, hy, e⟩
      · have := up p p0 p1
        have := dist_uniq ht (hD p p p0 p1 p0 p1) (dist_self p)
        omega
      · obtain ⟨q, hq, rfl⟩ := List.mem_map.mp hy
        have hq := rangeL_mem.mp hq
        have := up q hq.1 hq.2
        omega
    have h2 : A ≤ B + l := by
      rcases x3 with e | ⟨y, hy, e⟩
      · omega
      · obtain ⟨q, hq, rfl⟩ := List.mem_map.mp hy
        have hq := rangeL_mem.mp hq
        rw [e, hD'e]
        unfold Dg
        rw [if_pos rfl]
        by_cases c : q = (t.1.length : Int)
        · rw [if_pos c]; omega
        · rw [if_neg c]
          have := y2 (D p q) (List.mem_map.mpr ⟨q, rangeL_mem.mpr ⟨hq.1, by omega⟩, rfl⟩)
          omega
    omega
  unfold m_law_grown
  rw [chk_b (by show t.2.length + 1 < _; omega), chk_b (by show t.1.length + 1 < _; omega), e1, bind_ok (told_ok T1 (by omega) hb' hD'), chk_b (by show t.1.length + 2 < _; omega), chk_b (by rw [List.length_append]; show t.2.length + 1 + 1 < _; omega), bind_ok named_apart, e2, bind_ok (all_seats_rp t2 T2 (by omega) (two_rp T2 (by omega) apart_two))]
  rw [opt_b g_apart, opt_b (r0_at _ (by decide) (by omega)), opt_b g_apart, opt_b (r0_at _ (by decide) (by omega)), opt_b (range_map_get _ (by decide) (by omega)), opt_b g_apart, opt_b (r0_at _ (by decide) (by omega))]
  have k1 : apV t' - apV t = E := by omega
  have k2 : evN (fam (Find t2) (rangeL 0 (t2.1.length : Int))) - apV t' = 2 * E := by
    have : evN (fam (Find t2) (rangeL 0 (t2.1.length : Int))) = apV t2 := rfl
    omega
  rw [k1, k2, opt_b (show L2.atI [E, 2 * E] 0 = some E from rfl), if_neg (by omega), opt_b (show L2.atI [E, 2 * E] 1 = some (2 * E) from rfl), opt_b (show L2.atI [E, 2 * E] 0 = some E from rfl)]
  rw [chk_b (cmulW (by decide +kernel) (Nat.lt_of_le_of_lt (m := 2 ^ 60) (by omega) (by decide +kernel))), if_neg (fun q => q rfl)]
  rw [bind_ok (lawfar_ok t ht (by omega) hD), opt_b (range_map_get _ p0 p1), opt_b g_sum, chk_b (show okR (t.1.length : Int) from ⟨by omega, by omega⟩)]
  have cutE : ∀ (f g : Int → Int), (∀ k, 0 ≤ k → k < (t.1.length : Int) → f k = g k) → cutL ((R0 t').map f) none (some (t.1.length : Int)) = (R0 t).map g := fun f g h => by
    rw [cut_take _ _ (by omega), Int.toNat_natCast]
    unfold R0
    rw [n1, range_snoc, List.map_append, List.take_append_of_le_length (by rw [List.length_map, rangeL_length]; omega), List.take_of_length_le (by rw [List.length_map, rangeL_length]; omega)]
    exact List.map_congr_left fun k hk => h k (rangeL_mem.mp hk).1 (rangeL_mem.mp hk).2
  refine compS_mapB (fun k => smV t D k + D p k + l) (by rw [rangeL_length]; omega) (fun k hk => ?_) ?_
  · have hk := rangeL_mem.mp hk
    rw [opt_b g_sum, opt_b (r0_at _ hk.1 hk.2), opt_b (range_map_get _ hk.1 hk.2)]
  · dsimp only
    rw [if_neg (fun q => q (cutE _ _ s1)), opt_b g_piece, opt_b g_piece, if_neg (fun q => q (cutE _ _ c1))]
    rw [opt_b g_best, opt_b (r0_at _ (by decide) (by omega)), opt_b g_best, opt_b (r0_at _ (by decide) (by omega)), if_neg (fun q => q b1)]
    rw [opt_b g_pieces, opt_b (r0_at _ p0 (by omega)), opt_b g_pieces, opt_b (r0_at _ p0 p1), chk_b (cmulW (by decide +kernel) (Nat.lt_of_lt_of_le psb (by decide +kernel))), if_neg (fun q => q d1)]
    rw [opt_b g_pieces, opt_b (r0_at _ (by omega) (by omega)), opt_b g_pieces, opt_b (r0_at _ p0 p1), if_neg (fun q => q d2)]
    rw [opt_b g_far, opt_b (r0_at _ (by omega) (by omega)), opt_b g_far, opt_b (r0_at _ p0 p1)]
    exact congrArg Except.ok (decide_eq_true f1)
theorem law_true (ns : List Int) (h : ns.length ≤ 63) : m_law ns = .ok true := by
  obtain ⟨t, e1, ht, hl, _, hb, h0⟩ := btree_ok ns 38 0 (by decide) (by decide) (by decide) (by decide)
  have h0 := h0 (Int.le_refl 0)
  have hpos := ht.pos
  obtain ⟨D, hD⟩ := dist_fun ht
  obtain ⟨c5, e5⟩ := cell_ok ns 5 (by decide)
  obtain ⟨c6, e6⟩ := cell_ok ns 6 (by decide)
  have a0 := Int.emod_nonneg c5 (show (t.1.length : Int) ≠ 0 by omega)
  have a1 := Int.emod_lt_of_pos c5 (show 0 < (t.1.length : Int) by omega)
  have b20 : (10 : Int) ^ Int.toNat 20 = 10 ^ 20 := by decide
  have b0 := Int.emod_nonneg c6 (show (10 : Int) ^ 20 ≠ 0 by decide)
  have b1 := Int.emod_lt_of_pos c6 (show (0 : Int) < 10 ^ 20 by decide)
  unfold m_law
  rw [bind_ok e1, bind_ok (told_ok ht (by omega) hb hD), bind_ok e5, chk_b (by omega), bind_ok (within_ok ht hl hb h0 hD), if_pos rfl, bind_ok e6, b20, chk_b (by decide), bind_ok (grown_ok ht hl hb h0 hD a0 a1 b0 b1)]

theorem all_mk {P : Program} {w : World} {K : PySem.W.Frag} {h : Heap} {mg : Str → Option Value} {fa f1 f2 f3 f4 f5 f6 f7 f8 f9 f10 f11 f12 f13 f14 f15 f16 f17 f18 f19 f20 f21 f22 f23 f24 f25 f26 f27 f28 f29 f30 f31 f32 f33 f34 f35 f36 C_NoName C_NoRule : Addr} {od1 an1 od2 an2 od3 an3 od4 an4 od5 an5 od6 an6 od7 an7 od8 an8 od9 an9 od10 an10 od11 an11 od12 an12 od13 an13 od14 an14 od15 an15 od16 an16 od17 an17 od18 an18 od19 an19 od20 an20 od21 an21 od22 an22 od23 an23 od24 an24 od25 an25 od26 an26 od27 an27 od28 an28 od29 an29 od30 an30 od31 an31 od32 an32 od33 an33 od34 an34 od35 an35 od36 an36 : Option Addr} {sl1 sl2 sl3 sl4 sl5 sl6 sl7 sl8 sl9 sl10 sl11 sl12 sl13 sl14 sl15 sl16 sl17 sl18 sl19 sl20 sl21 sl22 sl23 sl24 sl25 sl26 sl27 sl28 sl29 sl30 sl31 sl32 sl33 sl34 sl35 sl36 : Array (Option Value)} {oc1 kV1 dc1 pm1 cd1 ct1 oc2 kV2 dc2 pm2 cd2 ct2 oc3 kV3 dc3 pm3 cd3 ct3 oc4 kV4 dc4 pm4 cd4 ct4 oc5 kV5 dc5 pm5 cd5 ct5 oc6 kV6 dc6 pm6 cd6 ct6 oc7 kV7 dc7 pm7 cd7 ct7 oc8 kV8 dc8 pm8 cd8 ct8 oc9 kV9 dc9 pm9 cd9 ct9 oc10 kV10 dc10 pm10 cd10 ct10 oc11 kV11 dc11 pm11 cd11 ct11 oc12 kV12 dc12 pm12 cd12 ct12 oc13 kV13 dc13 pm13 cd13 ct13 oc14 kV14 dc14 pm14 cd14 ct14 oc15 kV15 dc15 pm15 cd15 ct15 oc16 kV16 dc16 pm16 cd16 ct16 oc17 kV17 dc17 pm17 cd17 ct17 oc18 kV18 dc18 pm18 cd18 ct18 oc19 kV19 dc19 pm19 cd19 ct19 oc20 kV20 dc20 pm20 cd20 ct20 oc21 kV21 dc21 pm21 cd21 ct21 oc22 kV22 dc22 pm22 cd22 ct22 oc23 kV23 dc23 pm23 cd23 ct23 oc24 kV24 dc24 pm24 cd24 ct24 oc25 kV25 dc25 pm25 cd25 ct25 oc26 kV26 dc26 pm26 cd26 ct26 oc27 kV27 dc27 pm27 cd27 ct27 oc28 kV28 dc28 pm28 cd28 ct28 oc29 kV29 dc29 pm29 cd29 ct29 oc30 kV30 dc30 pm30 cd30 ct30 oc31 kV31 dc31 pm31 cd31 ct31 oc32 kV32 dc32 pm32 cd32 ct32 oc33 kV33 dc33 pm33 cd33 ct33 oc34 kV34 dc34 pm34 cd34 ct34 oc35 kV35 dc35 pm35 cd35 ct35 oc36 kV36 dc36 pm36 cd36 ct36 : Value} {tk_MOST : Tok} {at_MORE : Addr} {do_MORE : Option Addr} {nn_MORE : Nat} {so_MORE : Array (Option Value)} {tw_MORE : Tok} {tn_MORE : Tok} {at_MORE_MORE : Addr} {do_MORE_MORE : Option Addr} {nn_MORE_MORE : Nat} {so_MORE_MORE : Array (Option Value)} {tw_MORE_MORE : Tok} {tn_MORE_MORE : Tok} {at_NOUGHT : Addr} {do_NOUGHT : Option Addr} {nn_NOUGHT : Nat} {so_NOUGHT : Array (Option Value)} {tw_NOUGHT : Tok} {tn_NOUGHT : Tok} {at_ONE : Addr} {do_ONE : Option Addr} {nn_ONE : Nat} {so_ONE : Array (Option Value)} {tw_ONE : Tok} {tn_ONE : Tok} {at_OWN : Addr} {do_OWN : Option Addr} {nn_OWN : Nat} {so_OWN : Array (Option Value)} {tw_OWN : Tok} {at_SO : Addr} {do_SO : Option Addr} {nn_SO : Nat} {so_SO : Array (Option Value)} {tw_SO : Tok} {tn_SO : Tok} {at_SO_MORE : Addr} {do_SO_MORE : Option Addr} {nn_SO_MORE : Nat} {so_SO_MORE : Array (Option Value)} {tw_SO_MORE : Tok} {tn_SO_MORE : Tok} {at_TIE : Addr} {do_TIE : Option Addr} {nn_TIE : Nat} {so_TIE : Array (Option Value)} {tw_TIE : Tok} (X : K.In h) (G : h.Ns mainGlobals mg) (hfa : mg "law" = some (.ref fa))
    (a1 : PySem.W.nsIn K mainGlobals "farthest_rule" = some (some (.ref f1))) (l1 : K.lookup f1 = some ⟨oc1, od1, .func (PySem.W.fnOf "farthest_rule" "farthest_rule" (defArgs s_farthest_rule) (defBody s_farthest_rule) (defScope s_farthest_rule) .none kV1 dc1 pm1 an1 cd1 ct1), sl1⟩) (c1 : PySem.W.codeIn K cd1 "farthest_rule" = true) (k1 : PySem.W.keepIn K (.ref f1) = true)
    (a2 : PySem.W.nsIn K mainGlobals "sum_rule" = some (some (.ref f2))) (l2 : K.lookup f2 = some ⟨oc2, od2, .func (PySem.W.fnOf "sum_rule" "sum_rule" (defArgs s_sum_rule) (defBody s_sum_rule) (defScope s_sum_rule) .none kV2 dc2 pm2 an2 cd2 ct2), sl2⟩) (c2 : PySem.W.codeIn K cd2 "sum_rule" = true) (k2 : PySem.W.keepIn K (.ref f2) = true)
    (a3 : PySem.W.nsIn K mainGlobals "apart_rule" = some (some (.ref f3))) (l3 : K.lookup f3 = some ⟨oc3, od3, .func (PySem.W.fnOf "apart_rule" "apart_rule" (defArgs s_apart_rule) (defBody s_apart_rule) (defScope s_apart_rule) .none kV3 dc3 pm3 an3 cd3 ct3), sl3⟩) (c3 : PySem.W.codeIn K cd3 "apart_rule" = true) (k3 : PySem.W.keepIn K (.ref f3) = true)
    (a4 : PySem.W.nsIn K mainGlobals "best_rule" = some (some (.ref f4))) (l4 : K.lookup f4 = some ⟨oc4, od4, .func (PySem.W.fnOf "best_rule" "best_rule" (defArgs s_best_rule) (defBody s_best_rule) (defScope s_best_rule) .none kV4 dc4 pm4 an4 cd4 ct4), sl4⟩) (c4 : PySem.W.codeIn K cd4 "best_rule" = true) (k4 : PySem.W.keepIn K (.ref f4) = true)
    (a5 : PySem.W.nsIn K mainGlobals "piece_rule" = some (some (.ref f5))) (l5 : K.lookup f5 = some ⟨oc5, od5, .func (PySem.W.fnOf "piece_rule" "piece_rule" (defArgs s_piece_rule) (defBody s_piece_rule) (defScope s_piece_rule) .none kV5 dc5 pm5 an5 cd5 ct5), sl5⟩) (c5 : PySem.W.codeIn K cd5 "piece_rule" = true) (k5 : PySem.W.keepIn K (.ref f5) = true)
    (a6 : PySem.W.nsIn K mainGlobals "pieces_rule" = some (some (.ref f6))) (l6 : K.lookup f6 = some ⟨oc6, od6, .func (PySem.W.fnOf "pieces_rule" "pieces_rule" (defArgs s_pieces_rule) (defBody s_pieces_rule) (defScope s_pieces_rule) .none kV6 dc6 pm6 an6 cd6 ct6), sl6⟩) (c6 : PySem.W.codeIn K cd6 "pieces_rule" = true) (k6 : PySem.W.keepIn K (.ref f6) = true)
    (a7 : PySem.W.nsIn K mainGlobals "all_rules" = some (some (.ref f7))) (l7 : K.lookup f7 = some ⟨oc7, od7, .func (PySem.W.fnOf "all_rules" "all_rules" (defArgs s_all_rules) (defBody s_all_rules) (defScope s_all_rules) .none kV7 dc7 pm7 an7 cd7 ct7), sl7⟩) (c7 : PySem.W.codeIn K cd7 "all_rules" = true) (k7 : PySem.W.keepIn K (.ref f7) = true)
    (a8 : PySem.W.nsIn K mainGlobals "rule_named" = some (some (.ref f8))) (l8 : K.lookup f8 = some ⟨oc8, od8, .func (PySem.W.fnOf "rule_named" "rule_named" (defArgs s_rule_named) (defBody s_rule_named) (defScope s_rule_named) .none kV8 dc8 pm8 an8 cd8 ct8), sl8⟩) (c8 : PySem.W.codeIn K cd8 "rule_named" = true) (k8 : PySem.W.keepIn K (.ref f8) = true)
    (a9 : PySem.W.nsIn K mainGlobals "may_stand" = some (some (.ref f9))) (l9 : K.lookup f9 = some ⟨oc9, od9, .func (PySem.W.fnOf "may_stand" "may_stand" (defArgs s_may_stand) (defBody s_may_stand) (defScope s_may_stand) .none kV9 dc9 pm9 an9 cd9 ct9), sl9⟩) (c9 : PySem.W.codeIn K cd9 "may_stand" = true) (k9 : PySem.W.keepIn K (.ref f9) = true)
    (a10 : PySem.W.nsIn K mainGlobals "is_rule" = some (some (.ref f10))) (l10 : K.lookup f10 = some ⟨oc10, od10, .func (PySem.W.fnOf "is_rule" "is_rule" (defArgs s_is_rule) (defBody s_is_rule) (defScope s_is_rule) .none kV10 dc10 pm10 an10 cd10 ct10), sl10⟩) (c10 : PySem.W.codeIn K cd10 "is_rule" = true) (k10 : PySem.W.keepIn K (.ref f10) = true)
    (a11 : PySem.W.nsIn K mainGlobals "need_rule" = some (some (.ref f11))) (l11 : K.lookup f11 = some ⟨oc11, od11, .func (PySem.W.fnOf "need_rule" "need_rule" (defArgs s_need_rule) (defBody s_need_rule) (defScope s_need_rule) .none kV11 dc11 pm11 an11 cd11 ct11), sl11⟩) (c11 : PySem.W.codeIn K cd11 "need_rule" = true) (k11 : PySem.W.keepIn K (.ref f11) = true)
    (a12 : PySem.W.nsIn K mainGlobals "sum_at" = some (some (.ref f12))) (l12 : K.lookup f12 = some ⟨oc12, od12, .func (PySem.W.fnOf "sum_at" "sum_at" (defArgs s_sum_at) (defBody s_sum_at) (defScope s_sum_at) .none kV12 dc12 pm12 an12 cd12 ct12), sl12⟩) (c12 : PySem.W.codeIn K cd12 "sum_at" = true) (k12 : PySem.W.keepIn K (.ref f12) = true)
    (a13 : PySem.W.nsIn K mainGlobals "begun" = some (some (.ref f13))) (l13 : K.lookup f13 = some ⟨oc13, od13, .func (PySem.W.fnOf "begun" "begun" (defArgs s_begun) (defBody s_begun) (defScope s_begun) .none kV13 dc13 pm13 an13 cd13 ct13), sl13⟩) (c13 : PySem.W.codeIn K cd13 "begun" = true) (k13 : PySem.W.keepIn K (.ref f13) = true)
    (a14 : PySem.W.nsIn K mainGlobals "joined" = some (some (.ref f14))) (l14 : K.lookup f14 = some ⟨oc14, od14, .func (PySem.W.fnOf "joined" "joined" (defArgs s_joined) (defBody s_joined) (defScope s_joined) .none kV14 dc14 pm14 an14 cd14 ct14), sl14⟩) (c14 : PySem.W.codeIn K cd14 "joined" = true) (k14 : PySem.W.keepIn K (.ref f14) = true)
    (a15 : PySem.W.nsIn K mainGlobals "over_tie" = some (some (.ref f15))) (l15 : K.lookup f15 = some ⟨oc15, od15, .func (PySem.W.fnOf "over_tie" "over_tie" (defArgs s_over_tie) (defBody s_over_tie) (defScope s_over_tie) .none kV15 dc15 pm15 an15 cd15 ct15), sl15⟩) (c15 : PySem.W.codeIn K cd15 "over_tie" = true) (k15 : PySem.W.keepIn K (.ref f15) = true)
    (a16 : PySem.W.nsIn K mainGlobals "told_by" = some (some (.ref f16))) (l16 : K.lookup f16 = some ⟨oc16, od16, .func (PySem.W.fnOf "told_by" "told_by" (defArgs s_told_by) (defBody s_told_by) (defScope s_told_by) .none kV16 dc16 pm16 an16 cd16 ct16), sl16⟩) (c16 : PySem.W.codeIn K cd16 "told_by" = true) (k16 : PySem.W.keepIn K (.ref f16) = true)
    (a17 : PySem.W.nsIn K mainGlobals "tied_places" = some (some (.ref f17))) (l17 : K.lookup f17 = some ⟨oc17, od17, .func (PySem.W.fnOf "tied_places" "tied_places" (defArgs s_tied_places) (defBody s_tied_places) (defScope s_tied_places) .none kV17 dc17 pm17 an17 cd17 ct17), sl17⟩) (c17 : PySem.W.codeIn K cd17 "tied_places" = true) (k17 : PySem.W.keepIn K (.ref f17) = true)
    (a18 : PySem.W.nsIn K mainGlobals "lengths_of" = some (some (.ref f18))) (l18 : K.lookup f18 = some ⟨oc18, od18, .func (PySem.W.fnOf "lengths_of" "lengths_of" (defArgs s_lengths_of) (defBody s_lengths_of) (defScope s_lengths_of) .none kV18 dc18 pm18 an18 cd18 ct18), sl18⟩) (c18 : PySem.W.codeIn K cd18 "lengths_of" = true) (k18 : PySem.W.keepIn K (.ref f18) = true)
    (a19 : PySem.W.nsIn K mainGlobals "every_branch" = some (some (.ref f19))) (l19 : K.lookup f19 = some ⟨oc19, od19, .func (PySem.W.fnOf "every_branch" "every_branch" (defArgs s_every_branch) (defBody s_every_branch) (defScope s_every_branch) .none kV19 dc19 pm19 an19 cd19 ct19), sl19⟩) (c19 : PySem.W.codeIn K cd19 "every_branch" = true) (k19 : PySem.W.keepIn K (.ref f19) = true)
    (a20 : PySem.W.nsIn K mainGlobals "row_with" = some (some (.ref f20))) (l20 : K.lookup f20 = some ⟨oc20, od20, .func (PySem.W.fnOf "row_with" "row_with" (defArgs s_row_with) (defBody s_row_with) (defScope s_row_with) .none kV20 dc20 pm20 an20 cd20 ct20), sl20⟩) (c20 : PySem.W.codeIn K cd20 "row_with" = true) (k20 : PySem.W.keepIn K (.ref f20) = true)
    (a21 : PySem.W.nsIn K mainGlobals "order_of" = some (some (.ref f21))) (l21 : K.lookup f21 = some ⟨oc21, od21, .func (PySem.W.fnOf "order_of" "order_of" (defArgs s_order_of) (defBody s_order_of) (defScope s_order_of) .none kV21 dc21 pm21 an21 cd21 ct21), sl21⟩) (c21 : PySem.W.codeIn K cd21 "order_of" = true) (k21 : PySem.W.keepIn K (.ref f21) = true)
    (a22 : PySem.W.nsIn K mainGlobals "rows_known" = some (some (.ref f22))) (l22 : K.lookup f22 = some ⟨oc22, od22, .func (PySem.W.fnOf "rows_known" "rows_known" (defArgs s_rows_known) (defBody s_rows_known) (defScope s_rows_known) .none kV22 dc22 pm22 an22 cd22 ct22), sl22⟩) (c22 : PySem.W.codeIn K cd22 "rows_known" = true) (k22 : PySem.W.keepIn K (.ref f22) = true)
    (a23 : PySem.W.nsIn K mainGlobals "seats_by" = some (some (.ref f23))) (l23 : K.lookup f23 = some ⟨oc23, od23, .func (PySem.W.fnOf "seats_by" "seats_by" (defArgs s_seats_by) (defBody s_seats_by) (defScope s_seats_by) .none kV23 dc23 pm23 an23 cd23 ct23), sl23⟩) (c23 : PySem.W.codeIn K cd23 "seats_by" = true) (k23 : PySem.W.keepIn K (.ref f23) = true)
    (a24 : PySem.W.nsIn K mainGlobals "all_seats" = some (some (.ref f24))) (l24 : K.lookup f24 = some ⟨oc24, od24, .func (PySem.W.fnOf "all_seats" "all_seats" (defArgs s_all_seats) (defBody s_all_seats) (defScope s_all_seats) .none kV24 dc24 pm24 an24 cd24 ct24), sl24⟩) (c24 : PySem.W.codeIn K cd24 "all_seats" = true) (k24 : PySem.W.keepIn K (.ref f24) = true)
    (a25 : PySem.W.nsIn K mainGlobals "_law_cell_at" = some (some (.ref f25))) (l25 : K.lookup f25 = some ⟨oc25, od25, .func (PySem.W.fnOf "_law_cell_at" "_law_cell_at" (defArgs s_law_cell_at) (defBody s_law_cell_at) (defScope s_law_cell_at) .none kV25 dc25 pm25 an25 cd25 ct25), sl25⟩) (c25 : PySem.W.codeIn K cd25 "_law_cell_at" = true) (k25 : PySem.W.keepIn K (.ref f25) = true)
    (a26 : PySem.W.nsIn K mainGlobals "_law_numbers" = some (some (.ref f26))) (l26 : K.lookup f26 = some ⟨oc26, od26, .func (PySem.W.fnOf "_law_numbers" "_law_numbers" (defArgs s_law_numbers) (defBody s_law_numbers) (defScope s_law_numbers) .none kV26 dc26 pm26 an26 cd26 ct26), sl26⟩) (c26 : PySem.W.codeIn K cd26 "_law_numbers" = true) (k26 : PySem.W.keepIn K (.ref f26) = true)
    (a27 : PySem.W.nsIn K mainGlobals "_law_worths" = some (some (.ref f27))) (l27 : K.lookup f27 = some ⟨oc27, od27, .func (PySem.W.fnOf "_law_worths" "_law_worths" (defArgs s_law_worths) (defBody s_law_worths) (defScope s_law_worths) .none kV27 dc27 pm27 an27 cd27 ct27), sl27⟩) (c27 : PySem.W.codeIn K cd27 "_law_worths" = true) (k27 : PySem.W.keepIn K (.ref f27) = true)
    (a28 : PySem.W.nsIn K mainGlobals "_law_ties" = some (some (.ref f28))) (l28 : K.lookup f28 = some ⟨oc28, od28, .func (PySem.W.fnOf "_law_ties" "_law_ties" (defArgs s_law_ties) (defBody s_law_ties) (defScope s_law_ties) .none kV28 dc28 pm28 an28 cd28 ct28), sl28⟩) (c28 : PySem.W.codeIn K cd28 "_law_ties" = true) (k28 : PySem.W.keepIn K (.ref f28) = true)
    (a29 : PySem.W.nsIn K mainGlobals "_law_tree" = some (some (.ref f29))) (l29 : K.lookup f29 = some ⟨oc29, od29, .func (PySem.W.fnOf "_law_tree" "_law_tree" (defArgs s_law_tree) (defBody s_law_tree) (defScope s_law_tree) .none kV29 dc29 pm29 an29 cd29 ct29), sl29⟩) (c29 : PySem.W.codeIn K cd29 "_law_tree" = true) (k29 : PySem.W.keepIn K (.ref f29) = true)
    (a30 : PySem.W.nsIn K mainGlobals "_law_beside" = some (some (.ref f30))) (l30 : K.lookup f30 = some ⟨oc30, od30, .func (PySem.W.fnOf "_law_beside" "_law_beside" (defArgs s_law_beside) (defBody s_law_beside) (defScope s_law_beside) .none kV30 dc30 pm30 an30 cd30 ct30), sl30⟩) (c30 : PySem.W.codeIn K cd30 "_law_beside" = true) (k30 : PySem.W.keepIn K (.ref f30) = true)
    (a31 : PySem.W.nsIn K mainGlobals "_law_far" = some (some (.ref f31))) (l31 : K.lookup f31 = some ⟨oc31, od31, .func (PySem.W.fnOf "_law_far" "_law_far" (defArgs s_law_far) (defBody s_law_far) (defScope s_law_far) .none kV31 dc31 pm31 an31 cd31 ct31), sl31⟩) (c31 : PySem.W.codeIn K cd31 "_law_far" = true) (k31 : PySem.W.keepIn K (.ref f31) = true)
    (a32 : PySem.W.nsIn K mainGlobals "_law_side" = some (some (.ref f32))) (l32 : K.lookup f32 = some ⟨oc32, od32, .func (PySem.W.fnOf "_law_side" "_law_side" (defArgs s_law_side) (defBody s_law_side) (defScope s_law_side) .none kV32 dc32 pm32 an32 cd32 ct32), sl32⟩) (c32 : PySem.W.codeIn K cd32 "_law_side" = true) (k32 : PySem.W.keepIn K (.ref f32) = true)
    (a33 : PySem.W.nsIn K mainGlobals "_law_told" = some (some (.ref f33))) (l33 : K.lookup f33 = some ⟨oc33, od33, .func (PySem.W.fnOf "_law_told" "_law_told" (defArgs s_law_told) (defBody s_law_told) (defScope s_law_told) .none kV33 dc33 pm33 an33 cd33 ct33), sl33⟩) (c33 : PySem.W.codeIn K cd33 "_law_told" = true) (k33 : PySem.W.keepIn K (.ref f33) = true)
    (a34 : PySem.W.nsIn K mainGlobals "_law_within" = some (some (.ref f34))) (l34 : K.lookup f34 = some ⟨oc34, od34, .func (PySem.W.fnOf "_law_within" "_law_within" (defArgs s_law_within) (defBody s_law_within) (defScope s_law_within) .none kV34 dc34 pm34 an34 cd34 ct34), sl34⟩) (c34 : PySem.W.codeIn K cd34 "_law_within" = true) (k34 : PySem.W.keepIn K (.ref f34) = true)
    (a35 : PySem.W.nsIn K mainGlobals "_law_grown" = some (some (.ref f35))) (l35 : K.lookup f35 = some ⟨oc35, od35, .func (PySem.W.fnOf "_law_grown" "_law_grown" (defArgs s_law_grown) (defBody s_law_grown) (defScope s_law_grown) .none kV35 dc35 pm35 an35 cd35 ct35), sl35⟩) (c35 : PySem.W.codeIn K cd35 "_law_grown" = true) (k35 : PySem.W.keepIn K (.ref f35) = true)
    (a36 : PySem.W.nsIn K mainGlobals "law" = some (some (.ref f36))) (l36 : K.lookup f36 = some ⟨oc36, od36, .func (PySem.W.fnOf "law" "law" (defArgs s_law) (defBody s_law) (defScope s_law) .none kV36 dc36 pm36 an36 cd36 ct36), sl36⟩) (c36 : PySem.W.codeIn K cd36 "law" = true) (k36 : PySem.W.keepIn K (.ref f36) = true)
    (ga_NoName : PySem.W.nsIn K mainGlobals "NoName" = some (some (.ref C_NoName))) (gx_NoName : PySem.W.excIn K C_NoName [.type "ValueError", .type "Exception", .type "BaseException", .type "object"] "ValueError.__new__" = true) (gk_NoName : PySem.W.keepIn K (.ref C_NoName) = true) (gb_NoName : PySem.W.subIn K (.ref C_NoName) (.type "BaseException") = some true) (gt_NoName : PySem.W.typeIn K (.ref C_NoName) = some (.type "type"))
    (ga_NoRule : PySem.W.nsIn K mainGlobals "NoRule" = some (some (.ref C_NoRule))) (gx_NoRule : PySem.W.excIn K C_NoRule [.type "ValueError", .type "Exception", .type "BaseException", .type "object"] "ValueError.__new__" = true) (gk_NoRule : PySem.W.keepIn K (.ref C_NoRule) = true) (gb_NoRule : PySem.W.subIn K (.ref C_NoRule) (.type "BaseException") = some true) (gt_NoRule : PySem.W.typeIn K (.ref C_NoRule) = some (.type "type"))
    (zc_MOST : PySem.W.nsIn K mainGlobals "MOST" = some (some (.int 3 tk_MOST)))
    (zt_MORE : PySem.W.nsIn K mainGlobals "MORE" = some (some (.ref at_MORE)))
    (zl_MORE : K.lookup at_MORE = some ⟨.type "tuple", do_MORE, .seq #[.str "more" tw_MORE, .int 0 tn_MORE] nn_MORE, so_MORE⟩)
    (zt_MORE_MORE : PySem.W.nsIn K mainGlobals "MORE_MORE" = some (some (.ref at_MORE_MORE)))
    (zl_MORE_MORE : K.lookup at_MORE_MORE = some ⟨.type "tuple", do_MORE_MORE, .seq #[.str "more" tw_MORE_MORE, .int 1 tn_MORE_MORE] nn_MORE_MORE, so_MORE_MORE⟩)
    (zt_NOUGHT : PySem.W.nsIn K mainGlobals "NOUGHT" = some (some (.ref at_NOUGHT)))
    (zl_NOUGHT : K.lookup at_NOUGHT = some ⟨.type "tuple", do_NOUGHT, .seq #[.str "number" tw_NOUGHT, .int 0 tn_NOUGHT] nn_NOUGHT, so_NOUGHT⟩)
    (zt_ONE : PySem.W.nsIn K mainGlobals "ONE" = some (some (.ref at_ONE)))
    (zl_ONE : K.lookup at_ONE = some ⟨.type "tuple", do_ONE, .seq #[.str "number" tw_ONE, .int 1 tn_ONE] nn_ONE, so_ONE⟩)
    (zt_OWN : PySem.W.nsIn K mainGlobals "OWN" = some (some (.ref at_OWN)))
    (zl_OWN : K.lookup at_OWN = some ⟨.type "tuple", do_OWN, .seq #[.str "own" tw_OWN] nn_OWN, so_OWN⟩)
    (zt_SO : PySem.W.nsIn K mainGlobals "SO" = some (some (.ref at_SO)))
    (zl_SO : K.lookup at_SO = some ⟨.type "tuple", do_SO, .seq #[.str "so" tw_SO, .int 0 tn_SO] nn_SO, so_SO⟩)
    (zt_SO_MORE : PySem.W.nsIn K mainGlobals "SO_MORE" = some (some (.ref at_SO_MORE)))
    (zl_SO_MORE : K.lookup at_SO_MORE = some ⟨.type "tuple", do_SO_MORE, .seq #[.str "so" tw_SO_MORE, .int 1 tn_SO_MORE] nn_SO_MORE, so_SO_MORE⟩)
    (zt_TIE : PySem.W.nsIn K mainGlobals "TIE" = some (some (.ref at_TIE)))
    (zl_TIE : K.lookup at_TIE = some ⟨.type "tuple", do_TIE, .seq #[.str "tie" tw_TIE] nn_TIE, so_TIE⟩)
    (z_abs : PySem.W.nsIn K mainGlobals "abs" = some none)
    (z_dict : PySem.W.nsIn K mainGlobals "dict" = some none)
    (z_enumerate : PySem.W.nsIn K mainGlobals "enumerate" = some none)
    (z_len : PySem.W.nsIn K mainGlobals "len" = some none)
    (z_list : PySem.W.nsIn K mainGlobals "list" = some none)
    (z_max : PySem.W.nsIn K mainGlobals "max" = some none)
    (z_min : PySem.W.nsIn K mainGlobals "min" = some none)
    (z_range : PySem.W.nsIn K mainGlobals "range" = some none)
    (z_sorted : PySem.W.nsIn K mainGlobals "sorted" = some none) :
    ∃ fd : FuncData, (∀ (s : Shared) (v : Value), BindsTo s fd ⟨[v], []⟩ [("script", v)]) ∧ ∀ base : Heap, K.In base → base.Ns mainGlobals mg → FnOk P w K mg base (L2.CX P w) 67 fa fd ["script"] (sp_law K) := by
  haveI : KF K := ⟨⟩
  have e := hfa.symm.trans (PySem.W.mg_of X G a36)
  cases e
  have nb : Nb mg := ⟨PySem.W.mg_none_of X G z_abs, PySem.W.mg_none_of X G z_dict, PySem.W.mg_none_of X G z_enumerate, PySem.W.mg_none_of X G z_len, PySem.W.mg_none_of X G z_list, PySem.W.mg_none_of X G z_max, PySem.W.mg_none_of X G z_min, PySem.W.mg_none_of X G z_range, PySem.W.mg_none_of X G z_sorted, ⟨_, PySem.W.mg_of X G zc_MOST, ⟨_, rfl⟩⟩, ⟨_, PySem.W.mg_of X G zt_MORE, _, _, _, zl_MORE, rfl, rfl, show (2 : Nat) ≤ sizeLine by decide, .cons ⟨_, rfl⟩ (.cons ⟨_, rfl⟩ .nil)⟩, ⟨_, PySem.W.mg_of X G zt_MORE_MORE, _, _, _, zl_MORE_MORE, rfl, rfl, show (2 : Nat) ≤ sizeLine by decide, .cons ⟨_, rfl⟩ (.cons ⟨_, rfl⟩ .nil)⟩, ⟨_, PySem.W.mg_of X G zt_NOUGHT, _, _, _, zl_NOUGHT, rfl, rfl, show (2 : Nat) ≤ sizeLine by decide, .cons ⟨_, rfl⟩ (.cons ⟨_, rfl⟩ .nil)⟩, ⟨_, PySem.W.mg_of X G zt_ONE, _, _, _, zl_ONE, rfl, rfl, show (2 : Nat) ≤ sizeLine by decide, .cons ⟨_, rfl⟩ (.cons ⟨_, rfl⟩ .nil)⟩, ⟨_, PySem.W.mg_of X G zt_OWN, _, _, _, zl_OWN, rfl, rfl, show (1 : Nat) ≤ sizeLine by decide, .cons ⟨_, rfl⟩ .nil⟩, ⟨_, PySem.W.mg_of X G zt_SO, _, _, _, zl_SO, rfl, rfl, show (2 : Nat) ≤ sizeLine by decide, .cons ⟨_, rfl⟩ (.cons ⟨_, rfl⟩ .nil)⟩, ⟨_, PySem.W.mg_of X G zt_SO_MORE, _, _, _, zl_SO_MORE, rfl, rfl, show (2 : Nat) ≤ sizeLine by decide, .cons ⟨_, rfl⟩ (.cons ⟨_, rfl⟩ .nil)⟩, ⟨_, PySem.W.mg_of X G zt_TIE, _, _, _, zl_TIE, rfl, rfl, show (1 : Nat) ≤ sizeLine by decide, .cons ⟨_, rfl⟩ .nil⟩⟩
  have E_NoName : ∃ C, Xc K mg "NoName" C := ⟨C_NoName, PySem.W.mg_of X G ga_NoName, gx_NoName, gk_NoName, gb_NoName, gt_NoName⟩
  have E_NoRule : ∃ C, Xc K mg "NoRule" C := ⟨C_NoRule, PySem.W.mg_of X G ga_NoRule, gx_NoRule, gk_NoRule, gb_NoRule, gt_NoRule⟩
  have F1 := fun_mk (x := "farthest_rule") (st := s_farthest_rule) l1 c1 k1
  have D_farthest_rule : Df K mg "farthest_rule" "farthest_rule" s_farthest_rule [] := ⟨_, _, F1, PySem.W.mg_of X G a1, F1.binds (ps := []) fun _ _ _ _ _ _ us hl => match us, hl with | [], _ => rfl⟩
  have F2 := fun_mk (x := "sum_rule") (st := s_sum_rule) l2 c2 k2
  have D_sum_rule : Df K mg "sum_rule" "sum_rule" s_sum_rule [] := ⟨_, _, F2, PySem.W.mg_of X G a2, F2.binds (ps := []) fun _ _ _ _ _ _ us hl => match us, hl with | [], _ => rfl⟩
  have F3 := fun_mk (x := "apart_rule") (st := s_apart_rule) l3 c3 k3
  have D_apart_rule : Df K mg "apart_rule" "apart_rule" s_apart_rule [] := ⟨_, _, F3, PySem.W.mg_of X G a3, F3.binds (ps := []) fun _ _ _ _ _ _ us hl => match us, hl with | [], _ => rfl⟩
  have F4 := fun_mk (x := "best_rule") (st := s_best_rule) l4 c4 k4
  have D_best_rule : Df K mg "best_rule" "best_rule" s_best_rule [] := ⟨_, _, F4, PySem.W.mg_of X G a4, F4.binds (ps := []) fun _ _ _ _ _ _ us hl => match us, hl with | [], _ => rfl⟩
  have F5 := fun_mk (x := "piece_rule") (st := s_piece_rule) l5 c5 k5
  have D_piece_rule : Df K mg "piece_rule" "piece_rule" s_piece_rule [] := ⟨_, _, F5, PySem.W.mg_of X G a5, F5.binds (ps := []) fun _ _ _ _ _ _ us hl => match us, hl with | [], _ => rfl⟩
  have F6 := fun_mk (x := "pieces_rule") (st := s_pieces_rule) l6 c6 k6
  have D_pieces_rule : Df K mg "pieces_rule" "pieces_rule" s_pieces_rule [] := ⟨_, _, F6, PySem.W.mg_of X G a6, F6.binds (ps := []) fun _ _ _ _ _ _ us hl => match us, hl with | [], _ => rfl⟩
  have F7 := fun_mk (x := "all_rules") (st := s_all_rules) l7 c7 k7
  have D_all_rules : Df K mg "all_rules" "all_rules" s_all_rules [] := ⟨_, _, F7, PySem.W.mg_of X G a7, F7.binds (ps := []) fun _ _ _ _ _ _ us hl => match us, hl with | [], _ => rfl⟩
  have F8 := fun_mk (x := "rule_named") (st := s_rule_named) l8 c8 k8
  have D_rule_named : Df K mg "rule_named" "rule_named" s_rule_named ["name"] := ⟨_, _, F8, PySem.W.mg_of X G a8, F8.binds (ps := ["name"]) fun _ _ _ _ _ _ us hl => match us, hl with | [_], _ => rfl⟩
  have F9 := fun_mk (x := "may_stand") (st := s_may_stand) l9 c9 k9
  have D_may_stand : Df K mg "may_stand" "may_stand" s_may_stand ["told", "leaves", "many"] := ⟨_, _, F9, PySem.W.mg_of X G a9, F9.binds (ps := ["told", "leaves", "many"]) fun _ _ _ _ _ _ us hl => match us, hl with | [_, _, _], _ => rfl⟩
  have F10 := fun_mk (x := "is_rule") (st := s_is_rule) l10 c10 k10
  have D_is_rule : Df K mg "is_rule" "is_rule" s_is_rule ["thing"] := ⟨_, _, F10, PySem.W.mg_of X G a10, F10.binds (ps := ["thing"]) fun _ _ _ _ _ _ us hl => match us, hl with | [_], _ => rfl⟩
  have F11 := fun_mk (x := "need_rule") (st := s_need_rule) l11 c11 k11
  have D_need_rule : Df K mg "need_rule" "need_rule" s_need_rule ["rule"] := ⟨_, _, F11, PySem.W.mg_of X G a11, F11.binds (ps := ["rule"]) fun _ _ _ _ _ _ us hl => match us, hl with | [_], _ => rfl⟩
  have F12 := fun_mk (x := "sum_at") (st := s_sum_at) l12 c12 k12
  have D_sum_at : Df K mg "sum_at" "sum_at" s_sum_at ["sum_told", "own", "tie", "so", "more"] := ⟨_, _, F12, PySem.W.mg_of X G a12, F12.binds (ps := ["sum_told", "own", "tie", "so", "more"]) fun _ _ _ _ _ _ us hl => match us, hl with | [_, _, _, _, _], _ => rfl⟩
  have F13 := fun_mk (x := "begun") (st := s_begun) l13 c13 k13
  have D_begun : Df K mg "begun" "begun" s_begun ["rule", "own"] := ⟨_, _, F13, PySem.W.mg_of X G a13, F13.binds (ps := ["rule", "own"]) fun _ _ _ _ _ _ us hl => match us, hl with | [_, _], _ => rfl⟩
  have F14 := fun_mk (x := "joined") (st := s_joined) l14 c14 k14
  have D_joined : Df K mg "joined" "joined" s_joined ["rule", "so", "more", "own"] := ⟨_, _, F14, PySem.W.mg_of X G a14, F14.binds (ps := ["rule", "so", "more", "own"]) fun _ _ _ _ _ _ us hl => match us, hl with | [_, _, _, _], _ => rfl⟩
  have F15 := fun_mk (x := "over_tie") (st := s_over_tie) l15 c15 k15
  have D_over_tie : Df K mg "over_tie" "over_tie" s_over_tie ["rule", "more", "own", "tie"] := ⟨_, _, F15, PySem.W.mg_of X G a15, F15.binds (ps := ["rule", "more", "own", "tie"]) fun _ _ _ _ _ _ us hl => match us, hl with | [_, _, _, _], _ => rfl⟩
  have F16 := fun_mk (x := "told_by") (st := s_told_by) l16 c16 k16
  have D_told_by : Df K mg "told_by" "told_by" s_told_by ["rule", "so", "own"] := ⟨_, _, F16, PySem.W.mg_of X G a16, F16.binds (ps := ["rule", "so", "own"]) fun _ _ _ _ _ _ us hl => match us, hl with | [_, _, _], _ => rfl⟩
  have F17 := fun_mk (x := "tied_places") (st := s_tied_places) l17 c17 k17
  have D_tied_places : Df K mg "tied_places" "tied_places" s_tied_places ["many", "ties"] := ⟨_, _, F17, PySem.W.mg_of X G a17, F17.binds (ps := ["many", "ties"]) fun _ _ _ _ _ _ us hl => match us, hl with | [_, _], _ => rfl⟩
  have F18 := fun_mk (x := "lengths_of") (st := s_lengths_of) l18 c18 k18
  have D_lengths_of : Df K mg "lengths_of" "lengths_of" s_lengths_of ["tree"] := ⟨_, _, F18, PySem.W.mg_of X G a18, F18.binds (ps := ["tree"]) fun _ _ _ _ _ _ us hl => match us, hl with | [_], _ => rfl⟩
  have F19 := fun_mk (x := "every_branch") (st := s_every_branch) l19 c19 k19
  have D_every_branch : Df K mg "every_branch" "every_branch" s_every_branch ["tree"] := ⟨_, _, F19, PySem.W.mg_of X G a19, F19.binds (ps := ["tree"]) fun _ _ _ _ _ _ us hl => match us, hl with | [_], _ => rfl⟩
  have F20 := fun_mk (x := "row_with") (st := s_row_with) l20 c20 k20
  have D_row_with : Df K mg "row_with" "row_with" s_row_with ["tree", "rule", "place", "near"] := ⟨_, _, F20, PySem.W.mg_of X G a20, F20.binds (ps := ["tree", "rule", "place", "near"]) fun _ _ _ _ _ _ us hl => match us, hl with | [_, _, _, _], _ => rfl⟩
  have F21 := fun_mk (x := "order_of") (st := s_order_of) l21 c21 k21
  have D_order_of : Df K mg "order_of" "order_of" s_order_of ["near", "branches"] := ⟨_, _, F21, PySem.W.mg_of X G a21, F21.binds (ps := ["near", "branches"]) fun _ _ _ _ _ _ us hl => match us, hl with | [_, _], _ => rfl⟩
  have F22 := fun_mk (x := "rows_known") (st := s_rows_known) l22 c22 k22
  have D_rows_known : Df K mg "rows_known" "rows_known" s_rows_known ["tree", "rule"] := ⟨_, _, F22, PySem.W.mg_of X G a22, F22.binds (ps := ["tree", "rule"]) fun _ _ _ _ _ _ us hl => match us, hl with | [_, _], _ => rfl⟩
  have F23 := fun_mk (x := "seats_by") (st := s_seats_by) l23 c23 k23
  have D_seats_by : Df K mg "seats_by" "seats_by" s_seats_by ["tree", "rule", "rows"] := ⟨_, _, F23, PySem.W.mg_of X G a23, F23.binds (ps := ["tree", "rule", "rows"]) fun _ _ _ _ _ _ us hl => match us, hl with | [_, _, _], _ => rfl⟩
  have F24 := fun_mk (x := "all_seats") (st := s_all_seats) l24 c24 k24
  have D_all_seats : Df K mg "all_seats" "all_seats" s_all_seats ["tree", "rule"] := ⟨_, _, F24, PySem.W.mg_of X G a24, F24.binds (ps := ["tree", "rule"]) fun _ _ _ _ _ _ us hl => match us, hl with | [_, _], _ => rfl⟩
  have F25 := fun_mk (x := "_law_cell_at") (st := s_law_cell_at) l25 c25 k25
  have D_law_cell_at : Df K mg "_law_cell_at" "_law_cell_at" s_law_cell_at ["script", "k"] := ⟨_, _, F25, PySem.W.mg_of X G a25, F25.binds (ps := ["script", "k"]) fun _ _ _ _ _ _ us hl => match us, hl with | [_, _], _ => rfl⟩
  have F26 := fun_mk (x := "_law_numbers") (st := s_law_numbers) l26 c26 k26
  have D_law_numbers : Df K mg "_law_numbers" "_law_numbers" s_law_numbers ["cell", "many", "base"] := ⟨_, _, F26, PySem.W.mg_of X G a26, F26.binds (ps := ["cell", "many", "base"]) fun _ _ _ _ _ _ us hl => match us, hl with | [_, _, _], _ => rfl⟩
  have F27 := fun_mk (x := "_law_worths") (st := s_law_worths) l27 c27 k27
  have D_law_worths : Df K mg "_law_worths" "_law_worths" s_law_worths ["script", "many"] := ⟨_, _, F27, PySem.W.mg_of X G a27, F27.binds (ps := ["script", "many"]) fun _ _ _ _ _ _ us hl => match us, hl with | [_, _], _ => rfl⟩
  have F28 := fun_mk (x := "_law_ties") (st := s_law_ties) l28 c28 k28
  have D_law_ties : Df K mg "_law_ties" "_law_ties" s_law_ties ["script", "many", "least"] := ⟨_, _, F28, PySem.W.mg_of X G a28, F28.binds (ps := ["script", "many", "least"]) fun _ _ _ _ _ _ us hl => match us, hl with | [_, _, _], _ => rfl⟩
  have F29 := fun_mk (x := "_law_tree") (st := s_law_tree) l29 c29 k29
  have D_law_tree : Df K mg "_law_tree" "_law_tree" s_law_tree ["script", "most", "least"] := ⟨_, _, F29, PySem.W.mg_of X G a29, F29.binds (ps := ["script", "most", "least"]) fun _ _ _ _ _ _ us hl => match us, hl with | [_, _, _], _ => rfl⟩
  have F30 := fun_mk (x := "_law_beside") (st := s_law_beside) l30 c30 k30
  have D_law_beside : Df K mg "_law_beside" "_law_beside" s_law_beside ["tree"] := ⟨_, _, F30, PySem.W.mg_of X G a30, F30.binds (ps := ["tree"]) fun _ _ _ _ _ _ us hl => match us, hl with | [_], _ => rfl⟩
  have F31 := fun_mk (x := "_law_far") (st := s_law_far) l31 c31 k31
  have D_law_far : Df K mg "_law_far" "_law_far" s_law_far ["tree"] := ⟨_, _, F31, PySem.W.mg_of X G a31, F31.binds (ps := ["tree"]) fun _ _ _ _ _ _ us hl => match us, hl with | [_], _ => rfl⟩
  have F32 := fun_mk (x := "_law_side") (st := s_law_side) l32 c32 k32
  have D_law_side : Df K mg "_law_side" "_law_side" s_law_side ["tree", "a", "b"] := ⟨_, _, F32, PySem.W.mg_of X G a32, F32.binds (ps := ["tree", "a", "b"]) fun _ _ _ _ _ _ us hl => match us, hl with | [_, _, _], _ => rfl⟩
  have F33 := fun_mk (x := "_law_told") (st := s_law_told) l33 c33 k33
  have D_law_told : Df K mg "_law_told" "_law_told" s_law_told ["tree"] := ⟨_, _, F33, PySem.W.mg_of X G a33, F33.binds (ps := ["tree"]) fun _ _ _ _ _ _ us hl => match us, hl with | [_], _ => rfl⟩
  have F34 := fun_mk (x := "_law_within") (st := s_law_within) l34 c34 k34
  have D_law_within : Df K mg "_law_within" "_law_within" s_law_within ["tree", "told"] := ⟨_, _, F34, PySem.W.mg_of X G a34, F34.binds (ps := ["tree", "told"]) fun _ _ _ _ _ _ us hl => match us, hl with | [_, _], _ => rfl⟩
  have F35 := fun_mk (x := "_law_grown") (st := s_law_grown) l35 c35 k35
  have D_law_grown : Df K mg "_law_grown" "_law_grown" s_law_grown ["tree", "told", "place", "length"] := ⟨_, _, F35, PySem.W.mg_of X G a35, F35.binds (ps := ["tree", "told", "place", "length"]) fun _ _ _ _ _ _ us hl => match us, hl with | [_, _, _, _], _ => rfl⟩
  have F36 := fun_mk (x := "law") (st := s_law) l36 c36 k36
  refine ⟨PySem.W.fnOf "law" "law" (defArgs s_law) (defBody s_law) (defScope s_law) .none kV36 dc36 pm36 an36 cd36 ct36, fun s v => .of_eq rfl, fun base _ _ => ?_⟩
  have C_farthest_rule : Ca P w K mg base "farthest_rule" 1 [] (sp_farthest_rule mg) := ok_farthest_rule nb  D_farthest_rule
  have C_sum_rule : Ca P w K mg base "sum_rule" 1 [] (sp_sum_rule mg) := ok_sum_rule nb  D_sum_rule
  have C_apart_rule : Ca P w K mg base "apart_rule" 1 [] (sp_apart_rule mg) := ok_apart_rule nb  D_apart_rule
  have C_best_rule : Ca P w K mg base "best_rule" 1 [] (sp_best_rule mg) := ok_best_rule nb  D_best_rule
  have C_piece_rule : Ca P w K mg base "piece_rule" 1 [] (sp_piece_rule mg) := ok_piece_rule nb  D_piece_rule
  have C_pieces_rule : Ca P w K mg base "pieces_rule" 1 [] (sp_pieces_rule mg) := ok_pieces_rule nb  D_pieces_rule
  have C_all_rules : Ca P w K mg base "all_rules" 2 [] (sp_all_rules mg) := ok_all_rules nb C_apart_rule C_best_rule C_farthest_rule C_piece_rule C_pieces_rule C_sum_rule  D_all_rules
  have C_rule_named : Ca P w K mg base "rule_named" 3 ["name"] (sp_rule_named mg) := ok_rule_named nb C_all_rules E_NoName  D_rule_named
  have C_may_stand : Ca P w K mg base "may_stand" 61 ["told", "leaves", "many"] (sp_may_stand 60 mg) := ok_may_stand nb  D_may_stand 60
  have C_is_rule : Ca P w K mg base "is_rule" 62 ["thing"] (sp_is_rule mg) := ok_is_rule nb C_may_stand  D_is_rule
  have C_need_rule : Ca P w K mg base "need_rule" 63 ["rule"] (sp_need_rule mg) := ok_need_rule nb C_is_rule E_NoRule  D_need_rule
  have C_sum_at : Ca P w K mg base "sum_at" 13 ["sum_told", "own", "tie", "so", "more"] (sp_sum_at 12 mg) := ok_sum_at nb  D_sum_at 12
  have C_begun : Ca P w K mg base "begun" 14 ["rule", "own"] (sp_begun mg) := ok_begun nb C_sum_at  D_begun
  have C_joined : Ca P w K mg base "joined" 14 ["rule", "so", "more", "own"] (sp_joined mg) := ok_joined nb C_sum_at  D_joined
  have C_over_tie : Ca P w K mg base "over_tie" 14 ["rule", "more", "own", "tie"] (sp_over_tie mg) := ok_over_tie nb C_sum_at  D_over_tie
  have C_told_by : Ca P w K mg base "told_by" 14 ["rule", "so", "own"] (sp_told_by mg) := ok_told_by nb C_sum_at  D_told_by
  have C_tied_places := ok_tied_places (P := P) (w := w) (base := base) nb D_tied_places
  have CO_tied_places := ok_tied_places_own (P := P) (w := w) (base := base) nb D_tied_places
  have C_lengths_of : Ca P w K mg base "lengths_of" 1 ["tree"] (sp_lengths_of mg) := ok_lengths_of nb  D_lengths_of
  have C_every_branch : Ca P w K mg base "every_branch" 2 ["tree"] (sp_every_branch mg) := ok_every_branch nb C_lengths_of  D_every_branch
  have C_row_with : Ca P w K mg base "row_with" 15 ["tree", "rule", "place", "near"] (sp_row_with mg) := ok_row_with nb C_begun C_joined  D_row_with
  have C_order_of : Ca P w K mg base "order_of" 1 ["near", "branches"] (sp_order_of mg) := ok_order_of nb  D_order_of
  have C_rows_known : Ca P w K mg base "rows_known" 16 ["tree", "rule"] (sp_rows_known mg) := ok_rows_known nb C_every_branch C_lengths_of C_order_of C_over_tie C_row_with C_tied_places  D_rows_known
  have C_seats_by : Ca P w K mg base "seats_by" 16 ["tree", "rule", "rows"] (sp_seats_by mg) := ok_seats_by nb C_row_with C_tied_places C_told_by  D_seats_by
  have C_all_seats : Ca P w K mg base "all_seats" 64 ["tree", "rule"] (sp_all_seats mg) := ok_all_seats nb C_need_rule C_rows_known C_seats_by  D_all_seats
  have C_law_cell_at : Ca P w K mg base "_law_cell_at" 1 ["script", "k"] (sp_law_cell_at K mg) := ok_law_cell_at nb  D_law_cell_at
  have C_law_numbers : Ca P w K mg base "_law_numbers" 1 ["cell", "many", "base"] (sp_law_numbers mg) := ok_law_numbers nb  D_law_numbers
  have C_law_worths : Ca P w K mg base "_law_worths" 2 ["script", "many"] (sp_law_worths K mg) := ok_law_worths nb C_law_cell_at C_law_numbers  D_law_worths
  have C_law_ties : Ca P w K mg base "_law_ties" 2 ["script", "many", "least"] (sp_law_ties K mg) := ok_law_ties nb C_law_cell_at C_law_numbers  D_law_ties
  have C_law_tree : Ca P w K mg base "_law_tree" 3 ["script", "most", "least"] (sp_law_tree K mg) := ok_law_tree nb C_law_cell_at C_law_ties C_law_worths  D_law_tree
  have C_law_beside : Ca P w K mg base "_law_beside" 1 ["tree"] (sp_law_beside mg) := ok_law_beside nb  D_law_beside
  have C_law_far : Ca P w K mg base "_law_far" 2 ["tree"] (sp_law_far mg) := ok_law_far nb C_law_beside  D_law_far
  have C_law_side : Ca P w K mg base "_law_side" 2 ["tree", "a", "b"] (sp_law_side mg) := ok_law_side nb C_law_beside  D_law_side
  have C_law_told : Ca P w K mg base "_law_told" 65 ["tree"] (sp_law_told mg) := ok_law_told nb C_all_seats C_rule_named  D_law_told
  have C_law_within : Ca P w K mg base "_law_within" 3 ["tree", "told"] (sp_law_within mg) := ok_law_within nb C_law_beside C_law_side  D_law_within
  have C_law_grown : Ca P w K mg base "_law_grown" 66 ["tree", "told", "place", "length"] (sp_law_grown mg) := ok_law_grown nb C_law_far C_law_told C_all_seats C_rule_named  D_law_grown
  exact ok_law nb C_law_cell_at C_law_grown C_law_told C_law_tree C_law_within F36
theorem walk {l : PySem.W.OpenLaw} {q : Program} {loose : List Str} {XP : (Str → Option Value) → Heap → Prop} {YP : World → Heap → Prop} {d : DefRec} {K : Params → PySem.W.Frag} (hn : l.most = some 63) (hdf : d.params.defaults = [])
    (hY : ∀ (w : World) (h : Heap), YP w h → (K w.params).In h)
    (F : ∀ (w : World) (mg : Str → Option Value) (fa : Addr) (h : Heap), (K w.params).In h → h.Ns mainGlobals mg → mg d.name = some (.ref fa) →
      ∃ fd : FuncData, (∀ (s : Shared) (u : Value), BindsTo s fd ⟨[u], []⟩ [("script", u)]) ∧ ∀ base : Heap, (K w.params).In base → base.Ns mainGlobals mg → FnOk l.prog w (K w.params) mg base (L2.CX l.prog w) 67 fa fd ["script"] (sp_law (K w.params))) :
    PySem.W.WalkO q loose XP YP l.row.toRowW d [] (fun f vs => PySem.call f vs) :=
  L2.walk_of (n := 63) (k := 67) (x := "script") (CX := fun w => L2.CX l.prog w) (sp := fun w => sp_law (K w.params)) hn (by decide) hdf ⟨rfl, by decide, by decide⟩ hY F
    (fun _ H a ns hl _ hS => ⟨H, a, ns, rfl, ⟨Same.refl _, (fun _ h => nomatch h), (fun _ h => nomatch h), List.nodup_nil, (fun _ h => nomatch h)⟩, hS, by rw [law_true ns hl]; exact fun _ _ _ => rfl⟩)
    fun _ _ _ _ _ z => by
      obtain ⟨_, _, _, _, _, _, _, _, _, _, _, _, z⟩ := z
      exact z.elim
end G
open PySem PySem.W PyProof.Rows
set_option maxRecDepth 100000 in
set_option maxHeartbeats 0 in
theorem PySem.Challenge.cw_everyseat_k29_whole_named_rules_holds : PySem.Challenge.rw_everyseat_k29_whole_named_rules.Holds := by
  w_on; o_law; k_head; (case hw => w_witness2)
  k_fill
  refine G.walk (l := PySem.Challenge.rw_everyseat_k29_whole_named_rules) rfl rfl (fun w h Y => PySem.W.kIn_of Y) ?F
  case F =>
    intro w mg fa h KX GG hmg
    refine' G.all_mk KX GG hmg ?a1 ?l1 ?c1 ?k1 ?a2 ?l2 ?c2 ?k2 ?a3 ?l3 ?c3 ?k3 ?a4 ?l4 ?c4 ?k4 ?a5 ?l5 ?c5 ?k5 ?a6 ?l6 ?c6 ?k6 ?a7 ?l7 ?c7 ?k7 ?a8 ?l8 ?c8 ?k8 ?a9 ?l9 ?c9 ?k9 ?a10 ?l10 ?c10 ?k10 ?a11 ?l11 ?c11 ?k11 ?a12 ?l12 ?c12 ?k12 ?a13 ?l13 ?c13 ?k13 ?a14 ?l14 ?c14 ?k14 ?a15 ?l15 ?c15 ?k15 ?a16 ?l16 ?c16 ?k16 ?a17 ?l17 ?c17 ?k17 ?a18 ?l18 ?c18 ?k18 ?a19 ?l19 ?c19 ?k19 ?a20 ?l20 ?c20 ?k20 ?a21 ?l21 ?c21 ?k21 ?a22 ?l22 ?c22 ?k22 ?a23 ?l23 ?c23 ?k23 ?a24 ?l24 ?c24 ?k24 ?a25 ?l25 ?c25 ?k25 ?a26 ?l26 ?c26 ?k26 ?a27 ?l27 ?c27 ?k27 ?a28 ?l28 ?c28 ?k28 ?a29 ?l29 ?c29 ?k29 ?a30 ?l30 ?c30 ?k30 ?a31 ?l31 ?c31 ?k31 ?a32 ?l32 ?c32 ?k32 ?a33 ?l33 ?c33 ?k33 ?a34 ?l34 ?c34 ?k34 ?a35 ?l35 ?c35 ?k35 ?a36 ?l36 ?c36 ?k36 ?ga_NoName ?gx_NoName ?gk_NoName ?gb_NoName ?gt_NoName ?ga_NoRule ?gx_NoRule ?gk_NoRule ?gb_NoRule ?gt_NoRule ?zc_MOST ?zt_MORE ?zl_MORE ?zt_MORE_MORE ?zl_MORE_MORE ?zt_NOUGHT ?zl_NOUGHT ?zt_ONE ?zl_ONE ?zt_OWN ?zl_OWN ?zt_SO ?zl_SO ?zt_SO_MORE ?zl_SO_MORE ?zt_TIE ?zl_TIE ?z_abs ?z_dict ?z_enumerate ?z_len ?z_list ?z_max ?z_min ?z_range ?z_sorted
    (case a1 => k_is)
    (case l1 => k_is)
    (case c1 => k_is)
    (case k1 => k_is)
    (case a2 => k_is)
    (case l2 => k_is)
    (case c2 => k_is)
    (case k2 => k_is)
    (case a3 => k_is)
    (case l3 => k_is)
    (case c3 => k_is)
    (case k3 => k_is)
    (case a4 => k_is)
    (case l4 => k_is)
    (case c4 => k_is)
    (case k4 => k_is)
    (case a5 => k_is)
    (case l5 => k_is)
    (case c5 => k_is)
    (case k5 => k_is)
    (case a6 => k_is)
    (case l6 => k_is)
    (case c6 => k_is)
    (case k6 => k_is)
    (case a7 => k_is)
    (case l7 => k_is)
    (case c7 => k_is)
    (case k7 => k_is)
    (case a8 => k_is)
    (case l8 => k_is)
    (case c8 => k_is)
    (case k8 => k_is)
    (case a9 => k_is)
    (case l9 => k_is)
    (case c9 => k_is)
    (case k9 => k_is)
    (case a10 => k_is)
    (case l10 => k_is)
    (case c10 => k_is)
    (case k10 => k_is)
    (case a11 => k_is)
    (case l11 => k_is)
    (case c11 => k_is)
    (case k11 => k_is)
    (case a12 => k_is)
    (case l12 => k_is)
    (case c12 => k_is)
    (case k12 => k_is)
    (case a13 => k_is)
    (case l13 => k_is)
    (case c13 => k_is)
    (case k13 => k_is)
    (case a14 => k_is)
    (case l14 => k_is)
    (case c14 => k_is)
    (case k14 => k_is)
    (case a15 => k_is)
    (case l15 => k_is)
    (case c15 => k_is)
    (case k15 => k_is)
    (case a16 => k_is)
    (case l16 => k_is)
    (case c16 => k_is)
    (case k16 => k_is)
    (case a17 => k_is)
    (case l17 => k_is)
    (case c17 => k_is)
    (case k17 => k_is)
    (case a18 => k_is)
    (case l18 => k_is)
    (case c18 => k_is)
    (case k18 => k_is)
    (case a19 => k_is)
    (case l19 => k_is)
    (case c19 => k_is)
    (case k19 => k_is)
    (case a20 => k_is)
    (case l20 => k_is)
    (case c20 => k_is)
    (case k20 => k_is)
    (case a21 => k_is)
    (case l21 => k_is)
    (case c21 => k_is)
    (case k21 => k_is)
    (case a22 => k_is)
    (case l22 => k_is)
    (case c22 => k_is)
    (case k22 => k_is)
    (case a23 => k_is)
    (case l23 => k_is)
    (case c23 => k_is)
    (case k23 => k_is)
    (case a24 => k_is)
    (case l24 => k_is)
    (case c24 => k_is)
    (case k24 => k_is)
    (case a25 => k_is)
    (case l25 => k_is)
    (case c25 => k_is)
    (case k25 => k_is)
    (case a26 => k_is)
    (case l26 => k_is)
    (case c26 => k_is)
    (case k26 => k_is)
    (case a27 => k_is)
    (case l27 => k_is)
    (case c27 => k_is)
    (case k27 => k_is)
    (case a28 => k_is)
    (case l28 => k_is)
    (case c28 => k_is)
    (case k28 => k_is)
    (case a29 => k_is)
    (case l29 => k_is)
    (case c29 => k_is)
    (case k29 => k_is)
    (case a30 => k_is)
    (case l30 => k_is)
    (case c30 => k_is)
    (case k30 => k_is)
    (case a31 => k_is)
    (case l31 => k_is)
    (case c31 => k_is)
    (case k31 => k_is)
    (case a32 => k_is)
    (case l32 => k_is)
    (case c32 => k_is)
    (case k32 => k_is)
    (case a33 => k_is)
    (case l33 => k_is)
    (case c33 => k_is)
    (case k33 => k_is)
    (case a34 => k_is)
    (case l34 => k_is)
    (case c34 => k_is)
    (case k34 => k_is)
    (case a35 => k_is)
    (case l35 => k_is)
    (case c35 => k_is)
    (case k35 => k_is)
    (case a36 => k_is)
    (case l36 => k_is)
    (case c36 => k_is)
    (case k36 => k_is)
    (case ga_NoName => k_is)
    (case gx_NoName => k_exc)
    (case gk_NoName => k_is)
    (case gb_NoName => k_is)
    (case gt_NoName => k_is)
    (case ga_NoRule => k_is)
    (case gx_NoRule => k_exc)
    (case gk_NoRule => k_is)
    (case gb_NoRule => k_is)
    (case gt_NoRule => k_is)
    (case zc_MOST => k_is)
    (case zt_MORE => k_is)
    (case zl_MORE => k_is)
    (case zt_MORE_MORE => k_is)
    (case zl_MORE_MORE => k_is)
    (case zt_NOUGHT => k_is)
    (case zl_NOUGHT => k_is)
    (case zt_ONE => k_is)
    (case zl_ONE => k_is)
    (case zt_OWN => k_is)
    (case zl_OWN => k_is)
    (case zt_SO => k_is)
    (case zl_SO => k_is)
    (case zt_SO_MORE => k_is)
    (case zl_SO_MORE => k_is)
    (case zt_TIE => k_is)
    (case zl_TIE => k_is)
    (case z_abs => k_is)
    (case z_dict => k_is)
    (case z_enumerate => k_is)
    (case z_len => k_is)
    (case z_list => k_is)
    (case z_max => k_is)
    (case z_min => k_is)
    (case z_range => k_is)
    (case z_sorted => k_is)
#print axioms PySem.Challenge.cw_everyseat_k29_whole_named_rules_holds
