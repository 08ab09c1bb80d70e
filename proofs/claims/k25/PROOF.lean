import PyProof.Rows.All
import Wide.All
import OpenK.AllK
import Wide.FinOn
import HandS.ForMost
import HandS.ForExc
import HandS.Wide
import HandS.Flow
import HandS.Evl
import HandS.Conv
import HandS.IsInst
import KE.SortData
import KE.DatumMoreOrd
import KE.DatumIndex
import HandS.Walk
import HandS.TupSets
import HandS.TryOnly
import HandS.Codes
import HandS.Dict
import HandS.TupLe
import HandS.List
import KE.KDictPairs
import HandS.Exc
import HandS.ExcIs
import HandS.ExcValue
import PyProof.Rows.CountFlat
import HandS.Style
import HandS.SetKeys
import HandS.DictTup
import HandS.Text
import PyProof.StrBlock2
import PyProof.Rows.StrMul
import HandS.More
import PySem.Challenge.RW_everyseat_k25_names_of_rules
set_option Elab.async false
set_option linter.all false
set_option maxRecDepth 100000
set_option maxHeartbeats 4000000
/-! My own layer over HandS: mirrors in an error monad, represented data, owned cells. -/
namespace PG
open PySem L2

/-! ### the mirrors' monad -/
inductive Er where
  | bad
  | exc (n : String)
  deriving DecidableEq
abbrev M := Except Er
def wp {a : Type} (m : M a) (Q : a → Prop) (E : String → Prop) : Prop :=
  match m with
  | .ok x => Q x
  | .error .bad => False
  | .error (.exc n) => E n
section
variable {a b : Type} {Q : a → Prop} {R : b → Prop} {E E' : String → Prop}
theorem wp_ok {x : a} : wp (Except.ok x : M a) Q E = Q x := rfl
theorem wp_pure {x : a} : wp (pure x : M a) Q E = Q x := rfl
theorem wp_bind {m : M b} {k : b → M a} : wp (m >>= k) Q E ↔ wp m (fun x => wp (k x) Q E) E := by
  cases m with
  | ok x => exact Iff.rfl
  | error e => cases e <;> exact Iff.rfl
theorem wp_call {m : M b} {k : b → M a} {E1 : String → Prop} (h : wp (m >>= k) Q E) (hr : ∀ r, m = .ok r → wp (k r) Q E → R r) (he : ∀ n, E n → E1 n) : wp m R E1 := by
  cases m with
  | ok x => exact hr x rfl h
  | error e =>
    cases e with
    | bad => exact h
    | exc n => exact he n h
/-- the last call of a def -/
theorem wp_tail {m : M a} {E1 : String → Prop} {R : a → Prop} (h : wp m Q E) (hr : ∀ r, m = .ok r → Q r → R r) (he : ∀ n, E n → E1 n) : wp m R E1 := by
  cases m with
  | ok x => exact hr x rfl h
  | error e =>
    cases e with
    | bad => exact h
    | exc n => exact he n h
def bad : M a := .error .bad
def raise (n : String) : M a := .error (.exc n)
theorem wp_bad {P : Prop} (h : wp (bad : M a) Q E) : P := h.elim
/-- a guard -/
@[irreducible] def chk (c : Prop) [Decidable c] : M Unit := if c then .ok () else bad
theorem wp_chk {c : Prop} [Decidable c] {k : Unit → M a} (h : wp (chk c >>= k) Q E) : c ∧ wp (k ()) Q E := by
  unfold chk at h
  by_cases hc : c
  · rw [if_pos hc] at h
    exact ⟨hc, h⟩
  · rw [if_neg hc] at h
    exact h.elim
/-- something that is there -/
def opt (o : Option b) : M b := match o with
  | some x => .ok x
  | none => bad
theorem wp_opt {o : Option b} {k : b → M a} (h : wp (opt o >>= k) Q E) : ∃ x, o = some x ∧ wp (k x) Q E := by
  cases o with
  | none => exact h.elim
  | some x => exact ⟨x, rfl, h⟩
/-- no exception leaves -/
def nox (m : M a) : M a := match m with
  | .ok x => .ok x
  | .error _ => bad
theorem wp_nox {m : M b} {k : b → M a} (h : wp (nox m >>= k) Q E) : ∃ x, m = .ok x ∧ wp (k x) Q E := by
  cases m with
  | ok x => exact ⟨x, rfl, h⟩
  | error e => exact h.elim
theorem wp_of_ok {m : M b} {x : b} (e : m = .ok x) (h : R x) : wp m R E := by
  rw [e]
  exact h
theorem wp_ite {c : Prop} [Decidable c] {x y : M a} (h : wp (if c then x else y) Q E) : (c → wp x Q E) ∧ (¬ c → wp y Q E) := by
  by_cases hc : c
  · rw [if_pos hc] at h
    exact ⟨fun _ => h, fun n => (n hc).elim⟩
  · rw [if_neg hc] at h
    exact ⟨fun p => (hc p).elim, fun _ => h⟩
end

/-! ### loops -/
/-- a turn's end: on to the next, or the def's return -/
inductive Fl (s r : Type) where
  | nx (x : s)
  | rt (x : r)
section
variable {i s r a : Type}
def loopM (b : i → s → M (Fl s r)) : List i → s → M (Fl s r)
  | [], x => .ok (.nx x)
  | y :: ys, x => b y x >>= fun
    | .nx x' => loopM b ys x'
    | .rt z => .ok (.rt z)
/-- a loop without return -/
def loopN (b : i → s → M s) : List i → s → M s
  | [], x => .ok x
  | y :: ys, x => b y x >>= fun x' => loopN b ys x'
def whileM (c : s → M Bool) (b : s → M (Fl s r)) : Nat → s → M (Fl s r)
  | 0, _ => bad
  | n + 1, x => c x >>= fun t => if t = true then b x >>= fun
      | .nx x' => whileM c b n x'
      | .rt z => .ok (.rt z)
    else .ok (.nx x)
def whileN (c : s → M Bool) (b : s → M s) : Nat → s → M s
  | 0, _ => bad
  | n + 1, x => c x >>= fun t => if t = true then b x >>= fun x' => whileN c b n x' else .ok x
/-- a comprehension: f gives an element, or none where the test fails -/
def compN (b : i → s → M (Option a × s)) : List i → s → M (List a × s)
  | [], x => .ok ([], x)
  | y :: ys, x => b y x >>= fun p => compN b ys p.2 >>= fun q => .ok (match p.1 with
    | some z => z :: q.1
    | none => q.1, q.2)
/-- .. that changes nothing -/
def compM (b : i → M (Option a)) : List i → M (List a)
  | [] => .ok []
  | y :: ys => b y >>= fun p => compM b ys >>= fun q => .ok (match p with
    | some z => z :: q
    | none => q)
end

/-! ### what a value stands for -/
open PySem.W (T3 T4 Datum DatumOrd)
/-- the frag whose own tuples (the module's constants) may stand in data; told by an instance alone -/
class KF (K : outParam PySem.W.Frag) : Type
def KTup (K : PySem.W.Frag) (a : Addr) (xs : List V) : Prop :=
  ∃ (o : Obj) (its : Array Value) (n : Nat), K.lookup a = some o ∧ o.cls = .type "tuple" ∧ o.data = .seq its n ∧ its.size ≤ sizeLine ∧ Vals xs its.toList
section
variable {K0 : PySem.W.Frag} [KF K0]
/-- a tuple: the heap's, or one of the module's, a text first -/
def TupAt {K0 : PySem.W.Frag} [KF K0] (H : Hp) (a : Addr) (xs : List V) : Prop := H a = some (.tup xs) ∨ ((∃ w ws, xs = V.str w :: ws) ∧ KTup K0 a xs)
theorem TupAt.mono {H H' : Hp} {a : Addr} {xs : List V} (h : TupAt H a xs) (s : Same H H') : TupAt H' a xs := by
  rcases h with h | h
  · exact .inl (s _ _ h)
  · exact .inr h
theorem TupAt.sq {H : Hp} {a : Addr} {xs : List V} (h : TupAt H a xs) : SqT K0 H a xs := by
  rcases h with h | ⟨_, h⟩
  · exact SqT.of h
  · exact .inr h
mutual
inductive Rep (H : Hp) : V → PyData → Prop
  | non : Rep H .non .none
  | bl (b : Bool) : Rep H (.bl b) (.bool b)
  | int (i : Int) : Rep H (.int i) (.int i)
  | str (x : Str) : Rep H (.str x) (.str x)
  | lst {a : Addr} {xs : List V} {ds : List PyData} : H a = some (.lst xs) → RepA H xs ds → Rep H (.ref a) (.list ds)
  | tup {a : Addr} {xs : List V} {ds : List PyData} : TupAt H a xs → RepA H xs ds → Rep H (.ref a) (.tuple ds)
inductive RepA (H : Hp) : List V → List PyData → Prop
  | nil : RepA H [] []
  | cons {v : V} {vs : List V} {d : PyData} {ds : List PyData} : Rep H v d → RepA H vs ds → RepA H (v :: vs) (d :: ds)
end
mutual
theorem Rep.mono {H H' : Hp} (s : Same H H') : ∀ (d : PyData) (v : V), Rep H v d → Rep H' v d
  | .none, _, h => by cases h; exact .non
  | .bool _, _, h => by cases h; exact .bl _
  | .int _, _, h => by cases h; exact .int _
  | .str _, _, h => by cases h; exact .str _
  | .list ds, _, h => by
    cases h with
    | lst ha hs => exact .lst (s _ _ ha) (RepA.mono s ds _ hs)
  | .tuple ds, _, h => by
    cases h with
    | tup ha hs => exact .tup (ha.mono s) (RepA.mono s ds _ hs)
  | .dict _, _, h => by cases h
theorem RepA.mono {H H' : Hp} (s : Same H H') : ∀ (ds : List PyData) (vs : List V), RepA H vs ds → RepA H' vs ds
  | [], _, h => by cases h; exact .nil
  | d :: ds, _, h => by
    cases h with
    | cons h1 h2 => exact .cons (Rep.mono s d _ h1) (RepA.mono s ds _ h2)
end
mutual
theorem Rep.dp {H : Hp} : ∀ (d : PyData) (v : V), Rep H v d → Dp K0 H v d
  | .none, _, h => by cases h; exact .non
  | .bool _, _, h => by cases h; exact .bl _
  | .int _, _, h => by cases h; exact .int _
  | .str _, _, h => by cases h; exact .str _
  | .list ds, _, h => by
    cases h with
    | lst ha hs => exact .lst (SqL.of ha) (RepA.dp ds _ hs)
  | .tuple ds, _, h => by
    cases h with
    | tup ha hs => exact .tup ha.sq (RepA.dp ds _ hs)
  | .dict _, _, h => by cases h
theorem RepA.dp {H : Hp} : ∀ (ds : List PyData) (vs : List V), RepA H vs ds → DpAll K0 H vs ds
  | [], _, h => by cases h; exact .nil
  | d :: ds, _, h => by
    cases h with
    | cons h1 h2 => exact .cons (Rep.dp d _ h1) (RepA.dp ds _ h2)
end

end
/-- a Lean type whose values are Python's data -/
class Py (a : Type) where
  toD : a → PyData
instance : Py Int := ⟨.int⟩
instance : Py Bool := ⟨.bool⟩
instance : Py Str := ⟨.str⟩
instance : Py Unit := ⟨fun _ => .none⟩
instance {a : Type} [Py a] : Py (List a) := ⟨fun xs => .list (xs.map Py.toD)⟩
instance {a b : Type} [Py a] [Py b] : Py (a × b) := ⟨fun p => .tuple [Py.toD p.1, Py.toD p.2]⟩
instance {a b c : Type} [Py a] [Py b] [Py c] : Py (T3 a b c) := ⟨fun p => .tuple [Py.toD p.a, Py.toD p.b, Py.toD p.c]⟩
instance {a b c d : Type} [Py a] [Py b] [Py c] [Py d] : Py (T4 a b c d) := ⟨fun p => .tuple [Py.toD p.a, Py.toD p.b, Py.toD p.c, Py.toD p.d]⟩
instance {a : Type} [Py a] : Py (Option a) := ⟨fun o => match o with
  | none => .none
  | some x => Py.toD x⟩
class IsD (a : Type) [Py a] [DecidableEq a] [Datum a] : Prop where
  eq : ∀ x : a, Py.toD x = Datum.toD x
instance : IsD Int := ⟨fun _ => rfl⟩
instance : IsD Bool := ⟨fun _ => rfl⟩
instance : IsD Str := ⟨fun _ => rfl⟩
instance : IsD Unit := ⟨fun _ => rfl⟩
section
variable {a b c d : Type} [Py a] [DecidableEq a] [Datum a] [IsD a] [Py b] [DecidableEq b] [Datum b] [IsD b] [Py c] [DecidableEq c] [Datum c] [IsD c] [Py d] [DecidableEq d] [Datum d] [IsD d]
theorem map_toD (xs : List a) : xs.map (Py.toD : a → PyData) = xs.map Datum.toD := List.map_congr_left fun x _ => IsD.eq x
instance : IsD (List a) := ⟨fun xs => congrArg PyData.list (map_toD xs)⟩
instance : IsD (a × b) := ⟨fun p => by show PyData.tuple [_, _] = PyData.tuple [_, _]; rw [IsD.eq, IsD.eq]⟩
instance : IsD (T3 a b c) := ⟨fun p => by show PyData.tuple [_, _, _] = PyData.tuple [_, _, _]; rw [IsD.eq, IsD.eq, IsD.eq]⟩
instance : IsD (T4 a b c d) := ⟨fun p => by show PyData.tuple [_, _, _, _] = PyData.tuple [_, _, _, _]; rw [IsD.eq, IsD.eq, IsD.eq, IsD.eq]⟩
instance [PySem.W.SomeDatum a] : IsD (Option a) := ⟨fun o => by
  cases o with
  | none => rfl
  | some x => exact IsD.eq x⟩
end

/-- no text -/
class NoS (a : Type) [Py a] : Prop where
  ns : ∀ (x : a) (s : Str), Py.toD x ≠ .str s
instance : NoS Int := ⟨fun _ _ h => nomatch h⟩
instance : NoS Bool := ⟨fun _ _ h => nomatch h⟩
instance : NoS Unit := ⟨fun _ _ h => nomatch h⟩
section
variable {a b c d : Type} [Py a] [Py b] [Py c] [Py d]
instance : NoS (List a) := ⟨fun _ _ h => nomatch h⟩
instance : NoS (a × b) := ⟨fun _ _ h => nomatch h⟩
instance : NoS (T3 a b c) := ⟨fun _ _ h => nomatch h⟩
instance : NoS (T4 a b c d) := ⟨fun _ _ h => nomatch h⟩
instance [NoS a] : NoS (Option a) := ⟨fun o s h => by
  cases o with
  | none => exact nomatch h
  | some x => exact NoS.ns x s h⟩
end
variable {K0 : PySem.W.Frag} [KF K0]
theorem TupAt.plain {a : Type} [Py a] [NoS a] {H : Hp} {p : Addr} {v : V} {vs : List V} {x : a} (h : TupAt H p (v :: vs)) (r : Rep H v (Py.toD x)) : H p = some (.tup (v :: vs)) := by
  rcases h with h | ⟨⟨w, ws, e⟩, _⟩
  · exact h
  · injection e with e _
    subst e
    obtain ⟨d, hd⟩ : ∃ d, d = Py.toD x := ⟨_, rfl⟩
    rw [← hd] at r
    cases r with
    | str => exact (NoS.ns x w hd.symm).elim
/-- v stands for x -/
def R {a : Type} [Py a] (H : Hp) (v : V) (x : a) : Prop := Rep H v (Py.toD x)
/-- item by item -/
def RL {a : Type} [Py a] (H : Hp) (vs : List V) (xs : List a) : Prop := RepA H vs (xs.map Py.toD)
section
variable {H H' : Hp} {v : V} {vs : List V} {p q : Addr}
theorem R.mono {a : Type} [Py a] {x : a} (h : R H v x) (s : Same H H') : R H' v x := Rep.mono s _ _ h
theorem RL.mono {a : Type} [Py a] {xs : List a} (h : RL H vs xs) (s : Same H H') : RL H' vs xs := RepA.mono s _ _ h
theorem R.int {i : Int} : R H (.int i) i := Rep.int i
theorem R.bl {b : Bool} : R H (.bl b) b := Rep.bl b
theorem R.str {x : Str} : R H (.str x) x := Rep.str x
theorem R.unit {u : Unit} : R H .non u := Rep.non
theorem R.non {a : Type} [Py a] : R H .non (none : Option a) := Rep.non
theorem R.jst {a : Type} [Py a] {x : a} (h : R H v x) : R H v (some x) := h
theorem R.int_ {i : Int} (h : R H v i) : v = .int i := by cases h; rfl
theorem R.bl_ {b : Bool} (h : R H v b) : v = .bl b := by cases h; rfl
theorem R.str_ {x : Str} (h : R H v x) : v = .str x := by cases h; rfl
theorem R.unit_ {u : Unit} (h : R H v u) : v = .non := by cases h; rfl
theorem R.non_ {a : Type} [Py a] (h : R H v (none : Option a)) : v = .non := by cases h; rfl
theorem R.jst_ {a : Type} [Py a] {x : a} (h : R H v (some x)) : R H v x := h
variable {a b c d : Type} [Py a] [Py b] [Py c] [Py d]
theorem R.lst {xs : List a} (ha : H p = some (.lst vs)) (h : RL H vs xs) : R H (.ref p) xs := Rep.lst ha h
theorem R.lst_ {xs : List a} (h : R H v xs) : ∃ p vs, v = .ref p ∧ H p = some (.lst vs) ∧ RL H vs xs := by
  have h' : Rep H v (.list (xs.map Py.toD)) := h
  cases h' with
  | lst ha hs => exact ⟨_, _, rfl, ha, hs⟩
theorem R.t2 {x : a × b} {v1 v2 : V} (ha : H p = some (.tup [v1, v2])) (h1 : R H v1 x.1) (h2 : R H v2 x.2) : R H (.ref p) x := Rep.tup (.inl ha) (.cons h1 (.cons h2 .nil))
theorem R.t2T_ {x : a × b} (h : R H v x) : ∃ p v1 v2, v = .ref p ∧ TupAt H p [v1, v2] ∧ R H v1 x.1 ∧ R H v2 x.2 := by
  have h' : Rep H v (.tuple [_, _]) := h
  cases h' with
  | tup ha hs =>
    cases hs with
    | cons h1 hs =>
      cases hs with
      | cons h2 hs =>
        cases hs
        exact ⟨_, _, _, rfl, ha, h1, h2⟩
theorem R.t2T {x : a × b} {v1 v2 : V} (ha : TupAt H p [v1, v2]) (h1 : R H v1 x.1) (h2 : R H v2 x.2) : R H (.ref p) x := Rep.tup ha (.cons h1 (.cons h2 .nil))
theorem R.t3T {x : T3 a b c} {v1 v2 v3 : V} (ha : TupAt H p [v1, v2, v3]) (h1 : R H v1 x.a) (h2 : R H v2 x.b) (h3 : R H v3 x.c) : R H (.ref p) x := Rep.tup ha (.cons h1 (.cons h2 (.cons h3 .nil)))
theorem TupAt.mv {F F' : Hp} {xs : List V} (h : TupAt F p xs) (t : ∀ b xs, F b = some (.tup xs) → F' b = some (.tup xs)) : TupAt F' p xs := by
  rcases h with h | h
  · exact .inl (t _ _ h)
  · exact .inr h
theorem R.t2_ [NoS a] {x : a × b} (h : R H v x) : ∃ p v1 v2, v = .ref p ∧ H p = some (.tup [v1, v2]) ∧ R H v1 x.1 ∧ R H v2 x.2 := by
  have h' : Rep H v (.tuple [_, _]) := h
  cases h' with
  | tup ha hs =>
    cases hs with
    | cons h1 hs =>
      cases hs with
      | cons h2 hs =>
        cases hs
        exact ⟨_, _, _, rfl, ha.plain h1, h1, h2⟩
theorem R.t3 {x : T3 a b c} {v1 v2 v3 : V} (ha : H p = some (.tup [v1, v2, v3])) (h1 : R H v1 x.a) (h2 : R H v2 x.b) (h3 : R H v3 x.c) : R H (.ref p) x := Rep.tup (.inl ha) (.cons h1 (.cons h2 (.cons h3 .nil)))
theorem R.t3T_ {x : T3 a b c} (h : R H v x) : ∃ p v1 v2 v3, v = .ref p ∧ TupAt H p [v1, v2, v3] ∧ R H v1 x.a ∧ R H v2 x.b ∧ R H v3 x.c := by
  have h' : Rep H v (.tuple [_, _, _]) := h
  cases h' with
  | tup ha hs =>
    cases hs with
    | cons h1 hs =>
      cases hs with
      | cons h2 hs =>
        cases hs with
        | cons h3 hs =>
          cases hs
          exact ⟨_, _, _, _, rfl, ha, h1, h2, h3⟩
theorem R.t3_ [NoS a] {x : T3 a b c} (h : R H v x) : ∃ p v1 v2 v3, v = .ref p ∧ H p = some (.tup [v1, v2, v3]) ∧ R H v1 x.a ∧ R H v2 x.b ∧ R H v3 x.c := by
  have h' : Rep H v (.tuple [_, _, _]) := h
  cases h' with
  | tup ha hs =>
    cases hs with
    | cons h1 hs =>
      cases hs with
      | cons h2 hs =>
        cases hs with
        | cons h3 hs =>
          cases hs
          exact ⟨_, _, _, _, rfl, ha.plain h1, h1, h2, h3⟩
theorem R.t4 {x : T4 a b c d} {v1 v2 v3 v4 : V} (ha : H p = some (.tup [v1, v2, v3, v4])) (h1 : R H v1 x.a) (h2 : R H v2 x.b) (h3 : R H v3 x.c) (h4 : R H v4 x.d) : R H (.ref p) x :=
  Rep.tup (.inl ha) (.cons h1 (.cons h2 (.cons h3 (.cons h4 .nil))))
theorem R.t4_ [NoS a] {x : T4 a b c d} (h : R H v x) : ∃ p v1 v2 v3 v4, v = .ref p ∧ H p = some (.tup [v1, v2, v3, v4]) ∧ R H v1 x.a ∧ R H v2 x.b ∧ R H v3 x.c ∧ R H v4 x.d := by
  have h' : Rep H v (.tuple [_, _, _, _]) := h
  cases h' with
  | tup ha hs =>
    cases hs with
    | cons h1 hs =>
      cases hs with
      | cons h2 hs =>
        cases hs with
        | cons h3 hs =>
          cases hs with
          | cons h4 hs =>
            cases hs
            exact ⟨_, _, _, _, _, rfl, ha.plain h1, h1, h2, h3, h4⟩
theorem RL.nil : RL H [] ([] : List a) := RepA.nil
theorem RL.cons {x : a} {xs : List a} (h : R H v x) (hs : RL H vs xs) : RL H (v :: vs) (x :: xs) := RepA.cons h hs
theorem RL.cons_ {x : a} {xs : List a} (h : RL H vs (x :: xs)) : ∃ w ws, vs = w :: ws ∧ R H w x ∧ RL H ws xs := by
  have h' : RepA H vs (Py.toD x :: xs.map Py.toD) := h
  cases h' with
  | cons h1 h2 => exact ⟨_, _, rfl, h1, h2⟩
theorem RL.nil_ (h : RL H vs ([] : List a)) : vs = [] := by
  have h' : RepA H vs [] := h
  cases h'
  rfl
theorem RL.len : ∀ {vs : List V} {xs : List a}, RL H vs xs → vs.length = xs.length
  | _, [], h => by rw [RL.nil_ h]; rfl
  | _, x :: xs, h => by
    obtain ⟨w, ws, rfl, _, h2⟩ := RL.cons_ h
    rw [List.length_cons, List.length_cons, RL.len h2]
theorem RL.app : ∀ {vs ws : List V} {xs ys : List a}, RL H vs xs → RL H ws ys → RL H (vs ++ ws) (xs ++ ys)
  | _, _, [], _, h, k => by rw [RL.nil_ h]; exact k
  | _, _, x :: xs, _, h, k => by
    obtain ⟨w, ws', rfl, h1, h2⟩ := RL.cons_ h
    exact RL.cons h1 (RL.app h2 k)
theorem RL.snoc {x : a} {xs : List a} (h : RL H vs xs) (k : R H v x) : RL H (vs ++ [v]) (xs ++ [x]) := RL.app h (RL.cons k RL.nil)
theorem RL.get : ∀ {vs : List V} {xs : List a}, RL H vs xs → ∀ {i : Nat} {x : a}, xs[i]? = some x → ∃ w, vs[i]? = some w ∧ R H w x
  | _, [], _, i, x, e => by simp at e
  | _, y :: ys, h, i, x, e => by
    obtain ⟨w, ws, rfl, h1, h2⟩ := RL.cons_ h
    cases i with
    | zero =>
      cases (Option.some.inj e : y = x)
      exact ⟨w, rfl, h1⟩
    | succ i => exact RL.get h2 (i := i) (by simpa using e)
theorem RL.got : ∀ {vs : List V} {xs : List a}, RL H vs xs → ∀ {i : Nat} {w : V}, vs[i]? = some w → ∃ x, xs[i]? = some x ∧ R H w x
  | _, [], h, i, w, e => by rw [RL.nil_ h] at e; simp at e
  | _, y :: ys, h, i, w, e => by
    obtain ⟨w', ws, rfl, h1, h2⟩ := RL.cons_ h
    cases i with
    | zero =>
      cases (Option.some.inj e : w' = w)
      exact ⟨y, rfl, h1⟩
    | succ i => exact RL.got h2 (i := i) (by simpa using e)
theorem RL.atI {xs : List a} (h : RL H vs xs) {i : Int} {x : a} (e : L2.atI xs i = some x) : ∃ w, L2.atI vs i = some w ∧ R H w x := by
  unfold L2.atI at e ⊢
  rw [h.len]
  cases q : ixN xs.length i with
  | none => rw [q] at e; cases e
  | some j =>
    rw [q] at e
    exact h.get e
theorem RL.take : ∀ {vs : List V} {xs : List a} (n : Nat), RL H vs xs → RL H (vs.take n) (xs.take n)
  | _, _, 0, _ => RL.nil
  | _, [], n + 1, h => by rw [RL.nil_ h]; exact RL.nil
  | _, x :: xs, n + 1, h => by
    obtain ⟨w, ws, rfl, h1, h2⟩ := RL.cons_ h
    exact RL.cons h1 (RL.take n h2)
theorem RL.drop : ∀ {vs : List V} {xs : List a} (n : Nat), RL H vs xs → RL H (vs.drop n) (xs.drop n)
  | _, _, 0, h => h
  | _, [], n + 1, h => by rw [RL.nil_ h]; exact RL.nil
  | _, x :: xs, n + 1, h => by
    obtain ⟨w, ws, rfl, h1, h2⟩ := RL.cons_ h
    exact RL.drop n h2
theorem RL.set : ∀ {vs : List V} {xs : List a} (n : Nat) {w : V} {y : a}, RL H vs xs → R H w y → RL H (vs.set n w) (xs.set n y)
  | _, [], n, _, _, h, _ => by rw [RL.nil_ h]; exact RL.nil
  | _, x :: xs, 0, _, _, h, k => by
    obtain ⟨w, ws, rfl, h1, h2⟩ := RL.cons_ h
    exact RL.cons k h2
  | _, x :: xs, n + 1, _, _, h, k => by
    obtain ⟨w, ws, rfl, h1, h2⟩ := RL.cons_ h
    exact RL.cons h1 (RL.set n h2 k)
theorem RL.erase : ∀ {vs : List V} {xs : List a} (n : Nat), RL H vs xs → RL H (vs.eraseIdx n) (xs.eraseIdx n)
  | _, [], n, h => by rw [RL.nil_ h]; exact RL.nil
  | _, x :: xs, 0, h => by
    obtain ⟨w, ws, rfl, h1, h2⟩ := RL.cons_ h
    exact h2
  | _, x :: xs, n + 1, h => by
    obtain ⟨w, ws, rfl, h1, h2⟩ := RL.cons_ h
    exact RL.cons h1 (RL.erase n h2)
theorem RL.dropLast : ∀ {vs : List V} {xs : List a}, RL H vs xs → RL H vs.dropLast xs.dropLast
  | _, [], h => by rw [RL.nil_ h]; exact RL.nil
  | _, x :: xs, h => by
    obtain ⟨w, ws, rfl, h1, h2⟩ := RL.cons_ h
    cases xs with
    | nil => rw [RL.nil_ h2]; exact RL.nil
    | cons y ys =>
      obtain ⟨w2, ws2, rfl, _, _⟩ := RL.cons_ h2
      exact RL.cons h1 (RL.dropLast h2)
theorem RL.rev : ∀ {vs : List V} {xs : List a}, RL H vs xs → RL H vs.reverse xs.reverse
  | _, [], h => by rw [RL.nil_ h]; exact RL.nil
  | _, x :: xs, h => by
    obtain ⟨w, ws, rfl, h1, h2⟩ := RL.cons_ h
    rw [List.reverse_cons, List.reverse_cons]
    exact RL.snoc (RL.rev h2) h1
theorem RL.ints : ∀ {vs : List V} {xs : List Int}, RL H vs xs → vs = xs.map V.int
  | _, [], h => RL.nil_ h
  | _, x :: xs, h => by
    obtain ⟨w, ws, rfl, h1, h2⟩ := RL.cons_ h
    rw [R.int_ h1, RL.ints h2]
    rfl
theorem RL.of_ints : ∀ {xs : List Int}, RL H (xs.map V.int) xs
  | [] => RL.nil
  | x :: xs => RL.cons R.int RL.of_ints
theorem RL.bls : ∀ {vs : List V} {xs : List Bool}, RL H vs xs → vs = xs.map V.bl
  | _, [], h => RL.nil_ h
  | _, x :: xs, h => by
    obtain ⟨w, ws, rfl, h1, h2⟩ := RL.cons_ h
    rw [R.bl_ h1, RL.bls h2]
    rfl
theorem RL.strs : ∀ {vs : List V} {xs : List Str}, RL H vs xs → vs = xs.map V.str
  | _, [], h => RL.nil_ h
  | _, x :: xs, h => by
    obtain ⟨w, ws, rfl, h1, h2⟩ := RL.cons_ h
    rw [R.str_ h1, RL.strs h2]
    rfl
theorem RL.of_strs : ∀ {xs : List Str}, RL H (xs.map V.str) xs
  | [] => RL.nil
  | x :: xs => RL.cons R.str RL.of_strs
theorem RL.cut {xs : List a} (h : RL H vs xs) (lo hi : Option Int) : RL H (cutV vs lo hi) ((xs.drop (HT.sIx xs.length 0 lo)).take (HT.sIx xs.length xs.length hi - HT.sIx xs.length 0 lo)) := by
  unfold cutV
  rw [h.len]
  exact (h.drop _).take _
end

/-! ### owned cells: F is what is read alone, cs are the cells that the code may change -/
/-- what is known of the heap behind a def, by the heap at its entry; the cells at as may have changed -/
structure Gr (as : List Addr) (F H F' H' : Hp) : Prop where
  f : Same F F'
  s : Same F' H'
  k : ∀ b o, b ∉ as → H b = some o → H' b = some o
  t : ∀ b, H b ≠ none → H' b ≠ none
  n : ∀ b, H b ≠ none → F' b = F b ∨ ∃ xs, H b = some (.tup xs)
  u : ∀ b xs, H' b = some (.tup xs) → H b = none ∨ H b = some (.tup xs)
/-- what may be a cell -/
def noTup : HO → Bool
  | .tup _ => false
  | _ => true
structure Kp (as : List Addr) (H H' : Hp) : Prop where
  k : ∀ b o, b ∉ as → H b = some o → H' b = some o
  t : ∀ b, H b ≠ none → H' b ≠ none
/-- the entry of a def -/
structure Ent where
  as : List Addr
  F : Hp
  H : Hp
structure Ow (Z : Ent) (F : Hp) (cs : List (Addr × HO)) (H : Hp) : Prop where
  g : Gr Z.as Z.F Z.H F H
  cf : ∀ c ∈ cs, F c.1 = none
  ch : ∀ c ∈ cs, H c.1 = some c.2
  nd : (cs.map (·.1)).Nodup
  ca : ∀ c ∈ cs, c.1 ∈ Z.as ∨ Z.H c.1 = none
  nt : ∀ c ∈ cs, noTup c.2 = true
/-- what a def asks of its cells -/
structure Pre (F : Hp) (cs : List (Addr × HO)) (H : Hp) : Prop where
  s : Same F H
  cf : ∀ c ∈ cs, F c.1 = none
  ch : ∀ c ∈ cs, H c.1 = some c.2
  nd : (cs.map (·.1)).Nodup
  nt : ∀ c ∈ cs, noTup c.2 = true
theorem Same.new {H : Hp} {p : Addr} {o : HO} (h : H p = none) : Same H (upd H p o) := fun b u e => by
  rw [upd_ne (ne_of_none e h)]
  exact e
theorem Same.upd2 {F H : Hp} {p : Addr} {o : HO} (s : Same F H) : Same (upd F p o) (upd H p o) := fun b u e => by
  by_cases hb : b = p
  · subst hb
    rw [upd_same] at e ⊢
    exact e
  · rw [upd_ne hb] at e ⊢
    exact s b u e
theorem Same.no {F H : Hp} {p : Addr} (s : Same F H) (h : H p = none) : F p = none := Same.free s h
section
variable {Z : Ent} {F F' H H' : Hp} {cs : List (Addr × HO)} {p a : Addr} {o o' : HO}
theorem Pre.start (P : Pre F cs H) : Ow ⟨cs.map (·.1), F, H⟩ F cs H where
  g := ⟨Same.refl _, P.s, fun _ _ _ e => e, fun _ e => e, fun _ _ => .inl rfl, fun _ _ e => .inr e⟩
  cf := P.cf
  ch := P.ch
  nd := P.nd
  ca := fun c hc => .inl (List.mem_map.mpr ⟨c, hc, rfl⟩)
  nt := P.nt
theorem Ow.s (O : Ow Z F cs H) : Same F H := O.g.s
theorem Ow.pre (O : Ow Z F cs H) : Pre F cs H := ⟨O.g.s, O.cf, O.ch, O.nd, O.nt⟩
theorem Ow.pre0 (O : Ow Z F cs H) : Pre F [] H := ⟨O.g.s, (fun _ h => nomatch h), (fun _ h => nomatch h), List.nodup_nil, fun _ h => nomatch h⟩
theorem Ow.pre1 (O : Ow Z F cs H) (i : Nat) (e : cs[i]? = some (a, o)) : Pre F [(a, o)] H := by
  have m := List.mem_of_getElem? e
  refine ⟨O.g.s, fun c hc => ?_, fun c hc => ?_, by simp, fun c hc => ?_⟩
  · rw [List.mem_singleton.mp hc]; exact O.cf _ m
  · rw [List.mem_singleton.mp hc]; exact O.ch _ m
  · rw [List.mem_singleton.mp hc]; exact O.nt _ m
theorem Ow.at (O : Ow Z F cs H) (i : Nat) (e : cs[i]? = some (a, o)) : H a = some o := O.ch _ (List.mem_of_getElem? e)
theorem Ow.no (O : Ow Z F cs H) (h : H p = none) : F p = none := Same.no O.s h
theorem Gr.new (g : Gr Z.as Z.F Z.H F H) (h : H p = none) : Gr Z.as Z.F Z.H F (upd H p o) where
  f := g.f
  s := g.s.trans (Same.new h)
  k := fun b u hb e => Same.new h b u (g.k b u hb e)
  t := fun b e z => by
    by_cases hb : b = p
    · subst hb; exact g.t _ e h
    · rw [upd_ne hb] at z; exact g.t b e z
  n := g.n
  u := fun b xs e => by
    by_cases hb : b = p
    · subst hb
      cases q : Z.H b with
      | none => exact .inl rfl
      | some u => exact absurd h (g.t b (by rw [q]; simp))
    · rw [upd_ne hb] at e; exact g.u b xs e
/-- a new cell -/
theorem Ow.new (O : Ow Z F cs H) (h : H p = none) (hn : noTup o = true := by rfl) : Ow Z F ((p, o) :: cs) (upd H p o) where
  g := O.g.new h
  cf := fun c hc => by
    rcases List.mem_cons.mp hc with rfl | hc
    · exact O.no h
    · exact O.cf c hc
  ch := fun c hc => by
    rcases List.mem_cons.mp hc with rfl | hc
    · exact upd_same
    · rw [upd_ne (ne_of_none (O.ch c hc) h)]; exact O.ch c hc
  nd := by
    rw [List.map_cons, List.nodup_cons]
    refine ⟨fun hm => ?_, O.nd⟩
    obtain ⟨c, hc, e⟩ := List.mem_map.mp hm
    have z := O.ch c hc
    rw [e] at z
    rw [z] at h
    cases h
  ca := fun c hc => by
    rcases List.mem_cons.mp hc with rfl | hc
    · refine .inr ?_
      cases q : Z.H p with
      | none => rfl
      | some u => exact absurd h (O.g.t p (by rw [q]; simp))
    · exact O.ca c hc
  nt := fun c hc => by
    rcases List.mem_cons.mp hc with rfl | hc
    · exact hn
    · exact O.nt c hc
/-- a new thing that is read alone -/
theorem Ow.put (O : Ow Z F cs H) (h : H p = none) : Ow Z (upd F p o) cs (upd H p o) where
  g := {
    f := O.g.f.trans (Same.new (O.no h))
    s := Same.upd2 O.g.s
    k := (O.g.new h).k
    t := (O.g.new h).t
    n := fun b e => by
      have hb : b ≠ p := fun z => by subst z; exact O.g.t _ e h
      rw [upd_ne hb]
      exact O.g.n b e
    u := (O.g.new h).u }
  cf := fun c hc => by rw [upd_ne (ne_of_none (O.ch c hc) h)]; exact O.cf c hc
  ch := fun c hc => by rw [upd_ne (ne_of_none (O.ch c hc) h)]; exact O.ch c hc
  nd := O.nd
  ca := O.ca
  nt := O.nt
theorem map_set_fst {i : Nat} (e : cs[i]? = some (a, o)) : (cs.set i (a, o')).map (·.1) = cs.map (·.1) := by
  rw [List.map_set]
  obtain ⟨h, e'⟩ := List.getElem?_eq_some_iff.mp e
  refine List.ext_getElem? fun j => ?_
  by_cases hj : i = j
  · subst hj
    rw [List.getElem?_set_self (by simpa using h), List.getElem?_map, e]
    rfl
  · rw [List.getElem?_set_ne hj]
theorem nd_other {i : Nat} (nd : (cs.map (·.1)).Nodup) (e : cs[i]? = some (a, o)) {c : Addr × HO} (hc : c ∈ cs.set i (a, o')) : c = (a, o') ∨ (c ∈ cs ∧ c.1 ≠ a) := by
  obtain ⟨j, hj⟩ := List.mem_iff_getElem?.mp hc
  by_cases hij : i = j
  · subst hij
    obtain ⟨h, _⟩ := List.getElem?_eq_some_iff.mp e
    rw [List.getElem?_set_self h] at hj
    exact .inl (Option.some.inj hj).symm
  · rw [List.getElem?_set_ne hij] at hj
    refine .inr ⟨List.mem_of_getElem? hj, fun z => hij ?_⟩
    have h1 : (cs.map (·.1))[i]? = some a := by rw [List.getElem?_map, e]; rfl
    have h2 : (cs.map (·.1))[j]? = some a := by rw [List.getElem?_map, hj, ← z]; rfl
    exact nd_ix nd h1 h2
/-- a cell is changed -/
theorem Ow.set (O : Ow Z F cs H) (i : Nat) (o' : HO) (e : cs[i]? = some (a, o)) (hn : noTup o' = true := by rfl) : Ow Z F (cs.set i (a, o')) (upd H a o') := by
  have m := List.mem_of_getElem? e
  have ha := O.ca _ m
  refine ⟨⟨O.g.f, fun b u q => ?_, fun b u hb q => ?_, fun b q z => ?_, O.g.n, fun b xs q => ?_⟩, fun c hc => ?_, fun c hc => ?_, ?_, fun c hc => ?_, fun c hc => ?_⟩
  · have hb : b ≠ a := fun z => by subst z; rw [O.cf _ m] at q; cases q
    rw [upd_ne hb]
    exact O.g.s b u q
  · have hba : b ≠ a := fun z => by
      subst z
      rcases ha with ha | ha
      · exact hb ha
      · have q' : Z.H b = some u := q
        have ha' : Z.H b = none := ha
        rw [ha'] at q'; cases q'
    rw [upd_ne hba]
    exact O.g.k b u hb q
  · by_cases hb : b = a
    · subst hb; rw [upd_same] at z; cases z
    · rw [upd_ne hb] at z; exact O.g.t b q z
  · by_cases hb : b = a
    · subst hb
      rw [upd_same] at q
      rw [Option.some.inj q] at hn
      cases hn
    · rw [upd_ne hb] at q; exact O.g.u b xs q
  · rcases nd_other O.nd e hc with rfl | ⟨h1, _⟩
    · exact O.cf (a, o) m
    · exact O.cf c h1
  · rcases nd_other O.nd e hc with rfl | ⟨h1, h2⟩
    · exact upd_same
    · rw [upd_ne h2]; exact O.ch c h1
  · rw [map_set_fst e]; exact O.nd
  · rcases nd_other O.nd e hc with rfl | ⟨h1, _⟩
    · exact ha
    · exact O.ca c h1
  · rcases nd_other O.nd e hc with rfl | ⟨h1, _⟩
    · exact hn
    · exact O.nt c h1
theorem mem_erase {i : Nat} {c : Addr × HO} (h : c ∈ cs.eraseIdx i) : c ∈ cs := List.mem_of_mem_eraseIdx h
theorem nd_erase {i : Nat} (h : (cs.map (·.1)).Nodup) : ((cs.eraseIdx i).map (·.1)).Nodup := by
  exact h.sublist ((List.eraseIdx_sublist cs i).map (fun x => x.1))
/-- a cell that nobody changes any more (it was not there at the entry) -/
theorem Ow.frz (O : Ow Z F cs H) (i : Nat) (e : cs[i]? = some (a, o)) (hz : Z.H a = none) : Ow Z (upd F a o) (cs.eraseIdx i) H := by
  have m := List.mem_of_getElem? e
  have h1 : ∀ c ∈ cs.eraseIdx i, c.1 ≠ a := fun c hc z => by
    have nd := O.nd
    obtain ⟨hi, e'⟩ := List.getElem?_eq_some_iff.mp e
    obtain ⟨j, hj⟩ := List.mem_iff_getElem?.mp hc
    rw [List.getElem?_eraseIdx] at hj
    have h1 : (cs.map (·.1))[i]? = some a := by rw [List.getElem?_map, e]; rfl
    by_cases hji : j < i
    · rw [if_pos hji] at hj
      have h2 : (cs.map (·.1))[j]? = some a := by rw [List.getElem?_map, hj, ← z]; rfl
      have := nd_ix nd h1 h2
      omega
    · rw [if_neg hji] at hj
      have h2 : (cs.map (·.1))[j + 1]? = some a := by rw [List.getElem?_map, hj, ← z]; rfl
      have := nd_ix nd h1 h2
      omega
  refine ⟨⟨O.g.f.trans (Same.new (O.cf _ m)), fun b u q => ?_, O.g.k, O.g.t, fun b q => ?_, O.g.u⟩, fun c hc => ?_, fun c hc => O.ch c (mem_erase hc), nd_erase O.nd, fun c hc => O.ca c (mem_erase hc), fun c hc => O.nt c (mem_erase hc)⟩
  · by_cases hb : b = a
    · subst hb; rw [upd_same] at q; rw [← q]; exact O.ch _ m
    · rw [upd_ne hb] at q; exact O.g.s b u q
  · have hb : b ≠ a := fun z => by subst z; exact q hz
    rw [upd_ne hb]
    exact O.g.n b q
  · rw [upd_ne (h1 c hc)]; exact O.cf c (mem_erase hc)
theorem Ow.drop (O : Ow Z F cs H) (i : Nat) : Ow Z F (cs.eraseIdx i) H := ⟨O.g, fun c hc => O.cf c (mem_erase hc), fun c hc => O.ch c (mem_erase hc), nd_erase O.nd, fun c hc => O.ca c (mem_erase hc), fun c hc => O.nt c (mem_erase hc)⟩
theorem Ow.frzS (O : Ow Z F cs H) (i : Nat) (e : cs[i]? = some (a, o)) : Same F (upd F a o) := Same.new (O.cf _ (List.mem_of_getElem? e))
theorem Ow.putS (O : Ow Z F cs H) (h : H p = none) : Same F (upd F p o) := Same.new (O.no h)
theorem Gr.then {as : List Addr} (g0 : Gr Z.as Z.F Z.H F H) (g : Gr as F H F' H') (ha : ∀ b ∈ as, b ∈ Z.as ∨ Z.H b = none) : Gr Z.as Z.F Z.H F' H' where
  f := g0.f.trans g.f
  s := g.s
  k := fun b u hb e => by
    refine g.k b u (fun z => ?_) (g0.k b u hb e)
    rcases ha b z with h | h
    · exact hb h
    · rw [h] at e; cases e
  t := fun b e => g.t b (g0.t b e)
  n := fun b e => by
    rcases g0.n b e with h0 | h0
    · rcases g.n b (g0.t b e) with h1 | ⟨xs, hx⟩
      · exact .inl (h1.trans h0)
      · rcases g0.u b xs hx with z | z
        · exact absurd z e
        · exact .inr ⟨xs, z⟩
    · exact .inr h0
  u := fun b xs e => by
    rcases g.u b xs e with z | z
    · refine .inl ?_
      cases q : Z.H b with
      | none => rfl
      | some u => exact absurd z (g0.t b (by rw [q]; simp))
    · exact g0.u b xs z
theorem Gr.none {as : List Addr} (g : Gr as F H F' H') {c : Addr × HO} (h : H c.1 = some c.2) (hn : noTup c.2 = true) (hf : F c.1 = Option.none) : F' c.1 = Option.none := by
  rcases g.n c.1 (by rw [h]; simp) with z | ⟨xs, z⟩
  · exact z.trans hf
  · rw [h] at z
    rw [Option.some.inj z] at hn
    cases hn
/-- behind a call that changes none of our cells -/
theorem Ow.call0 (O : Ow Z F cs H) (g : Gr [] F H F' H') : Ow Z F' cs H' where
  g := O.g.then g (fun _ h => nomatch h)
  cf := fun c hc => g.none (O.ch c hc) (O.nt c hc) (O.cf c hc)
  ch := fun c hc => g.k _ _ (fun h => nomatch h) (O.ch c hc)
  nd := O.nd
  ca := O.ca
  nt := O.nt
/-- .. one -/
theorem Ow.call1 (O : Ow Z F cs H) (g : Gr [a] F H F' H') (i : Nat) (e : cs[i]? = some (a, o)) (h' : H' a = some o') (hn : noTup o' = true := by rfl) : Ow Z F' (cs.set i (a, o')) H' := by
  have m := List.mem_of_getElem? e
  refine ⟨O.g.then g (fun b hb => by rw [List.mem_singleton.mp hb]; exact O.ca _ m), fun c hc => ?_, fun c hc => ?_, by rw [map_set_fst e]; exact O.nd, fun c hc => ?_, fun c hc => ?_⟩
  · rcases nd_other O.nd e hc with rfl | ⟨h1, _⟩
    · exact g.none (c := (a, o)) (O.ch (a, o) m) (O.nt (a, o) m) (O.cf (a, o) m)
    · exact g.none (O.ch c h1) (O.nt c h1) (O.cf c h1)
  · rcases nd_other O.nd e hc with rfl | ⟨h1, h2⟩
    · exact h'
    · exact g.k _ _ (fun z => h2 (List.mem_singleton.mp z)) (O.ch c h1)
  · rcases nd_other O.nd e hc with rfl | ⟨h1, _⟩
    · exact O.ca (a, o) m
    · exact O.ca c h1
  · rcases nd_other O.nd e hc with rfl | ⟨h1, _⟩
    · exact hn
    · exact O.nt c h1
/-- a cell that a call made -/
theorem Ow.add {H0 : Hp} {F0 : Hp} (O : Ow Z F cs H) (O0 : Ow Z F0 cs' H0) (hk : ∀ c ∈ cs, c.1 ∈ cs'.map (·.1)) (hn : H0 p = none) (hf : F p = none) (h : H p = some o) (ht : noTup o = true := by rfl) : Ow Z F ((p, o) :: cs) H where
  g := O.g
  cf := fun c hc => by
    rcases List.mem_cons.mp hc with rfl | hc
    · exact hf
    · exact O.cf c hc
  ch := fun c hc => by
    rcases List.mem_cons.mp hc with rfl | hc
    · exact h
    · exact O.ch c hc
  nd := by
    rw [List.map_cons, List.nodup_cons]
    refine ⟨fun hm => ?_, O.nd⟩
    obtain ⟨c, hc, e⟩ := List.mem_map.mp hm
    obtain ⟨c', hc', e'⟩ := List.mem_map.mp (hk c hc)
    have z := O0.ch c' hc'
    rw [e', e] at z
    rw [z] at hn
    cases hn
  ca := fun c hc => by
    rcases List.mem_cons.mp hc with rfl | hc
    · refine .inr ?_
      cases q : Z.H p with
      | none => rfl
      | some u => exact absurd hn (O0.g.t p (by rw [q]; simp))
    · exact O.ca c hc
  nt := fun c hc => by
    rcases List.mem_cons.mp hc with rfl | hc
    · exact ht
    · exact O.nt c hc
theorem Ow.kp (O : Ow Z F cs H) : Kp Z.as Z.H H := ⟨O.g.k, O.g.t⟩
theorem Kp.of {as : List Addr} {H0 H1 : Hp} (g : Gr as F H0 F' H1) : Kp as H0 H1 := ⟨g.k, g.t⟩
/-- an error of a call leaves this def -/
theorem Ow.kpCall {as : List Addr} {H1 : Hp} (O : Ow Z F cs H) (k : Kp as H H1) (ha : ∀ b ∈ as, ∃ o, (b, o) ∈ cs) : Kp Z.as Z.H H1 where
  k := fun b u hb e => by
    refine k.k b u (fun z => ?_) (O.g.k b u hb e)
    obtain ⟨o, hc⟩ := ha b z
    rcases O.ca _ hc with h | h
    · exact hb h
    · have h' : Z.H b = none := h
      rw [h'] at e; cases e
  t := fun b e => k.t b (O.g.t b e)
theorem Ow.kp0 {H1 : Hp} (O : Ow Z F cs H) (k : Kp [] H H1) : Kp Z.as Z.H H1 := O.kpCall k fun _ h => nomatch h
theorem Ow.kp1 {H1 : Hp} (O : Ow Z F cs H) (k : Kp [a] H H1) (i : Nat) (e : cs[i]? = some (a, o)) : Kp Z.as Z.H H1 := O.kpCall k fun b hb => by
  rw [List.mem_singleton.mp hb]
  exact ⟨o, List.mem_of_getElem? e⟩
end
end PG

set_option Elab.async false
set_option linter.all false
set_option maxRecDepth 100000
set_option maxHeartbeats 4000000
namespace PG
open PySem L2
open PySem.W (T3 T4 Datum DatumOrd Holds HoldAll EachIs)
variable {K0 : PySem.W.Frag} [KF K0]
/-! ### rules over typed data -/
section
variable {X : Cx} {pins : List (Addr × Obj)} {σ : St} {H : Hp} {s : Shared} {v : V} {u : Value} {vs : List V} {us : List Value}
theorem R.holds [KF X.K] {a : Type} [Py a] [DecidableEq a] [Datum a] [IsD a] {x : a} (I : Inv X pins σ H s) (h : R H v x) (r : RelV v u) : Holds s.heap u x := by
  obtain ⟨as, q⟩ := Dp.reads I _ _ _ (Rep.dp _ _ h) r
  rw [IsD.eq] at q
  exact ⟨as, q⟩
theorem RL.holds [KF X.K] {a : Type} [Py a] [DecidableEq a] [Datum a] [IsD a] {xs : List a} (I : Inv X pins σ H s) (h : RL H vs xs) (r : Vals vs us) : HoldAll s.heap us xs := by
  obtain ⟨as, q⟩ := Dp.readsAll I _ _ _ (RepA.dp _ _ h) r
  rw [map_toD] at q
  exact ⟨as, q⟩
end
section
variable {X : Cx} (a : Type) [Py a] [DecidableEq a] [Datum a] [IsD a]
def rEqT : R2 := fun x y H Q => ∃ p q : a, R H x p ∧ R H y q ∧ Q (.bl (decide (p = q))) H
def rNeT : R2 := fun x y H Q => ∃ p q : a, R H x p ∧ R H y q ∧ Q (.bl (decide (p ≠ q))) H
theorem op_eqT (hu : X.A.units + 64 < cLine) (hd : Datum.depth a ≤ 64 := by decide) (hK : X.K = K0 := by rfl) : OpR X (compareOp .Eq) (rEqT a) := by
  subst hK
  intro pins s σ H x y v u Q I rx ry h
  obtain ⟨p, q, hp, hq, k⟩ := h
  exact PySem.W.eq_datum (hp.holds I rx) (hq.holds I ry) (by omega) ⟨.bl _, H, I, rfl, k⟩
theorem op_neT (hu : X.A.units + 64 < cLine) (hd : Datum.depth a ≤ 64 := by decide) (hK : X.K = K0 := by rfl) : OpR X (compareOp .NotEq) (rNeT a) := by
  subst hK
  intro pins s σ H x y v u Q I rx ry h
  obtain ⟨p, q, hp, hq, k⟩ := h
  exact PySem.W.ne_datum (hp.holds I rx) (hq.holds I ry) (by omega) ⟨.bl _, H, I, rfl, k⟩
def rInT (neg : Bool) : R2 := fun x y H Q => ∃ (p : a) (l : Addr) (vs : List V) (ys : List a), R H x p ∧ y = .ref l ∧ (H l = some (.lst vs) ∨ TupAt H l vs) ∧ RL H vs ys ∧ Q (.bl (if neg then decide (p ∉ ys) else decide (p ∈ ys))) H
end
section
variable {X : Cx} (a : Type) [Py a] [DecidableEq a] [Datum a] [IsD a]
theorem op_inT (hu : X.A.units + 64 < cLine) (hd : Datum.depth a ≤ 60 := by decide) (hK : X.K = K0 := by rfl) : OpR X (compareOp .In) (rInT a false) := by
  subst hK
  intro pins s σ H x y v u Q I rx ry h
  obtain ⟨p, l, vs, ys, hp, rfl, hl, hy, k⟩ := h
  cases ry
  rcases hl with hl | hl
  · obtain ⟨its, rv, hL, _⟩ := I.list (SqL.of (K := X.K) hl)
    exact PySem.W.in_list_datum hL.isList (by simpa using hy.holds I rv) (hp.holds I rx) (by omega) ⟨.bl _, H, I, rfl, k⟩
  · obtain ⟨its, rv, hL, _⟩ := I.tuple hl.sq
    exact PySem.W.in_tuple_datum (show s.heap.IsTuple l its.toArray from hL) (by simpa using hy.holds I rv) (hp.holds I rx) (by omega) ⟨.bl _, H, I, rfl, k⟩
theorem op_ninT (hu : X.A.units + 64 < cLine) (hd : Datum.depth a ≤ 60 := by decide) (hK : X.K = K0 := by rfl) : OpR X (compareOp .NotIn) (rInT a true) := by
  subst hK
  intro pins s σ H x y v u Q I rx ry h
  obtain ⟨p, l, vs, ys, hp, rfl, hl, hy, k⟩ := h
  cases ry
  rcases hl with hl | hl
  · obtain ⟨its, rv, hL, _⟩ := I.list (SqL.of (K := X.K) hl)
    exact PySem.W.notIn_list_datum hL.isList (by simpa using hy.holds I rv) (hp.holds I rx) (by omega) ⟨.bl _, H, I, rfl, k⟩
  · obtain ⟨its, rv, hL, _⟩ := I.tuple hl.sq
    exact PySem.W.notIn_tuple_datum (show s.heap.IsTuple l its.toArray from hL) (by simpa using hy.holds I rv) (hp.holds I rx) (by omega) ⟨.bl _, H, I, rfl, k⟩
end

/-! ### sorted -/
/-- how data may be sorted: all are tuples with an item, or none is a tuple or None -/
class SortB (a : Type) [DecidableEq a] [Datum a] : Prop where
  ok : (∀ x : a, ∃ d r, Datum.toD x = .tuple (d :: r)) ∨ ∀ x : a, Datum.toD x ≠ .none ∧ ∀ ds, Datum.toD x ≠ .tuple ds
instance : SortB Int := ⟨.inr fun x => ⟨(fun e => nomatch (show PyData.int x = .none from e)), fun ds e => nomatch (show PyData.int x = .tuple ds from e)⟩⟩
instance : SortB Str := ⟨.inr fun x => ⟨(fun e => nomatch (show PyData.str x = .none from e)), fun ds e => nomatch (show PyData.str x = .tuple ds from e)⟩⟩
section
variable {a b c : Type} [DecidableEq a] [Datum a] [DecidableEq b] [Datum b] [DecidableEq c] [Datum c]
instance : SortB (List a) := ⟨.inr fun x => ⟨(fun e => nomatch (show PyData.list _ = .none from e)), fun ds e => nomatch (show PyData.list _ = .tuple ds from e)⟩⟩
instance : SortB (a × b) := ⟨.inl fun x => ⟨_, _, rfl⟩⟩
instance : SortB (T3 a b c) := ⟨.inl fun x => ⟨_, _, rfl⟩⟩
end
/-- Python's order -/
def leT {a : Type} [DecidableEq a] [DatumOrd a] (x y : a) : Bool := !DatumOrd.lt y x
def sortT {a : Type} [DecidableEq a] [DatumOrd a] (xs : List a) : List a := xs.mergeSort leT
theorem dataLe_T {a β : Type} [DecidableEq a] [DatumOrd a] (f : β → a) : PySem.W.dataLe false (fun b => Datum.toD (f b)) = fun x y => leT (f x) (f y) := by
  funext x y
  rw [PySem.W.dataLe_eq]
  show (!PySem.W.dataLt (Datum.toD (f y)) (Datum.toD (f x))) = _
  rw [DatumOrd.lt_eq]
  rfl
section
variable {a : Type} [Py a] [DecidableEq a] [DatumOrd a] [IsD a] {H : Hp}
theorem each_pairs : ∀ {vs : List V} {xs : List a} {us : List Value}, RL H vs xs → Vals vs us → EachIs (fun (u : Value) (p : V × a) => RelV p.1 u ∧ R H p.1 p.2) us (vs.zip xs)
  | _, [], _, h, r => by
    rw [RL.nil_ h] at r ⊢
    cases r
    exact .nil
  | _, x :: xs, _, h, r => by
    obtain ⟨w, ws, rfl, h1, h2⟩ := RL.cons_ h
    cases r with
    | cons r1 r2 => exact .cons ⟨r1, h1⟩ (each_pairs h2 r2)
theorem pairs_vals : ∀ {ps : List (V × a)} {us : List Value}, EachIs (fun (u : Value) (p : V × a) => RelV p.1 u ∧ R H p.1 p.2) us ps → Vals (ps.map (·.1)) us ∧ RL H (ps.map (·.1)) (ps.map (·.2))
  | _, _, .nil => ⟨.nil, RL.nil⟩
  | _, _, .cons ⟨r1, h1⟩ t => ⟨.cons r1 (pairs_vals t).1, RL.cons h1 (pairs_vals t).2⟩
theorem each_imp {β γ : Type} {A B : β → γ → Prop} (f : ∀ x y, A x y → B x y) : ∀ {xs : List β} {ys : List γ}, EachIs A xs ys → EachIs B xs ys
  | _, _, .nil => .nil
  | _, _, .cons h t => .cons (f _ _ h) (each_imp f t)
theorem zip_snd : ∀ {vs : List V} {xs : List a}, vs.length = xs.length → (vs.zip xs).map (·.2) = xs
  | [], [], _ => rfl
  | v :: vs, x :: xs, h => by
    rw [List.zip_cons_cons, List.map_cons, zip_snd (by simpa using h)]
  | [], _ :: _, h => by simp at h
  | _ :: _, [], h => by simp at h
theorem sort_zip {vs : List V} {xs : List a} (h : vs.length = xs.length) : ((vs.zip xs).mergeSort fun p q => leT p.2 q.2).map (·.2) = sortT xs := by
  unfold sortT
  rw [List.map_mergeSort (s := leT) (fun _ _ _ _ => rfl), zip_snd h]
end
section
variable {a : Type} [Py a] [DecidableEq a] [DatumOrd a] [IsD a] {H : Hp}
def sortV (ws : List V) (xs : List a) : List V := ((ws.zip xs).mergeSort fun p q => leT p.2 q.2).map (·.1)
theorem RL.pairs : ∀ {ws : List V} {xs : List a}, RL H ws xs → ∀ p ∈ ws.zip xs, R H p.1 p.2
  | _, [], _, p, hp => by simp at hp
  | _, x :: xs, h, p, hp => by
    obtain ⟨w, ws, rfl, h1, h2⟩ := RL.cons_ h
    rw [List.zip_cons_cons] at hp
    rcases List.mem_cons.mp hp with rfl | hp
    · exact h1
    · exact RL.pairs h2 p hp
theorem RL.of_pairs : ∀ {ps : List (V × a)}, (∀ p ∈ ps, R H p.1 p.2) → RL H (ps.map (·.1)) (ps.map (·.2))
  | [], _ => RL.nil
  | p :: ps, h => RL.cons (h p List.mem_cons_self) (RL.of_pairs fun q hq => h q (List.mem_cons_of_mem _ hq))
theorem RL.sorted {ws : List V} {xs : List a} (h : RL H ws xs) : RL H (sortV ws xs) (sortT xs) := by
  have q : RL H (sortV ws xs) (((ws.zip xs).mergeSort fun p q => leT p.2 q.2).map (·.2)) := RL.of_pairs fun p hp => h.pairs p (List.mem_mergeSort.mp hp)
  rw [sort_zip h.len] at q
  exact q
end
section
variable {X : Cx} (a : Type) [Py a] [DecidableEq a] [DatumOrd a] [IsD a]
/-- sorted(xs) of a list: a new list -/
def rSortedT : List V → Hp → VK → Prop := fun vs H Q => ∃ (l : Addr) (ws : List V) (xs : List a), vs = [.ref l] ∧ H l = some (.lst ws) ∧ RL H ws xs ∧ ∀ (p : Addr), H p = none → Q (.ref p) (upd H p (.lst (sortV ws xs)))
theorem cr_sortedT [SortB a] (hu : X.A.units + 128 < cLine) (hd : Datum.depth a ≤ 100 := by decide) (hK : X.K = K0 := by rfl) : CallR X (.builtin "sorted") (rSortedT a) := by
  subst hK
  intro pins s σ H vs us Q I r h
  obtain ⟨l, ws, xs, rfl, hl, hx, k⟩ := h
  obtain ⟨its, rv, hL, hz⟩ := I.list (SqL.of (K := X.K) hl)
  rw [Vals.ref1 r]
  have hlen : ws.length = xs.length := hx.len
  have hE := each_pairs hx rv
  refine PySem.W.sorted_data (bs := ws.zip xs) (enc := fun p => Datum.toD p.2) hL.isList hE (each_imp (fun u p hp => hp.2.holds I hp.1) hE) (PySem.W.AllAlike.of fun p q => DatumOrd.alike p.2 q.2) ?_ (by rw [List.length_zip, ← hlen, Nat.min_self]; exact hz) (fun p _ => ?_) fun out ho he => ?_
  · rcases SortB.ok (a := a) with q | q
    · exact PySem.W.Sortable.tuples fun p => q p.2
    · exact PySem.W.Sortable.others fun p => q p.2
  · have := Datum.depth_le p.2
    omega
  · rw [dataLe_T (fun p : V × a => p.2)] at he
    obtain ⟨q1, q2⟩ := pairs_vals he
    obtain ⟨ep, he'⟩ := PyProof.Rows.sortedAll_at s.heap its out.toArray
    refine ⟨.ref _, upd H (s.heap.objs.size + 1) (.lst _), I.laid (t' := s.toks) (fun _ _ => PyProof.Rows.sortedAll_old) (Nat.le_succ _) ⟨?_, out, ep, q1, he'⟩, rfl, k _ (I.hok.fresh (Nat.le_succ _))⟩
    rw [List.length_map, List.length_mergeSort, List.length_zip, ← hlen, Nat.min_self]
    exact hz
end
end PG

set_option Elab.async false
set_option linter.all false
set_option maxRecDepth 100000
set_option maxHeartbeats 4000000
namespace PG
open PySem PySem.Spec PyProof.Rows L2
open PySem.W (T3 T4 Datum DatumOrd Holds HoldAll EachIs)
variable {K0 : PySem.W.Frag} [KF K0]

instance (i j : Int) : Decidable (CMulW i j) := inferInstanceAs (Decidable (_ < _))
instance (i j : Int) : Decidable (CDivW i j) := inferInstanceAs (Decidable (_ ∧ _))
instance (i j : Int) : Decidable (CPow i j) := inferInstanceAs (Decidable (_ ∧ _ ∧ _))
theorem szl : sizeLine = 16777216 := sizeLine_eq
theorem lt_line {n : Nat} (h : n < 16777216) : n < sizeLine := by rw [szl]; exact h
theorem le_line {n : Nat} (h : n < 16777216) : n ≤ sizeLine := Nat.le_of_lt (lt_line h)
theorem len_line {vs : List V} (h : vs.length < 16777216 := by (show _ < 16777216); simp) : vs.length ≤ sizeLine := le_line h
theorem SqLF {K : PySem.W.Frag} {F H : Hp} {p : Addr} {vs : List V} (s : Same F H) (h : F p = some (.lst vs)) : SqL K H p vs := SqL.of (s _ _ h)
theorem SqTF {K : PySem.W.Frag} {F H : Hp} {p : Addr} {vs : List V} (s : Same F H) (h : F p = some (.tup vs)) : SqT K H p vs := SqT.of (s _ _ h)
theorem SqTK {F H : Hp} {p : Addr} {vs : List V} (s : Same F H) (h : TupAt F p vs) : SqT K0 H p vs := (h.mono s).sq

/-! ### mirrors of what may go wrong -/
def setI {a : Type} (xs : List a) (i : Int) (y : a) : M (List a) := match ixN xs.length i with
  | some j => .ok (xs.set j y)
  | none => bad
def popI {a : Type} (xs : List a) (i : Int) : M (a × List a) := if xs.length < 16777216 then (match ixN xs.length i with
    | some j => (match xs[j]? with
      | some y => .ok (y, xs.eraseIdx j)
      | none => bad)
    | none => bad) else bad
def popL {a : Type} (xs : List a) : M (a × List a) := match xs[xs.length - 1]? with
  | some y => .ok (y, xs.dropLast)
  | none => bad
def appL {a : Type} (xs : List a) (y : a) : M (List a) := if xs.length < 16777216 then .ok (xs ++ [y]) else bad
def rangeL (lo hi : Int) : List Int := (List.range (hi - lo).toNat).map fun (i : Nat) => lo + (i : Int)
def okR (i : Int) : Prop := -1000000 ≤ i ∧ i ≤ 1000000
instance (i : Int) : Decidable (okR i) := inferInstanceAs (Decidable (_ ∧ _))
theorem okR.lo {i : Int} (h : okR i) : -(2 ^ 62) ≤ i := by obtain ⟨a, b⟩ := h; omega
theorem okR.hi {i : Int} (h : okR i) : i < 2 ^ 62 := by obtain ⟨a, b⟩ := h; omega
theorem rangeL_get {lo hi : Int} {i : Nat} (h : i < (hi - lo).toNat) : (rangeL lo hi).drop i = (lo + (i : Int)) :: (rangeL lo hi).drop (i + 1) := by
  unfold rangeL
  rw [List.drop_eq_getElem_cons (by simpa using h)]
  simp
theorem rangeL_end {lo hi : Int} : (rangeL lo hi).drop (hi - lo).toNat = [] := by
  rw [List.drop_eq_nil_iff]
  unfold rangeL
  simp
section
variable {a b : Type} {Q : a → Prop} {E : String → Prop} {H : Hp}
theorem wp_setI {xs : List b} {i : Int} {y : b} {k : List b → M a} (h : wp (setI xs i y >>= k) Q E) : ∃ j, ixN xs.length i = some j ∧ wp (k (xs.set j y)) Q E := by
  unfold setI at h
  cases e : ixN xs.length i with
  | none => rw [e] at h; exact h.elim
  | some j => rw [e] at h; exact ⟨j, rfl, h⟩
theorem wp_popI {xs : List b} {i : Int} {k : b × List b → M a} (h : wp (popI xs i >>= k) Q E) : ∃ j y, seqIndex? i xs.length = some j ∧ -(2 ^ 63) ≤ i ∧ i < 2 ^ 63 ∧ xs[j]? = some y ∧ wp (k (y, xs.eraseIdx j)) Q E := by
  unfold popI at h
  by_cases hl : xs.length < 16777216
  · rw [if_pos hl] at h
    cases e : ixN xs.length i with
    | none => rw [e] at h; exact h.elim
    | some j =>
      rw [e] at h
      have h : wp ((match xs[j]? with
        | some y => .ok (y, xs.eraseIdx j)
        | none => bad) >>= k) Q E := h
      cases e2 : xs[j]? with
      | none => rw [e2] at h; exact h.elim
      | some y =>
        rw [e2] at h
        obtain ⟨q1, q2, q3, q4⟩ := ixN_seq e
        exact ⟨j, y, q1, by omega, by omega, e2, h⟩
  · rw [if_neg hl] at h
    exact h.elim
theorem wp_popL {xs : List b} {k : b × List b → M a} (h : wp (popL xs >>= k) Q E) : ∃ y, xs[xs.length - 1]? = some y ∧ wp (k (y, xs.dropLast)) Q E := by
  unfold popL at h
  cases e : xs[xs.length - 1]? with
  | none => rw [e] at h; exact h.elim
  | some y => rw [e] at h; exact ⟨y, rfl, h⟩
theorem wp_appL {xs : List b} {y : b} {k : List b → M a} (h : wp (appL xs y >>= k) Q E) : xs.length < sizeLine ∧ wp (k (xs ++ [y])) Q E := by
  unfold appL at h
  by_cases hl : xs.length < 16777216
  · rw [if_pos hl] at h
    exact ⟨lt_line hl, h⟩
  · rw [if_neg hl] at h
    exact h.elim
end
/-! loops, by what is left to be done -/
section
variable {i s r a c : Type} {Q : a → Prop} {E : String → Prop}
theorem loopN_L {b : i → s → M s} {xs : List i} {x : s} {k : s → M a} (h : wp (loopN b xs x >>= k) Q E) :
    ∃ L : List i → s → Prop, L xs x ∧ (∀ y ys x, L (y :: ys) x → wp (b y x) (fun x' => L ys x') E) ∧ ∀ x, L [] x → wp (k x) Q E := by
  refine ⟨fun ys x => wp (loopN b ys x >>= k) Q E, h, fun y ys x hx => ?_, fun x hx => hx⟩
  have hx : wp (loopN b (y :: ys) x >>= k) Q E := hx
  rw [wp_bind] at hx
  have hx : wp (b y x >>= fun x' => loopN b ys x') (fun x => wp (k x) Q E) E := hx
  rw [wp_bind] at hx
  cases e : b y x with
  | ok z =>
    rw [e] at hx
    exact wp_bind.mpr hx
  | error e2 =>
    rw [e] at hx
    cases e2 <;> exact hx
theorem loopM_L {b : i → s → M (Fl s r)} {xs : List i} {x : s} {k : Fl s r → M a} (h : wp (loopM b xs x >>= k) Q E) :
    ∃ L : List i → s → Prop, L xs x ∧ (∀ y ys x, L (y :: ys) x → wp (b y x) (fun f => match f with
      | .nx x' => L ys x'
      | .rt z => wp (k (.rt z)) Q E) E) ∧ ∀ x, L [] x → wp (k (.nx x)) Q E := by
  refine ⟨fun ys x => wp (loopM b ys x >>= k) Q E, h, fun y ys x hx => ?_, fun x hx => hx⟩
  have hx : wp (loopM b (y :: ys) x >>= k) Q E := hx
  rw [wp_bind] at hx
  cases e : b y x with
  | ok z =>
    have hx : wp (b y x >>= fun f => match f with
      | .nx x' => loopM b ys x'
      | .rt z => .ok (.rt z)) (fun x => wp (k x) Q E) E := hx
    rw [e] at hx
    cases z with
    | nx z => exact wp_bind.mpr hx
    | rt z => exact hx
  | error e2 =>
    have hx : wp (b y x >>= fun f => match f with
      | .nx x' => loopM b ys x'
      | .rt z => .ok (.rt z)) (fun x => wp (k x) Q E) E := hx
    rw [e] at hx
    cases e2 <;> exact hx
theorem whileN_L {c : s → M Bool} {b : s → M s} {n : Nat} {x : s} {k : s → M a} (h : wp (whileN c b n x >>= k) Q E) :
    ∃ L : Nat → s → Prop, L n x ∧ ∀ m x, L m x → wp (c x) (fun t => if t = true then ∃ m', m' < m ∧ wp (b x) (fun x' => L m' x') E else wp (k x) Q E) E := by
  refine ⟨fun n x => wp (whileN c b n x >>= k) Q E, h, fun m x hx => ?_⟩
  cases m with
  | zero => exact hx.elim
  | succ m =>
    have hx : wp ((c x >>= fun t => if t = true then b x >>= fun x' => whileN c b m x' else .ok x) >>= k) Q E := hx
    rw [wp_bind, wp_bind] at hx
    cases e : c x with
    | error e2 => rw [e] at hx; cases e2 <;> exact hx
    | ok t =>
      rw [e] at hx
      cases t with
      | false => exact hx
      | true =>
        refine ⟨m, Nat.lt_succ_self m, ?_⟩
        have hx : wp (b x >>= fun x' => whileN c b m x') (fun x => wp (k x) Q E) E := hx
        rw [wp_bind] at hx
        cases e : b x with
        | error e2 => rw [e] at hx; cases e2 <;> exact hx
        | ok z =>
          rw [e] at hx
          exact wp_bind.mpr hx
theorem whileM_L {c : s → M Bool} {b : s → M (Fl s r)} {n : Nat} {x : s} {k : Fl s r → M a} (h : wp (whileM c b n x >>= k) Q E) :
    ∃ L : Nat → s → Prop, L n x ∧ ∀ m x, L m x → wp (c x) (fun t => if t = true then ∃ m', m' < m ∧ wp (b x) (fun f => match f with
      | .nx x' => L m' x'
      | .rt z => wp (k (.rt z)) Q E) E else wp (k (.nx x)) Q E) E := by
  refine ⟨fun n x => wp (whileM c b n x >>= k) Q E, h, fun m x hx => ?_⟩
  cases m with
  | zero => exact hx.elim
  | succ m =>
    have hx : wp ((c x >>= fun t => if t = true then b x >>= fun
      | .nx x' => whileM c b m x'
      | .rt z => .ok (.rt z)
    else .ok (.nx x)) >>= k) Q E := hx
    rw [wp_bind, wp_bind] at hx
    cases e : c x with
    | error e2 => rw [e] at hx; cases e2 <;> exact hx
    | ok t =>
      rw [e] at hx
      cases t with
      | false => exact hx
      | true =>
        refine ⟨m, Nat.lt_succ_self m, ?_⟩
        have hx : wp (b x >>= fun
          | .nx x' => whileM c b m x'
          | .rt z => .ok (.rt z)) (fun x => wp (k x) Q E) E := hx
        rw [wp_bind] at hx
        cases e : b x with
        | error e2 => rw [e] at hx; cases e2 <;> exact hx
        | ok z =>
          rw [e] at hx
          cases z with
          | nx z => exact wp_bind.mpr hx
          | rt z => exact hx
/-- a comprehension: what it has made so far, then the items left; no exception leaves it -/
def compX (b : i → s → M (Option c × s)) : List i → List c → s → M (List c × s)
  | [], acc, x => .ok (acc, x)
  | y :: ys, acc, x => nox (b y x) >>= fun p => compX b ys (match p.1 with
    | some z => acc ++ [z]
    | none => acc) p.2
/-- the list is short enough -/
def compS (b : i → s → M (Option c × s)) (xs : List i) (x : s) : M (List c × s) := chk (xs.length < 16777216) >>= fun _ => compX b xs [] x
theorem compX_L {b : i → s → M (Option c × s)} {k : List c × s → M a} : ∀ {xs : List i} {acc : List c} {x : s}, wp (compX b xs acc x >>= k) Q E →
    ∃ L : List i → List c → s → Prop, L xs acc x ∧ (∀ y ys acc x, L (y :: ys) acc x → wp (b y x) (fun p => L ys (match p.1 with
      | some z => acc ++ [z]
      | none => acc) p.2) (fun _ => False)) ∧ ∀ acc x, L [] acc x → wp (k (acc, x)) Q E := by
  intro xs acc x h
  refine ⟨fun ys acc x => wp (compX b ys acc x >>= k) Q E, h, fun y ys acc x hx => ?_, fun acc x hx => hx⟩
  have hx : wp ((nox (b y x) >>= fun p => compX b ys (match p.1 with
    | some z => acc ++ [z]
    | none => acc) p.2) >>= k) Q E := hx
  rw [wp_bind] at hx
  obtain ⟨p, e, hx⟩ := wp_nox hx
  rw [e]
  exact wp_bind.mpr hx
theorem compS_L {b : i → s → M (Option c × s)} {k : List c × s → M a} {xs : List i} {x : s} (h : wp (compS b xs x >>= k) Q E) : xs.length < 16777216 ∧
    ∃ L : List i → List c → s → Prop, L xs [] x ∧ (∀ y ys acc x, L (y :: ys) acc x → wp (b y x) (fun p => L ys (match p.1 with
      | some z => acc ++ [z]
      | none => acc) p.2) (fun _ => False)) ∧ ∀ acc x, L [] acc x → wp (k (acc, x)) Q E := by
  unfold compS at h
  rw [wp_bind] at h
  obtain ⟨h1, h2⟩ := wp_chk h
  exact ⟨h1, compX_L (wp_bind.mpr h2)⟩
end
theorem drop_at {a : Type} {xs : List a} {i : Nat} {x : a} (h : xs[i]? = some x) : xs.drop i = x :: xs.drop (i + 1) := by
  obtain ⟨h1, h2⟩ := List.getElem?_eq_some_iff.mp h
  rw [List.drop_eq_getElem_cons h1, h2]
theorem drop_end {a : Type} {xs : List a} {vs : List V} (h : vs.length = xs.length) : xs.drop vs.length = [] := by
  rw [h, List.drop_length]

/-! ### a def as it stands -/
structure Df (K : PySem.W.Frag) (mg : Str → Option Value) (x qual : Str) (st : Stmt) (ps : List Str) : Prop where
  ex : ∃ f fd, Fun K x qual st f fd ∧ mg x = some (.ref f) ∧ Binds K fd ps []
structure Ca (P : Program) (w : World) (K : PySem.W.Frag) (mg : Str → Option Value) (base : Heap) (x : Str) (k : Nat) (ps : List Str) (sp : Sp) : Prop where
  ex : ∃ f fd, FnOk P w K mg base (L2.CX P w) k f fd ps sp ∧ mg x = some (.ref f) ∧ PySem.W.keepIn K (.ref f) = true ∧ Binds K fd ps []
/-- an exception class of the program -/
structure Xc (K : PySem.W.Frag) (mg : Str → Option Value) (x : Str) (C : Addr) : Prop where
  g : mg x = some (.ref C)
  x : PySem.W.excIn K C [.type "ValueError", .type "Exception", .type "BaseException", .type "object"] "ValueError.__new__" = true
  k : PySem.W.keepIn K (.ref C) = true
  b : PySem.W.subIn K (.ref C) (.type "BaseException") = some true
  t : PySem.W.typeIn K (.ref C) = some (.type "type")
section
variable {P : Program} {w : World} {K : PySem.W.Frag} {mg : Str → Option Value} {base : Heap}
theorem Ca.mk' {x qual : Str} {st : Stmt} {N ps : List Str} {k : Nat} {sp : Sp} (D : Df K mg x qual st ps) (S : FnScope N ps (defScope st)) (len : ∀ vs H Q E, sp vs H Q E → vs.length = ps.length)
    (hbody : ∀ (qual' : Str) (f : Addr) (cdv : Value) (A : Around) (outer : List Env) (s : Shared) (H : Hp) (vs : List V) (Q : VK) (E : XK), Room k (A.deeper (envOfC qual (defScope st) s.heap.objs.size f cdv)) → sp vs H Q E →
      ∃ t, PSs (cxOf (L2.CX P w) P w K mg base N qual (defScope st) f cdv A outer s H E) (defBody st) t ∧ t { nx := fun _ H' => Q .non H', rt := Q } (start N vs) H) : Ca P w K mg base x (k + 1) ps sp := by
  obtain ⟨f, fd, F, m, b⟩ := D.ex
  exact ⟨f, fd, F.okX S len fun cdv A outer s H vs Q E hr h => hbody qual f cdv A outer s H vs Q E hr h, m, F.kp, b⟩
end
section
variable {X : Cx}
/-- len of a list or tuple -/
def rLenT : List V → Hp → VK → Prop := fun vs H Q => ∃ (l : Addr) (ws : List V) (n : Nat), vs = [.ref l] ∧ (H l = some (.lst ws) ∨ H l = some (.tup ws)) ∧ ws.length = n ∧ Q (.int n) H
theorem call_lenT : CallR X (.builtin "len") rLenT := by
  intro pins s σ H vs us Q I r h
  obtain ⟨l, ws, n, e, hl, rfl, k⟩ := h
  refine call_len_seq pins s σ H vs us Q I r ⟨l, ws, e, ?_, k⟩
  rcases hl with hl | hl
  · exact .inl (SqL.of hl)
  · exact .inr (SqT.of hl)
end

section
variable {Z : Ent} {F F' H H' : Hp} {cs : List (Addr × HO)} {p a : Addr} {o o' : HO}
theorem Ow.putE (O : Ow Z F cs H) (h : H p = none) (o : HO) : ∃ F', Ow Z F' cs (upd H p o) ∧ Same F F' ∧ F' p = some o := ⟨_, O.put h, O.putS h, upd_same⟩
theorem Ow.was (O : Ow Z F cs H) (h : H p = none) : Z.H p = none := by
  cases q : Z.H p with
  | none => rfl
  | some u => exact absurd h (O.g.t p (by rw [q]; simp))
theorem Ow.frzE (O : Ow Z F cs H) (i : Nat) (e : cs[i]? = some (a, o)) (hz : Z.H a = none) : ∃ F', Ow Z F' (cs.eraseIdx i) H ∧ Same F F' ∧ F' a = some o := ⟨_, O.frz i e hz, O.frzS i e, upd_same⟩
/-- a cell that a call made -/
theorem Ow.got (O : Ow Z F cs H) (O' : Ow Z F' cs' H') (hk : cs'.map (·.1) = cs.map (·.1)) (hn : H p = none) (hf : F' p = none) (h : H' p = some o) (ht : noTup o = true := by rfl) : Ow Z F' ((p, o) :: cs') H' :=
  O'.add O (fun c hc => by rw [← hk]; exact List.mem_map.mpr ⟨c, hc, rfl⟩) hn hf h ht
end
theorem rangeL_get0 {n : Int} {i : Nat} (h : i < n.toNat) : (rangeL 0 n).drop i = (0 + (i : Int)) :: (rangeL 0 n).drop (i + 1) := rangeL_get (by simpa using h)
theorem rangeL_end0 {n : Int} : (rangeL 0 n).drop n.toNat = [] := by
  have := rangeL_end (lo := 0) (hi := n)
  simpa using this
theorem iteD {c A B : Prop} [Decidable c] (h1 : c → A) (h2 : ¬ c → B) : if decide c = true then A else B := by
  by_cases h : c
  · rw [decide_eq_true h, if_pos rfl]; exact h1 h
  · rw [decide_eq_false h, if_neg Bool.false_ne_true]; exact h2 h
theorem iteN {c A B : Prop} [Decidable c] (h1 : c → B) (h2 : ¬ c → A) : if (!decide c) = true then A else B := by
  by_cases h : c
  · rw [decide_eq_true h]; exact h1 h
  · rw [decide_eq_false h]; exact h2 h
theorem iteB {b : Bool} {A B : Prop} (h1 : b = true → A) (h2 : ¬ b = true → B) : if b = true then A else B := by
  cases b with
  | true => exact h1 rfl
  | false => exact h2 Bool.false_ne_true
theorem iteBN {b : Bool} {A B : Prop} (h1 : b = true → B) (h2 : ¬ b = true → A) : if (!b) = true then A else B := by
  cases b with
  | true => exact h1 rfl
  | false => exact h2 Bool.false_ne_true
theorem iteNT {A B : Prop} (h : B) : if (!true) = true then A else B := h
theorem iteNF {A B : Prop} (h : A) : if (!false) = true then A else B := h
theorem wp_if {a : Type} {Q : a → Prop} {E : String → Prop} {c : Prop} [Decidable c] {x y : M a} (h : wp (if c then x else y) Q E) (hc : c) : wp x Q E := by
  rw [if_pos hc] at h
  exact h
theorem wp_el {a : Type} {Q : a → Prop} {E : String → Prop} {c : Prop} [Decidable c] {x y : M a} (h : wp (if c then x else y) Q E) (hc : ¬ c) : wp y Q E := by
  rw [if_neg hc] at h
  exact h

theorem hu128_of {A : Around} {k : Nat} (hr : Room k A) : A.units + 128 < cLine := by have := hr.un; omega
def cutL {a : Type} (xs : List a) (lo hi : Option Int) : List a := (xs.drop (HT.sIx xs.length 0 lo)).take (HT.sIx xs.length xs.length hi - HT.sIx xs.length 0 lo)
theorem RL.cutL {a : Type} [Py a] {H : Hp} {vs : List V} {xs : List a} (h : RL H vs xs) (lo hi : Option Int) : RL H (cutV vs lo hi) (PG.cutL xs lo hi) := h.cut lo hi
theorem RL.last {a : Type} [Py a] {H : Hp} {vs : List V} {xs : List a} {y : a} (h : RL H vs xs) (e : xs[xs.length - 1]? = some y) : ∃ w, vs[vs.length - 1]? = some w ∧ R H w y := by
  obtain ⟨w, e1, h1⟩ := h.get e
  exact ⟨w, by rw [h.len]; exact e1, h1⟩

theorem okR.rg1 {n : Int} (h : okR n) : RgOk 0 n := by
  obtain ⟨a, b⟩ := h
  exact ⟨by omega, by omega, by omega, by omega, by omega⟩
theorem rgV_eq (a b : Int) : rgV a b = (rangeL a b).map V.int := by
  unfold rgV rangeL
  rw [List.map_map]
  rfl
theorem RL.rg {H : Hp} {a b : Int} : RL H (rgV a b) (rangeL a b) := by
  rw [rgV_eq]
  exact RL.of_ints

theorem comp_len {b : Type} {w vs : List V} {xs : List b} {i : Nat} {x : V} (la : w.length ≤ i) (hi : vs[i]? = some x) (hl : vs.length = xs.length) (c : xs.length < 16777216) : w.length < sizeLine := by
  have := (List.getElem?_eq_some_iff.mp hi).1
  exact lt_line (by omega)
theorem rangeL_length (lo hi : Int) : (rangeL lo hi).length = (hi - lo).toNat := by
  unfold rangeL
  simp
theorem comp_lenR {w : List V} {lo hi : Int} {i n : Nat} (la : w.length ≤ i) (h : i < n) (e : (hi - lo).toNat = n) (c : (rangeL lo hi).length < 16777216) : w.length < sizeLine := by
  rw [rangeL_length] at c
  exact lt_line (by omega)
theorem tYes_ {σ : L2.St} {H : Hp} {Q : Bool → Hp → Prop} (h : Q true H) : tYes σ H Q := h

/-! lists of own lists of ints -/
abbrev LC := Addr × List Int
def lcell (c : LC) : Addr × HO := (c.1, .lst (c.2.map V.int))
theorem Ow.perm {Z : Ent} {F H : Hp} {cs cs' : List (Addr × HO)} (O : Ow Z F cs H) (h : cs.Perm cs') : Ow Z F cs' H where
  g := O.g
  cf := fun c hc => O.cf c (h.mem_iff.mpr hc)
  ch := fun c hc => O.ch c (h.mem_iff.mpr hc)
  nd := (h.map _).nodup_iff.mp O.nd
  ca := fun c hc => O.ca c (h.mem_iff.mpr hc)
  nt := fun c hc => O.nt c (h.mem_iff.mpr hc)
theorem Ow.sub {Z : Ent} {F H : Hp} {cs cs' : List (Addr × HO)} (O : Ow Z F cs H) (h : cs'.Sublist cs) : Ow Z F cs' H where
  g := O.g
  cf := fun c hc => O.cf c (h.subset hc)
  ch := fun c hc => O.ch c (h.subset hc)
  nd := O.nd.sublist (h.map _)
  ca := fun c hc => O.ca c (h.subset hc)
  nt := fun c hc => O.nt c (h.subset hc)
/-- a new list of new lists -/
structure OwnLL (H F' H' : Hp) (p : Addr) (ps : List LC) : Prop where
  pn : H p = none
  pf : F' p = none
  ph : H' p = some (.lst (ps.map fun c => V.ref c.1))
  qn : ∀ c ∈ ps, H c.1 = none
  qf : ∀ c ∈ ps, F' c.1 = none
  qh : ∀ c ∈ ps, H' c.1 = some (.lst (c.2.map V.int))
  nd : (p :: ps.map (·.1)).Nodup
theorem OwnLL.frz {F H F' H' : Hp} {p : Addr} {ps : List LC} {as : List Addr} (G : Gr as F H F' H') (L : OwnLL H F' H' p ps) :
    ∃ F2, Gr as F H F2 H' ∧ F2 p = none ∧ RL F2 (ps.map fun c => V.ref c.1) (ps.map (·.2)) := by
  refine ⟨fun b => if b ∈ ps.map (·.1) then H' b else F' b, ⟨fun b o e => ?_, fun b o e => ?_, G.k, G.t, fun b e => ?_, G.u⟩, ?_, ?_⟩
  · have h1 := G.f b o e
    by_cases hb : b ∈ ps.map (·.1)
    · obtain ⟨c, hc, rfl⟩ := List.mem_map.mp hb
      rw [L.qf c hc] at h1
      cases h1
    · show (if b ∈ ps.map (·.1) then H' b else F' b) = some o
      rw [if_neg hb]
      exact h1
  · have e : (if b ∈ ps.map (·.1) then H' b else F' b) = some o := e
    by_cases hb : b ∈ ps.map (·.1)
    · rw [if_pos hb] at e
      exact e
    · rw [if_neg hb] at e
      exact G.s b o e
  · show (if b ∈ ps.map (·.1) then H' b else F' b) = F b ∨ _
    have hb : b ∉ ps.map (·.1) := fun hb => by
      obtain ⟨c, hc, rfl⟩ := List.mem_map.mp hb
      exact e (L.qn c hc)
    rw [if_neg hb]
    exact G.n b e
  · show (if p ∈ ps.map (·.1) then H' p else F' p) = none
    rw [if_neg (List.nodup_cons.mp L.nd).1]
    exact L.pf
  · have all : ∀ l : List LC, (∀ c ∈ l, c ∈ ps) → RL (fun b => if b ∈ ps.map (·.1) then H' b else F' b) (l.map fun c => V.ref c.1) (l.map (·.2)) := by
      intro l
      induction l with
      | nil => intro _; exact RL.nil
      | cons c l ih =>
        intro h
        have hc := h c List.mem_cons_self
        refine RL.cons (R.lst (vs := c.2.map V.int) ?_ RL.of_ints) (ih fun d hd => h d (List.mem_cons_of_mem _ hd))
        show (if c.1 ∈ ps.map (·.1) then H' c.1 else F' c.1) = _
        rw [if_pos (List.mem_map.mpr ⟨c, hc, rfl⟩)]
        exact L.qh c hc
    exact all ps fun _ h => h
theorem FnOk.impC {P : Program} {w : World} {K : PySem.W.Frag} {mg : Str → Option Value} {base : Heap} {x : Str} {k : Nat} {ps : List Str} {sp sp' : Sp} (F : Ca P w K mg base x k ps sp) (h : ∀ vs H Q E, sp' vs H Q E → sp vs H Q E) : Ca P w K mg base x k ps sp' := by
  obtain ⟨f, fd, G, m, kp, b⟩ := F.ex
  exact ⟨f, fd, G.imp h, m, kp, b⟩
theorem wp_mono {a : Type} {Q Q' : a → Prop} {E : String → Prop} {m : M a} (h : wp m Q E) (f : ∀ r, Q r → Q' r) : wp m Q' E := wp_tail h (fun r _ q => f r q) fun _ e => e
/-- a scalar call that reads a cell: the cell is as it was, and nothing of the call is kept -/
theorem Ow.borrow {Z : Ent} {F F1 F' H H' : Hp} {cs : List (Addr × HO)} (O : Ow Z F cs H) (s1 : Same F F1) (g : Gr [] F1 H F' H') : Ow Z F cs H' where
  g := ⟨O.g.f, (s1.trans g.f).trans g.s, fun b o hb e => g.k b o (fun h => nomatch h) (O.g.k b o hb e), fun b e => g.t b (O.g.t b e), O.g.n, fun b xs e => by
    rcases g.u b xs e with z | z
    · refine .inl ?_
      cases q : Z.H b with
      | none => rfl
      | some u => exact absurd z (O.g.t b (by rw [q]; simp))
    · exact O.g.u b xs z⟩
  cf := O.cf
  ch := fun c hc => g.k _ _ (fun h => nomatch h) (O.ch c hc)
  nd := O.nd
  ca := O.ca
  nt := O.nt
theorem Ow.lend {Z : Ent} {F H : Hp} {cs : List (Addr × HO)} {a : Addr} {o : HO} (O : Ow Z F cs H) (i : Nat) (e : cs[i]? = some (a, o)) : ∃ F1, Same F F1 ∧ Pre F1 [] H ∧ F1 a = some o := by
  have m := List.mem_of_getElem? e
  refine ⟨upd F a o, Same.new (O.cf _ m), ⟨fun b u q => ?_, (fun _ h => nomatch h), (fun _ h => nomatch h), List.nodup_nil, fun _ h => nomatch h⟩, upd_same⟩
  by_cases hb : b = a
  · subst hb; rw [upd_same] at q; rw [← q]; exact O.ch _ m
  · rw [upd_ne hb] at q; exact O.s b u q

abbrev lrefs (ps : List LC) : List V := ps.map fun (c : LC) => V.ref c.1

def ret {a : Type} (x : a) : M a := .ok x
theorem wp_ret {a b : Type} {Q : a → Prop} {E : String → Prop} {x : b} {k : b → M a} (h : wp (ret x >>= k) Q E) : ∃ y, y = x ∧ wp (k y) Q E := ⟨x, rfl, h⟩

/-- tuples that stand may be read -/
theorem Ow.tups {Z : Ent} {F H : Hp} {cs : List (Addr × HO)} (O : Ow Z F cs H) (bs : List Addr) (h : ∀ b ∈ bs, ∃ xs, H b = some (.tup xs)) : ∃ F', Ow Z F' cs H ∧ Same F F' ∧ ∀ b ∈ bs, F' b = H b := by
  refine ⟨fun b => if b ∈ bs then H b else F b, ⟨⟨fun b o e => ?_, fun b o e => ?_, O.g.k, O.g.t, fun b e => ?_, O.g.u⟩, fun c hc => ?_, O.ch, O.nd, O.ca, O.nt⟩, fun b o e => ?_, fun b hb => if_pos hb⟩
  · have h1 := O.g.f b o e
    show (if b ∈ bs then H b else F b) = some o
    by_cases hb : b ∈ bs
    · rw [if_pos hb]; exact O.s b o h1
    · rw [if_neg hb]; exact h1
  · have e : (if b ∈ bs then H b else F b) = some o := e
    by_cases hb : b ∈ bs
    · rw [if_pos hb] at e; exact e
    · rw [if_neg hb] at e; exact O.s b o e
  · show (if b ∈ bs then H b else F b) = Z.F b ∨ _
    by_cases hb : b ∈ bs
    · obtain ⟨xs, hx⟩ := h b hb
      rcases O.g.u b xs hx with z | z
      · exact absurd z e
      · exact .inr ⟨xs, z⟩
    · rw [if_neg hb]; exact O.g.n b e
  · show (if c.1 ∈ bs then H c.1 else F c.1) = none
    by_cases hb : c.1 ∈ bs
    · obtain ⟨xs, hx⟩ := h c.1 hb
      have hn := O.nt c hc
      rw [O.ch c hc] at hx
      rw [Option.some.inj hx] at hn
      cases hn
    · rw [if_neg hb]; exact O.cf c hc
  · show (if b ∈ bs then H b else F b) = some o
    by_cases hb : b ∈ bs
    · rw [if_pos hb]; exact O.s b o e
    · rw [if_neg hb]; exact e
end PG

set_option Elab.async false
set_option linter.all false
set_option maxRecDepth 100000
set_option maxHeartbeats 4000000
namespace PG
open PySem PySem.Spec PyProof.Rows L2
open PySem.W (T3 T4 Datum DatumOrd Holds HoldAll EachIs)
variable {K0 : PySem.W.Frag} [KF K0]

theorem u1_of {n : Nat} (h : n + 64 < cLine) : n + 1 < cLine := Nat.lt_of_le_of_lt (Nat.add_le_add_left (by decide) _) h
/-! ### dicts: what stands for a key -/
class DK (κ : Type) (K' : outParam Type) where
  kk : κ → K'
  inj : ∀ a b, kk a = kk b → a = b
instance : DK Int Key := ⟨Sum.inl, fun _ _ h => Sum.inl.inj h⟩
instance : DK Str Key := ⟨Sum.inr, fun _ _ h => Sum.inr.inj h⟩
instance : DK (Int × Int) (List Key) := ⟨fun p => [.inl p.1, .inl p.2], fun a b h => by
  injection h with h1 h2
  injection h2 with h2 _
  exact Prod.ext (Sum.inl.inj h1) (Sum.inl.inj h2)⟩
section
variable {κ K' β : Type} [DK κ K'] [Py β]
inductive RD (F : Hp) : List (K' × V) → List (κ × β) → Prop
  | nil : RD F [] []
  | cons {k : κ} {v : V} {y : β} {kvs : List (K' × V)} {xs : List (κ × β)} : R F v y → RD F kvs xs → RD F ((DK.kk k, v) :: kvs) ((k, y) :: xs)
variable {F F' : Hp}
theorem RD.mono {kvs : List (K' × V)} {xs : List (κ × β)} (h : RD F kvs xs) (s : Same F F') : RD F' kvs xs := by
  induction h with
  | nil => exact .nil
  | cons h _ ih => exact .cons (h.mono s) ih
theorem RD.len {kvs : List (K' × V)} {xs : List (κ × β)} (h : RD F kvs xs) : kvs.length = xs.length := by
  induction h with
  | nil => rfl
  | cons h _ ih => rw [List.length_cons, List.length_cons, ih]
theorem RD.keys {kvs : List (K' × V)} {xs : List (κ × β)} (h : RD F kvs xs) : kvs.map (·.1) = (xs.map (·.1)).map DK.kk := by
  induction h with
  | nil => rfl
  | cons h _ ih => rw [List.map_cons, List.map_cons, List.map_cons, ih]
end
section
variable {κ K' β : Type} [DK κ K'] [DecidableEq κ] [DecidableEq K'] [Py β] {F F' : Hp}
def dGet (xs : List (κ × β)) (k : κ) : Option β := (xs.find? fun p => decide (p.1 = k)).map (·.2)
def dPut (xs : List (κ × β)) (k : κ) (y : β) : List (κ × β) :=
  if (xs.any fun p => decide (p.1 = k)) = true then xs.map (fun p => if p.1 = k then (p.1, y) else p) else xs ++ [(k, y)]
def dHas (xs : List (κ × β)) (k : κ) : Bool := (dGet xs k).isSome
theorem kk_dec {a b : κ} : decide ((DK.kk a : K') = DK.kk b) = decide (a = b) := by
  by_cases h : a = b
  · subst h; simp
  · rw [decide_eq_false h, decide_eq_false fun z => h (DK.inj a b z)]
theorem dGet_pos {p : κ × β} {r : List (κ × β)} {k : κ} (e : p.1 = k) : dGet (p :: r) k = some p.2 := by simp [dGet, List.find?_cons, e]
theorem dGet_neg {p : κ × β} {r : List (κ × β)} {k : κ} (e : ¬ p.1 = k) : dGet (p :: r) k = dGet r k := by simp [dGet, List.find?_cons, e]
theorem RD.get {kvs : List (K' × V)} {xs : List (κ × β)} (h : RD F kvs xs) (k : κ) :
    (dGet xs k = none ∧ valV kvs (DK.kk k) = none) ∨ ∃ y v, dGet xs k = some y ∧ valV kvs (DK.kk k) = some v ∧ R F v y := by
  induction h with
  | nil => exact .inl ⟨rfl, rfl⟩
  | @cons j v y kvs xs h hs ih =>
    by_cases e : j = k
    · exact .inr ⟨y, v, dGet_pos e, valV_pos (by rw [e]), h⟩
    · rw [dGet_neg (p := (j, y)) e, valV_neg (fun z => e (DK.inj j k z))]
      exact ih
theorem RD.some {kvs : List (K' × V)} {xs : List (κ × β)} (h : RD F kvs xs) {k : κ} {y : β} (e : dGet xs k = some y) : ∃ v, valV kvs (DK.kk k) = some v ∧ R F v y := by
  rcases h.get k with ⟨a, _⟩ | ⟨y', v, a, b, c⟩
  · rw [e] at a; cases a
  · rw [e] at a; cases a; exact ⟨v, b, c⟩
theorem RD.is {kvs : List (K' × V)} {xs : List (κ × β)} (h : RD F kvs xs) (k : κ) : (valV kvs (DK.kk k)).isSome = dHas xs k := by
  unfold dHas
  rcases h.get k with ⟨a, b⟩ | ⟨y', v, a, b, c⟩
  · rw [a, b]; rfl
  · rw [a, b]; rfl
theorem RD.map {kvs : List (K' × V)} {xs : List (κ × β)} (h : RD F kvs xs) (k : κ) {v : V} {y : β} (hv : R F v y) :
    RD F (kvs.map fun kv => if kv.1 = DK.kk k then (kv.1, v) else kv) (xs.map fun p => if p.1 = k then (p.1, y) else p) := by
  induction h with
  | nil => exact .nil
  | @cons j u z kvs xs h hs ih =>
    rw [List.map_cons, List.map_cons]
    by_cases e : j = k
    · rw [if_pos e, if_pos (show (DK.kk j, u).1 = DK.kk k by rw [e])]
      exact .cons hv ih
    · rw [if_neg e, if_neg (show ¬ (DK.kk j, u).1 = DK.kk k from fun z => e (DK.inj j k z))]
      exact .cons h ih
theorem RD.snoc {kvs : List (K' × V)} {xs : List (κ × β)} (h : RD F kvs xs) (k : κ) {v : V} {y : β} (hv : R F v y) : RD F (kvs ++ [(DK.kk k, v)]) (xs ++ [(k, y)]) := by
  induction h with
  | nil => exact .cons hv .nil
  | cons h _ ih => exact .cons h ih
theorem RD.any {kvs : List (K' × V)} {xs : List (κ × β)} (h : RD F kvs xs) (k : κ) : (kvs.any fun kv => decide (kv.1 = DK.kk k)) = (xs.any fun p => decide (p.1 = k)) := by
  induction h with
  | nil => rfl
  | @cons j u z kvs xs h hs ih => rw [List.any_cons, List.any_cons, ih, kk_dec]
theorem RD.put {kvs : List (K' × V)} {xs : List (κ × β)} (h : RD F kvs xs) (k : κ) {v : V} {y : β} (hv : R F v y) : RD F (putK kvs (DK.kk k) v) (dPut xs k y) := by
  unfold putK dPut
  rw [h.any k]
  by_cases e : (xs.any fun p => decide (p.1 = k)) = true
  · rw [if_pos e, if_pos e]; exact h.map k hv
  · rw [if_neg e, if_neg e]; exact h.snoc k hv
def putD (xs : List (κ × β)) (k : κ) (y : β) : M (List (κ × β)) := if xs.length < 16777216 then .ok (dPut xs k y) else bad
theorem wp_putD {a : Type} {Q : a → Prop} {E : String → Prop} {xs : List (κ × β)} {j : κ} {y : β} {k : List (κ × β) → M a} (h : wp (putD xs j y >>= k) Q E) : xs.length < sizeLine ∧ wp (k (dPut xs j y)) Q E := by
  unfold putD at h
  by_cases hl : xs.length < 16777216
  · rw [if_pos hl] at h
    exact ⟨lt_line hl, h⟩
  · rw [if_neg hl] at h
    exact h.elim
end
/-- a dict that is read alone -/
class DO (K' : Type) where
  ho : List (K' × V) → HO
instance : DO Key := ⟨.dK⟩
instance : DO (List Key) := ⟨.dT⟩
section
variable {κ K' β : Type} [DK κ K'] [Py β] [DO K'] {F F' H : Hp} {v : V} {a b : Addr}
def RDv (F : Hp) (v : V) (xs : List (κ × β)) : Prop := ∃ (a : Addr) (kvs : List (K' × V)), v = .ref a ∧ Rd F a (DO.ho kvs) ∧ RD F kvs xs
theorem rd_mono {u : HO} (s : Same F F') (h : Rd F a u) : Rd F' a u := h.elim (fun e => .inl (s _ _ e)) fun ⟨o, e⟩ => .inr ⟨o, s _ _ e⟩
theorem RDv.mono {xs : List (κ × β)} (h : RDv F v xs) (s : Same F F') : RDv F' v xs := by
  obtain ⟨a, kvs, e, h1, h2⟩ := h
  exact ⟨a, kvs, e, rd_mono s h1, h2.mono s⟩
theorem RDv.mk {xs : List (κ × β)} {kvs : List (K' × V)} (h : Rd F a (DO.ho kvs)) (hr : RD F kvs xs) : RDv F (.ref a) xs := ⟨a, kvs, rfl, h, hr⟩
end
section
variable {β : Type} [Py β] {F H : Hp} {a b : Addr}
theorem dgt {kvs : List (List Key × V)} {k : List Key} (e : Rd H a (.dT kvs)) (eb : H b = some (.tup (k.map kV))) : DGet H a (.ref b) (valV kvs k) := .inr ⟨kvs, k, b, e, rfl, eb, rfl⟩
theorem dgk {kvs : List (Key × V)} {k : Key} (e : Rd H a (.dK kvs)) : DGet H a (kV k) (valV kvs k) := .inl ⟨kvs, k, e, rfl, rfl⟩
theorem dget_T {kvs : List (List Key × V)} {i j : Int} {v : V} (e : Rd H a (.dT kvs)) (eb : H b = some (.tup [.int i, .int j])) (hv : valV kvs (DK.kk (i, j)) = some v) : DGet H a (.ref b) (some v) := by
  rw [← hv]
  exact dgt (k := [.inl i, .inl j]) e eb
theorem dget_I {kvs : List (Key × V)} {i : Int} {v : V} (e : Rd H a (.dK kvs)) (hv : valV kvs (DK.kk i) = some v) : DGet H a (.int i) (some v) := by
  rw [← hv]
  exact dgk (k := .inl i) e
theorem dget_S {kvs : List (Key × V)} {i : Str} {v : V} (e : Rd H a (.dK kvs)) (hv : valV kvs (DK.kk i) = some v) : DGet H a (.str i) (some v) := by
  rw [← hv]
  exact dgk (k := .inr i) e
theorem din_T {kvs : List (List Key × V)} {i j : Int} {xs : List ((Int × Int) × β)} (e : Rd H a (.dT kvs)) (eb : H b = some (.tup [.int i, .int j])) (hr : RD F kvs xs) : ∃ o, DGet H a (.ref b) o ∧ o.isSome = dHas xs (i, j) :=
  ⟨_, dgt (k := [.inl i, .inl j]) e eb, hr.is (i, j)⟩
theorem din_I {kvs : List (Key × V)} {i : Int} {xs : List (Int × β)} (e : Rd H a (.dK kvs)) (hr : RD F kvs xs) : ∃ o, DGet H a (.int i) o ∧ o.isSome = dHas xs i :=
  ⟨_, dgk (k := .inl i) e, hr.is i⟩
theorem din_S {kvs : List (Key × V)} {i : Str} {xs : List (Str × β)} (e : Rd H a (.dK kvs)) (hr : RD F kvs xs) : ∃ o, DGet H a (.str i) o ∧ o.isSome = dHas xs i :=
  ⟨_, dgk (k := .inr i) e, hr.is i⟩
theorem dput_T {kvs : List (List Key × V)} {i j : Int} {v : V} (e : H a = some (.dT kvs)) (eb : H b = some (.tup [.int i, .int j])) (hl : kvs.length < sizeLine) : DPut H a (.ref b) v (upd H a (.dT (putK kvs (DK.kk (i, j)) v))) := DPut.t (k := [.inl i, .inl j]) e eb hl
theorem dput_I {kvs : List (Key × V)} {i : Int} {v : V} (e : H a = some (.dK kvs)) (hl : kvs.length < sizeLine) : DPut H a (.int i) v (upd H a (.dK (putK kvs (DK.kk i) v))) := DPut.k (k := .inl i) e hl
theorem dput_S {kvs : List (Key × V)} {i : Str} {v : V} (e : H a = some (.dK kvs)) (hl : kvs.length < sizeLine) : DPut H a (.str i) v (upd H a (.dK (putK kvs (DK.kk i) v))) := DPut.k (k := .inr i) e hl
end
/-! sorted(d), the keys pairs of whole numbers -/
theorem keys_tups {H : Hp} {kvs : List (List Key × V)} {bs : List Addr} (h : IsKeys H kvs bs) : ∀ b ∈ bs, ∃ xs, H b = some (.tup xs) := by
  unfold IsKeys at h
  induction h with
  | nil => intro b hb; simp at hb
  | cons h t ih =>
    intro c hc
    rcases List.mem_cons.mp hc with rfl | hc
    · exact ⟨_, h⟩
    · exact ih c hc
theorem keys_rl {H : Hp} {kvs : List (List Key × V)} {bs : List Addr} (h : IsKeys H kvs bs) : ∀ {ks : List (Int × Int)}, kvs.map (·.1) = ks.map DK.kk → RL H (bs.map V.ref) ks := by
  unfold IsKeys at h
  induction h with
  | nil =>
    intro ks e
    cases ks with
    | nil => exact RL.nil
    | cons k ks => simp at e
  | cons h t ih =>
    intro ks e
    cases ks with
    | nil => simp at e
    | cons k ks =>
      rw [List.map_cons, List.map_cons] at e
      injection e with e1 e2
      rw [e1] at h
      exact RL.cons (R.t2 h R.int R.int) (ih e2)
theorem keys_in {H F : Hp} {kvs : List (List Key × V)} {bs : List Addr} {ks : List (Int × Int)} (h : IsKeys H kvs bs) (hf : ∀ b ∈ bs, F b = H b) (e : kvs.map (·.1) = ks.map DK.kk) : RL F (bs.map V.ref) ks := by
  refine keys_rl ?_ e
  unfold IsKeys at h ⊢
  clear e
  induction h with
  | nil => exact .nil
  | @cons x b xs bs h t ih =>
    refine .cons ?_ (ih fun c hc => hf c (List.mem_cons_of_mem _ hc))
    rw [hf b List.mem_cons_self]
    exact h
section
variable {X : Cx}
theorem cr_sortedDT (hcalm : X.calm = true) (hu : X.A.units + 128 < cLine) : CallR X (.builtin "sorted") (fun xs H Q => ∃ (d : Addr) (kvs : List (List Key × V)) (ks : List (Int × Int)), xs = [.ref d] ∧ Rd H d (.dT kvs) ∧ kvs.map (·.1) = ks.map DK.kk ∧
    ∀ (bs : List Addr) (p : Addr), IsKeys H kvs bs → H p = none → Q (.ref p) (upd H p (.lst (sortV (bs.map V.ref) ks)))) := by
  haveI : KF X.K := ⟨⟩
  intro pins s σ H xs us Q I r q
  obtain ⟨d, kvs, ks', ex, hd, hks, q⟩ := q
  subst ex
  obtain ⟨u, eu, rx⟩ := vals1 r
  subst eu
  cases rx
  obtain ⟨z, hs, ks, pr, o, es, ep, ho, hx, hdt, he, hn⟩ := (show ObjOk X.prog X.w H s.heap d (.dT kvs) from hd.ok I.hok)
  have l1 : es.size = ks.length := size_of_entries he
  have l2 : kvs.length = ks.length := Paired.length pr
  refine Calls.call_function_entry PyProof.Rows.kind_sorted PyProof.Rows.plain_sorted PyProof.Rows.entry_sorted (PyProof.Rows.args_sorted1 _) ?_
  unfold Builtin.«sorted»
  refine wpAny_bind (m := checkCount "sorted" 1 1 _) (wpAny_pure ?_)
  refine wpAny_bind (PySem.W.kdu_collect (A := X.A.in1) (kdl_raw hs hx hdt) (I.ok.hd hcalm) ho (by omega) fun h' tk acc kp it => ?_)
  have ea : acc.toList = ks.map fun x => Value.ref x.2.1 := by
    have hl : acc.toList.length = ks.length := by rw [Array.length_toList, it.1]; exact l1
    apply List.ext_getElem?
    intro j
    rw [List.getElem?_map]
    cases hj : acc.toList[j]? with
    | none =>
      have h1 := List.getElem?_eq_none_iff.mp hj
      rw [List.getElem?_eq_none (by omega)]
      all_goals rfl
    | some v =>
      obtain ⟨en, hen, hv⟩ := it.2 j v (by rw [← Array.getElem?_toList]; exact hj)
      have qe := entry_at he j
      rw [hen] at qe
      cases hb : ks[j]? with
      | none =>
        rw [hb] at qe
        exact nomatch (show some en = none from qe)
      | some b =>
        rw [hb] at qe
        have e2 : en = entryOfKey (tupleKind (mixKind X.prog X.w)) b := Option.some.inj qe
        rw [hv, e2]
        all_goals rfl
  have eb : acc.toList = (ks.map fun (x : List Key × Addr × Value) => x.2.1).map Value.ref := by rw [ea, List.map_map]; all_goals rfl
  have rv : Vals ((ks.map fun (x : List Key × Addr × Value) => x.2.1).map V.ref) acc.toList := by rw [eb]; exact vals_refs _
  have hik : IsKeys H kvs (ks.map fun (x : List Key × Addr × Value) => x.2.1) := isKeys_of pr
  have hrl := keys_rl hik hks
  have hlen : ((ks.map fun (x : List Key × Addr × Value) => x.2.1).map V.ref).length = ks'.length := hrl.len
  have hal : acc.toList.length = ks.length := by rw [ea, List.length_map]
  have I1 : Inv X pins σ H { s with heap := h', toks := tk } := I.kept kp
  have hE := each_pairs hrl rv
  have hR : EachIs (fun u (p : V × (Int × Int)) => ∃ as, PySem.Reads h' u (Datum.toD p.2) as) acc.toList (((ks.map fun (x : List Key × Addr × Value) => x.2.1).map V.ref).zip ks') := each_imp (fun u p hp => hp.2.holds I1 hp.1) hE
  have hoL : (h'.push (seqObj "list" acc.toList.toArray 0)).get? h'.objs.size = some (seqObj "list" acc.toList.toArray 0) := Heap.get?_push_size _ rfl
  have hz : acc.toList.length ≤ sizeLine := by rw [hal]; omega
  refine wpAny_bind (wpAny_newList ?_ hz)
  show wpAny _ _ _ _ _ { s with heap := h'.push (seqObj "list" acc.toList.toArray 0), toks := tk }
  have er' : EachIs (fun v (p : V × (Int × Int)) => ∃ as, PySem.Reads (PySem.W.sortingHeap (h'.push (seqObj "list" acc.toList.toArray 0)) h'.objs.size acc.toList) v (Datum.toD p.2) as) acc.toList (((ks.map fun (x : List Key × Addr × Value) => x.2.1).map V.ref).zip ks') :=
    hR.mono fun _ _ ⟨as, r⟩ => ⟨as, PyProof.Rows.Reads.keeps (fun b o e => PySem.W.sortingHeap_old (Nat.ne_of_lt (Heap.lt_size e)) (Heap.get?_push_of_some _ e)) r⟩
  have hal2 : PySem.W.AllAlike ((((ks.map fun (x : List Key × Addr × Value) => x.2.1).map V.ref).zip ks').map fun p => Datum.toD p.2) := PySem.W.AllAlike.of fun p q => DatumOrd.alike p.2 q.2
  refine wpAny_bind (wpAny_holding (wpAny_call_entry PyProof.Rows.slot_list_sort ⟨_, hoL, rfl⟩ PyProof.Rows.entry_list_sort
    (PySem.W.list_sort_vals (κ := PySem.W.dataKind (PySem.W.sortingHeap (h'.push (seqObj "list" acc.toList.toArray 0)) h'.objs.size acc.toList) ((((ks.map fun (x : List Key × Addr × Value) => x.2.1).map V.ref).zip ks').map fun p => Datum.toD p.2)) (s := { s with heap := h'.push (seqObj "list" acc.toList.toArray 0), toks := tk }) hoL
      (PySem.W.SortsAt.data (s := { s with heap := PySem.W.sortingHeap (h'.push (seqObj "list" acc.toList.toArray 0)) h'.objs.size acc.toList, toks := tk }) (PySem.W.each_map (R := fun v d => ∃ as, PySem.Reads (PySem.W.sortingHeap (h'.push (seqObj "list" acc.toList.toArray 0)) h'.objs.size acc.toList) v d as) (fun (p : V × (Int × Int)) => Datum.toD p.2) er') hal2 ?_ ?_) hz ⟨_, rfl, ?_⟩)
    (PyProof.Rows.args_list_sort _)))
  · exact PySem.W.Sortable.tuples fun p => ⟨_, _, rfl⟩
  · intro dd hdd
    obtain ⟨p, _, rfl⟩ := List.mem_map.mp hdd
    have hdp : Datum.depth (Int × Int) ≤ 100 := by decide
    have := Datum.depth_le p.2
    have hA : X.A.in1.in1.units ≤ X.A.units + 2 := by simp [Around.in1]
    omega
  · have he2 := PySem.W.sortVals_data (R := fun (u : Value) (p : V × (Int × Int)) => RelV p.1 u ∧ R H p.1 p.2) (enc := fun p => Datum.toD p.2) false hE er' hal2
    rw [dataLe_T (fun p : V × (Int × Int) => p.2)] at he2
    obtain ⟨q1, q2⟩ := pairs_vals he2
    obtain ⟨e', he'⟩ := PyProof.Rows.sortedHeap_at (vs := acc.toList) (out := (PySem.W.sortVals (PySem.W.dataKind (PySem.W.sortingHeap (h'.push (seqObj "list" acc.toList.toArray 0)) h'.objs.size acc.toList) ((((ks.map fun (x : List Key × Addr × Value) => x.2.1).map V.ref).zip ks').map fun p => Datum.toD p.2)) false acc.toList acc.toList).toArray) hoL
    refine wpAny_pure ⟨_, rfl, .ref h'.objs.size, upd H h'.objs.size (.lst (sortV ((ks.map fun (x : List Key × Addr × Value) => x.2.1).map V.ref) ks')), I1.laid (t' := tk) (fun b u e => ?_) (Nat.le_refl _)
      (show ObjOk X.prog X.w _ _ _ (.lst _) from ⟨?_, _, e', q1, he'⟩), rfl, q _ _ hik (I1.hok.fresh (Nat.le_refl _))⟩
    · have hb : b < h'.objs.size := Heap.lt_size e
      rw [PyProof.Rows.sortedHeap_old (Nat.ne_of_lt hb) (by rw [size_push']; exact Nat.lt_succ_of_lt hb)]
      exact Heap.get?_push_of_some _ e
    · unfold sortV
      rw [List.length_map, List.length_mergeSort, List.length_zip, hlen, Nat.min_self, ← hlen, List.length_map, List.length_map]
      omega
end
end PG

set_option Elab.async false
set_option linter.all false
set_option maxRecDepth 100000
set_option maxHeartbeats 4000000
namespace PG
open PySem PySem.Spec PyProof.Rows L2
open PySem.W (T3 T4 Datum DatumOrd Holds HoldAll EachIs)
variable {K0 : PySem.W.Frag} [KF K0]

/-! ### a list of two things of two kinds -/
structure HL2 (a b : Type) where
  a : a
  b : b
  deriving DecidableEq
theorem HL2.same {a b : Type} : ∀ {p q : HL2 a b}, p.a = q.a → p.b = q.b → p = q
  | ⟨_, _⟩, ⟨_, _⟩, rfl, rfl => rfl
section
variable {α β : Type} [DecidableEq α] [Datum α] [DecidableEq β] [Datum β]
instance : Datum (HL2 α β) where
  toD p := .list [Datum.toD p.a, Datum.toD p.b]
  plain p := by simp only [PyData.plain, PyData.plainAll, Datum.plain, Bool.and_self]
  eqv p q := by
    simp only [PyData.eqv, PyData.eqvAll]
    rw [Datum.eqv, Datum.eqv, Bool.and_true, ← Bool.decide_and]
    exact decide_eq_decide.mpr ⟨fun e => HL2.same e.1 e.2, fun e => by rw [e]; exact ⟨rfl, rfl⟩⟩
  depth := max (Datum.depth α) (Datum.depth β) + 1
  depth_le p := by
    simp only [PyData.depth, PyData.depthAll]
    have h0 := Datum.depth_le p.a
    have h1 := Datum.depth_le p.b
    omega
end
instance {a b : Type} [Py a] [Py b] : Py (HL2 a b) := ⟨fun p => .list [Py.toD p.a, Py.toD p.b]⟩
section
variable {a b : Type} [Py a] [DecidableEq a] [Datum a] [IsD a] [Py b] [DecidableEq b] [Datum b] [IsD b]
instance : IsD (HL2 a b) := ⟨fun p => by show PyData.list [_, _] = PyData.list [_, _]; rw [IsD.eq, IsD.eq]⟩
end
theorem R.hl2 {a b : Type} [Py a] [Py b] {H : Hp} {p : Addr} {x : HL2 a b} {v1 v2 : V} (ha : H p = some (.lst [v1, v2])) (h1 : R H v1 x.a) (h2 : R H v2 x.b) : R H (.ref p) x := Rep.lst ha (.cons h1 (.cons h2 .nil))
/-! ### data without lists within -/
class NoL (a : Type) [Py a] : Prop where
  mv : ∀ {K0 : PySem.W.Frag} [KF K0] (F F' : Hp), (∀ b xs, F b = some (.tup xs) → F' b = some (.tup xs)) → ∀ (v : V) (x : a), R F v x → R F' v x
instance : NoL Int := ⟨fun _ _ _ _ _ h => by rw [R.int_ h]; exact R.int⟩
instance : NoL Bool := ⟨fun _ _ _ _ _ h => by rw [R.bl_ h]; exact R.bl⟩
instance : NoL Str := ⟨fun _ _ _ _ _ h => by rw [R.str_ h]; exact R.str⟩
instance {a b : Type} [Py a] [Py b] [NoL a] [NoL b] : NoL (a × b) := ⟨fun _ _ t _ _ h => by
  obtain ⟨p, v1, v2, rfl, hp, h1, h2⟩ := R.t2T_ h
  exact R.t2T (hp.mv t) (NoL.mv _ _ t _ _ h1) (NoL.mv _ _ t _ _ h2)⟩
instance {a b c : Type} [Py a] [Py b] [Py c] [NoL a] [NoL b] [NoL c] : NoL (T3 a b c) := ⟨fun _ _ t _ _ h => by
  obtain ⟨p, v1, v2, v3, rfl, hp, h1, h2, h3⟩ := R.t3T_ h
  exact R.t3T (hp.mv t) (NoL.mv _ _ t _ _ h1) (NoL.mv _ _ t _ _ h2) (NoL.mv _ _ t _ _ h3)⟩
theorem RL.mv {a : Type} [Py a] [NoL a] {F F' : Hp} (t : ∀ b xs, F b = some (.tup xs) → F' b = some (.tup xs)) : ∀ {vs : List V} {xs : List a}, RL F vs xs → RL F' vs xs
  | _, [], h => by rw [RL.nil_ h]; exact RL.nil
  | _, x :: xs, h => by
    obtain ⟨w, ws, rfl, h1, h2⟩ := RL.cons_ h
    exact RL.cons (NoL.mv _ _ t _ _ h1) (RL.mv t h2)
/-! ### cells lent to a call -/
open Classical in
noncomputable def lendF (as : List Addr) (F H : Hp) : Hp := fun b => if b ∈ as then H b else F b
open Classical in
noncomputable def backF (as : List Addr) (F : Hp) : Hp := fun b => if b ∈ as then none else F b
section
variable {Z : Ent} {F F' H H' : Hp} {cs : List (Addr × HO)} {p a q : Addr} {o o' : HO} {as : List Addr}
theorem inA_nil : ∀ b ∈ ([] : List Addr), ∃ o, (b, o) ∈ cs := fun _ h => nomatch h
theorem inA_cons (i : Nat) (e : cs[i]? = some (a, o)) (h : ∀ b ∈ as, ∃ o, (b, o) ∈ cs) : ∀ b ∈ a :: as, ∃ o, (b, o) ∈ cs := fun b hb => by
  rcases List.mem_cons.mp hb with rfl | hb
  · exact ⟨o, List.mem_of_getElem? e⟩
  · exact h b hb
theorem lendF_at (h : a ∈ as) : lendF as F H a = H a := if_pos h
theorem Ow.lendS (O : Ow Z F cs H) (hin : ∀ b ∈ as, ∃ o, (b, o) ∈ cs) : Same F (lendF as F H) := fun b u e => by
  by_cases hb : b ∈ as
  · obtain ⟨o, hc⟩ := hin b hb
    have := O.cf _ hc
    have e' : F b = none := this
    rw [e'] at e; cases e
  · show (if b ∈ as then H b else F b) = _
    rw [if_neg hb]; exact e
theorem Ow.lendP (O : Ow Z F cs H) (hin : ∀ b ∈ as, ∃ o, (b, o) ∈ cs) : Pre (lendF as F H) [] H := by
  refine ⟨fun b u e => ?_, (fun _ h => nomatch h), (fun _ h => nomatch h), List.nodup_nil, fun _ h => nomatch h⟩
  have e : (if b ∈ as then H b else F b) = some u := e
  by_cases hb : b ∈ as
  · rw [if_pos hb] at e; exact e
  · rw [if_neg hb] at e; exact O.s b u e
theorem Ow.unlend (O : Ow Z F cs H) (hin : ∀ b ∈ as, ∃ o, (b, o) ∈ cs) (g : Gr [] (lendF as F H) H F' H') :
    Ow Z (backF as F') cs H' ∧ Same F (backF as F') ∧ (∀ b xs, F' b = some (.tup xs) → backF as F' b = some (.tup xs)) ∧ ∀ b, F' b = none → backF as F' b = none := by
  have inF : ∀ b, b ∉ as → ∀ u, F b = some u → F' b = some u := fun b hb u e => g.f b u (by
    show (if b ∈ as then H b else F b) = _
    rw [if_neg hb]; exact e)
  have nF : ∀ b ∈ as, F b = none := fun b hb => by obtain ⟨o, hc⟩ := hin b hb; exact O.cf _ hc
  have sF : Same F (backF as F') := fun b u e => by
    show (if b ∈ as then none else F' b) = _
    by_cases hb : b ∈ as
    · rw [nF b hb] at e; cases e
    · rw [if_neg hb]; exact inF b hb u e
  refine ⟨⟨⟨O.g.f.trans sF, fun b u e => ?_, fun b u hb e => g.k b u (fun h => nomatch h) (O.g.k b u hb e), fun b e => g.t b (O.g.t b e), fun b e => ?_, fun b xs e => ?_⟩, fun c hc => ?_, fun c hc => g.k _ _ (fun h => nomatch h) (O.ch c hc), O.nd, O.ca, O.nt⟩, sF, fun b xs e => ?_, fun b e => ?_⟩
  · have e : (if b ∈ as then none else F' b) = some u := e
    by_cases hb : b ∈ as
    · rw [if_pos hb] at e; cases e
    · rw [if_neg hb] at e; exact g.s b u e
  · show (if b ∈ as then none else F' b) = _ ∨ _
    by_cases hb : b ∈ as
    · rw [if_pos hb]
      rcases O.g.n b e with h0 | h0
      · rw [nF b hb] at h0; exact .inl h0
      · exact .inr h0
    · rw [if_neg hb]
      rcases O.g.n b e with h0 | h0
      · rcases g.n b (O.g.t b e) with h1 | ⟨xs, hx⟩
        · refine .inl (h1.trans ?_)
          show (if b ∈ as then H b else F b) = _
          rw [if_neg hb]; exact h0
        · rcases O.g.u b xs hx with z | z
          · exact absurd z e
          · exact .inr ⟨xs, z⟩
      · exact .inr h0
  · rcases g.u b xs e with z | z
    · refine .inl ?_
      cases q : Z.H b with
      | none => rfl
      | some u => exact absurd z (O.g.t b (by rw [q]; simp))
    · exact O.g.u b xs z
  · show (if c.1 ∈ as then none else F' c.1) = none
    by_cases hb : c.1 ∈ as
    · rw [if_pos hb]
    · rw [if_neg hb]
      have hl : lendF as F H c.1 = none := by
        show (if c.1 ∈ as then H c.1 else F c.1) = _
        rw [if_neg hb]; exact O.cf c hc
      exact g.none (O.ch c hc) (O.nt c hc) hl
  · show (if b ∈ as then none else F' b) = _
    by_cases hb : b ∈ as
    · obtain ⟨o, hc⟩ := hin b hb
      have h1 : lendF as F H b = some o := by
        show (if b ∈ as then H b else F b) = _
        rw [if_pos hb]; exact O.ch _ hc
      have h2 := g.f b o h1
      rw [e] at h2
      have h3 := O.nt _ hc
      have h3 : noTup o = true := h3
      rw [← Option.some.inj h2] at h3
      cases h3
    · rw [if_neg hb]; exact e
  · show (if b ∈ as then none else F' b) = _
    by_cases hb : b ∈ as
    · rw [if_pos hb]
    · rw [if_neg hb]; exact e
theorem Ow.fresh (O : Ow Z F cs H) (h : H p = none) : p ∉ cs.map (·.1) := fun hm => by
  obtain ⟨c, hc, e⟩ := List.mem_map.mp hm
  have z := O.ch c hc
  rw [e, h] at z
  cases z
theorem Ow.add' (O : Ow Z F cs H) (hm : p ∉ cs.map (·.1)) (hz : Z.H p = none) (hf : F p = none) (h : H p = some o) (ht : noTup o = true := by rfl) : Ow Z F ((p, o) :: cs) H where
  g := O.g
  cf := fun c hc => by
    rcases List.mem_cons.mp hc with rfl | hc
    · exact hf
    · exact O.cf c hc
  ch := fun c hc => by
    rcases List.mem_cons.mp hc with rfl | hc
    · exact h
    · exact O.ch c hc
  nd := by
    rw [List.map_cons, List.nodup_cons]
    exact ⟨hm, O.nd⟩
  ca := fun c hc => by
    rcases List.mem_cons.mp hc with rfl | hc
    · exact .inr hz
    · exact O.ca c hc
  nt := fun c hc => by
    rcases List.mem_cons.mp hc with rfl | hc
    · exact ht
    · exact O.nt c hc
theorem Ow.ne (O : Ow Z F cs H) (i j : Nat) (hij : i ≠ j) (ei : cs[i]? = some (a, o)) (ej : cs[j]? = some (q, o')) : a ≠ q := fun e => by
  subst e
  have h1 : (cs.map (·.1))[i]? = some a := by rw [List.getElem?_map, ei]; rfl
  have h2 : (cs.map (·.1))[j]? = some a := by rw [List.getElem?_map, ej]; rfl
  exact hij (nd_ix O.nd h1 h2)
end
theorem nmem2 {p q : Addr} {l : List Addr} (h : p ≠ q) (h2 : p ∉ l) : p ∉ q :: l := fun m => by
  rcases List.mem_cons.mp m with e | m
  · exact h e
  · exact h2 m
/-! ### while -/
inductive Ws (s r : Type) where
  | go (x : s)
  | stop (x : s)
  | rt (z : r)
def whL {s r : Type} (b : s → M (Ws s r)) : Nat → s → M (Fl s r)
  | 0, _ => bad
  | n + 1, x => b x >>= fun
    | .go x' => whL b n x'
    | .stop x' => .ok (.nx x')
    | .rt z => .ok (.rt z)
theorem whL_L {s r a : Type} {Q : a → Prop} {E : String → Prop} {b : s → M (Ws s r)} {n : Nat} {x : s} {k : Fl s r → M a} (h : wp (whL b n x >>= k) Q E) :
    ∃ (L : Nat → s → Prop) (X : s → Prop), L n x ∧ (∀ m x, L m x → wp (b x) (fun w => match w with
      | .go x' => ∃ m', m' < m ∧ L m' x'
      | .stop x' => X x'
      | .rt z => wp (k (.rt z)) Q E) E) ∧ ∀ x, X x → wp (k (.nx x)) Q E := by
  refine ⟨fun n x => wp (whL b n x >>= k) Q E, fun x => wp (k (.nx x)) Q E, h, fun m x hx => ?_, fun x hx => hx⟩
  cases m with
  | zero => exact hx.elim
  | succ m =>
    have hx : wp ((b x >>= fun
      | .go x' => whL b m x'
      | .stop x' => .ok (.nx x')
      | .rt z => .ok (.rt z)) >>= k) Q E := hx
    rw [wp_bind, wp_bind] at hx
    cases e : b x with
    | error e2 => rw [e] at hx; cases e2 <;> exact hx
    | ok w =>
      rw [e] at hx
      cases w with
      | go x' => exact ⟨m, Nat.lt_succ_self m, wp_bind.mpr hx⟩
      | stop x' => exact hx
      | rt z => exact hx
theorem while_P {c : TT} {tb : TS} {D : Ends} {σ : L2.St} {H : Hp} (W : Nat → L2.St → Hp → Prop) (X : L2.St → Hp → Prop) (n : Nat) (h0 : W n σ H) (exit : ∀ σ H, X σ H → D.nx σ H)
    (turn : (∀ σ H, X σ H → D.nx σ H) → ∀ m σ H, W m σ H → c σ H fun b H1 => if b = true then ∃ N : L2.St → Hp → Prop, (∀ σ' H', N σ' H' → ∃ m', m' < m ∧ W m' σ' H') ∧ tb { D with nx := N, ct := N, bk := D.nx } σ H1 else D.nx σ H1) : tWhile c tb D σ H :=
  ⟨W, ⟨n, h0⟩, turn exit⟩
/-! ### a < b < c < d -/
section
variable {X : Cx} {a b c d : Expr} {ta tb tc td : TE} {pos : Pos}
def tChain3 (r r' r'' : R2) (ta tb tc td : TE) : TE := fun σ H Q => ta σ H fun x H1 => tb σ H1 fun y H2 => r x y H2 fun z H3 => ∃ k, z = .bl k ∧
  (if k = true then tc σ H3 fun w' H4 => r' y w' H4 fun z' H5 => ∃ k', z' = .bl k' ∧ (if k' = true then td σ H5 fun u' H6 => r'' w' u' H6 Q else Q (.bl false) H5) else Q (.bl false) H3)
theorem pt_chain3 {op op' op'' : CmpOp} {r r' r'' : R2} (ho : OpR X (compareOp op) r) (ho' : OpR X (compareOp op') r') (ho'' : OpR X (compareOp op'') r'') (ha : PE X a ta) (hb : PE X b tb) (hc : PE X c tc) (hd : PE X d td)
    (hm : lastMarks [op, op', op''] [b, c, d] = false := by with_unfolding_all rfl) : PT X (.Compare a [op, op', op''] [b, c, d] pos) (tTest (tChain3 r r' r'' ta tb tc td)) := by
  refine ⟨fun pins s σ H Q I h => ?_⟩
  refine isTrue_chain (thn (ha.run pins s σ H _ I h) fun v s1 ⟨x, H1, I1, r1, q1⟩ => test_link (thn (hb.run pins s1 σ H1 _ I1 q1) fun u s2 ⟨y, H2, I2, r2, q2⟩ =>
    thn (ho pins s2 σ H2 x y v u _ I2 r1 r2 q2) fun d1 s3 ⟨z, H3, I3, r3, k, e, q3⟩ => ?_)) hm
  subst e
  cases r3
  refine wpAny_truthy_bool ?_
  cases k with
  | false =>
    obtain ⟨k', e', q'⟩ := q3
    cases e'
    exact ite_ff ⟨H3, I3, q'⟩
  | true =>
    refine ite_tt (test_link (thn (hc.run pins s3 σ H3 _ I3 q3) fun w' s4 ⟨z', H4, I4, r4, q4⟩ => thn (ho' pins s4 σ H4 y z' u w' _ I4 r2 r4 q4) fun d2 s5 ⟨z2, H5, I5, r5, k2, e2, q5⟩ => ?_))
    subst e2
    cases r5
    refine wpAny_truthy_bool ?_
    cases k2 with
    | false =>
      obtain ⟨k', e', q'⟩ := q5
      cases e'
      exact ite_ff ⟨H5, I5, q'⟩
    | true =>
      refine ite_tt (test_last (thn (hd.run pins s5 σ H5 _ I5 q5) fun u' s6 ⟨z3, H6, I6, r6, q6⟩ => thn (ho'' pins s6 σ H6 z' z3 w' u' _ I6 r4 r6 q6) fun d3 s7 ⟨z4, H7, I7, r7, k3, e3, q7⟩ => ?_))
      subst e3
      cases r7
      exact wpAny_truthy_bool ⟨H7, I7, q7⟩
end
/-! ### list.index of whole numbers -/
def ixI (xs : List Int) (y : Int) : M Int := if y ∈ xs then .ok ((xs.findIdx (· == y) : Nat) : Int) else bad
theorem wp_ixI {a : Type} {Q : a → Prop} {E : String → Prop} {xs : List Int} {y : Int} {k : Int → M a} (h : wp (ixI xs y >>= k) Q E) : ∃ j, xs.findIdx (· == y) = j ∧ xs[j]? = some y ∧ (∀ (m : Nat) z, m < j → xs[m]? = some z → z ≠ y) ∧ wp (k (j : Int)) Q E := by
  unfold ixI at h
  by_cases hm : y ∈ xs
  · rw [if_pos hm] at h
    have hlt : xs.findIdx (· == y) < xs.length := List.findIdx_lt_length_of_exists ⟨y, hm, by simp⟩
    refine ⟨_, rfl, ?_, fun m z hmj hz e => ?_, h⟩
    · rw [List.getElem?_eq_getElem hlt]
      have := List.findIdx_getElem (w := hlt)
      rw [eq_of_beq this]
    · have := List.not_of_lt_findIdx hmj
      obtain ⟨hl, hz⟩ := List.getElem?_eq_some_iff.mp hz
      rw [hz, e] at this
      simp at this
  · rw [if_neg hm] at h; exact h.elim
theorem all_flat_int : ∀ xs : List Int, (xs.map V.int).all flatV = true
  | [] => rfl
  | x :: xs => by rw [List.map_cons, List.all_cons, all_flat_int xs]; rfl
theorem int_noeq {xs : List Int} {y : Int} {j : Nat} (h : ∀ (m : Nat) z, m < j → xs[m]? = some z → z ≠ y) : ∀ (m : Nat) (z' : V), m < j → (xs.map V.int)[m]? = some z' → eqV z' (.int y) = false := fun m z' hm hz => by
  rw [List.getElem?_map] at hz
  cases e : xs[m]? with
  | none => rw [e] at hz; cases hz
  | some z =>
    rw [e] at hz
    have hz : V.int z = z' := Option.some.inj hz
    subst hz
    have := h m z hm e
    show (z == y) = false
    simpa using this
theorem int_at {xs : List Int} {y : Int} {j : Nat} (h : xs[j]? = some y) : (xs.map V.int)[j]? = some (.int y) := by rw [List.getElem?_map, h]; rfl
theorem int_eq {y : Int} : eqV (.int y) (.int y) = true := by show (y == y) = true; simp
/-! ### dict(list of pairs), the keys whole numbers -/
section
variable {β : Type} [Py β] {F H : Hp}
def mergeD (xs : List (Int × β)) : List (Int × β) := xs.foldl (fun acc p => dPut acc p.1 p.2) []
theorem merge_rd {kvs : List (Key × V)} {xs : List (Int × β)} (hs : RD F kvs xs) : ∀ {acc : List (Key × V)} {ac : List (Int × β)}, RD F acc ac → RD F (mergeK acc kvs) (xs.foldl (fun acc p => dPut acc p.1 p.2) ac) := by
  induction hs with
  | nil => intro acc ac h; exact h
  | @cons k v y kvs xs hv _ ih =>
    intro acc ac h
    exact ih (h.put k hv)
theorem pairs_of_rl {K : PySem.W.Frag} (s : Same F H) : ∀ {vs : List V} {xs : List (Int × β)}, RL F vs xs → ∃ (ps : List Addr) (kvs : List (Key × V)), vs = ps.map V.ref ∧ Paired (fun p kv => SqT K H p [kV kv.1, kv.2]) ps kvs ∧ RD F kvs xs
  | _, [], h => ⟨[], [], RL.nil_ h, .nil, .nil⟩
  | _, x :: xs, h => by
    obtain ⟨w, ws, rfl, h1, h2⟩ := RL.cons_ h
    obtain ⟨ps, kvs, e, hp, hr⟩ := pairs_of_rl (K := K) s h2
    obtain ⟨p, v1, v2, rfl, hp1, h3, h4⟩ := R.t2_ h1
    rw [R.int_ h3] at hp1
    exact ⟨p :: ps, (.inl x.1, v2) :: kvs, by rw [e]; rfl, .cons (SqT.of (s _ _ hp1)) hp, .cons (k := x.1) h4 hr⟩
end
/-! ### the same rules, the fragment told outright (within a comprehension) -/
section
variable {X : Cx} {K : PySem.W.Frag}
theorem ixTupK (h : X.K = K) : IxR X (rIxT K) := by rw [← h]; exact ix_tup
theorem ixListK (h : X.K = K) : IxR X (rIxL K) := by rw [← h]; exact ix_list
theorem listOfK (h : X.K = K) : CallR X (.type "list") (fun xs H Q => ∃ p ys, xs = [.ref p] ∧ (SqL K H p ys ∨ SqT K H p ys) ∧ ∀ l, H l = none → Q (.ref l) (upd H l (.lst ys))) := by rw [← h]; exact call_list_of
theorem isiK (h : X.K = K) : CallR X (.builtin "isinstance") (rIsi K) := by rw [← h]; exact call_isi
theorem slListK (h : X.K = K) : SlR X (rSlL K) := by rw [← h]; exact sl_list
theorem indexK (h : X.K = K) : MtR X "list.index" (rIndex K) := by rw [← h]; exact mt_index
end
/-! ### enumerate in a comprehension -/
def enumL {b : Type} (xs : List b) : List (Int × b) := xs.zipIdx.map fun p => ((p.2 : Int), p.1)
theorem enumL_get {b : Type} {xs : List b} {i : Nat} {x : b} (h : xs[i]? = some x) : (enumL xs).drop i = ((i : Int), x) :: (enumL xs).drop (i + 1) := by
  apply drop_at
  unfold enumL
  rw [List.getElem?_map, List.getElem?_zipIdx, h]
  simp
theorem enumL_len {b : Type} {xs : List b} : (enumL xs).length = xs.length := by unfold enumL; simp
theorem enumL_end {b : Type} {xs : List b} {vs : List V} (h : vs.length = xs.length) : (enumL xs).drop vs.length = [] := by
  rw [h, ← enumL_len, List.drop_length]
theorem comp_lenE {b : Type} {w vs : List V} {xs : List b} {i : Nat} (la : w.length ≤ i) (hi : i < vs.length) (hl : vs.length = xs.length) (c : (enumL xs).length < 16777216) : w.length < sizeLine := by
  rw [enumL_len] at c
  exact lt_line (by omega)
theorem zip_at {a b : Type} {xs : List a} {ys : List b} {i : Nat} {x : a} {y : b} (h : xs[i]? = some x) (h2 : ys[i]? = some y) : (xs.zip ys).drop i = (x, y) :: (xs.zip ys).drop (i + 1) := by
  apply drop_at
  rw [List.getElem?_zip_eq_some]
  exact ⟨h, h2⟩
theorem zip_end {a b : Type} {xs : List a} {ys : List b} {vs ws : List V} (h : vs.length = xs.length) (h2 : ws.length = ys.length) : (xs.zip ys).drop (min vs.length ws.length) = [] := by
  rw [h, h2, ← List.length_zip, List.drop_length]
theorem comp_lenZ {a b : Type} {w vs ws : List V} {xs : List a} {ys : List b} {i : Nat} (la : w.length ≤ i) (hi : i < min vs.length ws.length) (h : vs.length = xs.length) (h2 : ws.length = ys.length) (c : (xs.zip ys).length < 16777216) : w.length < sizeLine := by
  rw [List.length_zip, ← h, ← h2] at c
  exact lt_line (by omega)
section
variable {X : Cx} {K : PySem.W.Frag}
theorem cr_sumK (hc : X.calm = true) (h : X.K = K) : CallR X (.builtin "sum") (rSum K) := by rw [← h]; exact cr_sum hc
end
end PG

set_option Elab.async false
set_option linter.all false
set_option maxRecDepth 100000
set_option maxHeartbeats 4000000
namespace PG
open PySem PySem.Spec PyProof.Rows L2
open PySem.W (T3 T4 Datum DatumOrd Holds HoldAll EachIs)
variable {K0 : PySem.W.Frag} [KF K0]
/-! ### sums: ("number", n), (word, n), (word,), (word, a, b) -/
inductive Sm where
  | num (w : Str) (n : Int)
  | nam (w : Str)
  | two (w : Str) (a b : Sm)
  deriving DecidableEq
def Sm.d : Sm → PyData
  | .num w n => .tuple [.str w, .int n]
  | .nam w => .tuple [.str w]
  | .two w a b => .tuple [.str w, a.d, b.d]
instance : Py Sm := ⟨Sm.d⟩
def Sm.word : Sm → Str
  | .num w _ => w
  | .nam w => w
  | .two w _ _ => w
def Sm.int? : Sm → Option Int
  | .num _ n => some n
  | _ => none
def Sm.two? : Sm → Option (Sm × Sm)
  | .two _ a b => some (a, b)
  | _ => none
section
variable {F : Hp} {v : V} {p : Addr} {x : Sm}
theorem R.sm_ (h : R F v x) : ∃ p ws, v = .ref p ∧ TupAt F p (V.str x.word :: ws) := by
  cases x with
  | num w n =>
    obtain ⟨p, v1, v2, e, hp, h1, h2⟩ := R.t2T_ (show R (a := Str × Int) F v (w, n) from h)
    rw [R.str_ h1] at hp
    exact ⟨p, [v2], e, hp⟩
  | nam w =>
    have h' : Rep F v (.tuple [.str w]) := h
    cases h' with
    | tup ha hs =>
      cases hs with
      | cons h1 hs =>
        cases hs
        cases h1
        exact ⟨_, _, rfl, ha⟩
  | two w a b =>
    obtain ⟨p, v1, v2, v3, e, hp, h1, h2, h3⟩ := R.t3T_ (show R (a := T3 Str Sm Sm) F v ⟨w, a, b⟩ from h)
    rw [R.str_ h1] at hp
    exact ⟨p, [v2, v3], e, hp⟩
theorem R.sm_int {n : Int} (h : R F v x) (e : x.int? = some n) : ∃ p w, v = .ref p ∧ TupAt F p [V.str w, V.int n] := by
  cases x with
  | num w m =>
    obtain ⟨p, v1, v2, e1, hp, h1, h2⟩ := R.t2T_ (show R (a := Str × Int) F v (w, m) from h)
    rw [R.str_ h1, R.int_ h2] at hp
    have e : some m = some n := e
    cases e
    exact ⟨p, w, e1, hp⟩
  | nam w => cases e
  | two w a b => cases e
theorem R.sm_two {q : Sm × Sm} (h : R F v x) (e : x.two? = some q) : ∃ p w va vb, v = .ref p ∧ TupAt F p [V.str w, va, vb] ∧ R F va q.1 ∧ R F vb q.2 := by
  cases x with
  | num w m => cases e
  | nam w => cases e
  | two w a b =>
    obtain ⟨p, v1, v2, v3, e1, hp, h1, h2, h3⟩ := R.t3T_ (show R (a := T3 Str Sm Sm) F v ⟨w, a, b⟩ from h)
    rw [R.str_ h1] at hp
    have e : some (a, b) = some q := e
    cases e
    exact ⟨p, w, v2, v3, e1, hp, h2, h3⟩
theorem R.of_num {q : Str × Int} (h : R F v q) : R F v (Sm.num q.1 q.2) := h
theorem R.of_two {q : T3 Str Sm Sm} (h : R F v q) : R F v (Sm.two q.a q.b q.c) := h
theorem R.of_nam {w : Str} (h : F p = some (.tup [V.str w])) : R F (.ref p) (Sm.nam w) := Rep.tup (.inl h) (.cons (.str w) .nil)
/-- the module's own tuples -/
theorem R.k_nam {w : Str} (h : KTup K0 p [V.str w]) : R F (.ref p) (Sm.nam w) := Rep.tup (.inr ⟨⟨_, _, rfl⟩, h⟩) (.cons (.str w) .nil)
theorem R.k_num {w : Str} {n : Int} (h : KTup K0 p [V.str w, V.int n]) : R F (.ref p) (Sm.num w n) := Rep.tup (.inr ⟨⟨_, _, rfl⟩, h⟩) (.cons (.str w) (.cons (.int n) .nil))
instance : NoS Sm := ⟨fun x s h => by cases x <;> exact nomatch h⟩
end
/-! ### a whole number or a list of such -/
inductive IL where
  | i (n : Int)
  | l (xs : List Int)
instance : Py IL := ⟨fun
  | .i n => Py.toD n
  | .l xs => Py.toD xs⟩
def IL.i? : IL → Option Int
  | .i n => some n
  | _ => none
def IL.l? : IL → Option (List Int)
  | .l xs => some xs
  | _ => none
section
variable {F : Hp} {v : V}
theorem R.il_i {x : IL} {n : Int} (h : R F v x) (e : x.i? = some n) : R F v n := by
  cases x with
  | i m => have e : some m = some n := e; cases e; exact h
  | l xs => cases e
theorem R.il_l {x : IL} {xs : List Int} (h : R F v x) (e : x.l? = some xs) : R F v xs := by
  cases x with
  | i m => cases e
  | l ys => have e : some ys = some xs := e; cases e; exact h
theorem R.of_i {n : Int} (h : R F v n) : R F v (IL.i n) := h
theorem R.of_l {xs : List Int} (h : R F v xs) : R F v (IL.l xs) := h
end
section
variable {β : Type} [Py β] {F : Hp}
def mergeDS (xs : List (Str × β)) : List (Str × β) := xs.foldl (fun acc p => dPut acc p.1 p.2) []
theorem merge_rdS {kvs : List (Key × V)} {xs : List (Str × β)} (hs : RD F kvs xs) : ∀ {acc : List (Key × V)} {ac : List (Str × β)}, RD F acc ac → RD F (mergeK acc kvs) (xs.foldl (fun acc p => dPut acc p.1 p.2) ac) := by
  induction hs with
  | nil => intro acc ac h; exact h
  | @cons k v y kvs xs hv _ ih =>
    intro acc ac h
    exact ih (h.put k hv)
end
section
variable {X : Cx} {K : PySem.W.Frag} {pos : Pos}
theorem slTupK (h : X.K = K) : SlR X (rSlT K) := by rw [← h]; exact sl_tup
theorem pgLstK (h : X.K = K) {es : List Expr} {k : Nat} {t : TGs} {n : Nat} (hc : X.calm = true) (hp : PGs X es t)
    (hn : (assignEach es X.env).length = n := by rfl) (hst : (assignEach es X.env).findIdx? (·.1) = none := by rfl) : PG X (.Tuple es k pos) (gLst K n t) := by rw [← h]; exact pg_lst hc hp hn hst
end
theorem RL.two {a : Type} [Py a] {F : Hp} {vs : List V} {xs : List a} (h : RL F vs xs) (e : xs.length = 2) : ∃ v1 v2 x1 x2, vs = [v1, v2] ∧ xs = [x1, x2] ∧ R F v1 x1 ∧ R F v2 x2 := by
  match xs, e with
  | [x1, x2], _ =>
    obtain ⟨w, ws, rfl, h1, h2⟩ := RL.cons_ h
    obtain ⟨w2, ws2, rfl, h3, h4⟩ := RL.cons_ h2
    rw [RL.nil_ h4]
    exact ⟨w, w2, x1, x2, rfl, rfl, h1, h3⟩
/-- a list of just two -/
def two2 {a : Type} (xs : List a) : M (a × a) := match xs with
  | [x, y] => .ok (x, y)
  | _ => bad
theorem wp_two2 {a b : Type} {Q : a → Prop} {E : String → Prop} {xs : List b} {k : b × b → M a} (h : wp (two2 xs >>= k) Q E) : ∃ x y, xs = [x, y] ∧ wp (k (x, y)) Q E := by
  match xs, h with
  | [x, y], h => exact ⟨x, y, rfl, h⟩
  | [], h => exact h.elim
  | [_], h => exact h.elim
  | _ :: _ :: _ :: _, h => exact h.elim
theorem sl3 (a b c : V) : ¬ (HT.sIx [a, b, c].length 0 (some (1 : Int)) = 0 ∧ HT.sIx [a, b, c].length [a, b, c].length none = [a, b, c].length) := fun h => absurd h.1 (by show ¬ (HT.sIx 3 0 (some (1 : Int)) = 0); decide)
theorem intB {X : Cx} : CallR X (.type "int") (fun xs H Q => ∃ k, xs = [.bl k] ∧ Q (.int (if k then 1 else 0)) H) := fun pins s σ H xs us Q I r h => call_int1 pins s σ H xs us Q I r (.inr h)
theorem atI0 {a : Type} (x : a) (xs : List a) : L2.atI (x :: xs) (0 : Int) = some x := by
  unfold L2.atI ixN
  rw [if_pos (by omega), if_pos (by rw [List.length_cons]; omega)]
  rfl
end PG

set_option Elab.async false
set_option linter.all false
set_option maxRecDepth 100000
set_option maxHeartbeats 4000000
namespace PG
open PySem PySem.Spec PyProof.Rows L2
open PySem.W (T3 T4 Datum DatumOrd Holds HoldAll EachIs)
variable {K0 : PySem.W.Frag} [KF K0]
/-! ### == of data of any depth, the depth asked outright -/
class DatumX (a : Type) [Py a] [DecidableEq a] : Prop where
  plain : ∀ x : a, (Py.toD x).plain = true
  eqv : ∀ x y : a, PyData.eqv (Py.toD x) (Py.toD y) = decide (x = y)
instance (priority := 50) {a : Type} [Py a] [DecidableEq a] [Datum a] [IsD a] : DatumX a := ⟨fun x => by rw [IsD.eq]; exact Datum.plain x, fun x y => by rw [IsD.eq, IsD.eq]; exact Datum.eqv x y⟩
theorem Sm.pl : ∀ x : Sm, x.d.plain = true
  | .num w n => by simp [Sm.d, PyData.plain, PyData.plainAll]
  | .nam w => by simp [Sm.d, PyData.plain, PyData.plainAll]
  | .two w a b => by simp [Sm.d, PyData.plain, PyData.plainAll, Sm.pl a, Sm.pl b]
theorem ev23 (w w' : Str) (n : PyData) (x y : PyData) : PyData.eqv (.tuple [.str w, n]) (.tuple [.str w', x, y]) = false := by simp [PyData.eqv, PyData.eqvAll]
theorem ev32 (w w' : Str) (n : PyData) (x y : PyData) : PyData.eqv (.tuple [.str w', x, y]) (.tuple [.str w, n]) = false := by simp [PyData.eqv, PyData.eqvAll]
theorem ev13 (w w' : Str) (x y : PyData) : PyData.eqv (.tuple [.str w]) (.tuple [.str w', x, y]) = false := by simp [PyData.eqv, PyData.eqvAll]
theorem ev31 (w w' : Str) (x y : PyData) : PyData.eqv (.tuple [.str w', x, y]) (.tuple [.str w]) = false := by simp [PyData.eqv, PyData.eqvAll]
theorem Sm.ev : ∀ x y : Sm, PyData.eqv x.d y.d = decide (x = y)
  | .num w n, .num w' n' => by
    simp only [Sm.d, PyData.eqv, PyData.eqvAll, Bool.and_true]
    rw [PySem.W.beq_decide, PySem.W.beq_decide, ← Bool.decide_and]
    exact decide_eq_decide.mpr (by rw [Sm.num.injEq])
  | .num w n, .nam w' => by simp [Sm.d, PyData.eqv, PyData.eqvAll]
  | .num w n, .two w' a b => (ev23 w w' (.int n) a.d b.d).trans (by simp)
  | .nam w, .num w' n => by simp [Sm.d, PyData.eqv, PyData.eqvAll]
  | .nam w, .nam w' => by
    simp only [Sm.d, PyData.eqv, PyData.eqvAll, Bool.and_true]
    rw [PySem.W.beq_decide]
    exact decide_eq_decide.mpr (by rw [Sm.nam.injEq])
  | .nam w, .two w' a b => (ev13 w w' a.d b.d).trans (by simp)
  | .two w a b, .num w' n => (ev32 w' w (.int n) a.d b.d).trans (by simp)
  | .two w a b, .nam w' => (ev31 w' w a.d b.d).trans (by simp)
  | .two w a b, .two w' a' b' => by
    simp only [Sm.d, PyData.eqv, PyData.eqvAll, Bool.and_true]
    rw [PySem.W.beq_decide, Sm.ev a a', Sm.ev b b', ← Bool.decide_and, ← Bool.decide_and]
    exact decide_eq_decide.mpr (by rw [Sm.two.injEq])
instance : DatumX Sm := ⟨Sm.pl, Sm.ev⟩
section
variable {a b c d : Type} [Py a] [DecidableEq a] [DatumX a] [Py b] [DecidableEq b] [DatumX b] [Py c] [DecidableEq c] [DatumX c] [Py d] [DecidableEq d] [DatumX d]
theorem plainX : ∀ xs : List a, PyData.plainAll (xs.map Py.toD) = true
  | [] => rfl
  | x :: xs => by
    rw [List.map_cons, PyData.plainAll, DatumX.plain x, plainX xs]
    rfl
theorem eqvX : ∀ xs ys : List a, PyData.eqvAll (xs.map Py.toD) (ys.map Py.toD) = decide (xs = ys)
  | [], [] => by simp only [List.map_nil, PyData.eqvAll, decide_true]
  | [], _ :: _ => by simp [PyData.eqvAll]
  | _ :: _, [] => by simp [PyData.eqvAll]
  | x :: xs, y :: ys => by
    rw [List.map_cons, List.map_cons, PyData.eqvAll, DatumX.eqv x y, eqvX xs ys, ← Bool.decide_and]
    exact decide_eq_decide.mpr (by rw [List.cons.injEq])
instance : DatumX (List a) := ⟨fun xs => by show PyData.plain (.list (xs.map Py.toD)) = true; simp only [PyData.plain]; exact plainX xs, fun xs ys => by show PyData.eqv (.list (xs.map Py.toD)) (.list (ys.map Py.toD)) = _; simp only [PyData.eqv]; exact eqvX xs ys⟩
theorem T4.sm {p q : T4 a b c d} : p = q ↔ p.a = q.a ∧ p.b = q.b ∧ p.c = q.c ∧ p.d = q.d := by
  cases p; cases q
  simp
instance : DatumX (T4 a b c d) := ⟨fun p => by show PyData.plain (.tuple [_, _, _, _]) = true; simp only [PyData.plain, PyData.plainAll, DatumX.plain, Bool.and_self], fun p q => by
  show PyData.eqv (.tuple [_, _, _, _]) (.tuple [_, _, _, _]) = _
  simp only [PyData.eqv, PyData.eqvAll]
  rw [DatumX.eqv, DatumX.eqv, DatumX.eqv, DatumX.eqv, Bool.and_true, ← Bool.decide_and, ← Bool.decide_and, ← Bool.decide_and]
  exact decide_eq_decide.mpr T4.sm.symm⟩
end
def dep {a : Type} [Py a] (x : a) : Nat := (Py.toD x).depth
section
variable {X : Cx} (a : Type) [Py a] [DecidableEq a] [DatumX a]
def rEqX : R2 := fun x y H Q => ∃ p q : a, R H x p ∧ R H y q ∧ min (dep p) (dep q) ≤ 60 ∧ Q (.bl (decide (p = q))) H
def rNeX : R2 := fun x y H Q => ∃ p q : a, R H x p ∧ R H y q ∧ min (dep p) (dep q) ≤ 60 ∧ Q (.bl (decide (p ≠ q))) H
theorem op_eqX (hu : X.A.units + 64 < cLine) (hK : X.K = K0 := by rfl) : OpR X (compareOp .Eq) (rEqX a) := by
  subst hK
  intro pins s σ H x y v u Q I rx ry h
  obtain ⟨p, q, hp, hq, hd, k⟩ := h
  obtain ⟨as, ra⟩ := Dp.reads I _ _ _ (Rep.dp _ _ hp) rx
  obtain ⟨bs, rb⟩ := Dp.reads I _ _ _ (Rep.dp _ _ hq) ry
  have hd' : min (Py.toD p).depth (Py.toD q).depth ≤ 60 := hd
  exact PySem.SeqAt.eq_plain ra rb (DatumX.plain p) (DatumX.plain q) (by omega) (by rw [DatumX.eqv p q]; exact ⟨.bl _, H, I, rfl, k⟩)
theorem op_neX (hu : X.A.units + 64 < cLine) (hK : X.K = K0 := by rfl) : OpR X (compareOp .NotEq) (rNeX a) := by
  subst hK
  intro pins s σ H x y v u Q I rx ry h
  obtain ⟨p, q, hp, hq, hd, k⟩ := h
  obtain ⟨as, ra⟩ := Dp.reads I _ _ _ (Rep.dp _ _ hp) rx
  obtain ⟨bs, rb⟩ := Dp.reads I _ _ _ (Rep.dp _ _ hq) ry
  have hd' : min (Py.toD p).depth (Py.toD q).depth ≤ 60 := hd
  exact PySem.SeqAt.ne_plain ra rb (DatumX.plain p) (DatumX.plain q) (by omega) (by rw [DatumX.eqv p q, ← decide_not]; exact ⟨.bl _, H, I, rfl, k⟩)
end
/-! ### a tuple of things of one kind, of any length -/
structure Tp (a : Type) where
  l : List a
instance {a : Type} [Py a] : Py (Tp a) := ⟨fun t => .tuple (t.l.map Py.toD)⟩
section
variable {a : Type} [Py a] {F : Hp} {v : V}
theorem R.tp_ {x : Tp a} (h : R F v x) : ∃ p vs, v = .ref p ∧ TupAt F p vs ∧ RL F vs x.l := by
  have h' : Rep F v (.tuple (x.l.map Py.toD)) := h
  cases h' with
  | tup ha hs => exact ⟨_, _, rfl, ha, hs⟩
theorem R.tp2 {q : a × a} (h : R F v q) : R F v (Tp.mk [q.1, q.2]) := h
theorem R.tp3 {q : T3 a a a} (h : R F v q) : R F v (Tp.mk [q.a, q.b, q.c]) := h
theorem R.tp1 {w : Str} (h : R F v (Sm.nam w)) : R F v (Tp.mk [w]) := h
end
end PG

set_option Elab.async false
set_option linter.all false
set_option maxRecDepth 100000
set_option maxHeartbeats 4000000
namespace PG
open PySem PySem.Spec PyProof.Rows L2
open PySem.W (T3 T4 Datum DatumOrd Holds HoldAll EachIs)
variable {K0 : PySem.W.Frag} [KF K0]
/-! ### dict(a list of pairs), the keys tuples -/
def mergeT (kvs more : List (List Key × V)) : List (List Key × V) := more.foldl (fun m q => putK m q.1 q.2) kvs
theorem mergeT_kt {H : Hp} {kvs : List (List Key × V)} {xs : List (List Key × Addr × Value)} (r : KT H kvs xs) : ∀ {m : List (List Key × V)} {ms : List (List Key × Addr × Value)}, KT H m ms →
    KT H (mergeT m kvs) (storedAllH ms xs) := by
  induction r with
  | nil => intro m ms h; exact h
  | @cons p q ps qs h t ih =>
    intro m ms hm
    obtain ⟨e, hb, rv⟩ := h
    have := ih (KT.put hm q.1 (b := q.2.1) (by rw [← e]; exact hb) rv)
    unfold mergeT storedAllH at *
    rw [List.foldl_cons, List.foldl_cons, e]
    exact this
def PairT (K : PySem.W.Frag) (H : Hp) (p : Addr × Addr) (q : List Key × V) : Prop := SqT K H p.1 [.ref p.2, q.2] ∧ H p.2 = some (.tup (q.1.map kV))
theorem kt_at {H : Hp} {kvs : List (List Key × V)} {xs : List (List Key × Addr × Value)} (r : KT H kvs xs) : ∀ x ∈ xs, H x.2.1 = some (.tup (x.1.map kV)) := by
  induction r with
  | nil => exact fun x hx => nomatch hx
  | cons h _ ih => intro x hx; rcases List.mem_cons.mp hx with rfl | hx; · rw [← h.1]; exact h.2.1
                   · exact ih x hx
theorem ne_of_none {H : Hp} {b c : Addr} {o : HO} (e : H c = some o) (n : H b = none) : c ≠ b := fun z => by rw [z, n] at e; exact nomatch e
section
variable {X : Cx}
theorem tripT {pins : List (Addr × Obj)} {σ : L2.St} {H : Hp} {s : Shared} (I : Inv X pins σ H s) {ps : List (Addr × Addr)} {kvs : List (List Key × V)} (h : Paired (PairT X.K H) ps kvs) :
    ∃ xs : List (List Key × Addr × Value), KT H kvs xs ∧ xs.length = ps.length ∧ ∀ (j : Nat) q, xs[j]? = some q → ∃ b, ps[j]? = some b ∧ b.2 = q.2.1 ∧ IsTup s.heap b.1 #[.ref q.2.1, q.2.2] := by
  induction h with
  | nil => exact ⟨[], .nil, rfl, fun j q e => by simp at e⟩
  | @cons p kv ps' kvs' h t ih =>
    obtain ⟨xs, r, hl, hx⟩ := ih
    obtain ⟨h1, h2⟩ := h
    obtain ⟨its, rv, ht, _⟩ := I.tuple h1
    obtain ⟨u, y, ei, ru, ry⟩ := vals2 rv
    subst ei
    cases ru
    refine ⟨(kv.1, p.2, y) :: xs, .cons ⟨rfl, h2, ry⟩ r, by simp [hl], fun j q e => ?_⟩
    cases j with
    | zero =>
      have e' : (kv.1, p.2, y) = q := Option.some.inj e
      subst e'
      exact ⟨p, rfl, rfl, ht⟩
    | succ j => exact (hx j q (by simpa using e)).imp fun b z => ⟨by simpa using z.1, z.2⟩
theorem refs_pT : ∀ {ps : List (Addr × Addr)} {us : List Value}, Vals (ps.map fun p => V.ref p.1) us → us = ps.map fun p => Value.ref p.1
  | [], us, r => by rw [List.map_nil] at r; cases r; rfl
  | p :: ps, us, r => by
    rw [List.map_cons] at r
    cases r with
    | cons h t => cases h; rw [List.map_cons, ← refs_pT t]
theorem call_dictT (hcalm : X.calm = true) (hu : X.A.units + 64 < cLine) : CallR X (.type "dict") (fun xs H Q => ∃ (a : Addr) (ps : List (Addr × Addr)) (kvs : List (List Key × V)), xs = [.ref a] ∧
    SqL X.K H a (ps.map fun p => V.ref p.1) ∧ Paired (PairT X.K H) ps kvs ∧ ∀ p, H p = none → Q (.ref p) (upd H p (.dT (mergeT [] kvs)))) := by
  intro pins s σ H zs us Q I r q
  obtain ⟨a, ps, kvs, ez, hq, hp, q⟩ := q
  subst ez
  obtain ⟨u, eu, rx⟩ := vals1 r
  subst eu
  cases rx
  obtain ⟨its, rv, pl, hz⟩ := I.list hq
  have ei := refs_pT rv
  subst ei
  obtain ⟨xs, rel, hl, hx⟩ := tripT I hp
  obtain ⟨o, n, ho, hc, hd, hdat⟩ := pl
  have hz' : ps.length ≤ sizeLine := by simpa using hz
  have hkey : ∀ x ∈ xs, (tupleKind (mixKind X.prog X.w)).is s.heap x.1 x.2.1 := fun x hxm => key_of I.hok (kt_at rel x hxm)
  have hps : ∀ (j : Nat) (k v : Value), (xs.map fun x => (Value.ref x.2.1, x.2.2))[j]? = some (k, v) → ∃ q, xs[j]? = some q ∧ k = .ref q.2.1 ∧ v = q.2.2 := fun j k v e => by
    rw [List.getElem?_map] at e
    cases hq' : xs[j]? with
    | none => rw [hq'] at e; exact nomatch e
    | some q' => rw [hq'] at e; cases e; exact ⟨q', rfl, rfl, rfl⟩
  refine call_dict_pairsH (knd := tupleKind (mixKind X.prog X.w)) (ps := xs)
    (PairArg.list a _ (fun j => ((ps[j]?).map (·.1)).getD 0) (xs.map fun x => (Value.ref x.2.1, x.2.2))) (I.ok.hd hcalm) (show X.A.units + 1 + 1 < cLine by omega)
    ⟨⟨o, n, ho, hc, hd, hdat⟩, ⟨by simp [hl], fun j k v e => ?_⟩⟩ ⟨by simp, fun i k v e => ?_⟩ (fun h' hk x hxm => ?_) (by simpa [hl] using hz') fun h' tk hd' hk => ?_
  · obtain ⟨q', e1, rfl, rfl⟩ := hps j k v e
    obtain ⟨b, e2, _, ht⟩ := hx j q' e1
    have e3 : ((ps[j]?).map (·.1)).getD 0 = b.1 := by rw [e2]; rfl
    show _ ∧ PairAt s.heap (((ps[j]?).map (·.1)).getD 0) _ _
    rw [e3]
    exact ⟨by show _ = some (Value.ref (((ps[j]?).map (·.1)).getD 0)); rw [e3]; simp [e2], .inl ht⟩
  · obtain ⟨q', e1, rfl, rfl⟩ := hps i k v e
    exact ⟨q'.1, q'.2.1, e1, rfl⟩
  · obtain ⟨o', its', n', h1, h2⟩ := hkey x hxm
    exact ⟨o', its', n', hk _ _ (Nat.ne_of_lt (Heap.lt_size h1)) (fun z => nomatch z) h1, h2⟩
  · have hm : (s.heap.objs.size == sysModules) = false := beq_eq_false_iff_ne.mpr (Nat.ne_of_gt I.big)
    have hlen : (mergeT [] kvs).length ≤ sizeLine := by
      have h1 := Paired.length (mergeT_kt rel (m := []) (ms := []) .nil)
      have h2 := storedAllH_length xs ([] : List (List Key × Addr × Value))
      rw [List.length_nil, Nat.zero_add] at h2
      rw [h1]
      exact Nat.le_trans h2 (by rw [hl]; exact hz')
    obtain ⟨q', es, ep, g1, g2, g3, g4, _, g5⟩ := hd'
    refine ⟨.ref s.heap.objs.size, upd H s.heap.objs.size (.dT (mergeT [] kvs)), I.laid (t' := tk) (fun b o' e => hk b o' (fun z => nomatch z) e) (Nat.le_refl _) ⟨hlen, hm, _, (mergeT_kt rel .nil).keeps fun c ys ec => ?_, q', es, ep, g1, g2, g3, g4, g5⟩,
      rfl, q _ (I.hok.fresh (Nat.le_refl _))⟩
    rw [upd_ne (ne_of_none ec (I.hok.fresh (Nat.le_refl _)))]
    exact ec
end
section
variable {β : Type} [Py β] {F H : Hp}
def mergeDT (xs : List ((Int × Int) × β)) : List ((Int × Int) × β) := xs.foldl (fun m p => dPut m p.1 p.2) []
theorem mergeT_rd {kvs : List (List Key × V)} {xs : List ((Int × Int) × β)} (hs : RD F kvs xs) : ∀ {m : List (List Key × V)} {ms : List ((Int × Int) × β)}, RD F m ms → RD F (mergeT m kvs) (xs.foldl (fun m p => dPut m p.1 p.2) ms) := by
  induction hs with
  | nil => intro m ms h; exact h
  | @cons k v y kvs xs hv _ ih =>
    intro m ms h
    exact ih (h.put k hv)
theorem pairsT_of_rl {K : PySem.W.Frag} (s : Same F H) : ∀ {vs : List V} {xs : List ((Int × Int) × β)}, RL F vs xs → ∃ (ps : List (Addr × Addr)) (kvs : List (List Key × V)),
    vs = (ps.map fun p => V.ref p.1) ∧ Paired (PairT K H) ps kvs ∧ RD F kvs xs
  | _, [], h => ⟨[], [], RL.nil_ h, .nil, .nil⟩
  | _, x :: xs, h => by
    obtain ⟨w, ws, rfl, h1, h2⟩ := RL.cons_ h
    obtain ⟨ps, kvs, e, hp, hr⟩ := pairsT_of_rl (K := K) s h2
    obtain ⟨p, v1, v2, rfl, hp1, h3, h4⟩ := R.t2_ h1
    obtain ⟨b, w1, w2, rfl, hb, h5, h6⟩ := R.t2_ h3
    rw [R.int_ h5, R.int_ h6] at hb
    exact ⟨(p, b) :: ps, ([.inl x.1.1, .inl x.1.2], v2) :: kvs, by rw [e]; rfl, .cons ⟨SqT.of (s _ _ hp1), s _ _ hb⟩ hp, .cons (k := x.1) h4 hr⟩
end
/-! ### max and min of a list -/
def mxI : List Int → Option Int
  | [] => none
  | x :: xs => match mxI xs with
    | none => some x
    | some m => some (if m < x then x else m)
def mnI : List Int → Option Int
  | [] => none
  | x :: xs => match mnI xs with
    | none => some x
    | some m => some (if x < m then x else m)
theorem mxI_none : ∀ {xs : List Int}, mxI xs = none → xs = []
  | [], _ => rfl
  | x :: xs, h => by
    unfold mxI at h
    cases e : mxI xs <;> rw [e] at h <;> exact nomatch h
theorem mnI_none : ∀ {xs : List Int}, mnI xs = none → xs = []
  | [], _ => rfl
  | x :: xs, h => by
    unfold mnI at h
    cases e : mnI xs <;> rw [e] at h <;> exact nomatch h
theorem mxI_is : ∀ {xs : List Int} {m : Int}, mxI xs = some m → m ∈ xs ∧ ∀ y ∈ xs, y ≤ m
  | [], _, h => nomatch h
  | x :: xs, m, h => by
    unfold mxI at h
    cases e : mxI xs with
    | none =>
      rw [e] at h
      cases h
      rw [mxI_none e]
      exact ⟨List.mem_cons_self, fun y hy => by rw [List.mem_singleton.mp hy]; exact Int.le_refl _⟩
    | some n =>
      rw [e] at h
      obtain ⟨h1, h2⟩ := mxI_is e
      have h : (if n < x then x else n) = m := Option.some.inj h
      by_cases z : n < x
      · rw [if_pos z] at h
        subst h
        refine ⟨List.mem_cons_self, fun y hy => ?_⟩
        rcases List.mem_cons.mp hy with hy | hy
        · omega
        · have := h2 y hy; omega
      · rw [if_neg z] at h
        subst h
        refine ⟨List.mem_cons_of_mem _ h1, fun y hy => ?_⟩
        rcases List.mem_cons.mp hy with hy | hy
        · omega
        · exact h2 y hy
theorem mnI_is : ∀ {xs : List Int} {m : Int}, mnI xs = some m → m ∈ xs ∧ ∀ y ∈ xs, m ≤ y
  | [], _, h => nomatch h
  | x :: xs, m, h => by
    unfold mnI at h
    cases e : mnI xs with
    | none =>
      rw [e] at h
      cases h
      rw [mnI_none e]
      exact ⟨List.mem_cons_self, fun y hy => by rw [List.mem_singleton.mp hy]; exact Int.le_refl _⟩
    | some n =>
      rw [e] at h
      obtain ⟨h1, h2⟩ := mnI_is e
      have h : (if x < n then x else n) = m := Option.some.inj h
      by_cases z : x < n
      · rw [if_pos z] at h
        subst h
        refine ⟨List.mem_cons_self, fun y hy => ?_⟩
        rcases List.mem_cons.mp hy with hy | hy
        · omega
        · have := h2 y hy; omega
      · rw [if_neg z] at h
        subst h
        refine ⟨List.mem_cons_of_mem _ h1, fun y hy => ?_⟩
        rcases List.mem_cons.mp hy with hy | hy
        · omega
        · exact h2 y hy
theorem mxI_uq {xs : List Int} {m n : Int} (h : mxI xs = some m) (h1 : n ∈ xs) (h2 : ∀ y ∈ xs, y ≤ n) : m = n := by
  have a := mxI_is h
  have b := a.2 n h1
  have c := h2 m a.1
  omega
theorem mnI_uq {xs : List Int} {m n : Int} (h : mnI xs = some m) (h1 : n ∈ xs) (h2 : ∀ y ∈ xs, n ≤ y) : m = n := by
  have a := mnI_is h
  have b := a.2 n h1
  have c := h2 m a.1
  omega
section
variable {X : Cx} {K : PySem.W.Frag}
theorem cr_maxK (hc : X.calm = true) (h : X.K = K) : CallR X (.builtin "max") (rMax K) := by rw [← h]; exact cr_max hc
theorem cr_minK (hc : X.calm = true) (h : X.K = K) : CallR X (.builtin "min") (rMin K) := by rw [← h]; exact cr_min hc
end
end PG

set_option Elab.async false
set_option linter.all false
set_option maxRecDepth 100000
set_option maxHeartbeats 4000000
namespace PG
open PySem PySem.Spec PyProof.Rows L2
open PySem.W (T3 T4 Datum DatumOrd Holds HoldAll EachIs)
variable {K0 : PySem.W.Frag} [KF K0]
/-! ### an exception that was caught and is kept: tracked from then on -/
def excAt (cls : Value) (d : Option Addr) (a : Addr) : Heap → Prop := fun h => ∃ o vs, h.get? a = some o ∧ Zc cls d o ∧ o.data = .fields vs
def excO (cls : Value) (d : Option Addr) (a : Addr) : HO := .ext (excAt cls d a)
section
variable {X : Cx} {pins : List (Addr × Obj)} {σ : L2.St} {H : Hp} {s : Shared}
theorem adopt {a : Addr} {cls : Value} {d : Option Addr} (I : L2.Inv X pins σ H s) (ha : H a = none) (hp : excAt cls d a s.heap) (h0 : X.s_0.heap.get? a = none) (nL : a ≠ X.env.locals) (np : ∀ p ∈ X.pn ++ pins, p.1 ≠ a) :
    L2.Inv X pins σ (upd H a (excO cls d a)) s := by
  obtain ⟨o, vs, ho, hz, hd⟩ := id hp
  have keep : ∀ {b : Addr} {u : HO}, H b = some u → upd H a (excO cls d a) b = some u := fun {b u} q => (upd_ne (ne_of_none q ha)).trans q
  have bare : ∀ {b : Addr}, b ≠ a → H b = none → upd H a (excO cls d a) b = none := fun {b} z q => (upd_ne z).trans q
  refine ⟨I.ok, I.os, I.bare, ⟨I.base.keep, I.base.slot, fun b u q n hx => bare (fun z => ?_) (I.base.free b u q n hx), I.base.there, fun b xs q => keep (I.base.tups b xs q), fun b u v q => keep (I.base.frzs b u v q), fun b ps q => ?_⟩, I.loc, I.cell, bare (Ne.symm nL) I.free, fun y k e => bare (fun z => ?_) (I.freeC y k e), fun p hq => ?_, ?_, I.len⟩
  · rw [z, h0] at q; exact nomatch q
  · obtain ⟨more, r⟩ := I.base.tbls b ps q
    exact ⟨more, keep r⟩
  · obtain ⟨v, w, hw, hv⟩ := I.cell y k e
    rw [z, ho] at hw
    cases hw
    rw [hd] at hv
    exact nomatch hv
  · obtain ⟨q1, q2, q3⟩ := I.pin p hq
    exact ⟨q1, bare (np p hq) q2, q3⟩
  · exact L2.HOk.laidN I.hok (fun _ _ q => q) ha ⟨hp, ⟨o, ho⟩, fun g1 g2 x k => x.imp fun o' y => y.imp fun vs' z => ⟨k _ z.1, z.2⟩⟩
end
/-- what the clause 'except x as n', whose suite keeps the exception, wishes -/
def wKeep (K : PySem.W.Frag) (c : Value) (i : Nat) (ts : Addr → TS) (out : WX) (D : Ends) : WX := fun cls d σ H =>
  ∃ b, PySem.W.exmOne K cls c = some b ∧ (b = true → ∀ a, H a = none → ts a { nx := fun σ' H' => D.nx (σ'.set i none) (upd H' a (excO cls d a)), rt := fun _ _ => False, bk := fun _ _ => False, ct := fun _ _ => False } (σ.set i (some (.ref a))) H) ∧ (b = false → out cls d σ H)
section
variable {X : Cx} {x n : Str} {c : Value} {i : Nat} {body suite : List Stmt} {b1 : Stmt} {np q1 q2 : Pos} {tb : WX → TS} {ts : Addr → TS} {out : WX}
theorem ps_try_keep (hs : X.stack = X.env :: X.outer) (hf : X.env.frame = some X.env.locals) (hex : X.ex = []) (hN : X.N.Nodup) (hi : X.N[i]? = some n) (hl : X.env.kindOf n = some .local) (hc : Names X x c) (tk : Takes X out)
    (hb : ∀ (W : WX) (pn : List (Addr × Obj)) (xe : Value → Shared → Prop), Takes (X.tr pn xe) W → PassesOwn (model X.prog X.w) X.A X.env xe → PSs (X.tr pn xe) body (tb W))
    (hsu : ∀ (a : Addr) (o : Obj) (pn : List (Addr × Obj)), PSs (X.suite a ((a, o) :: pn)) (b1 :: suite) (ts a)) :
    PS X (.Try body [.ExceptHandler (some (.Name x np)) (some n) (b1 :: suite) q1] [] [] q2) (fun D σ H => tb (wKeep X.K c i ts out D) D σ H) := by
  refine ⟨fun pins s σ H D I wish => wpAny_Try_except ?_⟩
  have ok := I.ok
  have hfr : X.A.frames = some (X.env :: X.outer) := ok.frames.trans (by rw [hs])
  have run := (hb (wKeep X.K c i ts out D) (X.pn ++ pins) (fun e g1 => wpAny (model X.prog X.w) X.A (noteFrame e X.env) (fun _ g2 => wpAny (model X.prog X.w) X.A (setFlight e none)
    (fun _ g3 => wpAny (model X.prog X.w) X.A (handleBy e X.env [.ExceptHandler (some (.Name x np)) (some n) (b1 :: suite) q1]) (SP X pins D) X.xe g3) X.xe g2) X.xe g1)
    (fun u g ⟨a, B, sI, ps, τ, G, cls, d, eu, J0, nb, up, sky, na, eos, ag, b, hb1, yes, no⟩ => by
      subst eu
      have J : L2.Inv X pins τ G sI := J0.ofTry ok
      show wpAny (model X.prog X.w) X.A (noteFrame (.ref a) X.env) _ _ _
      refine Sky.land Zc.steady hfr hf (show Sky B (X.env :: X.outer) a (Zc cls d) X.env.locals g.heap by rw [← hs]; exact sky) fun k1 fl1 up1 => ?_
      have J1 : L2.Inv X pins τ G { g with heap := k1 } := J.landed nb fl1.1 (up.trans up1) eos ag
      obtain ⟨o1, vs1, ho1, hz1, hd1⟩ := fl1.there
      have off : a ∉ frs (X.env :: X.outer) := fun hm => by
        obtain ⟨_, o', eo, hnf⟩ := fl1.2.2.1.mem hm
        rw [ho1] at eo
        cases eo
        exact hnf _ hd1
      have nL : a ≠ X.env.locals := fun z => off (List.mem_filterMap.mpr ⟨X.env, List.mem_cons_self, by rw [hf, z]⟩)
      have nF : a ∉ X.fs := fun hm => by
        obtain ⟨e, he, q⟩ := List.mem_filterMap.mp hm
        exact off (List.mem_filterMap.mpr ⟨e, List.mem_cons_of_mem _ he, q⟩)
      have young : ∀ o, sI.heap.get? a ≠ some o := fun o q => by
        have z := nb a o q (by rw [hs]; exact off)
        rw [fl1.2.1] at z
        exact nomatch z
      have h0 : X.s_0.heap.get? a = none := by
        cases q : X.s_0.heap.get? a with
        | none => rfl
        | some o =>
          obtain ⟨o', z⟩ := J.base.there a o q (by rw [hex]; exact fun z => nomatch z)
          exact (young _ z).elim
      have offp : ∀ p ∈ X.pn ++ pins, p.1 ≠ a := fun p hp z => young p.2 (by rw [← z]; exact (J.pin p hp).1)
      have S1 := J1.suite ho1 hd1 na nL nF
      refine wpAny_handleBy_cons (codeAny_handlers_test ?_) (fun q => nomatch q)
      have look : PySem.W.Looks (model X.prog X.w) k1 (typeOf (.ref a)) cls := fun _ _ _ _ k q => wpAny_typeOf_ref (k _ _ ho1) (by rw [hz1.1]; exact q)
      have match_ := PySem.W.exm_one (M := model X.prog X.w) J1.kIn look hb1
      have named : ∀ {Q : Value → Shared → Prop} {E : Value → Shared → Prop}, Q c { g with heap := k1 } → wpAny (model X.prog X.w) (X.A.mark (some (.ref a))) (eval (.Name x np) X.env) Q E { g with heap := k1 } := fun {Q E} q => by
        obtain ⟨hg, hdbg, hm | ⟨hm, hv, hnn⟩⟩ := hc
        · exact ld_glob (X := X.suite a ((a, o1) :: (X.pn ++ pins))) S1 hg hm q hdbg
        · exact ld_blt (X := X.suite a ((a, o1) :: (X.pn ++ pins))) S1 hg hm hv q hnn hdbg
      refine named (match_.here ?_)
      cases b with
      | true =>
        refine codeAny_handlers_suite_as (HandSPX.lands_againZ fl1 fun k2 fl2 up2 => ?_)
        have J2 : L2.Inv X pins τ G { g with heap := k2 } := J.landed nb fl2.1 ((up.trans up1).trans up2) eos ag
        obtain ⟨o2, vs2, ho2, hz2, hd2⟩ := fl2.there
        refine store_ok (X := X.suite a ((a, o2) :: (X.pn ++ pins))) (v := .ref a) (J2.suite ho2 hd2 na nL nF) hN hi (.inl hl) rfl (fun g5 S5 => ?_) (.inr hl)
        refine wpAny_mono ((hsu a o2 (X.pn ++ pins)).run [] g5 _ G _ S5 (yes rfl a na)) (fun f g6 hsp => ?_) (fun _ _ z => z.elim)
        cases f with
        | next =>
          obtain ⟨τ6, G6, S6, q6⟩ := hsp
          refine gone_ok (X := X.suite a ((a, o2) :: (X.pn ++ pins))) S6 hN hi hl fun g7 S7 => ?_
          obtain ⟨hget, hn7, _⟩ := S7.pin (a, o2) (List.mem_append_left _ List.mem_cons_self)
          exact ⟨_, _, adopt (S7.unsuite ok) hn7 ⟨o2, vs2, hget, hz2, hd2⟩ h0 nL offp, q6⟩
        | brk => obtain ⟨_, _, _, q6⟩ := hsp; exact q6.elim
        | cont => obtain ⟨_, _, _, q6⟩ := hsp; exact q6.elim
        | ret u => obtain ⟨_, _, _, _, _, q6⟩ := hsp; exact q6.elim
      | false =>
        refine wpAny_handleBy_nil ?_
        obtain ⟨_, _, _, o3, vs3, T, oT, ts3, he, hz, hd, h1, hr⟩ := id fl1
        unfold PySem.passOn
        refine wpAny_bind (wpAny_field he hd h1 ?_)
        rw [if_neg (by simp : ¬ ((Value.ref T == Value.none) = true))]
        have up_ : wpAny (model X.prog X.w) X.A (setFlight (.ref a) X.env.frame) (fun _ g4 => wpAny (model X.prog X.w) X.A (throw (.ref a) : Sem Flow) (SP X pins D) X.xe g4) X.xe { g with heap := k1 } := by
          rw [hf]
          exact HandSPX.setFlight_upZ fl1 fun k2 fl2 up2 => wpAny_throw (tk _ _ ⟨a, B, sI, pins, τ, G, cls, d, rfl, J, nb, (up.trans up1).trans up2, .inr (.inr (by rw [hs]; exact fl2)), na, eos, ag, no rfl⟩)
        first
          | exact wpAny_bind up_
          | exact wpAny_bind (wpAny_pure (wpAny_bind up_)))
    PassesOwn.looking).run [] s σ H D (I.toTry _) wish
  refine wpAny_mono run (fun f g hsp => ?_) (fun _ _ z => z)
  cases f with
  | next => obtain ⟨τ, G, J, q⟩ := hsp; exact wpAny_execs_nil ⟨τ, G, J.ofTry ok, q⟩
  | brk => obtain ⟨τ, G, J, q⟩ := hsp; exact ⟨τ, G, J.ofTry ok, q⟩
  | cont => obtain ⟨τ, G, J, q⟩ := hsp; exact ⟨τ, G, J.ofTry ok, q⟩
  | ret u => obtain ⟨v, τ, G, J, r, q⟩ := hsp; exact ⟨v, τ, G, J.ofTry ok, r, q⟩
end
/-! ### isinstance of what was caught -/
section
variable {X : Cx}
theorem inst_of {a D : Addr} {h : Heap} (x : excAt (.ref D) none a h) : ∃ o, PySem.W.InstAt h a o D none := by
  obtain ⟨⟨oc, od, oda, osl⟩, vs, hg, ⟨h1, h2⟩, h3⟩ := x
  dsimp only at h1 h2 h3
  subst h1 h2 h3
  exact ⟨_, hg, rfl, rfl, trivial⟩
/-- whose class is t: what was caught, or a value of a built-in type -/
inductive KX (K : PySem.W.Frag) (H : Hp) : V → Value → Prop where
  | exc {a D : Addr} (e : H a = some (excO (.ref D) none a)) (c : ExcC K D) : KX K H (.ref a) (.ref D)
  | base {x : V} {t : Value} (h : TyX K H x t) : KX K H x t
theorem kx_of {pins : List (Addr × Obj)} {σ : L2.St} {H : Hp} {s : Shared} {x : V} {u t : Value} (I : L2.Inv X pins σ H s) (rx : RelV x u) (k : KX X.K H x t) : ∃ P : Heap → Prop, PySem.W.KitX X.K u t P ∧ P s.heap ∧ u ≠ .builtin "__main__.__loader__#opaque" := by
  cases k with
  | @exc a D e C =>
    cases (show u = Value.ref a from rx)
    obtain ⟨o, J⟩ := inst_of (show excAt (.ref D) none a s.heap from (I.hok a _ e).1)
    exact ⟨_, PySem.W.handS_kitx_exc C.hg C.hk C.hs C.hd C.ha C.hn C.ht C.hm, J, fun z => nomatch z⟩
  | base h => exact kit_of I rx h
def rIsU (K : PySem.W.Frag) : List V → Hp → VK → Prop := fun xs H Q => ∃ (x c : V) (t u : Value) (b : Bool), xs = [x, c] ∧ ClsV c u ∧ KX K H x t ∧ PySem.W.kitOne K t u = some b ∧ Q (.bl b) H
theorem isuK {K : PySem.W.Frag} (hK : X.K = K) : CallR X (.builtin "isinstance") (rIsU K) := by
  subst hK
  intro pins s σ H xs us Q I r ⟨x, c, t, u, b, ex, hc, k, e, q⟩
  subst ex
  obtain ⟨u1, u2, rfl, r1, r2⟩ := vals2 r
  cases hc.eq r2
  obtain ⟨P, Z, p, hx⟩ := kx_of I r1 k
  exact PySem.W.kia_one Z I.kIn p e hx fun tk => ⟨.bl b, H, I.tok tk, rfl, q⟩
def rIsUT (K : PySem.W.Frag) : List V → Hp → VK → Prop := fun xs H Q => ∃ (x : V) (tp : Addr) (cs : List V) (t : Value) (ws : List Value) (b : Bool), xs = [x, .ref tp] ∧ H tp = some (.tup cs) ∧ Paired ClsV cs ws ∧ KX K H x t ∧ PySem.W.kitAny K t ws = some b ∧ Q (.bl b) H
theorem isutK {K : PySem.W.Frag} (hK : X.K = K) : CallR X (.builtin "isinstance") (rIsUT K) := by
  subst hK
  intro pins s σ H xs us Q I r ⟨x, tp, cs, t, ws, b, ex, hT, hc, k, e, q⟩
  subst ex
  obtain ⟨u1, u2, rfl, r1, r2⟩ := vals2 r
  cases (show u2 = Value.ref tp from r2)
  obtain ⟨P, Z, p, hx⟩ := kx_of I r1 k
  obtain ⟨_, its, rv, ⟨oc, od, dt, sl⟩, h1, h2, n, h3⟩ := (show ObjOk X.prog X.w H s.heap tp (.tup cs) from I.hok tp _ hT)
  have e3 := ClsV.all hc rv
  subst e3
  dsimp only at h2 h3
  subst h2 h3
  exact PySem.W.kia_tup Z I.kIn p h1 e hx fun tk => ⟨.bl b, H, I.tok tk, rfl, q⟩
end
theorem kit_own {K : PySem.W.Frag} {t : Value} {C : Addr} {b : Bool} (hd : PySem.W.hasDictIn K C = true) (ht : PySem.W.typeIn K (.ref C) = some (.type "type")) (hs : PySem.W.subIn K t (.ref C) = some b) (ho : PySem.W.subIn K (.ref C) (.ref C) = some true) : PySem.W.kitOne K t (.ref C) = some b := by
  obtain ⟨cd, hc, _⟩ := PySem.W.any_some hd
  unfold PySem.W.kitOne PySem.W.kitCls
  by_cases z : (t == .ref C) = true
  · rw [if_pos z]
    have z := beq_iff_eq.mp z
    subst z
    exact ho.symm.trans hs
  · rw [if_neg z]
    show (if ((PySem.W.clsIn K C).isSome && PySem.W.typeIn K (.ref C) == some (.type "type")) = true then _ else _) = _
    rw [if_pos (by rw [hc, ht]; rfl)]
    exact hs
theorem kit_blt {K : PySem.W.Frag} {D : Addr} {T : String} {b : Bool} (hm : PySem.W.kitMeta T = true) (hs : PySem.W.subIn K (.ref D) (.type T) = some b) : PySem.W.kitOne K (.ref D) (.type T) = some b := by
  unfold PySem.W.kitOne PySem.W.kitCls
  rw [if_neg (by simp)]
  show (if PySem.W.kitMeta T = true then _ else _) = _
  rw [if_pos hm]
  exact hs
theorem any_no {K : PySem.W.Frag} {t c : Value} {cs : List Value} {r : Bool} (h : PySem.W.kitOne K t c = some false) (hr : PySem.W.kitAny K t cs = some r) : PySem.W.kitAny K t (c :: cs) = some r := kitAny_cons h (fun _ => hr) fun z => nomatch z
theorem any_yes {K : PySem.W.Frag} {t c : Value} {cs : List Value} (h : PySem.W.kitOne K t c = some true) : PySem.W.kitAny K t (c :: cs) = some true := kitAny_cons h (fun z => nomatch z) fun _ => rfl
/-! ### a call within a try -/
def tCallW (sp : Sp) (W : WX) (t : TA) : TE := fun σ H Q => t σ H fun vs H1 => sp vs H1 Q fun cls d H' => W cls d σ H'
theorem pe_callW {X : Cx} {k : Nat} {f : Addr} {fd : FuncData} {ps : List Str} {sp : Sp} {W : WX} {x : Str} {p pos : Pos} {e : Expr} {es : List Expr} {t : TA} (F : FnOk X.prog X.w X.K X.mg X.base (L2.CX X.prog X.w) k f fd ps sp) (hr : Room k X.A) (hg : Gl X x) (hm : X.mg x = some (.ref f)) (hk : PySem.W.keepIn X.K (.ref f) = true) (hb : Binds X.K fd ps [])
    (tk : Takes X W) (ha : PA X (e :: es) t) (hdb : (x == ("__debug__" : Str)) = false := by decide) (he : starEach (e :: es) X.env = (false, eval e X.env) :: starEach es X.env := by rfl) (hpl : (backTo pos (starEach es X.env)).any (·.1) = false := by rfl) :
    PE X (.Call (.Name x p) (e :: es) [] pos) (tCallW sp W t) := by
  refine ⟨fun pins s σ H Q I h => wpAny_Call_Name_kw (ld_glob I hg hm ?_ hdb)⟩
  refine PySem.W.callWith_K (h₀ := X.base) I.ok.mod.kin hk (thn (ha.run pos pins s σ H _ I h) fun us g ⟨vs, G, J, r, q⟩ => ⟨J.kIn, ?_⟩) he hpl
  have hl : us.length = ps.length := by rw [← r.length]; exact F.len _ _ _ _ q
  refine wpAny_call (codeAny_mono (F.run X.A X.stack g G ⟨us, []⟩ us vs Q (fun cls d H' => W cls d σ H') hr J.env0 (by have := hb g us J.kIn (by simpa using hl); simpa using this) r q) fun res g' hq => ?_)
  cases res with
  | error z => exact tk _ _ (XE.of_call J (fun _ _ _ h => h) hq)
  | ok fl =>
    cases fl with
    | ret u => exact J.after hq
    | next => exact hq.elim
    | brk => exact hq.elim
    | cont => exact hq.elim
/-- try: m, except one of those of L: k1, else k0 -/
def tryK {a : Type} (L : List String) (m : M Unit) (k0 : M a) (k1 : String → M a) : M a := match m with
  | .ok _ => k0
  | .error .bad => bad
  | .error (.exc n) => if n ∈ L then k1 n else bad
theorem wp_tryK {b : Type} {L : List String} {m : M Unit} {k0 : M b} {k1 : String → M b} {Q : b → Prop} {E : String → Prop} (h : wp (tryK L m k0 k1) Q E) : wp m (fun _ => wp k0 Q E) fun n => n ∈ L ∧ wp (k1 n) Q E := by
  cases m with
  | ok x => exact h
  | error e =>
    cases e with
    | bad => exact h
    | exc n =>
      by_cases z : n ∈ L
      · have e : tryK L (.error (.exc n)) k0 k1 = k1 n := if_pos z
        rw [e] at h
        exact ⟨z, h⟩
      · have e : tryK L (.error (.exc n)) k0 k1 = bad := if_neg z
        rw [e] at h
        exact h.elim
theorem wp_okE {a : Type} {x : a} {Q : a → Prop} {E : String → Prop} (h : wp (.ok x : M a) Q E) : Q x := h
theorem Ow.exc {Z : Ent} {F H H1 : Hp} {cs : List (Addr × HO)} (O : Ow Z F cs H) (k : Kp [] H H1) : Ow Z F cs H1 where
  g := {
    f := O.g.f
    s := fun b o e => k.k b o (fun z => nomatch z) (O.g.s b o e)
    k := fun b o hb e => k.k b o (fun z => nomatch z) (O.g.k b o hb e)
    t := fun b h => k.t b (O.g.t b h)
    n := O.g.n
    u := fun b xs e => by
      cases q : H b with
      | none =>
        left
        cases z : Z.H b with
        | none => rfl
        | some o => exact (O.g.t b (by rw [z]; exact fun w => nomatch w) q).elim
      | some o =>
        have := k.k b o (fun z => nomatch z) q
        rw [e] at this
        cases this
        exact O.g.u b xs q }
  cf := O.cf
  ch := fun c hc => k.k _ _ (fun z => nomatch z) (O.ch c hc)
  nd := O.nd
  ca := O.ca
  nt := O.nt
theorem mem1 {n a : String} (h : n ∈ [a]) : n = a := List.mem_singleton.mp h
theorem mem2 {n a b : String} (h : n ∈ [a, b]) : n = a ∨ n = b := by simpa using h
/-! ### lists of truths: count, index -/
theorem RL.bools {H : Hp} : ∀ {vs : List V} {xs : List Bool}, RL H vs xs → vs = xs.map V.bl
  | _, [], h => RL.nil_ h
  | _, x :: xs, h => by
    obtain ⟨w, ws, rfl, h1, h2⟩ := RL.cons_ h
    rw [R.bl_ h1, RL.bools h2]
    rfl
def cntB (k : Bool) : List Bool → Int
  | [] => 0
  | y :: r => (if y = k then 1 else 0) + cntB k r
theorem cnt_in (k : Bool) : ∀ bs : List Bool, PySem.Spec.countIn (.bool k) (bs.map PyData.bool) = cntB k bs
  | [] => rfl
  | b :: bs => by
    show (if same (PyData.bool b) (PyData.bool k) = true then (1 : Int) else 0) + PySem.Spec.countIn _ _ = _
    rw [cnt_in k bs]
    cases b <;> cases k <;> rfl
theorem bools_vals : ∀ {bs : List Bool} {its : List Value}, Vals (bs.map V.bl) its → its = bs.map Value.bool
  | [], its, r => by rw [List.map_nil] at r; cases r; rfl
  | b :: bs, its, r => by
    rw [List.map_cons] at r
    cases r with
    | cons h t => cases h; rw [List.map_cons, ← bools_vals t]
theorem reads_bools {hp : Heap} : ∀ bs : List Bool, ReadsAll hp (bs.map Value.bool) (bs.map PyData.bool) []
  | [] => .nil
  | b :: bs => .cons (as := []) (bs := []) (.bool b) (reads_bools bs)
def rCntB (K : PySem.W.Frag) : V → List V → Hp → VK → Prop := fun x xs H Q => ∃ (a : Addr) (bs : List Bool) (k : Bool), x = .ref a ∧ xs = [.bl k] ∧ SqL K H a (bs.map V.bl) ∧ Q (.int (cntB k bs)) H
theorem countBK {X : Cx} {K : PySem.W.Frag} (hK : X.K = K) : MtR X "list.count" (rCntB K) := by
  subst hK
  intro pins s σ H x xs v us Q I rx r ⟨a, bs, k, ex, exs, hs, q⟩
  subst ex exs
  cases rx
  obtain ⟨u, rfl, ru⟩ := vals1 r
  cases ru
  obtain ⟨its, rv, pl, _⟩ := I.list hs
  cases bools_vals rv
  refine count_list_bools (hp := s.heap) (xs := bs.map PyData.bool) pl.isList (reads_bools bs) (List.all_eq_true.mpr fun y hy => ?_) ?_
  · obtain ⟨b, _, rfl⟩ := List.mem_map.mp hy
    rfl
  · rw [cnt_in]
    exact ⟨.int (cntB k bs), H, I.tok _, ⟨_, rfl⟩, q⟩
def ixB (xs : List Bool) (y : Bool) : M Int := if y ∈ xs then .ok ((xs.findIdx (· == y) : Nat) : Int) else bad
theorem wp_ixB {a : Type} {Q : a → Prop} {E : String → Prop} {xs : List Bool} {y : Bool} {k : Int → M a} (h : wp (ixB xs y >>= k) Q E) : ∃ j, xs.findIdx (· == y) = j ∧ xs[j]? = some y ∧ (∀ (m : Nat) z, m < j → xs[m]? = some z → z ≠ y) ∧ wp (k (j : Int)) Q E := by
  unfold ixB at h
  by_cases hm : y ∈ xs
  · rw [if_pos hm] at h
    have hlt : xs.findIdx (· == y) < xs.length := List.findIdx_lt_length_of_exists ⟨y, hm, by simp⟩
    refine ⟨_, rfl, ?_, fun m z hmj hz e => ?_, h⟩
    · rw [List.getElem?_eq_getElem hlt]
      have := List.findIdx_getElem (w := hlt)
      rw [eq_of_beq this]
    · have := List.not_of_lt_findIdx hmj
      obtain ⟨hl, hz⟩ := List.getElem?_eq_some_iff.mp hz
      rw [hz, e] at this
      simp at this
  · rw [if_neg hm] at h; exact h.elim
theorem all_flat_bl : ∀ xs : List Bool, (xs.map V.bl).all flatV = true
  | [] => rfl
  | x :: xs => by rw [List.map_cons, List.all_cons, all_flat_bl xs]; rfl
theorem bl_noeq {xs : List Bool} {y : Bool} {j : Nat} (h : ∀ (m : Nat) z, m < j → xs[m]? = some z → z ≠ y) : ∀ (m : Nat) (z' : V), m < j → (xs.map V.bl)[m]? = some z' → eqV z' (.bl y) = false := fun m z' hm hz => by
  rw [List.getElem?_map] at hz
  cases e : xs[m]? with
  | none => rw [e] at hz; cases hz
  | some z =>
    rw [e] at hz
    have hz : V.bl z = z' := Option.some.inj hz
    subst hz
    have := h m z hm e
    revert this
    cases z <;> cases y <;> intro this <;> first | rfl | exact (this rfl).elim
theorem bl_at {xs : List Bool} {y : Bool} {j : Nat} (h : xs[j]? = some y) : (xs.map V.bl)[j]? = some (.bl y) := by rw [List.getElem?_map, h]; rfl
theorem bl_eq {y : Bool} : eqV (.bl y) (.bl y) = true := by cases y <;> rfl
/-- x in xs, of data that are no scalars -/
def inD {a : Type} [DecidableEq a] (x : a) (xs : List a) : Prop := x ∈ xs
instance {a : Type} [DecidableEq a] (x : a) (xs : List a) : Decidable (inD x xs) := @List.instDecidableMemOfLawfulBEq a instBEqOfDecidableEq _ x xs
theorem iteDx {c A B : Prop} {i : Decidable c} (h1 : c → A) (h2 : ¬ c → B) : if @decide c i = true then A else B := @iteD c A B i h1 h2
theorem iteNx {c A B : Prop} {i : Decidable c} (h1 : c → B) (h2 : ¬ c → A) : if (!@decide c i) = true then A else B := @iteN c A B i h1 h2
theorem sl43 (a b c d : V) : ¬ (HT.sIx [a, b, c, d].length 0 none = 0 ∧ HT.sIx [a, b, c, d].length [a, b, c, d].length (some (3 : Int)) = [a, b, c, d].length) := fun h => absurd h.2 (by show ¬ (HT.sIx 4 4 (some (3 : Int)) = 4); decide)
theorem dgetD_S {β : Type} [Py β] {F H : Hp} {a : Addr} {kvs : List (Key × V)} {i : Str} {xs : List (Str × β)} {z : V} {y : β} (e : Rd H a (.dK kvs)) (hr : RD F kvs xs) (hz : R F z y) : ∃ o, DGet H a (.str i) o ∧ R F (o.getD z) ((dGet xs i).getD y) := by
  refine ⟨valV kvs (.inr i), dgk (k := .inr i) e, ?_⟩
  rcases hr.get i with ⟨h1, h2⟩ | ⟨u, v, h1, h2, h3⟩
  · rw [h1, show valV kvs (.inr i) = none from h2]; exact hz
  · rw [h1, show valV kvs (.inr i) = some v from h2]; exact h3
end PG

set_option Elab.async false
set_option linter.all false
set_option maxRecDepth 100000
set_option maxHeartbeats 4000000
namespace PG
open PySem PySem.Spec PyProof.Rows L2
open PySem.W (T3 T4 Datum DatumOrd Holds HoldAll EachIs)
variable {K0 : PySem.W.Frag} [KF K0]
/-! ### a list of lists that are all ours: the outer cell and the inner ones, any number of them, behind the other cells -/
abbrev LCV := Addr × List V
def lcV (c : LCV) : Addr × HO := (c.1, .lst c.2)
def llC (p : Addr) (ps : List LCV) : List (Addr × HO) := (p, .lst (ps.map fun c => V.ref c.1)) :: ps.map lcV
/-- the inner lists stand for these -/
inductive LLR {a : Type} [Py a] (F : Hp) : List LCV → List (List a) → Prop
  | nil : LLR F [] []
  | cons {c : LCV} {xs : List a} {ps : List LCV} {p : List (List a)} : RL F c.2 xs → LLR F ps p → LLR F (c :: ps) (xs :: p)
section
variable {a : Type} [Py a] {F F' : Hp}
theorem LLR.mono {ps : List LCV} {p : List (List a)} (h : LLR F ps p) (s : Same F F') : LLR F' ps p := by
  induction h with
  | nil => exact .nil
  | cons h _ ih => exact .cons (h.mono s) ih
theorem LLR.len {ps : List LCV} {p : List (List a)} (h : LLR F ps p) : ps.length = p.length := by
  induction h with
  | nil => rfl
  | cons _ _ ih => rw [List.length_cons, List.length_cons, ih]
theorem LLR.got {ps : List LCV} {p : List (List a)} (h : LLR F ps p) : ∀ {j : Nat} {xs : List a}, p[j]? = some xs → ∃ c, ps[j]? = some c ∧ RL F c.2 xs := by
  induction h with
  | nil => intro j xs e; simp at e
  | @cons c ys ps p h _ ih =>
    intro j xs e
    cases j with
    | zero =>
      have e : ys = xs := Option.some.inj e
      subst e
      exact ⟨c, rfl, h⟩
    | succ j => exact ih e
theorem LLR.set {ps : List LCV} {p : List (List a)} (h : LLR F ps p) {w : List V} {xs : List a} (hw : RL F w xs) (q : Addr) : ∀ j : Nat, LLR F (ps.set j (q, w)) (p.set j xs) := by
  induction h with
  | nil => intro j; exact .nil
  | cons h hs ih =>
    intro j
    cases j with
    | zero => exact .cons hw hs
    | succ j => exact .cons h (ih j)
theorem LLR.snoc {ps : List LCV} {p : List (List a)} (h : LLR F ps p) {w : List V} {xs : List a} (hw : RL F w xs) (q : Addr) : LLR F (ps ++ [(q, w)]) (p ++ [xs]) := by
  induction h with
  | nil => exact .cons hw .nil
  | cons h _ ih => exact .cons h ih
end
section
variable {Z : Ent} {F H : Hp} {S : List (Addr × HO)} {p : Addr} {ps : List LCV} {c : LCV} {j : Nat}
theorem ref_set (hj : ps[j]? = some c) (w : List V) : ((ps.set j (c.1, w)).map fun c => V.ref c.1) = ps.map fun c => V.ref c.1 := by
  refine List.ext_getElem? fun i => ?_
  rw [List.getElem?_map, List.getElem?_map, List.getElem?_set]
  by_cases h : j = i
  · subst h
    rw [if_pos rfl, hj]
    rw [if_pos (List.getElem?_eq_some_iff.mp hj).1]
    rfl
  · rw [if_neg h]
theorem llC_at (hj : ps[j]? = some c) : (S ++ llC p ps)[S.length + 1 + j]? = some (c.1, .lst c.2) := by
  rw [List.getElem?_append_right (by omega)]
  show (llC p ps)[S.length + 1 + j - S.length]? = _
  rw [show S.length + 1 + j - S.length = j + 1 by omega]
  show (ps.map lcV)[j]? = _
  rw [List.getElem?_map, hj]
  rfl
theorem llC_top : (S ++ llC p ps)[S.length]? = some (p, .lst (ps.map fun c => V.ref c.1)) := by
  rw [List.getElem?_append_right (Nat.le_refl _), Nat.sub_self]
  rfl
theorem Ow.llAt (O : Ow Z F (S ++ llC p ps) H) (hj : ps[j]? = some c) : H c.1 = some (.lst c.2) := O.at _ (llC_at hj)
theorem Ow.llTop (O : Ow Z F (S ++ llC p ps) H) : H p = some (.lst (ps.map fun c => V.ref c.1)) := O.at _ llC_top
/-- one of the inner lists becomes w -/
theorem Ow.llSet (O : Ow Z F (S ++ llC p ps) H) (hj : ps[j]? = some c) (w : List V) : Ow Z F (S ++ llC p (ps.set j (c.1, w))) (upd H c.1 (.lst w)) := by
  have z := O.set (S.length + 1 + j) (.lst w) (llC_at hj)
  have e : (S ++ llC p ps).set (S.length + 1 + j) (c.1, .lst w) = S ++ llC p (ps.set j (c.1, w)) := by
    rw [List.set_append_right _ _ (by omega), show S.length + 1 + j - S.length = j + 1 by omega]
    unfold llC
    rw [ref_set hj w, List.set_cons_succ, List.map_set]
    rfl
  rw [e] at z
  exact z
/-- a new inner list goes behind -/
theorem Ow.llPush {q : Addr} {w : List V} (O : Ow Z F ((q, .lst w) :: (S ++ llC p ps)) H) : Ow Z F (S ++ llC p (ps ++ [(q, w)])) (upd H p (.lst ((ps.map fun c => V.ref c.1) ++ [V.ref q]))) := by
  have z := O.set (S.length + 1) (.lst ((ps.map fun c => V.ref c.1) ++ [V.ref q])) (show ((q, HO.lst w) :: (S ++ llC p ps))[S.length + 1]? = some (p, _) from llC_top)
  refine z.perm ?_
  have e : ((q, HO.lst w) :: (S ++ llC p ps)).set (S.length + 1) (p, .lst ((ps.map fun c => V.ref c.1) ++ [V.ref q])) = (q, HO.lst w) :: (S ++ ((p, .lst ((ps.map fun c => V.ref c.1) ++ [V.ref q])) :: ps.map lcV)) := by
    rw [List.set_cons_succ, List.set_append_right _ _ (Nat.le_refl _), Nat.sub_self]
    rfl
  rw [e]
  unfold llC
  rw [List.map_append, List.map_append]
  show ((q, HO.lst w) :: (S ++ ((p, HO.lst ((ps.map fun c => V.ref c.1) ++ [V.ref q])) :: ps.map lcV))).Perm (S ++ ((p, HO.lst ((ps.map fun c => V.ref c.1) ++ [V.ref q])) :: (ps.map lcV ++ [(q, HO.lst w)])))
  have e2 : S ++ ((p, HO.lst ((ps.map fun c => V.ref c.1) ++ [V.ref q])) :: (ps.map lcV ++ [(q, HO.lst w)])) = (S ++ ((p, HO.lst ((ps.map fun c => V.ref c.1) ++ [V.ref q])) :: ps.map lcV)) ++ [(q, HO.lst w)] := by
    rw [List.append_assoc, List.cons_append]
  rw [e2]
  exact (List.perm_append_singleton _ _).symm
/-- an empty one: a new outer list -/
theorem Ow.llNew (O : Ow Z F ((p, .lst []) :: S) H) : Ow Z F (S ++ llC p []) H := O.perm (List.perm_append_singleton _ _).symm
theorem Ow.frzM {A B : List (Addr × HO)} {b : Addr} {o : HO} (O : Ow Z F (A ++ (b, o) :: B) H) (hz : Z.H b = none) : ∃ F', Ow Z F' (A ++ B) H ∧ Same F F' ∧ F' b = some o := by
  have e : (A ++ (b, o) :: B)[A.length]? = some (b, o) := by rw [List.getElem?_append_right (Nat.le_refl _), Nat.sub_self]; rfl
  obtain ⟨F', O', s, h⟩ := O.frzE A.length e hz
  rw [List.eraseIdx_append_of_length_le (Nat.le_refl _), Nat.sub_self] at O'
  exact ⟨F', O', s, h⟩
theorem Ow.frzAll {a : Type} [Py a] : ∀ {ps : List LCV} {F : Hp} {A : List (Addr × HO)} {xs : List (List a)}, Ow Z F (A ++ ps.map lcV) H → (∀ c ∈ ps, Z.H c.1 = none) → LLR F ps xs →
    ∃ F', Ow Z F' A H ∧ Same F F' ∧ RL F' (ps.map fun c => V.ref c.1) xs
  | [], F, A, xs, O, _, r => by
    cases r
    rw [List.map_nil, List.append_nil] at O
    exact ⟨F, O, Same.refl _, RL.nil⟩
  | c :: ps, F, A, xs, O, hz, r => by
    cases r with
    | @cons _ x _ q h1 h2 =>
      obtain ⟨F1, O1, s1, g1⟩ := Ow.frzM (A := A) (B := ps.map lcV) (b := c.1) (o := .lst c.2) O (hz c List.mem_cons_self)
      obtain ⟨F2, O2, s2, r2⟩ := Ow.frzAll O1 (fun d hd => hz d (List.mem_cons_of_mem _ hd)) (h2.mono s1)
      exact ⟨F2, O2, s1.trans s2, RL.cons (R.lst (s2 _ _ g1) ((h1.mono s1).mono s2)) r2⟩
/-- all of it is read alone from now on -/
theorem Ow.llFrz {a : Type} [Py a] {xs : List (List a)} (O : Ow Z F (S ++ llC p ps) H) (hp : Z.H p = none) (hz : ∀ c ∈ ps, Z.H c.1 = none) (r : LLR F ps xs) : ∃ F', Ow Z F' S H ∧ Same F F' ∧ R F' (.ref p) xs := by
  obtain ⟨F1, O1, s1, g1⟩ := Ow.frzM (A := S) (B := ps.map lcV) (b := p) (o := .lst (ps.map fun c => V.ref c.1)) O hp
  obtain ⟨F2, O2, s2, r2⟩ := Ow.frzAll O1 hz (r.mono s1)
  exact ⟨F2, O2, s1.trans s2, R.lst (s2 _ _ g1) r2⟩
end
section
variable {a : Type} [Py a] {F : Hp}
theorem LLR.atI {ps : List LCV} {p : List (List a)} (h : LLR F ps p) {i : Int} {y : List a} (e : L2.atI p i = some y) :
    ∃ j c, L2.atI (ps.map fun c => V.ref c.1) i = some (V.ref c.1) ∧ ps[j]? = some c ∧ RL F c.2 y ∧ ixN p.length i = some j := by
  unfold L2.atI at e
  cases hx : ixN p.length i with
  | none => rw [hx] at e; exact nomatch e
  | some j =>
    rw [hx] at e
    have e : p[j]? = some y := e
    obtain ⟨c, hc, hr⟩ := h.got e
    refine ⟨j, c, ?_, hc, hr, rfl⟩
    unfold L2.atI
    rw [List.length_map, h.len, hx]
    show (ps.map fun c => V.ref c.1)[j]? = _
    rw [List.getElem?_map, hc]
    rfl
theorem zs_set {H : Hp} {ps : List LCV} {c : LCV} {j : Nat} (h : ∀ d ∈ ps, H d.1 = none) (hj : ps[j]? = some c) (w : List V) : ∀ d ∈ ps.set j (c.1, w), H d.1 = none := fun d hd => by
  rcases List.mem_or_eq_of_mem_set hd with hd | hd
  · exact h d hd
  · rw [hd]; exact h c (List.mem_of_getElem? hj)
theorem zs_snoc {H : Hp} {ps : List LCV} {q : Addr} {w : List V} (h : ∀ d ∈ ps, H d.1 = none) (hq : H q = none) : ∀ d ∈ ps ++ [(q, w)], H d.1 = none := fun d hd => by
  rcases List.mem_append.mp hd with hd | hd
  · exact h d hd
  · rw [List.mem_singleton.mp hd]; exact hq
end
/-! ### a list so many times -/
def repL {a : Type} (k : Int) (xs : List a) : List a := (List.replicate k.toNat xs).flatten
theorem RL.rep {a : Type} [Py a] {H : Hp} {vs : List V} {xs : List a} (h : RL H vs xs) (k : Int) : RL H (repL k vs) (repL k xs) := by
  unfold repL
  induction k.toNat with
  | zero => exact RL.nil
  | succ n ih =>
    rw [List.replicate_succ, List.replicate_succ, List.flatten_cons, List.flatten_cons]
    exact RL.app h ih
def CRep (n : Nat) (k : Int) : Prop := -(2 ^ 63) ≤ k ∧ k < 2 ^ 63 ∧ n * k.toNat < 16777216
instance (n : Nat) (k : Int) : Decidable (CRep n k) := by unfold CRep; infer_instance
theorem R.tpN {a : Type} [Py a] {F : Hp} {p : Addr} {vs : List V} {xs : List a} (h : F p = some (.tup vs)) (r : RL F vs xs) : R F (.ref p) (Tp.mk xs) := by
  show Rep F (.ref p) (.tuple (xs.map Py.toD))
  exact .tup (.inl h) r
/-! ### what is walked, K told outright (for comprehensions within one another) -/
section
variable {X : Cx} {K : PySem.W.Frag} {tg : Expr}
theorem piListK (h : X.K = K) {l : Expr} {tl : TE} (hl : PE X l tl) : PI X tg l (iList K tl) := by rw [← h]; exact pi_list hl
theorem piTupK (h : X.K = K) {l : Expr} {tl : TE} (hl : PE X l tl) : PI X tg l (iTup K tl) := by rw [← h]; exact pi_tup hl
theorem piEnumK (h : X.K = K) {e : Expr} {ta : TA} (hp : PI X tg e (iEnum X.K ta)) : PI X tg e (iEnum K ta) := by rw [← h]; exact hp
theorem piZipK (h : X.K = K) {e : Expr} {ta : TA} (hp : PI X tg e (iZip X.K ta)) : PI X tg e (iZip K ta) := by rw [← h]; exact hp
end
end PG

set_option Elab.async false
set_option linter.all false
set_option maxRecDepth 100000
set_option maxHeartbeats 4000000
namespace PG
open PySem PySem.Spec PyProof.Rows L2
open PySem.W (T3 T4 Datum DatumOrd Holds HoldAll EachIs)
variable {K0 : PySem.W.Frag} [KF K0]
/-! ### one of two kinds -/
inductive Un (a b : Type) where
  | l (x : a)
  | r (y : b)
  deriving DecidableEq
instance {a b : Type} [Py a] [Py b] : Py (Un a b) := ⟨fun
  | .l x => Py.toD x
  | .r y => Py.toD y⟩
section
variable {a b : Type} [Py a] [Py b] {F : Hp} {v : V}
theorem R.un_l {x : a} (h : R F v x) : R F v (Un.l x : Un a b) := h
theorem R.un_r {y : b} (h : R F v y) : R F v (Un.r y : Un a b) := h
end
instance {a b : Type} [Py a] [Py b] [DecidableEq a] [DecidableEq b] [DatumX (a × b)] : DatumX (Un (a × b) Str) := ⟨fun
  | .l x => DatumX.plain x
  | .r y => by show PyData.plain (.str y) = true; simp only [PyData.plain], fun
  | .l x, .l y => by
    show PyData.eqv (Py.toD x) (Py.toD y) = _
    rw [DatumX.eqv x y]
    exact decide_eq_decide.mpr (by rw [Un.l.injEq])
  | .l x, .r y => by
    show PyData.eqv (.tuple [_, _]) (.str y) = _
    simp [PyData.eqv]
  | .r x, .l y => by
    show PyData.eqv (.str x) (.tuple [_, _]) = _
    simp [PyData.eqv]
  | .r x, .r y => by
    show PyData.eqv (.str x) (.str y) = _
    simp only [PyData.eqv]
    rw [PySem.W.beq_decide]
    exact decide_eq_decide.mpr (by rw [Un.r.injEq])⟩
/-! ### is None -/
class NN (a : Type) [Py a] : Prop where
  nn : ∀ x : a, Py.toD x ≠ .none
instance : NN Int := ⟨fun _ h => nomatch h⟩
instance : NN Bool := ⟨fun _ h => nomatch h⟩
instance : NN Str := ⟨fun _ h => nomatch h⟩
instance : NN Sm := ⟨fun x h => by cases x <;> exact nomatch (show PyData.tuple _ = .none from h)⟩
section
variable {a b c d : Type} [Py a] [Py b] [Py c] [Py d]
instance : NN (List a) := ⟨fun _ h => nomatch (show PyData.list _ = .none from h)⟩
instance : NN (a × b) := ⟨fun _ h => nomatch (show PyData.tuple _ = .none from h)⟩
instance : NN (T3 a b c) := ⟨fun _ h => nomatch (show PyData.tuple _ = .none from h)⟩
instance : NN (T4 a b c d) := ⟨fun _ h => nomatch (show PyData.tuple _ = .none from h)⟩
instance : NN (Tp a) := ⟨fun _ h => nomatch (show PyData.tuple _ = .none from h)⟩
theorem rep_non {F : Hp} {x : PyData} (h : Rep F .non x) : x = .none := by cases h; rfl
theorem isN_opt [NN a] {F : Hp} {v : V} {o : Option a} (h : R F v o) : decide (v = .non) = o.isNone := by
  cases o with
  | none =>
    rw [R.non_ h]
    rfl
  | some x =>
    have h : Rep F v (Py.toD x) := h
    refine decide_eq_false fun e => ?_
    rw [e] at h
    exact NN.nn x (rep_non h)
end
theorem dNon_t : decide (V.non = V.non) = true := decide_eq_true rfl
theorem dNon_f {p : Addr} : decide (V.ref p = V.non) = false := decide_eq_false fun h => nomatch h
/-! ### lists: insert, extend, all -/
def insL {a : Type} (xs : List a) (i : Int) (y : a) : List a := xs.take i.toNat ++ [y] ++ xs.drop i.toNat
theorem RL.ins {a : Type} [Py a] {F : Hp} {vs : List V} {xs : List a} (h : RL F vs xs) (i : Int) {v : V} {y : a} (hy : R F v y) : RL F (insL vs i v) (insL xs i y) := RL.app (RL.app (h.take _) (RL.cons hy RL.nil)) (h.drop _)
def CIns (n : Nat) (i : Int) : Prop := n < 16777216 ∧ 0 ≤ i ∧ i < 2 ^ 63
instance (n : Nat) (i : Int) : Decidable (CIns n i) := by unfold CIns; infer_instance
instance (i j : Int) : Decidable (CPow i j) := by unfold CPow; infer_instance
section
variable {X : Cx} {K : PySem.W.Frag}
theorem cr_allK (hc : X.calm = true) (h : X.K = K) : CallR X (.builtin "all") (rAll K) := by rw [← h]; exact cr_all hc
theorem cr_anyK (hc : X.calm = true) (h : X.K = K) : CallR X (.builtin "any") (rAny K) := by rw [← h]; exact cr_any hc
/-- len of what is read -/
def rLenS (K : PySem.W.Frag) : List V → Hp → VK → Prop := fun vs H Q => ∃ (a : Addr) (xs : List V), vs = [V.ref a] ∧ SqL K H a xs ∧ Q (.int xs.length) H
theorem call_lenS (h : X.K = K) : CallR X (.builtin "len") (rLenS K) := fun pins s σ H xs us Q I r hq => by
  obtain ⟨a, ys, rfl, hs, q⟩ := hq
  subst h
  exact call_len pins s σ H _ us Q I r ⟨.ref a, ys.length, rfl, .inl ⟨ys, hs, rfl⟩, q⟩
end
/-! ### try whose suite binds a name: what follows is handed on as the suite's result -/
def tryF {a : Type} (L : List String) (m : M (Unit → M a)) (k1 : String → M a) : M a := match m with
  | .ok f => f ()
  | .error .bad => bad
  | .error (.exc n) => if n ∈ L then k1 n else bad
theorem wp_tryF {b : Type} {L : List String} {m : M (Unit → M b)} {k1 : String → M b} {Q : b → Prop} {E : String → Prop} (h : wp (tryF L m k1) Q E) : wp m (fun f => wp (f ()) Q E) fun n => n ∈ L ∧ wp (k1 n) Q E := by
  cases m with
  | ok x => exact h
  | error e =>
    cases e with
    | bad => exact h
    | exc n =>
      by_cases z : n ∈ L
      · have e : tryF L (.error (.exc n)) k1 = k1 n := if_pos z
        rw [e] at h
        exact ⟨z, h⟩
      · have e : tryF L (.error (.exc n)) k1 = bad := if_neg z
        rw [e] at h
        exact h.elim
/-! ### xs[::-1]; a, b, c = a list of three -/
section
variable {X : Cx} {K : PySem.W.Frag}
theorem pe_revLK (h : X.K = K) {e : Expr} {te : TE} {k : Nat} {p1 p2 p3 pos : Pos} (he : PE X e te) : PE X (.Subscript e (.Slice none none (some (.UnaryOp .USub (.Constant (.int 1) k p1) p2)) p3) pos) (tRevL K te) := by rw [← h]; exact pe_revL he
end
def two3 {a : Type} (xs : List a) : M (a × a × a) := match xs with
  | [x, y, z] => .ok (x, y, z)
  | _ => bad
theorem wp_two3 {a b : Type} {Q : a → Prop} {E : String → Prop} {xs : List b} {k : b × b × b → M a} (h : wp (two3 xs >>= k) Q E) : ∃ x y z, xs = [x, y, z] ∧ wp (k (x, y, z)) Q E := by
  match xs, h with
  | [x, y, z], h => exact ⟨x, y, z, rfl, h⟩
  | [], h => exact h.elim
  | [_], h => exact h.elim
  | [_, _], h => exact h.elim
  | _ :: _ :: _ :: _ :: _, h => exact h.elim
section
variable {X : Cx} {K : PySem.W.Frag}
theorem bmK (h : X.K = K) {c : Expr} {T : String} {r : V → List V → Hp → VK → Prop} {to : TE} {t : TA} (hp : PE X c (tBM X.K T r to t)) : PE X c (tBM K T r to t) := by rw [← h]; exact hp
theorem bm0K (h : X.K = K) {c : Expr} {T : String} {r : V → List V → Hp → VK → Prop} {to : TE} (hp : PE X c (tBM0 X.K T r to)) : PE X c (tBM0 K T r to) := by rw [← h]; exact hp
end
end PG

set_option Elab.async false
set_option linter.all false
set_option maxRecDepth 100000
set_option maxHeartbeats 4000000
namespace PG
open PySem PySem.Spec PyProof.Rows L2
open PySem.W (T3 T4 Datum DatumOrd Holds HoldAll EachIs)
variable {K0 : PySem.W.Frag} [KF K0]
/-! ### lists of our lists: handed back, lent -/
section
variable {Z : Ent} {F F0 H H0 : Hp} {S cs cs0 : List (Addr × HO)} {p : Addr} {ps : List LCV}
theorem llC_nt : ∀ c ∈ llC p ps, noTup c.2 = true := fun c hc => by
  rcases List.mem_cons.mp hc with e | hc
  · rw [e]; rfl
  · obtain ⟨d, _, e⟩ := List.mem_map.mp hc
    rw [← e]; rfl
theorem Ow.llOut (O : Ow Z F (S ++ llC p ps) H) (hp : Z.H p = none) (hz : ∀ c ∈ ps, Z.H c.1 = none) :
    (∀ c ∈ llC p ps, Z.H c.1 = none) ∧ (∀ c ∈ llC p ps, F c.1 = none ∧ H c.1 = some c.2) ∧ ((llC p ps).map (·.1)).Nodup := by
  refine ⟨fun c hc => ?_, fun c hc => ⟨O.cf c (List.mem_append_right _ hc), O.ch c (List.mem_append_right _ hc)⟩, ?_⟩
  · rcases List.mem_cons.mp hc with e | hc
    · rw [e]; exact hp
    · obtain ⟨d, hd, e⟩ := List.mem_map.mp hc
      rw [← e]; exact hz d hd
  · have := O.nd
    rw [List.map_append] at this
    exact (List.nodup_append.mp this).2.1
theorem Ow.llGot (O0 : Ow Z F0 cs0 H0) (O : Ow Z F cs H) (hk : cs.map (·.1) = cs0.map (·.1)) (hn : ∀ c ∈ llC p ps, H0 c.1 = none) (hf : ∀ c ∈ llC p ps, F c.1 = none ∧ H c.1 = some c.2) (nd : ((llC p ps).map (·.1)).Nodup) :
    Ow Z F (cs ++ llC p ps) H where
  g := O.g
  cf := fun c hc => by
    rcases List.mem_append.mp hc with hc | hc
    · exact O.cf c hc
    · exact (hf c hc).1
  ch := fun c hc => by
    rcases List.mem_append.mp hc with hc | hc
    · exact O.ch c hc
    · exact (hf c hc).2
  nd := by
    rw [List.map_append]
    refine List.nodup_append.mpr ⟨O.nd, nd, fun x hx y hy e => ?_⟩
    obtain ⟨d, hd, e2⟩ := List.mem_map.mp hy
    rw [hk] at hx
    obtain ⟨c0, hc0, e3⟩ := List.mem_map.mp hx
    have h1 := O0.ch c0 hc0
    rw [e3, e, ← e2, hn d hd] at h1
    exact nomatch h1
  ca := fun c hc => by
    rcases List.mem_append.mp hc with hc | hc
    · exact O.ca c hc
    · exact .inr (O0.was (hn c hc))
  nt := fun c hc => by
    rcases List.mem_append.mp hc with hc | hc
    · exact O.nt c hc
    · exact llC_nt c hc
theorem Ow.llWas (O0 : Ow Z F0 cs0 H0) (hn : ∀ c ∈ llC p ps, H0 c.1 = none) : Z.H p = none ∧ ∀ c ∈ ps, Z.H c.1 = none :=
  ⟨O0.was (hn (p, _) List.mem_cons_self), fun c hc => O0.was (hn (lcV c) (List.mem_cons_of_mem _ (List.mem_map.mpr ⟨c, hc, rfl⟩)))⟩
theorem inA_ll : ∀ b ∈ (llC p ps).map (·.1), ∃ o, (b, o) ∈ S ++ llC p ps := fun b hb => by
  obtain ⟨c, hc, e⟩ := List.mem_map.mp hb
  exact ⟨c.2, List.mem_append_right _ (by rw [← e]; exact hc)⟩
theorem inA_app {as bs : List Addr} (h1 : ∀ b ∈ as, ∃ o, (b, o) ∈ cs) (h2 : ∀ b ∈ bs, ∃ o, (b, o) ∈ cs) : ∀ b ∈ as ++ bs, ∃ o, (b, o) ∈ cs := fun b hb => by
  rcases List.mem_append.mp hb with hb | hb
  · exact h1 b hb
  · exact h2 b hb
theorem LLR.of_at {a : Type} [Py a] : ∀ {ps : List LCV} {xs : List (List a)}, LLR F ps xs → (∀ c ∈ ps, F c.1 = some (.lst c.2)) → RL F (ps.map fun c => V.ref c.1) xs
  | [], xs, h, _ => by cases h; exact RL.nil
  | c :: ps, xs, h, hat => by
    cases h with
    | cons h1 h2 => exact RL.cons (R.lst (hat c List.mem_cons_self) h1) (LLR.of_at h2 fun d hd => hat d (List.mem_cons_of_mem _ hd))
theorem Ow.llLend {a : Type} [Py a] {as : List Addr} {xs : List (List a)} (O : Ow Z F (S ++ llC p ps) H) (hs : Same F (lendF as F H)) (hin : ∀ c ∈ llC p ps, c.1 ∈ as) (r : LLR F ps xs) : R (lendF as F H) (.ref p) xs := by
  have at_ : ∀ c ∈ llC p ps, lendF as F H c.1 = some c.2 := fun c hc => (lendF_at (hin c hc)).trans (O.ch c (List.mem_append_right _ hc))
  exact R.lst (at_ (p, _) List.mem_cons_self) ((r.mono hs).of_at fun c hc => at_ (lcV c) (List.mem_cons_of_mem _ (List.mem_map.mpr ⟨c, hc, rfl⟩)))
end
/-! ### rows that are never reached -/
def tNever : TS := fun _ _ _ => False
def eNever : TE := fun _ _ _ => False
def uNever : TT := fun _ _ _ => False
theorem psNever {X : Cx} {st : Stmt} : PS X st tNever := ⟨fun _ _ _ _ _ _ h => h.elim⟩
theorem peNever {X : Cx} {e : Expr} : PE X e eNever := ⟨fun _ _ _ _ _ _ h => h.elim⟩
theorem ptNever {X : Cx} {e : Expr} : PT X e uNever := ⟨fun _ _ _ _ _ _ h => h.elim⟩
theorem pwNever {X : Cx} {e : Expr} : PW X e uNever := ⟨fun _ _ _ _ _ _ _ h => h.elim⟩
/-! ### lists in which nothing is None -/
def some1 {a : Type} (xs : List (Option a)) : Option (List a) := xs.mapM id
def some2 {a : Type} (xs : List (List (Option a))) : Option (List (List a)) := xs.mapM some1
section
variable {a : Type} [Py a] {F : Hp} {v : V}
theorem mapM_cons_some {b c : Type} {f : b → Option c} {x : b} {xs : List b} {ys : List c} (h : (x :: xs).mapM f = some ys) : ∃ y zs, f x = some y ∧ xs.mapM f = some zs ∧ ys = y :: zs := by
  rw [List.mapM_cons] at h
  cases e : f x with
  | none => rw [e] at h; exact nomatch h
  | some y =>
    rw [e] at h
    cases e2 : xs.mapM f with
    | none =>
      have h : ((xs.mapM f) >>= fun bs => pure (y :: bs)) = some ys := h
      rw [e2] at h; exact nomatch h
    | some zs =>
      have h : ((xs.mapM f) >>= fun bs => pure (y :: bs)) = some ys := h
      rw [e2] at h
      exact ⟨y, zs, rfl, rfl, (Option.some.inj h).symm⟩
theorem mapM_nil_some {b c : Type} {f : b → Option c} {ys : List c} (h : ([] : List b).mapM f = some ys) : ys = [] := (Option.some.inj h).symm
theorem RL.some1 : ∀ {xs : List (Option a)} {vs : List V} {ys : List a}, RL F vs xs → xs.mapM id = some ys → RL F vs ys
  | [], vs, ys, h, e => by
    rw [mapM_nil_some e, RL.nil_ h]
    exact RL.nil
  | x :: xs, vs, ys, h, e => by
    obtain ⟨w, ws, rfl, h1, h2⟩ := RL.cons_ h
    obtain ⟨y, zs, e1, e2, e3⟩ := mapM_cons_some e
    rw [e3]
    have e1 : x = some y := e1
    rw [e1] at h1
    exact RL.cons (R.jst_ h1) (RL.some1 h2 e2)
theorem R.some1 {xs : List (Option a)} {ys : List a} (h : R F v xs) (e : PG.some1 xs = some ys) : R F v ys := by
  obtain ⟨p, vs, rfl, hp, hr⟩ := R.lst_ h
  exact R.lst hp (RL.some1 hr e)
theorem RL.some2 : ∀ {xs : List (List (Option a))} {vs : List V} {ys : List (List a)}, RL F vs xs → xs.mapM PG.some1 = some ys → RL F vs ys
  | [], vs, ys, h, e => by
    rw [mapM_nil_some e, RL.nil_ h]
    exact RL.nil
  | x :: xs, vs, ys, h, e => by
    obtain ⟨w, ws, rfl, h1, h2⟩ := RL.cons_ h
    obtain ⟨y, zs, e1, e2, e3⟩ := mapM_cons_some e
    rw [e3]
    exact RL.cons (R.some1 h1 e1) (RL.some2 h2 e2)
theorem R.some2 {xs : List (List (Option a))} {ys : List (List a)} (h : R F v xs) (e : PG.some2 xs = some ys) : R F v ys := by
  obtain ⟨p, vs, rfl, hp, hr⟩ := R.lst_ h
  exact R.lst hp (RL.some2 hr e)
end
/-! ### products one factor of which is small -/
def CMulX (i j : Int) : Prop := CMul i j ∨ CMulW i j
instance (i j : Int) : Decidable (CMulX i j) := by unfold CMulX CMul CMulW; infer_instance
theorem op_mulX {X : Cx} : OpR X (binaryOp .Mult) (rI CMulX fun i j => .int (i * j)) := opI fun _ _ _ _ _ _ _ hc q => mul_int q (by
  rcases hc with h | h
  · exact h.ok
  · exact h.ok)
end PG

set_option Elab.async false
set_option linter.all false
set_option maxRecDepth 100000
set_option maxHeartbeats 4000000
namespace PG
open PySem PySem.Spec PyProof.Rows L2
open PySem.W (T3 T4 Datum DatumOrd Holds HoldAll EachIs)
variable {K0 : PySem.W.Frag} [KF K0]
/-! ### an except clause whose suite asks of the exception: it is tracked within the suite -/
section
variable {X : Cx} {pins pn pn' : List (Addr × Obj)} {σ : L2.St} {H : Hp} {s : Shared} {a : Addr} {q : Addr × Obj}
theorem lessPin (I : L2.Inv (X.suite a (q :: pn)) pn' σ H s) (ok : X.Ok) : L2.Inv (X.suite a pn) pn' σ H s :=
  ⟨ok.suite _ _, I.os, I.bare, I.base, I.loc, I.cell, I.free, I.freeC, fun p hp => I.pin p (List.mem_cons_of_mem _ hp), I.hok, I.len⟩
theorem unsuite0 (I : L2.Inv (X.suite a (X.pn ++ pins)) [] σ H s) (ok : X.Ok) : L2.Inv X pins σ H s :=
  ⟨ok, I.os, I.bare, I.base, I.loc, I.cell, I.free, I.freeC, fun p hp => I.pin p (List.mem_append_left _ hp), I.hok, I.len⟩
end
/-- what such a clause wishes -/
def wTell (K : PySem.W.Frag) (c : Value) (i : Nat) (ts : Addr → TS) (out : WX) (D : Ends) : WX := fun cls d σ H =>
  ∃ b, PySem.W.exmOne K cls c = some b ∧ (b = true → ∀ a, H a = none → ts a { nx := fun σ' H' => D.nx (σ'.set i none) H', rt := fun _ _ => False, bk := fun _ _ => False, ct := fun _ _ => False } (σ.set i (some (.ref a))) (upd H a (excO cls d a))) ∧ (b = false → out cls d σ H)
section
variable {X : Cx} {x n : Str} {c : Value} {i : Nat} {body suite : List Stmt} {b1 : Stmt} {np q1 q2 : Pos} {tb : WX → TS} {ts : Addr → TS} {out : WX}
theorem ps_try_tell (hs : X.stack = X.env :: X.outer) (hf : X.env.frame = some X.env.locals) (hex : X.ex = []) (hN : X.N.Nodup) (hi : X.N[i]? = some n) (hl : X.env.kindOf n = some .local) (hc : Names X x c) (tk : Takes X out)
    (hb : ∀ (W : WX) (pn : List (Addr × Obj)) (xe : Value → Shared → Prop), Takes (X.tr pn xe) W → PassesOwn (model X.prog X.w) X.A X.env xe → PSs (X.tr pn xe) body (tb W))
    (hsu : ∀ (a : Addr) (pn : List (Addr × Obj)), PSs (X.suite a pn) (b1 :: suite) (ts a)) :
    PS X (.Try body [.ExceptHandler (some (.Name x np)) (some n) (b1 :: suite) q1] [] [] q2) (fun D σ H => tb (wTell X.K c i ts out D) D σ H) := by
  refine ⟨fun pins s σ H D I wish => wpAny_Try_except ?_⟩
  have ok := I.ok
  have hfr : X.A.frames = some (X.env :: X.outer) := ok.frames.trans (by rw [hs])
  have run := (hb (wTell X.K c i ts out D) (X.pn ++ pins) (fun e g1 => wpAny (model X.prog X.w) X.A (noteFrame e X.env) (fun _ g2 => wpAny (model X.prog X.w) X.A (setFlight e none)
    (fun _ g3 => wpAny (model X.prog X.w) X.A (handleBy e X.env [.ExceptHandler (some (.Name x np)) (some n) (b1 :: suite) q1]) (SP X pins D) X.xe g3) X.xe g2) X.xe g1)
    (fun u g ⟨a, B, sI, ps, τ, G, cls, d, eu, J0, nb, up, sky, na, eos, ag, b, hb1, yes, no⟩ => by
      subst eu
      have J : L2.Inv X pins τ G sI := J0.ofTry ok
      show wpAny (model X.prog X.w) X.A (noteFrame (.ref a) X.env) _ _ _
      refine Sky.land Zc.steady hfr hf (show Sky B (X.env :: X.outer) a (Zc cls d) X.env.locals g.heap by rw [← hs]; exact sky) fun k1 fl1 up1 => ?_
      have J1 : L2.Inv X pins τ G { g with heap := k1 } := J.landed nb fl1.1 (up.trans up1) eos ag
      obtain ⟨o1, vs1, ho1, hz1, hd1⟩ := fl1.there
      have off : a ∉ frs (X.env :: X.outer) := fun hm => by
        obtain ⟨_, o', eo, hnf⟩ := fl1.2.2.1.mem hm
        rw [ho1] at eo
        cases eo
        exact hnf _ hd1
      have nL : a ≠ X.env.locals := fun z => off (List.mem_filterMap.mpr ⟨X.env, List.mem_cons_self, by rw [hf, z]⟩)
      have nF : a ∉ X.fs := fun hm => by
        obtain ⟨e, he, q⟩ := List.mem_filterMap.mp hm
        exact off (List.mem_filterMap.mpr ⟨e, List.mem_cons_of_mem _ he, q⟩)
      have young : ∀ o, sI.heap.get? a ≠ some o := fun o q => by
        have z := nb a o q (by rw [hs]; exact off)
        rw [fl1.2.1] at z
        exact nomatch z
      have h0 : X.s_0.heap.get? a = none := by
        cases q : X.s_0.heap.get? a with
        | none => rfl
        | some o =>
          obtain ⟨o', z⟩ := J.base.there a o q (by rw [hex]; exact fun z => nomatch z)
          exact (young _ z).elim
      have offp : ∀ p ∈ X.pn ++ pins, p.1 ≠ a := fun p hp z => young p.2 (by rw [← z]; exact (J.pin p hp).1)
      have S1 := J1.suite ho1 hd1 na nL nF
      refine wpAny_handleBy_cons (codeAny_handlers_test ?_) (fun q => nomatch q)
      have look : PySem.W.Looks (model X.prog X.w) k1 (typeOf (.ref a)) cls := fun _ _ _ _ k q => wpAny_typeOf_ref (k _ _ ho1) (by rw [hz1.1]; exact q)
      have match_ := PySem.W.exm_one (M := model X.prog X.w) J1.kIn look hb1
      have named : ∀ {Q : Value → Shared → Prop} {E : Value → Shared → Prop}, Q c { g with heap := k1 } → wpAny (model X.prog X.w) (X.A.mark (some (.ref a))) (eval (.Name x np) X.env) Q E { g with heap := k1 } := fun {Q E} q => by
        obtain ⟨hg, hdbg, hm | ⟨hm, hv, hnn⟩⟩ := hc
        · exact ld_glob (X := X.suite a ((a, o1) :: (X.pn ++ pins))) S1 hg hm q hdbg
        · exact ld_blt (X := X.suite a ((a, o1) :: (X.pn ++ pins))) S1 hg hm hv q hnn hdbg
      refine named (match_.here ?_)
      cases b with
      | true =>
        refine codeAny_handlers_suite_as (HandSPX.lands_againZ fl1 fun k2 fl2 up2 => ?_)
        have J2 : L2.Inv X pins τ G { g with heap := k2 } := J.landed nb fl2.1 ((up.trans up1).trans up2) eos ag
        obtain ⟨o2, vs2, ho2, hz2, hd2⟩ := fl2.there
        refine store_ok (X := X.suite a ((a, o2) :: (X.pn ++ pins))) (v := .ref a) (J2.suite ho2 hd2 na nL nF) hN hi (.inl hl) rfl (fun g5 S5 => ?_) (.inr hl)
        obtain ⟨hget5, _⟩ := S5.pin (a, o2) (List.mem_append_left _ List.mem_cons_self)
        have A5 := adopt (X := X.suite a (X.pn ++ pins)) (lessPin S5 ok) na ⟨o2, vs2, hget5, hz2, hd2⟩ h0 nL (fun p hp => offp p (by rw [List.append_nil] at hp; exact hp))
        refine wpAny_mono ((hsu a (X.pn ++ pins)).run [] g5 _ _ _ A5 (yes rfl a na)) (fun f g6 hsp => ?_) (fun _ _ z => z.elim)
        cases f with
        | next =>
          obtain ⟨τ6, G6, S6, q6⟩ := hsp
          exact gone_ok (X := X.suite a (X.pn ++ pins)) S6 hN hi hl fun g7 S7 => ⟨_, _, unsuite0 S7 ok, q6⟩
        | brk => obtain ⟨_, _, _, q6⟩ := hsp; exact q6.elim
        | cont => obtain ⟨_, _, _, q6⟩ := hsp; exact q6.elim
        | ret u => obtain ⟨_, _, _, _, _, q6⟩ := hsp; exact q6.elim
      | false =>
        refine wpAny_handleBy_nil ?_
        obtain ⟨_, _, _, o3, vs3, T, oT, ts3, he, hz, hd, h1, hr⟩ := id fl1
        unfold PySem.passOn
        refine wpAny_bind (wpAny_field he hd h1 ?_)
        rw [if_neg (by simp : ¬ ((Value.ref T == Value.none) = true))]
        have up_ : wpAny (model X.prog X.w) X.A (setFlight (.ref a) X.env.frame) (fun _ g4 => wpAny (model X.prog X.w) X.A (throw (.ref a) : Sem Flow) (SP X pins D) X.xe g4) X.xe { g with heap := k1 } := by
          rw [hf]
          exact HandSPX.setFlight_upZ fl1 fun k2 fl2 up2 => wpAny_throw (tk _ _ ⟨a, B, sI, pins, τ, G, cls, d, rfl, J, nb, (up.trans up1).trans up2, .inr (.inr (by rw [hs]; exact fl2)), na, eos, ag, no rfl⟩)
        first
          | exact wpAny_bind up_
          | exact wpAny_bind (wpAny_pure (wpAny_bind up_)))
    PassesOwn.looking).run [] s σ H D (I.toTry _) wish
  refine wpAny_mono run (fun f g hsp => ?_) (fun _ _ z => z)
  cases f with
  | next => obtain ⟨τ, G, J, q⟩ := hsp; exact wpAny_execs_nil ⟨τ, G, J.ofTry ok, q⟩
  | brk => obtain ⟨τ, G, J, q⟩ := hsp; exact ⟨τ, G, J.ofTry ok, q⟩
  | cont => obtain ⟨τ, G, J, q⟩ := hsp; exact ⟨τ, G, J.ofTry ok, q⟩
  | ret u => obtain ⟨v, τ, G, J, r, q⟩ := hsp; exact ⟨v, τ, G, J.ofTry ok, r, q⟩
end
end PG

set_option Elab.async false
set_option linter.all false
set_option maxRecDepth 100000
set_option maxHeartbeats 4000000
namespace PG
open PySem PySem.Spec PyProof.Rows L2
open PySem.W (T3 T4 Datum DatumOrd Holds HoldAll EachIs)
variable {K0 : PySem.W.Frag} [KF K0]
/-! ### xs.remove(y) of a list of data, y in it -/
/-- where y stands in xs -/
def ixL {a : Type} [DecidableEq a] (xs : List a) (y : a) : Nat := xs.idxOf y
def remL {a : Type} [DecidableEq a] (xs : List a) (y : a) : List a := xs.take (ixL xs y) ++ xs.drop (ixL xs y + 1)
section
variable {a : Type} [Py a] [DecidableEq a] [Datum a] [IsD a]
theorem RL.rem {F : Hp} {vs : List V} {xs : List a} (h : RL F vs xs) (y : a) : RL F (vs.take (ixL xs y) ++ vs.drop (ixL xs y + 1)) (remL xs y) := RL.app (h.take _) (h.drop _)
omit [Py a] [IsD a] in
theorem place_of : ∀ {xs : List a} {y : a}, y ∈ xs → SeqAt.dataPlace (xs.map Datum.toD) (Datum.toD y) = some (xs.idxOf y)
  | [], _, h => nomatch h
  | x :: xs, y, h => by
    unfold SeqAt.dataPlace
    rw [List.map_cons, List.findIdx?_cons, Datum.eqv, List.idxOf_cons]
    by_cases c : x = y
    · rw [if_pos (decide_eq_true c)]
      rw [show (x == y) = true from by rw [c]; exact beq_self_eq_true y]
      rfl
    · rw [if_neg (fun z => c (of_decide_eq_true z))]
      rw [show (x == y) = false from beq_eq_false_iff_ne.mpr c]
      have hm : y ∈ xs := by
        rcases List.mem_cons.mp h with e | e
        · exact (c e.symm).elim
        · exact e
      have ih := place_of hm
      unfold SeqAt.dataPlace at ih
      rw [ih]
      rfl
end
def rRemT (a : Type) [Py a] [DecidableEq a] : V → List V → Hp → VK → Prop := fun x xs H Q => ∃ (l : Addr) (vs : List V) (ys : List a) (y : V) (p : a), x = .ref l ∧ xs = [y] ∧ H l = some (.lst vs) ∧ RL H vs ys ∧ R H y p ∧ p ∈ ys ∧ Q .non (upd H l (.lst (vs.take (ixL ys p) ++ vs.drop (ixL ys p + 1))))
section
variable {X : Cx} (a : Type) [Py a] [DecidableEq a] [Datum a] [IsD a]
theorem mt_removeT (hu : X.A.units + 64 < cLine) (hd : Datum.depth a ≤ 60 := by decide) (hK : X.K = K0 := by rfl) : MtR X "list.remove" (rRemT a) := by
  subst hK
  intro pins s σ H x xs v us Q I rx rxs h
  obtain ⟨l, vs, ys, y, p, rfl, rfl, hH, hl, hp, hm, q⟩ := h
  cases rx
  obtain ⟨u, rfl, ru⟩ := rxs.one
  obtain ⟨z, its, n, r, hlen, e⟩ := I.lstM hH
  obtain ⟨as, rs⟩ := hl.holds I r
  obtain ⟨bs, rx⟩ := hp.holds I ru
  refine SeqAt.remove_list_data (vs := its.toArray) ⟨_, e, rfl, n, rfl⟩ (by simpa using rs) rx (PySem.W.plainAll_map ys) (Datum.plain p) (PySem.W.room_items (PySem.W.depthAll_map ys) (by omega)) (place_of hm) (by rw [List.size_toArray]; omega) ?_
  refine ⟨.non, _, I.lset (its' := its.take (ixL ys p) ++ its.drop (ixL ys p + 1)) hH e ?_ ((r.take _).append (r.drop _)) ?_, rfl, q⟩
  · show its.toArray.eraseIdxIfInBounds (ixL ys p) = _
    rw [List.eraseIdxIfInBounds_toArray, List.eraseIdx_eq_take_drop_succ]
  · rw [List.length_append, List.length_take, List.length_drop]
    omega
end
/-! ### a list seen as one of options -/
theorem RL.somes {a : Type} [Py a] {F : Hp} : ∀ {xs : List a} {vs : List V}, RL F vs xs → RL F vs (xs.map some)
  | [], vs, h => by
    rw [RL.nil_ h]
    exact RL.nil
  | x :: xs, vs, h => by
    obtain ⟨w, ws, rfl, h1, h2⟩ := RL.cons_ h
    exact RL.cons (R.jst h1) (RL.somes h2)
/-! ### range(hi, lo, -1) -/
def rangeD (hi lo : Int) : List Int := (List.range (hi - lo).toNat).map fun (i : Nat) => hi + (i : Int) * (-(1 : Int))
theorem rangeD_len {hi lo : Int} : (rangeD hi lo).length = (hi - lo).toNat := by
  unfold rangeD
  rw [List.length_map, List.length_range]
theorem rangeD_get {hi lo : Int} {i : Nat} (h : i < (hi - lo).toNat) : (rangeD hi lo).drop i = (hi + (i : Int) * (-(1 : Int))) :: (rangeD hi lo).drop (i + 1) := by
  apply drop_at
  unfold rangeD
  rw [List.getElem?_map, List.getElem?_range h]
  rfl
theorem rangeD_end {hi lo : Int} : (rangeD hi lo).drop (hi - lo).toNat = [] := List.drop_eq_nil_of_le (by rw [rangeD_len]; exact Nat.le_refl _)
end PG

set_option Elab.async false
set_option linter.all false
set_option maxRecDepth 100000
set_option maxHeartbeats 4000000
namespace PG
open PySem PySem.Spec PyProof.Rows L2
open PySem.W (T3 T4 Datum DatumOrd Holds HoldAll EachIs)
variable {K0 : PySem.W.Frag} [KF K0]
/-! ### for k in d, keys pairs of whole numbers -/
theorem rd_got {κ K' β : Type} [DK κ K'] [Py β] {F : Hp} {kvs : List (K' × V)} {xs : List (κ × β)} (h : RD F kvs xs) : ∀ {i : Nat} {k : K'} {v : V}, kvs[i]? = some (k, v) → ∃ (y : κ) (b : β), xs[i]? = some (y, b) ∧ k = DK.kk y := by
  induction h with
  | nil =>
    intro i k v e
    simp at e
  | @cons k0 v0 y0 kvs xs h t ih =>
    intro i k v e
    cases i with
    | zero =>
      have e := Option.some.inj e
      injection e with e1 e2
      exact ⟨k0, y0, rfl, e1.symm⟩
    | succ i => exact ih (i := i) (by simpa using e)
theorem keys_at {κ β : Type} {xs : List (κ × β)} {i : Nat} {y : κ} {b : β} (e : xs[i]? = some (y, b)) : (List.map (fun x => x.1) xs)[i]? = some y := by rw [List.getElem?_map, e]; rfl
theorem one_tup {H : Hp} {q : Addr} {xs : List V} (h : H q = some (.tup xs)) : ∀ b ∈ [q], ∃ xs, H b = some (.tup xs) := fun b hb => by rw [List.mem_singleton.mp hb]; exact ⟨_, h⟩
theorem key_R {F H : Hp} {q : Addr} {k : List Key} {y : Int × Int} (e : k = DK.kk y) (h : H q = some (.tup (k.map kV))) (hb : ∀ b ∈ [q], F b = H b) : R F (.ref q) y := by
  rw [e] at h
  have h2 : F q = some (.tup [.int y.1, .int y.2]) := (hb q (List.mem_singleton.mpr rfl)).trans h
  exact R.t2 h2 R.int R.int
theorem rd_klen {κ K' β : Type} [DK κ K'] [Py β] {F : Hp} {kvs : List (K' × V)} {xs : List (κ × β)} (h : RD F kvs xs) : kvs.length = (List.map (fun x => x.1) xs).length := by rw [List.length_map]; exact h.len
theorem drop_endK {a b : Type} {ys : List a} {xs : List b} (h : ys.length = xs.length) : xs.drop ys.length = [] := List.drop_eq_nil_of_le (by omega)
/-! ### the state told anew behind a name's binding (else Lean's unifier walks through all bindings again) -/
def gNameN (i : Nat) : TG := fun v σ H Q => ∃ σ' : L2.St, σ' = σ.set i (some v) ∧ Q σ' H
theorem gNameN_eq (i : Nat) : gNameN i = gName i := by
  funext v σ H Q
  exact propext ⟨fun ⟨_, e, q⟩ => by subst e; exact q, fun q => ⟨_, rfl, q⟩⟩
theorem ps_toN {X : Cx} {st : Stmt} {te : TE} {i : Nat} (h : PS X st (tAsg te (gName i))) : PS X st (tAsg te (gNameN i)) := by
  rw [gNameN_eq]
  exact h
theorem to_dec {p : Prop} (i j : Decidable p) : @decide p i = @decide p j := by cases i <;> cases j <;> first | rfl | contradiction
/-! ### tuple(xs) of two, t[:2] of three -/
def twoL {a : Type} : List a → Option (a × a)
  | [x, y] => some (x, y)
  | _ => none
theorem RL.tw {a : Type} [Py a] {F : Hp} {vs : List V} {xs : List a} {y : a × a} (h : RL F vs xs) (e : twoL xs = some y) : ∃ v w, vs = [v, w] ∧ R F v y.1 ∧ R F w y.2 := by
  match xs, e with
  | [x1, x2], e =>
    have e := Option.some.inj e
    subst e
    obtain ⟨v, ws, rfl, h1, h2⟩ := RL.cons_ h
    obtain ⟨w, ws, rfl, h3, h4⟩ := RL.cons_ h2
    have := RL.nil_ h4
    subst this
    exact ⟨v, w, rfl, h1, h3⟩
theorem sl32 (a b c : V) : ¬ (HT.sIx [a, b, c].length 0 none = 0 ∧ HT.sIx [a, b, c].length [a, b, c].length (some (2 : Int)) = [a, b, c].length) := fun h => absurd h.2 (by show ¬ (2 : Nat) = 3; decide)
/-! ### d.get(k) -/
section
variable {β : Type} {H : Hp} {a b : Addr}
theorem dgo_T {kvs : List (List Key × V)} {i j : Int} (e : Rd H a (.dT kvs)) (eb : H b = some (.tup [.int i, .int j])) : DGet H a (.ref b) (valV kvs (DK.kk (i, j))) := dgt (k := [.inl i, .inl j]) e eb
theorem dgo_I {kvs : List (Key × V)} {i : Int} (e : Rd H a (.dK kvs)) : DGet H a (.int i) (valV kvs (DK.kk i)) := dgk (k := .inl i) e
theorem dgo_S {kvs : List (Key × V)} {i : Str} (e : Rd H a (.dK kvs)) : DGet H a (.str i) (valV kvs (DK.kk i)) := dgk (k := .inr i) e
end
theorem dget1 {κ K' β : Type} [DK κ K'] [DecidableEq κ] [DecidableEq K'] [Py β] {F : Hp} {kvs : List (K' × V)} {xs : List (κ × β)} (h : RD F kvs xs) (k : κ) : ∃ v, (valV kvs (DK.kk k)).getD .non = v ∧ R F v (dGet xs k) := by
  rcases h.get k with ⟨a, b⟩ | ⟨y, v, a, b, c⟩
  · rw [a, b]; exact ⟨_, rfl, R.non⟩
  · rw [a, b]; exact ⟨_, rfl, R.jst c⟩
theorem dget1J {κ K' β : Type} [DK κ K'] [DecidableEq κ] [DecidableEq K'] [Py β] {F : Hp} {kvs : List (K' × V)} {xs : List (κ × Option β)} (h : RD F kvs xs) (k : κ) : ∃ v, (valV kvs (DK.kk k)).getD .non = v ∧ R F v ((dGet xs k).join) := by
  rcases h.get k with ⟨a, b⟩ | ⟨y, v, a, b, c⟩
  · rw [a, b]; exact ⟨_, rfl, R.non⟩
  · rw [a, b]; exact ⟨_, rfl, c⟩
/-! ### t[::-1] of a pair -/
section
variable {prog : Program} {w : World} {A : Around} {E : Value → Shared → Prop} {s : Shared}
theorem pair_back {t sl : Addr} {u1 u2 vs : Value} {Q : Value → Shared → Prop} (ht : IsTup s.heap t #[u1, u2]) (hs : s.heap.IsSliceOf sl .none .none vs) (ps : IsPart vs (some (-1)))
    (h : Q (.ref s.heap.objs.size) { s with heap := s.heap.push { cls := .type "tuple", data := .seq #[u2, u1] } }) : wpAny (model prog w) A (getItem (.ref t) (.ref sl)) Q E s := by
  obtain ⟨os, hos, hcs, hds⟩ := id hs
  have hTs : s.TypeIs (.ref sl) "slice" := ⟨os, hos, hcs⟩
  unfold getItem
  try with_reducible refine wpAny_holding ?_
  first | refine wpAny_bind (wpAny_pure ?_) | skip
  refine wpAny_bind (wpAny_sequenceKey ht.typeIs (by decide) ?_)
  refine wpAny_bind (wpAny_callSpecial?_slot (name := Str.ofString "__getitem__") ht.typeIs PyProof.Rows.slot_tuple_getitem
    (wpAny_call_entry PyProof.Rows.slot_tuple_getitem ht.typeIs PyProof.Rows.entry_tuple_getitem ?_ (PyProof.Rows.args_tuple_getitem _ _)))
  show wpAny _ _ (Builtin.Tuple.tupleItemsOf (.ref t) >>= _) _ _ s
  refine wpAny_bind (tupleItemsOf_ ht ?_)
  refine wpAny_bind (wpAny_typeOf hTs ?_)
  rw [if_pos (by decide)]
  have hp : ∀ {A : Around} {Q : Option Int → Shared → Prop} {s : Shared}, Q (some (-1)) s → wpAny (model prog w) A (Builtin.Slice.slicePartIndex vs) Q E s := by
    intro A Q s hq
    cases ps with
    | int i t => exact slicePart_int hq
  have key : ∀ {A : Around} {Q : Int × Int × Nat → Shared → Prop}, Q (1, -1, 2) s → wpAny (model prog w) A (Builtin.Slice.sliceApplied (.ref sl) (pure (2 : Int))) Q E s := by
    intro A Q hq
    unfold Builtin.Slice.sliceApplied Builtin.Slice.sliceFields
    refine wpAny_bind (wpAny_bind (wpAny_field hos hds (x := .none) rfl (wpAny_bind (wpAny_field hos hds (x := .none) rfl (wpAny_bind (wpAny_field hos hds (x := vs) rfl (wpAny_pure ?_)))))))
    refine wpAny_bind (hp ?_)
    show wpAny _ _ (if ((-1 : Int) == 0) = true then _ else _) _ _ s
    rw [if_neg (by decide)]
    refine wpAny_bind (slicePart_none (wpAny_bind (slicePart_none (wpAny_bind (wpAny_pure ?_)))))
    exact wpAny_pure hq
  refine wpAny_bind (key ?_)
  show wpAny _ _ (if (((1 : Int) == 0 && (-1 : Int) == 1 && (2 : Nat) == 2) = true) then _ else _) _ _ s
  rw [if_neg (by decide)]
  first
    | exact wpAny_bind (m := Builtin.Tuple.tupleExact _) (wpAny_newObj_type (wpAny_pure ⟨_, rfl, wpAny_pure h⟩) (by show (2 : Nat) ≤ sizeLine; decide))
    | exact wpAny_bind (m := Builtin.Tuple.tupleExact _) (wpAny_newObj_type (wpAny_bind (wpAny_pure (wpAny_pure ⟨_, rfl, wpAny_pure h⟩))) (by show (2 : Nat) ≤ sizeLine; decide))
    | exact wpAny_bind (wpAny_bind (m := Builtin.Tuple.tupleExact _) (wpAny_newObj_type (wpAny_pure (wpAny_pure ⟨_, rfl, wpAny_pure h⟩)) (by show (2 : Nat) ≤ sizeLine; decide)))
end
def tRevT2 (K : PySem.W.Frag) (te : TE) : TE := fun σ H Q => te σ H fun x H1 => ∃ a v1 v2, x = .ref a ∧ SqT K H1 a [v1, v2] ∧ ∀ p, H1 p = none → Q (.ref p) (upd H1 p (.tup [v2, v1]))
theorem pe_revT2 {X : Cx} {K : PySem.W.Frag} (hK : X.K = K) {e : Expr} {te : TE} {k : Nat} {p1 p2 p3 pos : Pos} (he : PE X e te) : PE X (.Subscript e (.Slice none none (some (.UnaryOp .USub (.Constant (.int 1) k p1) p2)) p3) pos) (tRevT2 K te) := by
  subst hK
  constructor
  intro pins s σ H Q I hw
  refine Subscript_ (thn (he.run pins s σ H _ I hw) ?_)
  rintro v s1 ⟨x, H1, I1, r1, a, v1, v2, rfl, hx, q⟩
  cases r1
  have hst : PO X (some (.UnaryOp .USub (.Constant (.int 1) k p1) p2)) (tPart (tUn (rU fun i => .int (-i)) (tC (.int 1)))) := po_some (pe_un un_neg pe_int)
  refine wpAny_Slice (thn (po_none.run pins s1 σ H1 (fun o H2 => o = none ∧ H2 = H1) I1 ⟨rfl, rfl⟩) ?_)
  rintro vl s2 ⟨l, H2, I2, pl, rfl, rfl⟩
  refine thn (po_none.run pins s2 σ H2 (fun o H3 => o = none ∧ H3 = H2) I2 ⟨rfl, rfl⟩) ?_
  rintro vu s3 ⟨u, H3, I3, pu, rfl, rfl⟩
  refine thn (hst.run pins s3 σ H3 (fun o H4 => o = some (-1) ∧ H4 = H3) I3 ⟨1, rfl, -1, rfl, rfl, rfl⟩) ?_
  rintro vs s4 ⟨o, H4, I4, ps, rfl, rfl⟩
  cases pl
  cases pu
  have I5 : Inv X pins σ H4 { s4 with heap := s4.heap.push { cls := .type "slice", data := .fields #[.none, .none, vs] } } := I4.kept (t' := s4.toks) fun b ob q => Heap.get?_push_of_some _ q
  obtain ⟨its, r, ht, hz⟩ := I5.tuple hx
  obtain ⟨w1, w2, rfl, m1, m2⟩ : ∃ w1 w2, its = [w1, w2] ∧ RelV v1 w1 ∧ RelV v2 w2 := by
    cases r with
    | cons a b =>
      cases b with
      | cons c d =>
        cases d
        exact ⟨_, _, rfl, a, c⟩
  show wpAny (model X.prog X.w) X.A (subscriptTail e (.Slice none none (some (.UnaryOp .USub (.Constant (.int 1) k p1) p2)) p3) (.ref a) (.ref s4.heap.objs.size)) (EP X pins σ Q) X.xe { s4 with heap := s4.heap.push { cls := .type "slice", data := .fields #[.none, .none, vs] } }
  refine tail_any (ops := [.ref a, .ref s4.heap.objs.size]) ht.typeIs (PyProof.Rows.slot_tuple_getitem.lookup) ?_ (by with_unfolding_all rfl)
  refine pair_back ht (Heap.IsSliceOf.new _ .none .none vs) ps ?_
  refine ⟨.ref _, _, I5.laid (t' := s4.toks) (o := .tup [v2, v1]) (fun b ob q => Heap.get?_push_of_some _ q) (Nat.le_refl _) ?_, rfl, q _ (I5.hok.fresh (Nat.le_refl _))⟩
  exact ⟨by show (2 : Nat) ≤ sizeLine; decide, _, .cons m2 (.cons m1 .nil), IsTup.new _ _⟩
/-! ### reversed(xs) -/
theorem lc_rev {K : PySem.W.Frag} {a : Addr} {xs : List V} {g : TG} {tt : TT} {te : TE} {vs : List Nat} {σ : L2.St} {H1 : Hp} {D : Addr} {Qd : Hp → Prop} (Pv : Nat → Hp → Prop) (h0 : Pv 0 (upd H1 D (.lst []))) (hl : ∀ i H, i ≤ xs.length → Pv i H → SqL K H a xs)
    (hs : ∀ i x H, xs.reverse[i]? = some x → Pv i H → g x (wipe σ vs) H fun σ2 H2 => wipe σ2 vs = wipe σ vs ∧ tt σ2 H2 fun b H3 =>
      if b = true then te σ2 H3 fun y H4 => ∃ acc, H4 D = some (.lst acc) ∧ acc.length < sizeLine ∧ Pv (i + 1) (upd H4 D (.lst (acc ++ [y]))) else Pv (i + 1) H3) (hd : ∀ H, Pv xs.length H → Qd H) :
    ∃ W : Nat → Nat → Hp → Prop, (∃ m, W 0 m (upd H1 D (.lst []))) ∧ ∀ i m H, W i m H →
      ((Itv K a xs.length).stop i H ∧ Qd H) ∨ ((Itv K a xs.length).go i H ∧ ∃ Nx : Hp → Prop, (∀ H', Nx H' → ∃ m', m' < m ∧ W (i + 1) m' H') ∧ ∀ x H', (Itv K a xs.length).yld i H x H' → g x (wipe σ vs) H' fun σ2 H2 => wipe σ2 vs = wipe σ vs ∧ tt σ2 H2 fun b H3 =>
        if b = true then te σ2 H3 fun y H4 => ∃ acc, H4 D = some (.lst acc) ∧ acc.length < sizeLine ∧ Nx (upd H4 D (.lst (acc ++ [y]))) else Nx H3) :=
  lc_it walk_rev Pv h0 hl (fun i x H H' hi p y => by obtain ⟨rfl, e⟩ := y; exact hs i x _ (by rw [List.getElem?_reverse hi]; exact e) p) hd
theorem piRevK {X : Cx} {K : PySem.W.Frag} {tg e : Expr} {ta : TA} (h : X.K = K) (hp : PI X tg e (iRev X.K ta)) : PI X tg e (iRev K ta) := by rw [← h]; exact hp
theorem rev_len {a : Type} [Py a] {F : Hp} {vs : List V} {xs : List a} (h : RL F vs xs) : vs.length = xs.reverse.length := by rw [List.length_reverse]; exact h.len
theorem atI_ix {a : Type} {xs : List a} {i : Int} {x : a} (e : L2.atI xs i = some x) : ∃ n, ixN xs.length i = some n ∧ xs[n]? = some x := by
  unfold L2.atI at e
  cases h : ixN xs.length i with
  | none => rw [h] at e; exact nomatch e
  | some n => rw [h] at e; exact ⟨n, rfl, e⟩
/-! ### rows that stand alone: a list of pairs of a branch and a list of its own, one of which is changed -/
def SepP (Z F : Hp) (ws : List V) : Prop := ∃ qs : List (Addr × V × Addr × List V), ws = qs.map (fun q => V.ref q.1) ∧
  (∀ q ∈ qs, F q.1 = some (.tup [q.2.1, .ref q.2.2.1]) ∧ F q.2.2.1 = some (.lst q.2.2.2) ∧ Z q.2.2.1 = none) ∧ (qs.map fun q => q.2.2.1).Nodup
def SepA (Z F : Hp) (p : Addr) : Prop := ∃ ws, F p = some (.lst ws) ∧ SepP Z F ws
theorem SepP.nil {Z F : Hp} : SepP Z F [] := ⟨[], rfl, fun _ h => (nomatch h), List.nodup_nil⟩
theorem SepP.mono {Z F F' : Hp} {ws : List V} (h : SepP Z F ws) (S : Same F F') : SepP Z F' ws := by
  obtain ⟨qs, e, k, nd⟩ := h
  exact ⟨qs, e, fun q hq => ⟨S _ _ (k q hq).1, S _ _ (k q hq).2.1, (k q hq).2.2⟩, nd⟩
theorem SepA.mono {Z F F' : Hp} {p : Addr} (h : SepA Z F p) (S : Same F F') : SepA Z F' p := by
  obtain ⟨ws, e, k⟩ := h
  exact ⟨ws, S _ _ e, k.mono S⟩
theorem SepP.snoc {Z F F' : Hp} {ws us : List V} {q r : Addr} {b : V} (h : SepP Z F ws) (S : Same F F') (hf : F r = none) (hz : Z r = none) (ht : F' q = some (.tup [b, .ref r])) (hr : F' r = some (.lst us)) : SepP Z F' (ws ++ [.ref q]) := by
  obtain ⟨qs, e, k, nd⟩ := h
  refine ⟨qs ++ [(q, b, r, us)], by rw [e, List.map_append]; rfl, fun x hx => ?_, ?_⟩
  · rcases List.mem_append.mp hx with hx | hx
    · exact ⟨S _ _ (k x hx).1, S _ _ (k x hx).2.1, (k x hx).2.2⟩
    · rw [List.mem_singleton.mp hx]; exact ⟨ht, hr, hz⟩
  · rw [List.map_append, List.nodup_append]
    refine ⟨nd, by simp, fun x hx y hy z => ?_⟩
    obtain ⟨w, hw, rfl⟩ := List.mem_map.mp hx
    have hy : y = r := by simpa using hy
    have := (k w hw).2.1
    rw [z, hy, hf] at this
    exact nomatch this
theorem RL.pt {a : Type} [Py a] {F : Hp} : ∀ {ws : List V} {xs : List a}, ws.length = xs.length → (∀ (m : Nat) (w : V) (x : a), ws[m]? = some w → xs[m]? = some x → R F w x) → RL F ws xs
  | [], [], _, _ => RL.nil
  | [], _ :: _, e, _ => by simp at e
  | _ :: _, [], e, _ => by simp at e
  | w :: ws, x :: xs, e, h => RL.cons (h 0 w x rfl rfl) (RL.pt (by simpa using e) fun m w x a b => h (m + 1) w x a b)
theorem sep_put {Z : Ent} {F H : Hp} (O : Ow Z F [] H) (P0 : Same Z.F Z.H) {pa q r : Addr} {b : V} {ws us : List V} {xs : List ((Int × Int) × List Int)} {row : List Int} {y : Int × Int} {n j : Nat} {v : Int}
    (hS : SepA Z.H F pa) (hpa : F pa = some (.lst ws)) (hl : RL F ws xs) (e : ws[n]? = some (.ref q)) (hq : F q = some (.tup [b, .ref r])) (hr : F r = some (.lst us)) (hb : R F b y) (hus : RL F us row) :
    ∃ F', Ow Z F' [] (upd H r (.lst (us.set j (.int v)))) ∧ Same Z.F F' ∧ R F' (.ref pa) (xs.set n (y, row.set j v)) := by
  obtain ⟨ws', e1, qs, e2, k, nd⟩ := hS
  rw [hpa] at e1
  have e1 : ws = ws' := by injection e1 with e1; injection e1
  subst e1
  have at_ : ∀ {m : Nat} {w : V}, ws[m]? = some w → ∃ x, qs[m]? = some x ∧ w = .ref x.1 := fun {m w} h => by
    rw [e2, List.getElem?_map] at h
    cases h2 : qs[m]? with
    | none => rw [h2] at h; exact nomatch h
    | some x => rw [h2] at h; exact ⟨x, rfl, (Option.some.inj h).symm⟩
  obtain ⟨x0, hx0, ex0⟩ := at_ e
  have kx := k x0 (List.mem_of_getElem? hx0)
  have eq0 : q = x0.1 := by injection ex0
  subst eq0
  rw [hq] at kx
  have two : ∀ {b b' : V} {r r' : Addr}, (some (HO.tup [b, .ref r]) : Option HO) = some (.tup [b', .ref r']) → r = r' := fun h => by
    injection h with h
    injection h with h
    injection h with _ h
    injection h with h
    injection h
  have er : r = x0.2.2.1 := two kx.1
  have hz : Z.H r = none := by rw [er]; exact kx.2.2
  have hzf : Z.F r = none := by
    cases h : Z.F r with
    | none => rfl
    | some o => rw [P0 _ _ h] at hz; exact nomatch hz
  have hus' := RL.ints hus
  refine ⟨upd F r (.lst (us.set j (.int v))), ⟨⟨fun c u h => ?_, Same.upd2 O.g.s, fun c u hc h => ?_, fun c h => ?_, fun c h => ?_, fun c z h => ?_⟩, fun _ h => (nomatch h), fun _ h => (nomatch h), List.nodup_nil, fun _ h => (nomatch h), fun _ h => nomatch h⟩, fun c u h => ?_, ?_⟩
  · rw [upd_ne (fun z => by subst z; rw [hzf] at h; exact nomatch h)]
    exact O.g.f _ _ h
  · rw [upd_ne (fun z => by subst z; rw [hz] at h; exact nomatch h)]
    exact O.g.k _ _ hc h
  · by_cases z : c = r
    · subst z; rw [upd_same]; exact fun z => nomatch z
    · rw [upd_ne z]; exact O.g.t _ h
  · rw [upd_ne (fun z => by subst z; exact h hz)]
    exact O.g.n _ h
  · by_cases w : c = r
    · subst w; rw [upd_same] at h; exact nomatch h
    · rw [upd_ne w] at h; exact O.g.u _ _ h
  · rw [upd_ne (fun z => by subst z; rw [hzf] at h; exact nomatch h)]
    exact O.g.f _ _ h
  · have tp : ∀ (c : Addr) (z : List V), F c = some (.tup z) → upd F r (.lst (us.set j (.int v))) c = some (.tup z) := fun c z h => by
      rw [upd_ne (fun w => by subst w; rw [hr] at h; exact nomatch h)]
      exact h
    have hpr : pa ≠ r := fun z => by
      subst z
      rw [hpa] at hr
      have hr : ws = us := by injection hr with hr; injection hr
      rw [hr, hus', List.getElem?_map] at e
      cases h2 : row[n]? with
      | none => rw [h2] at e; exact nomatch e
      | some x => rw [h2] at e; exact nomatch e
    refine R.lst (by rw [upd_ne hpr]; exact hpa) (RL.pt (by rw [List.length_set]; exact hl.len) fun m w x h1 h2 => ?_)
    by_cases c : n = m
    · subst c
      have hn : n < xs.length := by
        rw [← hl.len]
        exact (List.getElem?_eq_some_iff.mp h1).1
      rw [List.getElem?_set_self hn] at h2
      rw [e] at h1
      cases h1
      cases h2
      refine R.t2 (tp _ _ hq) (NoL.mv _ _ tp _ _ hb) ?_
      refine R.lst upd_same ?_
      rw [hus']
      have := RL.of_ints (H := upd F r (.lst (us.set j (.int v)))) (xs := row.set j v)
      rw [List.map_set] at this
      rw [hus'] at this
      exact this
    · rw [List.getElem?_set_ne c] at h2
      obtain ⟨w', hw', rw'⟩ := hl.get h2
      rw [h1] at hw'
      cases hw'
      obtain ⟨q1, b1, v1, e3, hq1, hb1, hv1⟩ := R.t2_ rw'
      subst e3
      obtain ⟨r1, us1, e4, hr1, hu1⟩ := R.lst_ hv1
      subst e4
      obtain ⟨x1, hx1, ex1⟩ := at_ h1
      have k1 := k x1 (List.mem_of_getElem? hx1)
      have eq1 : q1 = x1.1 := by injection ex1
      subst eq1
      rw [hq1] at k1
      have er1 : r1 = x1.2.2.1 := two k1.1
      have hne : r1 ≠ r := fun z => by
        have g1 : (qs.map fun q => q.2.2.1)[n]? = some r := by rw [List.getElem?_map, hx0, er]; rfl
        have g2 : (qs.map fun q => q.2.2.1)[m]? = some r := by rw [List.getElem?_map, hx1, ← z, er1]; rfl
        exact c (nd_ix nd g1 g2)
      refine R.t2 (tp _ _ hq1) (NoL.mv _ _ tp _ _ hb1) (R.lst (by rw [upd_ne hne]; exact hr1) ?_)
      rw [RL.ints hu1]
      exact RL.of_ints
/-! ### d.setdefault(k, z), d.get(k, z) -/
def dSetd {κ β : Type} [DecidableEq κ] (xs : List (κ × β)) (k : κ) (z : β) : List (κ × β) := match dGet xs k with
  | some _ => xs
  | none => dPut xs k z
def setdD {κ β : Type} [DecidableEq κ] (xs : List (κ × β)) (k : κ) (z : β) : M (β × List (κ × β)) := if xs.length < 16777216 then .ok ((dGet xs k).getD z, dSetd xs k z) else bad
theorem wp_setdD {κ β a : Type} [DecidableEq κ] {Q : a → Prop} {E : String → Prop} {xs : List (κ × β)} {j : κ} {y : β} {k : β × List (κ × β) → M a} (h : wp (setdD xs j y >>= k) Q E) : xs.length < sizeLine ∧ wp (k ((dGet xs j).getD y, dSetd xs j y)) Q E := by
  unfold setdD at h
  by_cases hl : xs.length < 16777216
  · rw [if_pos hl] at h
    exact ⟨lt_line hl, h⟩
  · rw [if_neg hl] at h
    exact h.elim
section
variable {κ K' β : Type} [DK κ K'] [DecidableEq κ] [DecidableEq K'] [Py β] {F : Hp} {kvs : List (K' × V)} {xs : List (κ × β)}
theorem setd_ok (h : RD F kvs xs) (k : κ) {vz : V} {z : β} (hz : R F vz z) : ∃ v' kvs', RD F kvs' (dSetd xs k z) ∧ R F v' ((dGet xs k).getD z) ∧ (valV kvs (DK.kk k) = none → v' = vz ∧ kvs' = putK kvs (DK.kk k) vz) ∧ (∀ u, valV kvs (DK.kk k) = some u → v' = u ∧ kvs' = kvs) := by
  unfold dSetd
  rcases h.get k with ⟨a, b⟩ | ⟨y, v, a, b, c⟩
  · rw [a, b]; exact ⟨vz, _, h.put k hz, hz, fun _ => ⟨rfl, rfl⟩, fun u e => nomatch e⟩
  · rw [a, b]; exact ⟨v, kvs, h, c, fun e => (nomatch e), fun u e => ⟨Option.some.inj e, rfl⟩⟩
theorem dgetD_any (h : RD F kvs xs) (k : κ) {vz : V} {z : β} (hz : R F vz z) : ∃ v, (valV kvs (DK.kk k)).getD vz = v ∧ R F v ((dGet xs k).getD z) := by
  rcases h.get k with ⟨a, b⟩ | ⟨y, v, a, b, c⟩
  · rw [a, b]; exact ⟨_, rfl, hz⟩
  · rw [a, b]; exact ⟨_, rfl, c⟩
end
def tDSetdX (td ty tx : TE) : TE := fun σ H Q => td σ H fun x H1 => ∃ a, x = .ref a ∧ L2.IsD H1 a ∧ ty σ H1 fun y H2 => tx σ H2 fun z H3 => ∃ (kvs : List (Key × V)) (k : Key) (v' : V) (kvs' : List (Key × V)), H3 a = some (.dK kvs) ∧ y = kV k ∧ kvs.length < sizeLine ∧
  (valV kvs k = none → v' = z ∧ kvs' = putK kvs k z) ∧ (∀ u, valV kvs k = some u → v' = u ∧ kvs' = kvs) ∧ Q v' (upd H3 a (.dK kvs'))
theorem pe_dsetdX {X : Cx} {o e f : Expr} {td ty tx : TE} {apos cpos : Pos} (ho : PE X o td) (he : PE X e ty) (hf : PE X f tx) (m : M2 X o "setdefault" apos e f cpos) : PE X (.Call (.Attribute o "setdefault" apos) [e, f] [] cpos) (tDSetdX td ty tx) := by
  refine ⟨fun pins s σ H Q I h => ?_⟩
  refine wpAny_Call_method m.base m.few m.line PySem.F.plainAttrs_dict PySem.F.slot_dict_setdefault PySem.F.type_dict_setdefault (thn (ho.run pins s σ H _ I h) fun u s1 ⟨x, H1, I1, rx, a, ex, d, q1⟩ => ?_)
  subst ex
  obtain rfl : u = Value.ref a := rx
  obtain ⟨t1, t2, _⟩ := isD_at I1 d
  refine ⟨t1, t2, ?_⟩
  rw [m.trees]
  refine Calls.callWith_builtin rfl (Calls.evalArgs_plain (Calls.spliced_cons (thn (he.run pins s1 σ H1 _ I1 q1) fun iv s2 ⟨y, H2, I2, ry, q2⟩ =>
    Calls.spliced_cons (thn (hf.run pins s2 σ H2 _ I2 q2) fun fv s3 ⟨z, H3, I3, rz, kvs, k, v', kvs', ea, ey, hl, q3, q4, q5⟩ => Calls.spliced_nil ?_))))
  subst ey
  refine d_setd I3 ea ry rz hl (fun v hv w' s4 I4 rw' => ?_) fun hn w' s4 I4 rw' => ?_
  · obtain ⟨e1, e2⟩ := q4 v hv
    rw [e1, e2] at q5
    have eH : upd H3 a (.dK kvs) = H3 := by
      funext b
      by_cases c : b = a
      · subst c; rw [upd_same, ea]
      · rw [upd_ne c]
    rw [eH] at q5
    exact ⟨v, _, I4, rw', q5⟩
  · obtain ⟨e1, e2⟩ := q3 hn
    rw [e1, e2] at q5
    exact ⟨z, _, I4, rw', q5⟩
/-! ### an option of a whole number is told of any heap -/
theorem R.oi_mv {F F' : Hp} {v : V} {x : Option Int} (h : R F v x) : R F' v x := by
  cases x with
  | none => rw [R.non_ h]; exact R.non
  | some i => rw [R.int_ (R.jst_ h)]; exact R.jst R.int
instance : NoL (Option Int) := ⟨fun _ _ _ _ _ h => R.oi_mv h⟩
end PG

set_option Elab.async false
set_option linter.all false
set_option maxRecDepth 100000
set_option maxHeartbeats 4000000
namespace PG
open PySem PySem.Spec PyProof.Rows L2
open PySem.W (T3 T4 Datum DatumOrd Holds HoldAll EachIs)
variable {K0 : PySem.W.Frag} [KF K0]
/-! ### classes: their defs as they stand, as callers use them -/
structure DfM (K : PySem.W.Frag) (C : Addr) (m qual : Str) (st : Stmt) (ps : List Str) : Prop where
  ex : ∃ f fd, Fun K m qual st f fd ∧ Meth K C m f ∧ Binds K fd ps []
structure CaM (P : Program) (w : World) (K : PySem.W.Frag) (mg : Str → Option Value) (base : Heap) (C : Addr) (m : Str) (k : Nat) (ps : List Str) (sp : Sp) : Prop where
  ex : ∃ f fd, FnOk P w K mg base (L2.CX P w) k f fd ps sp ∧ Meth K C m f ∧ True ∧ Binds K fd ps []
structure DfI (K : PySem.W.Frag) (C : Addr) (qual : Str) (st : Stmt) (ps : List Str) : Prop where
  ex : ∃ f fd, Fun K "__init__" qual st f fd ∧ Mk K C f ∧ Binds K fd ps []
structure CaI (P : Program) (w : World) (K : PySem.W.Frag) (mg : Str → Option Value) (base : Heap) (C : Addr) (k : Nat) (ps : List Str) (sp : Sp) : Prop where
  ex : ∃ f fd, FnOk P w K mg base (L2.CX P w) k f fd ps sp ∧ Mk K C f ∧ True ∧ Binds K fd ps []
section
variable {P : Program} {w : World} {K : PySem.W.Frag} {mg : Str → Option Value} {base : Heap} {C : Addr}
theorem CaM.mk' {m qual : Str} {st : Stmt} {N ps : List Str} {k : Nat} {sp : Sp} (D : DfM K C m qual st ps) (S : FnScope N ps (defScope st)) (len : ∀ vs H Q E, sp vs H Q E → vs.length = ps.length)
    (hbody : ∀ (qual' : Str) (f : Addr) (cdv : Value) (A : Around) (outer : List Env) (s : Shared) (H : Hp) (vs : List V) (Q : VK) (E : XK), Room k (A.deeper (envOfC qual (defScope st) s.heap.objs.size f cdv)) → sp vs H Q E →
      ∃ t, PSs (cxOf (L2.CX P w) P w K mg base N qual (defScope st) f cdv A outer s H E) (defBody st) t ∧ t { nx := fun _ H' => Q .non H', rt := Q } (start N vs) H) : CaM P w K mg base C m (k + 1) ps sp := by
  obtain ⟨f, fd, F, m, b⟩ := D.ex
  exact ⟨f, fd, F.okX S len fun cdv A outer s H vs Q E hr h => hbody qual f cdv A outer s H vs Q E hr h, m, trivial, b⟩
theorem CaI.mk' {qual : Str} {st : Stmt} {N ps : List Str} {k : Nat} {sp : Sp} (D : DfI K C qual st ps) (S : FnScope N ps (defScope st)) (len : ∀ vs H Q E, sp vs H Q E → vs.length = ps.length)
    (hbody : ∀ (qual' : Str) (f : Addr) (cdv : Value) (A : Around) (outer : List Env) (s : Shared) (H : Hp) (vs : List V) (Q : VK) (E : XK), Room k (A.deeper (envOfC qual (defScope st) s.heap.objs.size f cdv)) → sp vs H Q E →
      ∃ t, PSs (cxOf (L2.CX P w) P w K mg base N qual (defScope st) f cdv A outer s H E) (defBody st) t ∧ t { nx := fun _ H' => Q .non H', rt := Q } (start N vs) H) : CaI P w K mg base C (k + 1) ps sp := by
  obtain ⟨f, fd, F, m, b⟩ := D.ex
  exact ⟨f, fd, F.okX S len fun cdv A outer s H vs Q E hr h => hbody qual f cdv A outer s H vs Q E hr h, m, trivial, b⟩
end
/-! ### calls of methods, and a class made, within a try -/
section
variable {X : Cx} {k : Nat} {f C : Addr} {fd : FuncData} {ps : List Str} {sp : Sp} {W : WX} {x m : Str} {p apos pos : Pos} {o e : Expr} {es : List Expr} {ta : TE} {t : TA}
def tMethW (C : Addr) (m : Str) (sp : Sp) (W : WX) (ta : TE) (t : TA) : TE := fun σ H Q => ta σ H fun x H1 => ∃ a dx fs, x = .ref a ∧ H1 a = some (.ins C dx fs) ∧ fs.lookup m = none ∧
  t σ H1 fun vs H2 => sp (x :: (vs ++ [])) H2 Q fun cls d H' => W cls d σ H'
theorem pe_methW {pl : Sem Bool} (he : PE X o ta) (c : Cls X.K C) (hm : Meth X.K C m f) (F : FnOk X.prog X.w X.K X.mg X.base (L2.CX X.prog X.w) k f fd ps sp) (hr : Room k X.A) (hb : Binds X.K fd ps []) (tk : Takes X W) (ha : PA X (e :: es) t)
    (hst : starEach (e :: es) X.env = (false, eval e X.env) :: starEach es X.env := by rfl) (hpl : (backTo pos (starEach es X.env)).any (·.1) = false := by rfl)
    (ht : eval (.Call (.Attribute o m apos) (e :: es) [] pos) X.env = (do
      let ov ← eval o X.env
      standAt apos.atName
      let (f, first) ← holding [ov] (getMethod ov m pl)
      callWith pos f first (backTo pos (starEach (e :: es) X.env)) (backToKw pos (keywordEach [] X.env))) := by rfl) :
    PE X (.Call (.Attribute o m apos) (e :: es) [] pos) (tMethW C m sp W ta t) := by
  refine ⟨fun pins s σ H Q I h => ?_⟩
  refine PySem.W.methodCall_KW (pl := pl) (thn (he.run pins s σ H _ I h) fun u s1 ⟨x, H1, I1, rx, a, dx, fs, ex, ea, l, q⟩ => ?_) ht
  subst ex
  obtain rfl : u = Value.ref a := rx
  refine getmeth_ok I1 ea c hm l ?_
  refine PySem.W.callWith_K (first := [.ref a]) (h₀ := X.base) I1.ok.mod.kin hm.kp (thn (ha.run pos pins s1 σ H1 _ I1 q) fun us g ⟨vs, G, J, r, q2⟩ => ⟨J.kIn, ?_⟩) hst hpl
  have r2 : Vals (V.ref a :: (vs ++ [])) (Value.ref a :: us) := by
    rw [List.append_nil]; exact .cons rfl r
  have hl : (Value.ref a :: us).length = ps.length := by rw [← r2.length]; exact F.len _ _ _ _ q2
  refine wpAny_call (codeAny_mono (F.run X.A X.stack g G ⟨Value.ref a :: us, []⟩ (Value.ref a :: us) (V.ref a :: (vs ++ [])) Q (fun cls d H' => W cls d σ H') hr J.env0 (by have := hb g (Value.ref a :: us) J.kIn (by simpa using hl); simpa using this) r2 q2) fun res g' hq => ?_)
  cases res with
  | error z => exact tk _ _ (XE.of_call J (fun _ _ _ h => h) hq)
  | ok fl =>
    cases fl with
    | ret u => exact J.after hq
    | next => exact hq.elim
    | brk => exact hq.elim
    | cont => exact hq.elim
def tMakeW (C : Addr) (sp : Sp) (W : WX) (t : TA) : TE := fun σ H Q => t σ H fun vs H1 => ∀ x dx, H1 x = none → H1 dx = none → dx ≠ x →
  sp (.ref x :: (vs ++ [])) (upd (upd H1 dx (.own x)) x (.ins C dx [])) (fun v H2 => v = .non ∧ Q (.ref x) H2) fun cls d H' => W cls d σ H'
theorem pe_makeW (M : Mk X.K C f) (F : FnOk X.prog X.w X.K X.mg X.base (L2.CX X.prog X.w) k f fd ps sp) (hr : Room (k + 1) X.A) (hg : Gl X x) (hm : X.mg x = some (.ref C)) (hb : Binds X.K fd ps []) (tk : Takes X W)
    (ha : PA X (e :: es) t) (hdb : (x == ("__debug__" : Str)) = false := by decide) (he : starEach (e :: es) X.env = (false, eval e X.env) :: starEach es X.env := by rfl) (hpl : (backTo pos (starEach es X.env)).any (·.1) = false := by rfl) :
    PE X (.Call (.Name x p) (e :: es) [] pos) (tMakeW C sp W t) := by
  refine ⟨fun pins s σ H Q I h => wpAny_Call_Name_kw (ld_glob I hg hm ?_ hdb)⟩
  refine PySem.W.callWith_K (h₀ := X.base) I.ok.mod.kin M.kp (thn (ha.run pos pins s σ H _ I h) fun us s1 ⟨vs, H1, I1, r, h⟩ => ⟨I1.kIn, ?_⟩) he hpl
  have hq := h (s1.heap.objs.size + 1) s1.heap.objs.size (I1.hok.fresh (Nat.le_succ _)) (I1.hok.fresh (Nat.le_refl _)) (Nat.ne_of_lt (Nat.lt_succ_self _))
  have I2 := Inv.made (C := C) I1
  have r2 : Vals (V.ref (s1.heap.objs.size + 1) :: (vs ++ [])) (Value.ref (s1.heap.objs.size + 1) :: us) := by
    rw [List.append_nil]; exact .cons rfl r
  have hl : (Value.ref (s1.heap.objs.size + 1) :: us).length = ps.length := by
    have e := r2.length
    rw [F.len _ _ _ _ hq] at e
    exact e.symm
  refine wpAny_call (make_map (f := f) I1.kIn M.makes M.init (beq_iff_eq.mp M.fn) (codeAny_mono (F.run _ X.stack _ _ ⟨Value.ref (s1.heap.objs.size + 1) :: us, []⟩ (Value.ref (s1.heap.objs.size + 1) :: us) _ _ (fun cls d H' => W cls d σ H') (hr.make C us [])
    (I2.env0.make C us []) (by have := hb _ (Value.ref (s1.heap.objs.size + 1) :: us) I2.kIn (by simpa using hl); simpa using this) r2 hq) fun r s' hq' => ?_))
  cases r with
  | error e => exact tk _ _ (XE.of_call I2 (fun _ _ _ h => h) hq')
  | ok fl =>
    cases fl with
    | ret u =>
      obtain ⟨v, H', I3, rv, ev, q3⟩ := I2.after hq'
      subst ev
      exact ⟨rv, ⟨V.ref (s1.heap.objs.size + 1), H', I3, rfl, q3⟩⟩
    | next => exact False.elim hq'
    | brk => exact False.elim hq'
    | cont => exact False.elim hq'
end
/-! ### cells handed on: some that stay as they are, some that change -/
section
variable {Z : Ent} {F F' H H' : Hp} {cs ds : List (Addr × HO)} {as : List Addr} {p a q : Addr} {o o' : HO}
inductive Pk (cs : List (Addr × HO)) : List Nat → List (Addr × HO) → Prop
  | nil : Pk cs [] []
  | cons {i : Nat} {is : List Nat} {d : Addr × HO} {ds : List (Addr × HO)} : cs[i]? = some d → Pk cs is ds → Pk cs (i :: is) (d :: ds)
theorem Pk.mem {is : List Nat} : ∀ {is : List Nat} {ds : List (Addr × HO)}, Pk cs is ds → ∀ d ∈ ds, d ∈ cs ∧ ∃ i ∈ is, cs[i]? = some d
  | _, _, .nil, d, h => nomatch h
  | _, _, .cons e r, d, h => by
    rcases List.mem_cons.mp h with rfl | h
    · exact ⟨List.mem_of_getElem? e, _, List.mem_cons_self, e⟩
    · obtain ⟨h1, i, h2, h3⟩ := Pk.mem (is := []) r d h
      exact ⟨h1, i, List.mem_cons_of_mem _ h2, h3⟩
theorem Pk.nodup (nd : (cs.map (·.1)).Nodup) : ∀ {is : List Nat} {ds : List (Addr × HO)}, Pk cs is ds → is.Nodup → (ds.map (·.1)).Nodup
  | _, _, .nil, _ => List.nodup_nil
  | _, _, .cons (i := i) (d := d) e r, n => by
    have n := List.nodup_cons.mp n
    rw [List.map_cons, List.nodup_cons]
    refine ⟨fun hm => ?_, Pk.nodup nd r n.2⟩
    obtain ⟨c, hc, ec⟩ := List.mem_map.mp hm
    obtain ⟨_, j, hj, ej⟩ := Pk.mem (is := []) r c hc
    have h1 : (cs.map (·.1))[i]? = some d.1 := by rw [List.getElem?_map, e]; rfl
    have h2 : (cs.map (·.1))[j]? = some d.1 := by rw [List.getElem?_map, ej, ← ec]; rfl
    exact n.1 (nd_ix nd h1 h2 ▸ hj)
theorem Ow.preIx (O : Ow Z F cs H) (is : List Nat) (h : Pk cs is ds) (n : is.Nodup := by decide) : Pre F ds H where
  s := O.g.s
  cf := fun c hc => O.cf c (h.mem (is := []) c hc).1
  ch := fun c hc => O.ch c (h.mem (is := []) c hc).1
  nd := h.nodup O.nd n
  nt := fun c hc => O.nt c (h.mem (is := []) c hc).1
/-- cells of the entry that stand as they stood -/
theorem Gr.less {bs : List Addr} (g : Gr as F H F' H') (h : ∀ b ∈ as, b ∈ bs ∨ ∃ o, H b = some o ∧ H' b = some o) : Gr bs F H F' H' where
  f := g.f
  s := g.s
  k := fun b o hb e => by
    by_cases z : b ∈ as
    · rcases h b z with w | ⟨o', e1, e2⟩
      · exact (hb w).elim
      · rw [e] at e1
        rw [e2, Option.some.inj e1]
    · exact g.k b o z e
  t := g.t
  n := g.n
  u := g.u
theorem Kp.less {bs : List Addr} {H1 : Hp} (k : Kp as H H1) (h : ∀ b ∈ as, b ∈ bs ∨ ∃ o, H b = some o ∧ H1 b = some o) : Kp bs H H1 where
  k := fun b o hb e => by
    by_cases z : b ∈ as
    · rcases h b z with w | ⟨o', e1, e2⟩
      · exact (hb w).elim
      · rw [e] at e1
        rw [e2, Option.some.inj e1]
    · exact k.k b o z e
  t := k.t
theorem less_nil {bs : List Addr} {H1 : Hp} : ∀ b ∈ ([] : List Addr), b ∈ bs ∨ ∃ o, H b = some o ∧ H1 b = some o := fun _ h => nomatch h
theorem less_same {bs : List Addr} {H1 : Hp} (e1 : H a = some o) (e2 : H1 a = some o) (h : ∀ b ∈ as, b ∈ bs ∨ ∃ o, H b = some o ∧ H1 b = some o) : ∀ b ∈ a :: as, b ∈ bs ∨ ∃ o, H b = some o ∧ H1 b = some o := fun b hb => by
  rcases List.mem_cons.mp hb with rfl | hb
  · exact .inr ⟨o, e1, e2⟩
  · exact h b hb
theorem less_in {bs : List Addr} {H1 : Hp} (e : a ∈ bs) (h : ∀ b ∈ as, b ∈ bs ∨ ∃ o, H b = some o ∧ H1 b = some o) : ∀ b ∈ a :: as, b ∈ bs ∨ ∃ o, H b = some o ∧ H1 b = some o := fun b hb => by
  rcases List.mem_cons.mp hb with rfl | hb
  · exact .inl e
  · exact h b hb
theorem nd_set : ∀ {l : List Addr} {i : Nat} {p : Addr}, l.Nodup → i < l.length → p ∉ l → (l.set i p).Nodup
  | [], _, _, _, h, _ => absurd h (Nat.not_lt_zero _)
  | x :: l, 0, p, nd, _, hm => List.nodup_cons.mpr ⟨fun h => hm (List.mem_cons_of_mem _ h), (List.nodup_cons.mp nd).2⟩
  | x :: l, i + 1, p, nd, h, hm => by
    have n := List.nodup_cons.mp nd
    refine List.nodup_cons.mpr ⟨fun hx => ?_, nd_set n.2 (Nat.lt_of_succ_lt_succ h) fun w => hm (List.mem_cons_of_mem _ w)⟩
    rcases List.mem_or_eq_of_mem_set hx with w | w
    · exact n.1 w
    · exact hm (by rw [← w]; exact List.mem_cons_self)
/-- a cell of ours at another state, told by its place: the cells that a call may have changed -/
structure OwC (Z : Ent) (F : Hp) (cs : List (Addr × HO)) (as : List Addr) (H : Hp) : Prop where
  g : Gr Z.as Z.F Z.H F H
  cf : ∀ c ∈ cs, F c.1 = none
  ch : ∀ c ∈ cs, c.1 ∉ as → H c.1 = some c.2
  nd : (cs.map (·.1)).Nodup
  ca : ∀ c ∈ cs, c.1 ∈ Z.as ∨ Z.H c.1 = none
  nt : ∀ c ∈ cs, noTup c.2 = true
theorem Ow.callC (O : Ow Z F cs H) (g : Gr as F H F' H') (hin : ∀ b ∈ as, ∃ o, (b, o) ∈ cs) : OwC Z F' cs as H' where
  g := O.g.then g fun b hb => by
    obtain ⟨o, hc⟩ := hin b hb
    exact O.ca _ hc
  cf := fun c hc => g.none (O.ch c hc) (O.nt c hc) (O.cf c hc)
  ch := fun c hc hn => g.k _ _ hn (O.ch c hc)
  nd := O.nd
  ca := O.ca
  nt := O.nt
theorem OwC.set (O : OwC Z F cs (a :: as) H) (i : Nat) (e : cs[i]? = some (a, o)) (h' : H a = some o') (hn : noTup o' = true := by rfl) : OwC Z F (cs.set i (a, o')) as H := by
  have m := List.mem_of_getElem? e
  refine ⟨O.g, fun c hc => ?_, fun c hc hx => ?_, by rw [map_set_fst e]; exact O.nd, fun c hc => ?_, fun c hc => ?_⟩
  · rcases nd_other O.nd e hc with rfl | ⟨h1, _⟩
    · exact O.cf (a, o) m
    · exact O.cf c h1
  · rcases nd_other O.nd e hc with rfl | ⟨h1, h2⟩
    · exact h'
    · exact O.ch c h1 fun z => (List.mem_cons.mp z).elim h2 hx
  · rcases nd_other O.nd e hc with rfl | ⟨h1, _⟩
    · exact O.ca (a, o) m
    · exact O.ca c h1
  · rcases nd_other O.nd e hc with rfl | ⟨h1, _⟩
    · exact hn
    · exact O.nt c h1
theorem OwC.later (O : OwC Z F cs (a :: as) H) : OwC Z F cs (as ++ [a]) H := ⟨O.g, O.cf, fun c hc hn => O.ch c hc fun z => hn (by
  rcases List.mem_cons.mp z with w | w
  · rw [w]; simp
  · exact List.mem_append_left _ w), O.nd, O.ca, O.nt⟩
/-- the cell at i is gone: another one stands in its place -/
theorem OwC.repl (O : OwC Z F cs [a] H) (i : Nat) (e : cs[i]? = some (a, o)) (hm : p = a ∨ p ∉ cs.map (·.1)) (hz : p ∈ Z.as ∨ Z.H p = none) (hf : F p = none) (h : H p = some o') (ht : noTup o' = true := by rfl) : OwC Z F (cs.set i (p, o')) [] H := by
  have nd2 : ((cs.set i (p, o')).map (·.1)).Nodup := by
    rw [List.map_set]
    rcases hm with rfl | hm
    · have : (cs.map (·.1)).set i p = cs.map (·.1) := by
        rw [← List.map_set (f := (·.1)) (a := (p, o))]
        exact map_set_fst e
      rw [this]
      exact O.nd
    · obtain ⟨hl, _⟩ := List.getElem?_eq_some_iff.mp e
      exact nd_set O.nd (by rw [List.length_map]; exact hl) hm
  have oth : ∀ c ∈ cs.set i (p, o'), c = (p, o') ∨ (c ∈ cs ∧ c.1 ≠ a) := fun c hc => by
    obtain ⟨j, hj⟩ := List.mem_iff_getElem?.mp hc
    by_cases hij : i = j
    · subst hij
      obtain ⟨hl, _⟩ := List.getElem?_eq_some_iff.mp e
      rw [List.getElem?_set_self hl] at hj
      exact .inl (Option.some.inj hj).symm
    · rw [List.getElem?_set_ne hij] at hj
      refine .inr ⟨List.mem_of_getElem? hj, fun z => hij ?_⟩
      have h1 : (cs.map (·.1))[i]? = some a := by rw [List.getElem?_map, e]; rfl
      have h2 : (cs.map (·.1))[j]? = some a := by rw [List.getElem?_map, hj, ← z]; rfl
      exact nd_ix O.nd h1 h2
  refine ⟨O.g, fun c hc => ?_, fun c hc hx => ?_, nd2, fun c hc => ?_, fun c hc => ?_⟩
  · rcases oth c hc with rfl | ⟨h1, _⟩
    · exact hf
    · exact O.cf c h1
  · rcases oth c hc with rfl | ⟨h1, h2⟩
    · exact h
    · exact O.ch c h1 fun z => (List.mem_cons.mp z).elim h2 (fun z => nomatch z)
  · rcases oth c hc with rfl | ⟨h1, _⟩
    · exact hz
    · exact O.ca c h1
  · rcases oth c hc with rfl | ⟨h1, _⟩
    · exact ht
    · exact O.nt c h1
theorem Ow.repl (O : Ow Z F cs H) (i : Nat) (e : cs[i]? = some (a, o)) (hm : p ∉ cs.map (·.1)) (hz : Z.H p = none) (hf : F p = none) (h : H p = some o') (ht : noTup o' = true := by rfl) : Ow Z F (cs.set i (p, o')) H := by
  have O1 : OwC Z F cs [a] H := ⟨O.g, O.cf, fun c hc _ => O.ch c hc, O.nd, O.ca, O.nt⟩
  have O2 := O1.repl i e (.inr hm) (.inr hz) hf h ht
  exact ⟨O2.g, O2.cf, fun c hc => O2.ch c hc (fun h => nomatch h), O2.nd, O2.ca, O2.nt⟩
theorem Ow.freshX (O : Ow Z F cs H) (i : Nat) (e : cs[i]? = some (a, o)) (h : p = a ∨ H p = none) : p = a ∨ p ∉ cs.map (·.1) := h.imp id fun h => O.fresh h
theorem Ow.wasX (O : Ow Z F cs H) (i : Nat) (e : cs[i]? = some (a, o)) (h : p = a ∨ H p = none) : p ∈ Z.as ∨ Z.H p = none := by
  rcases h with rfl | h
  · exact O.ca _ (List.mem_of_getElem? e)
  · exact .inr (O.was h)
theorem orx {q a a0 : Addr} {H ZH : Hp} (h1 : q = a ∨ H q = none) (h2 : a = a0 ∨ ZH a = none) (h3 : H q = none → ZH q = none) : q = a0 ∨ ZH q = none := by
  rcases h1 with rfl | h1
  · exact h2
  · exact .inr (h3 h1)
theorem nmem_set {q : Addr} {l : List Addr} {i : Nat} (h2 : p ∉ l) (h1 : p ≠ q) : p ∉ l.set i q := fun h => by
  rcases List.mem_or_eq_of_mem_set h with w | w
  · exact h2 w
  · exact h1 w
theorem OwC.done (O : OwC Z F cs [] H) : Ow Z F cs H := ⟨O.g, O.cf, fun c hc => O.ch c hc (fun h => nomatch h), O.nd, O.ca, O.nt⟩
/-- a store whose outcome is told otherwise -/
theorem Ow.setE (O : Ow Z F cs H) (i : Nat) {o1 o2 : HO} (he : o1 = o2) (e : cs[i]? = some (a, o)) (hn : noTup o2 = true := by rfl) : Ow Z F (cs.set i (a, o2)) (upd H a o1) := by
  subst he
  exact O.set i o1 e hn
theorem nmemC {b : Addr} {l : List Addr} (h1 : p ≠ b) (h2 : p ∉ l) : p ∉ b :: l := fun h => (List.mem_cons.mp h).elim h1 h2
/-- a new object, as yet without fields -/
theorem Ow.made {x dx C : Addr} (O : Ow Z F cs H) (nx : H x = none) (ndx : H dx = none) (ne : dx ≠ x) : ∃ F', Ow Z F' ((x, .ins C dx []) :: cs) (upd (upd H dx (.own x)) x (.ins C dx [])) ∧ Same F F' := by
  refine ⟨_, (O.put (o := .own x) ndx).new (o := .ins C dx []) (by rw [upd_ne ne.symm]; exact nx), O.putS ndx⟩
theorem Ow.setIns {x dx C : Addr} {fs fs' : List (Str × V)} (O : Ow Z F cs H) (i : Nat) (e : cs[i]? = some (x, .ins C dx fs)) (he : fs' = fs' := by rfl) : Ow Z F (cs.set i (x, .ins C dx fs')) (upd H x (.ins C dx fs')) := O.set i _ e rfl
end
theorem pe_fldK {X : Cx} {K : PySem.W.Frag} {e : Expr} {f : Str} {pos : Pos} {ta : TE} (h : X.K = K) (he : PE X e ta) (hb : attributeBase e f X.env (eval e X.env) = eval e X.env) : PE X (.Attribute e f pos) (tFld K ta f) := by
  rw [← h]; exact pe_fld he hb
/-! ### few fields -/
theorem putF_nil {f : Str} {v : V} : putF f v [] = [(f, v)] := rfl
theorem putF_eq {f : Str} {v x : V} {r : List (Str × V)} : putF f v ((f, x) :: r) = (f, v) :: r := if_pos rfl
theorem putF_ne {f g : Str} {v x : V} {r : List (Str × V)} (h : ¬ g = f) : putF f v ((g, x) :: r) = (g, x) :: putF f v r := if_neg h
theorem lk_eq {f : Str} {x : V} {r : List (Str × V)} : ((f, x) :: r).lookup f = some x := by
  show (match f == f with | true => some x | false => r.lookup f) = some x
  rw [show (f == f) = true from beq_self_eq_true f]
theorem lk_ne {f g : Str} {x : V} {r : List (Str × V)} (h : ¬ f = g) : ((g, x) :: r).lookup f = r.lookup f := by
  show (match f == g with | true => some x | false => r.lookup f) = _
  rw [show (f == g) = false from beq_eq_false_iff_ne.mpr h]
theorem few0 : ([] : List (Str × V)).length ≤ 0 := Nat.le_refl _
theorem fewS {f : Str} {v : V} {n : Nat} : ∀ {fs : List (Str × V)}, fs.length ≤ n → (putF f v fs).length ≤ n + 1
  | [], _ => Nat.succ_le_succ (Nat.zero_le _)
  | (g, u) :: fs, h => by
    show (if g = f then (g, v) :: fs else (g, u) :: putF f v fs).length ≤ n + 1
    by_cases c : g = f
    · rw [if_pos c]; exact Nat.le_succ_of_le h
    · rw [if_neg c]
      cases n with
      | zero => exact absurd h (Nat.not_succ_le_zero _)
      | succ n => exact Nat.succ_le_succ (fewS (Nat.le_of_succ_le_succ h))
theorem few_lt {fs : List (Str × V)} {n : Nat} (h : fs.length ≤ n) (hn : n < 1000 := by decide) : fs.length < 1000 := Nat.lt_of_le_of_lt h hn
/-! ### d.pop(k, z), d a dict of ours whose keys are pairs of whole numbers -/
def dDrop {κ β : Type} [DecidableEq κ] (xs : List (κ × β)) (k : κ) : List (κ × β) := xs.filter fun p => decide (p.1 ≠ k)
section
variable {κ K' β : Type} [DK κ K'] [DecidableEq κ] [DecidableEq K'] [Py β] {F : Hp}
theorem RD.drop : ∀ {kvs : List (K' × V)} {xs : List (κ × β)}, RD F kvs xs → ∀ k : κ, RD F (dropK kvs (DK.kk k)) (dDrop xs k) := by
  intro kvs xs h k
  induction h with
  | nil => exact RD.nil
  | @cons j v y kvs xs h hs ih =>
    unfold dropK dDrop at ih ⊢
    rw [List.filter_cons, List.filter_cons]
    by_cases c : j = k
    · have c1 : ¬ decide ((DK.kk j : K') ≠ DK.kk k) = true := by simp [c]
      have c2 : ¬ decide (j ≠ k) = true := by simp [c]
      rw [if_neg c1, if_neg c2]
      exact ih
    · have c1 : decide ((DK.kk j : K') ≠ DK.kk k) = true := decide_eq_true fun z => c (DK.inj j k z)
      have c2 : decide (j ≠ k) = true := decide_eq_true c
      rw [if_pos c1, if_pos c2]
      exact .cons h ih
end
theorem dropK_id {κ : Type} [DecidableEq κ] {kvs : List (κ × V)} {k : κ} (h : valV kvs k = none) : dropK kvs k = kvs := by
  unfold dropK
  refine List.filter_eq_self.mpr fun p hp => decide_eq_true fun e => ?_
  unfold valV at h
  rw [Option.map_eq_none_iff, List.find?_eq_none] at h
  exact h p hp (decide_eq_true e)
theorem dpop_ok {H : Hp} {a b : Addr} {kvs : List (List Key × V)} {i j : Int} {d : V} {Q : VK} (ha : H a = some (.dT kvs)) (hb : H b = some (.tup [.int i, .int j])) (q : ∀ v, Q v (upd H a (.dT (dropK kvs (DK.kk (i, j)))))) : L2.DX.rPopT (.ref a) [.ref b, d] H Q := by
  refine ⟨a, kvs, [.inl i, .inl j], b, d, rfl, rfl, ha, hb, fun v _ => q v, fun h => ?_⟩
  have := q d
  have e : upd H a (.dT (dropK kvs (DK.kk (i, j)))) = H := by
    funext c
    by_cases z : c = a
    · subst z
      rw [upd_same, ha]
      exact congrArg (fun x => some (HO.dT x)) (dropK_id h)
    · rw [upd_ne z]
  rw [e] at this
  exact this
/-! ### a pair and one number more -/
theorem catT_ok {K : PySem.W.Frag} {H : Hp} {a b : Addr} {v1 v2 v3 : V} {Q : VK} (ha : SqT K H a [v1, v2]) (hb : SqT K H b [v3]) (q : ∀ p, H p = none → Q (.ref p) (upd H p (.tup [v1, v2, v3]))) : rCatT K (.ref a) (.ref b) H Q :=
  ⟨a, b, _, _, rfl, rfl, ha, hb, (fun z => nomatch z), by show (3 : Nat) ≤ sizeLine; decide, (fun z => nomatch z), fun _ => q⟩
theorem op_catTK {X : Cx} {K : PySem.W.Frag} (h : X.K = K) : OpR X (binaryOp .Add) (rCatT K) := by rw [← h]; exact op_catT
/-! ### sorted(t), t a tuple -/
section
open PySem.Calls PyProof.V PySem.W
variable {prog : Program} {w : World} {A : Around} {E : Value → Shared → Prop} {s : Shared} {l : Addr} {vs : List Value}
theorem collect_tup {o : Obj} {n : Nat} {Q : List Value → Shared → Prop} (ho : s.heap.get? l = some o) (hc : o.cls = .type "tuple") (hd : o.data = .seq vs.toArray n)
    (h : Q vs { s with heap := (s.heap.push (seqObj "list" #[] 0)).update s.heap.objs.size (Obj.mapSeq (· ++ vs.toArray)) }) (hsz : vs.length ≤ sizeLine) :
    wpAny (model prog w) A (collect (.ref l)) Q E s := by
  unfold collect
  refine wpAny_bind (wpAny_runValue (codeAny_builtin entry_proto_collect' ?_))
  show wpAny _ _ (do again (.builtin "list.__iadd__" ⟨[← newList [], .ref l], []⟩)) _ _ s
  refine wpAny_bind (wpAny_newList (wpAny_pure ⟨Code.quiet_builtin _ (by decide +kernel), codeAny_builtin entry_list_iadd' ?_⟩) (Nat.zero_le _))
  show wpAny _ _ (Builtin.List.listExtendWith (.ref s.heap.objs.size) (.ref l) (.ref s.heap.objs.size)) _ _ { s with heap := s.heap.push (seqObj "list" #[] 0) }
  unfold Builtin.List.listExtendWith
  have ho' : (s.heap.push (seqObj "list" #[] 0)).get? l = some o := Heap.get?_push_of_some _ ho
  refine wpAny_bind (wpAny_typeOf (T := "tuple") ⟨o, ho', hc⟩ ?_)
  have ht : (Value.type "tuple" == Value.type "tuple") = true := by rfl
  rw [if_pos (by rw [ht]; simp)]
  refine wpAny_bind (listItems_at ho' hd ?_)
  refine wpAny_bind (listItems_at (xs := #[]) (n := 0) (Heap.get?_push_size _ rfl) rfl ?_)
  rw [if_neg (by simp)]
  refine wpAny_bind (listUpdate_at (xs := #[]) (n := 0) (Heap.get?_push_size _ rfl) rfl ?_ (Nat.zero_le _) (by show (#[] ++ vs.toArray).size ≤ sizeLine + 1; simp only [Array.size_append, List.size_toArray, List.length_nil]; omega))
  refine wpAny_pure ?_
  show wpAny (model prog w) A (do
      let o ← load s.heap.objs.size
      match o.data with
      | .seq xs _ => pure xs.toList
      | _ => unsupported "internal:collect") Q E { s with heap := (s.heap.push (seqObj "list" #[] 0)).update s.heap.objs.size (Obj.mapSeq (· ++ vs.toArray)) }
  refine wpAny_bind (wpAny_load (get?_update_seq (Heap.get?_push_size _ rfl) _) ?_)
  show wpAny _ _ (pure ((#[] : Array Value) ++ vs.toArray).toList) Q E _
  rw [show ((#[] : Array Value) ++ vs.toArray).toList = vs by simp]
  exact wpAny_pure h
theorem sortedT_of_sort {o : Obj} {n : Nat} {Q : Value → Shared → Prop} (ho : s.heap.get? l = some o) (hc : o.cls = .type "tuple") (hd : o.data = .seq vs.toArray n) (hL : vs.length ≤ sizeLine)
    (body : ∀ E' : Value → Shared → Prop, wpAny (model prog w) A.in1.in1 (Builtin.«list.sort» ⟨[.ref (s.heap.objs.size + 1)], []⟩) (fun f s' => f = .done (.ret .none) ∧ Q (.ref (s.heap.objs.size + 1)) s') E' { s with heap := copyHeap s.heap vs }) :
    wpAny (model prog w) A (call (.builtin "sorted") [.ref l] []) Q E s := by
  refine call_function_entry_kw kind_sorted plain_sorted entry_sorted (args_sorted1 _) ?_
  unfold Builtin.«sorted»
  refine wpAny_bind (m := checkCount "sorted" 1 1 _) (wpAny_pure ?_)
  refine wpAny_bind (collect_tup ho hc hd ?_ hL)
  refine wpAny_bind (wpAny_newList ?_ hL)
  have hsz : ((s.heap.push (seqObj "list" #[] 0)).update s.heap.objs.size (Obj.mapSeq (· ++ vs.toArray))).objs.size = s.heap.objs.size + 1 := by
    rw [Heap.size_update, size_push']
  show wpAny _ _ _ _ _ { s with heap := copyHeap s.heap vs }
  rw [hsz]
  refine wpAny_bind (wpAny_holding (wpAny_call_entry_kw slot_list_sort ⟨_, copyHeap_at s.heap vs, rfl⟩ entry_list_sort ?body (args_list_sort _)))
  case body =>
    show wpAny (model prog w) A.in1.in1 (Builtin.«list.sort» ⟨[.ref (s.heap.objs.size + 1)], []⟩) _ _ _
    refine wpAny_mono (body _) (fun f s' hf => ?_) fun _ _ e => e
    obtain ⟨rfl, hq⟩ := hf
    exact ⟨_, rfl, wpAny_pure ⟨_, rfl, hq⟩⟩
theorem sortedT_data {β : Type} {bs : List β} {enc : β → PyData} {R : Value → β → Prop} {o : Obj} {n : Nat} {Q : Value → Shared → Prop} (ho : s.heap.get? l = some o) (hc : o.cls = .type "tuple") (hd : o.data = .seq vs.toArray n) (e : EachIs R vs bs) (er : EachIs (fun v b => ∃ as, Reads s.heap v (enc b) as) vs bs) (hal : AllAlike (bs.map enc)) (hk : Sortable (bs.map enc)) (hL : bs.length ≤ sizeLine)
    (hu : ∀ b, b ∈ bs → A.units + 2 + (enc b).depth < cLine) (h : ∀ out, out.length = bs.length → EachIs R out (bs.mergeSort (dataLe false enc)) → Q (.ref (s.heap.objs.size + 1)) { s with heap := sortedAll s.heap vs (List.toArray out) }) :
    wpAny (model prog w) A (call (.builtin "sorted") [.ref l] []) Q E s := by
  have er' : EachIs (fun v b => ∃ as, Reads (sortingHeap (copyHeap s.heap vs) (s.heap.objs.size + 1) vs) v (enc b) as) vs bs := er.mono fun _ _ ⟨as, r⟩ => ⟨as, PyProof.Rows.Reads.keeps (fun _ _ => sorting_copy_old) r⟩
  have hL2 : vs.length ≤ sizeLine := by rw [e.length]; exact hL
  refine sortedT_of_sort ho hc hd hL2 fun E' => list_sort_vals (s := { s with heap := copyHeap s.heap vs }) (copyHeap_at s.heap vs) (SortsAt.data (s := { s with heap := sortingHeap (copyHeap s.heap vs) (s.heap.objs.size + 1) vs }) (each_map (R := fun v d => ∃ as, Reads (sortingHeap (copyHeap s.heap vs) (s.heap.objs.size + 1) vs) v d as) enc er') hal hk (bound_map hu)) hL2 ⟨rfl, ?_⟩
  exact h _ (by rw [sortVals_length false rfl]; exact e.length) (sortVals_data false e er' hal)
end
section
variable {X : Cx} (a : Type) [Py a] [DecidableEq a] [DatumOrd a] [IsD a]
def rSortedTT : List V → Hp → VK → Prop := fun vs H Q => ∃ (l : Addr) (ws : List V) (xs : List a), vs = [.ref l] ∧ H l = some (.tup ws) ∧ RL H ws xs ∧ ∀ (p : Addr), H p = none → Q (.ref p) (upd H p (.lst (sortV ws xs)))
theorem cr_sortedTT [SortB a] (hu : X.A.units + 128 < cLine) (hd : Datum.depth a ≤ 100 := by decide) (hK : X.K = K0 := by rfl) : CallR X (.builtin "sorted") (rSortedTT a) := by
  subst hK
  intro pins s σ H vs us Q I r h
  obtain ⟨l, ws, xs, rfl, hl, hx, k⟩ := h
  obtain ⟨its, rv, ⟨o, e1, e2, n, e3⟩, hz⟩ := I.tuple (SqT.of (K := X.K) hl)
  rw [Vals.ref1 r]
  have hlen : ws.length = xs.length := hx.len
  have hE := each_pairs hx rv
  refine sortedT_data (bs := ws.zip xs) (enc := fun p => Datum.toD p.2) e1 e2 e3 hE (each_imp (fun u p hp => hp.2.holds I hp.1) hE) (PySem.W.AllAlike.of fun p q => DatumOrd.alike p.2 q.2) ?_ (by rw [List.length_zip, ← hlen, Nat.min_self]; exact hz) (fun p _ => ?_) fun out ho he => ?_
  · rcases SortB.ok (a := a) with q | q
    · exact PySem.W.Sortable.tuples fun p => q p.2
    · exact PySem.W.Sortable.others fun p => q p.2
  · have := Datum.depth_le p.2
    omega
  · rw [dataLe_T (fun p : V × a => p.2)] at he
    obtain ⟨q1, q2⟩ := pairs_vals he
    obtain ⟨ep, he'⟩ := PyProof.Rows.sortedAll_at s.heap its out.toArray
    refine ⟨.ref _, upd H (s.heap.objs.size + 1) (.lst _), I.laid (t' := s.toks) (fun _ _ => PyProof.Rows.sortedAll_old) (Nat.le_succ _) ⟨?_, out, ep, q1, he'⟩, rfl, k _ (I.hok.fresh (Nat.le_succ _))⟩
    rw [List.length_map, List.length_mergeSort, List.length_zip, ← hlen, Nat.min_self]
    exact hz
end
/-! ### an item of a tuple of two at a place found at run time -/
theorem ix2 {i : Int} (h : 0 ≤ i ∧ i < 2) : i = 0 ∨ i = 1 := by omega
theorem ix3 {i : Int} (h : 0 ≤ i ∧ i < 3) : i = 0 ∨ i = 1 ∨ i = 2 := by omega
/-- a name that a loop's turns bind, read behind the loop -/
def LK {a : Type} [Py a] (H : Hp) (t : Option V) (x : Option a) : Prop := match x with
  | none => True
  | some y => ∃ v, t = some v ∧ R H v y
theorem mem3 {n a b c : String} (h : n ∈ [a, b, c]) : n = a ∨ n = b ∨ n = c := by simpa using h
theorem mem4 {n a b c d : String} (h : n ∈ [a, b, c, d]) : n = a ∨ n = b ∨ n = c ∨ n = d := by simpa using h
/-- a list of just five -/
def two5 {a : Type} (xs : List a) : M (a × a × a × a × a) := match xs with
  | [x, y, z, u, v] => .ok (x, y, z, u, v)
  | _ => bad
theorem wp_two5 {a b : Type} {Q : a → Prop} {E : String → Prop} {xs : List b} {k : b × b × b × b × b → M a} (h : wp (two5 xs >>= k) Q E) : ∃ x y z u v, xs = [x, y, z, u, v] ∧ wp (k (x, y, z, u, v)) Q E := by
  match xs, h with
  | [x, y, z, u, v], h => exact ⟨x, y, z, u, v, rfl, h⟩
  | [], h => exact h.elim
  | [_], h => exact h.elim
  | [_, _], h => exact h.elim
  | [_, _, _], h => exact h.elim
  | [_, _, _, _], h => exact h.elim
  | _ :: _ :: _ :: _ :: _ :: _ :: _, h => exact h.elim
end PG
namespace PG
open PySem PySem.Spec PyProof.Rows L2
open PySem.W (T3 T4 Datum DatumOrd)
/-! ### len(set(xs)), xs a list of pairs of whole numbers -/
def setL {a : Type} [DecidableEq a] (xs : List a) : List a := xs.foldr (fun x acc => if x ∈ acc then acc else x :: acc) []
theorem setL_mem {a : Type} [DecidableEq a] {x : a} : ∀ {xs : List a}, x ∈ setL xs ↔ x ∈ xs
  | [] => Iff.rfl
  | y :: ys => by
    show x ∈ (if y ∈ setL ys then setL ys else y :: setL ys) ↔ _
    by_cases c : y ∈ setL ys
    · rw [if_pos c, setL_mem, List.mem_cons]
      exact ⟨.inr, fun h => h.elim (fun e => by rw [e]; exact setL_mem.mp c) id⟩
    · rw [if_neg c, List.mem_cons, List.mem_cons, setL_mem]
theorem setL_nd {a : Type} [DecidableEq a] : ∀ xs : List a, (setL xs).Nodup
  | [] => List.nodup_nil
  | y :: ys => by
    show (if y ∈ setL ys then setL ys else y :: setL ys).Nodup
    by_cases c : y ∈ setL ys
    · rw [if_pos c]; exact setL_nd ys
    · rw [if_neg c]; exact List.nodup_cons.mpr ⟨c, setL_nd ys⟩
theorem nd_le {a : Type} [DecidableEq a] : ∀ {l m : List a}, l.Nodup → (∀ x ∈ l, x ∈ m) → l.length ≤ m.length
  | [], _, _, _ => Nat.zero_le _
  | x :: l, m, nd, h => by
    have hx := h x List.mem_cons_self
    obtain ⟨n1, n2⟩ := List.nodup_cons.mp nd
    have := nd_le (l := l) (m := m.erase x) n2 fun y hy => (List.mem_erase_of_ne fun e => n1 (by rw [← e]; exact hy)).mpr (h y (List.mem_cons_of_mem _ hy))
    rw [List.length_erase_of_mem hx] at this
    have hp := List.length_pos_of_mem hx
    rw [List.length_cons]
    omega
section
variable {K0 : PySem.W.Frag} [KF K0]
theorem rl_pairs {F : Hp} : ∀ {vs : List V} {xs : List (Int × Int)}, RL F vs xs → ∃ ks : List (Addr × List Int), vs = ks.map (fun p => V.ref p.1) ∧ ks.map (·.2) = xs.map (fun x => [x.1, x.2]) ∧ ∀ p ∈ ks, F p.1 = some (.tup (p.2.map V.int))
  | _, [], h => ⟨[], RL.nil_ h, rfl, fun _ h => absurd h List.not_mem_nil⟩
  | _, x :: xs, h => by
    obtain ⟨w, ws, rfl, h1, h2⟩ := RL.cons_ h
    obtain ⟨ks, e1, e2, e3⟩ := rl_pairs h2
    obtain ⟨p, v1, v2, rfl, hp, r1, r2⟩ := R.t2_ h1
    obtain rfl := R.int_ r1
    obtain rfl := R.int_ r2
    exact ⟨(p, [x.1, x.2]) :: ks, by rw [e1]; rfl, by rw [List.map_cons, List.map_cons, e2], fun q hq => (List.mem_cons.mp hq).elim (fun e => by rw [e]; exact hp) (e3 q)⟩
end
def tLenSetP (K : PySem.W.Frag) (ta : TE) : TE := fun σ H Q => ta σ H fun x H1 => ∃ (l : Addr) (ks : List (Addr × List Int)) (xs : List (Int × Int)), x = V.ref l ∧ SqL K H1 l (ks.map fun p => V.ref p.1) ∧ (∀ p ∈ ks, SqT K H1 p.1 (p.2.map V.int)) ∧ ks.map (·.2) = xs.map (fun x => [x.1, x.2]) ∧ xs.length < 64 ∧ Q (.int ((setL xs).length : Nat)) H1
theorem pe_lenSetP {X : Cx} {a : Expr} {ta : TE} {p p2 q pos : Pos} (hu : X.A.units + 64 < cLine) (hc : X.calm = true) (hg : Gl X "len") (hm : X.mg "len" = none) (hg2 : Gl X "set") (hm2 : X.mg "set" = none) (ha : PE X a ta)
    (na : starEach [a] X.env = (false, eval a X.env) :: starEach [] X.env := by rfl) : PE X (.Call (.Name "len" p) [.Call (.Name "set" p2) [a] [] q] [] pos) (tLenSetP X.K ta) := by
  refine ⟨fun pins s σ H Q I h => ?_⟩
  refine Call_ (ld_blt I hg hm PySem.boot_len ?_)
  refine PyProof.Rows.callWith_builtin1 (PyProof.Rows.args_cons ?_ rfl) rfl rfl
  refine Call_ (ld_blt I hg2 hm2 PyProof.Rows.boot_set ?_)
  refine PyProof.Rows.callWith_type1 (PyProof.Rows.args_cons (thn (ha.run pins s σ H _ I h) fun v s1 ⟨x, H1, I1, r1, q1⟩ => PyProof.Rows.args_nil ?_) na) na rfl
  obtain ⟨l, ks, xs, rfl, hq, hk, hx, hf, q1⟩ := q1
  cases r1
  obtain ⟨its, rv, pl, hz⟩ := I1.list hq
  have hf : ks.length < 64 := by have := congrArg List.length hx; rw [List.length_map, List.length_map] at this; omega
  refine call_set_tups (P := X.prog) (w := X.w) ks (I1.ok.hd hc) pl.isList (by simpa using refs_of_vals rv) (fun p hp => I1.isT (hk p hp)) hf (by omega) fun h' tk L es ep t R g k => ?_
  refine PyProof.Rows.args_nil ?_
  have I2 : Inv X pins σ H1 { s1 with heap := h', toks := tk } := I1.kept fun b o e => k b o e
  obtain ⟨o, ho, hex, hd⟩ := R.ob
  have hs : es.size = L.length := SetTR.size (s := { s1 with heap := h', toks := tk }) R
  have hfit : t.fits es.size = true := SetTR.fits (s := { s1 with heap := h', toks := tk }) R
  have few := R.few
  have m1 : ∀ x ∈ L.map (·.2), x ∈ (setL xs).map (fun x => [x.1, x.2]) := fun x hm => by
    obtain ⟨p, hp, e⟩ := List.mem_map.mp hm
    have : x ∈ ks.map (·.2) := List.mem_map.mpr ⟨p, List.mem_of_mem_take (g.sub p hp), e⟩
    rw [hx] at this
    obtain ⟨y, hy, ey⟩ := List.mem_map.mp this
    exact List.mem_map.mpr ⟨y, setL_mem.mpr hy, ey⟩
  have m2 : ∀ x ∈ (setL xs).map (fun x => [x.1, x.2]), x ∈ L.map (·.2) := fun x hm => by
    obtain ⟨y, hy, ey⟩ := List.mem_map.mp hm
    have : x ∈ ks.map (·.2) := by rw [hx]; exact List.mem_map.mpr ⟨y, setL_mem.mp hy, ey⟩
    obtain ⟨p, hp, e⟩ := List.mem_map.mp this
    rw [← e]
    exact g.all p (by rw [List.take_length]; exact hp)
  have nd2 : ((setL xs).map (fun x : Int × Int => [x.1, x.2])).Nodup := by
    rw [List.nodup_iff_pairwise_ne, List.pairwise_map]
    refine (List.nodup_iff_pairwise_ne.mp (setL_nd xs)).imp fun {x y} h e => h ?_
    injection e with e1 e2
    injection e2 with e2 _
    exact Prod.ext e1 e2
  have hD : Q (.int (L.length : Nat)) H1 := by
    have a1 := nd_le R.nd m1
    have a2 := nd_le nd2 m2
    rw [List.length_map, List.length_map] at a1 a2
    have : L.length = (setL xs).length := by omega
    rw [this]
    exact q1
  exact call_len_set ho hex hd hfit (by rw [hs]; omega) ⟨.int L.length, H1, I2.tok _, ⟨_, by rw [hs]⟩, hD⟩
end PG

set_option Elab.async false
set_option linter.all false
set_option maxRecDepth 100000
set_option maxHeartbeats 4000000
namespace PG
open PySem PySem.Spec PyProof.Rows L2
open PySem.W (T3 T4 Datum DatumOrd Holds HoldAll EachIs)
variable {K0 : PySem.W.Frag} [KF K0]
/-! ### calls within an except clause's suite: defs that let nothing out -/
theorem takes_no {X : Cx} : Takes X (fun _ _ _ _ => False) := fun _ _ ⟨_, _, _, _, _, _, _, _, _, _, _, _, _, _, _, _, w⟩ => w.elim
def noX : XK := fun _ _ _ => False
def coolA (A : Around) : Around := { A with handled := none }
structure FnS (P : Program) (w : World) (K : PySem.W.Frag) (mg : Str → Option Value) (base : Heap) (k : Nat) (f : Addr) (fd : FuncData) (ps : List Str) (sp : Sp) : Prop where
  len : ∀ vs H Q E, sp vs H Q E → vs.length = ps.length
  run : ∀ (a : Addr) (A : Around) (outer : List Env) (s : Shared) (H : Hp) (args : Args) (us : List Value) (vs : List V) (Q : VK), A.handled = some (.ref a) → Room k (coolA A) → Env0 P w K mg base A outer s H → BindsTo s fd args (ps.zip us) → Vals vs us → sp vs H Q noX →
    codeAny (model P w) A (.call (.ref f) args) (CR (L2.CX P w) outer P w H s Q noX) s
structure CaS (P : Program) (w : World) (K : PySem.W.Frag) (mg : Str → Option Value) (base : Heap) (x : Str) (k : Nat) (ps : List Str) (sp : Sp) : Prop where
  ex : ∃ f fd, FnS P w K mg base k f fd ps sp ∧ mg x = some (.ref f) ∧ PySem.W.keepIn K (.ref f) = true ∧ Binds K fd ps []
theorem room_un {k : Nat} {A : Around} {h : Option Value} (r : Room k A) : Room k (coolA (A.mark h)) := ⟨rfl, r.dp, r.un⟩
section
variable {P : Program} {w : World} {K : PySem.W.Frag} {mg : Str → Option Value} {base : Heap}
theorem mark_deep {A : Around} {env : Env} {a : Addr} (hh : A.handled = some (.ref a)) : ((coolA A).deeper env).mark (some (.ref a)) = A.deeper env := by
  cases A
  cases hh
  rfl
theorem CaS.mk' {x qual : Str} {st : Stmt} {N ps : List Str} {k : Nat} {sp : Sp} (D : Df K mg x qual st ps) (S : FnScope N ps (defScope st)) (len : ∀ vs H Q E, sp vs H Q E → vs.length = ps.length)
    (hbody : ∀ (qual' : Str) (f : Addr) (cdv : Value) (A : Around) (outer : List Env) (s : Shared) (H : Hp) (vs : List V) (Q : VK) (E : XK), Room k (A.deeper (envOfC qual (defScope st) s.heap.objs.size f cdv)) → sp vs H Q E →
      ∀ a : Addr, ∃ t, PSs ((cxOf (L2.CX P w) P w K mg base N qual (defScope st) f cdv A outer s H E).suite a []) (defBody st) t ∧ t { nx := fun _ H' => Q .non H', rt := Q } (start N vs) H) : CaS P w K mg base x (k + 1) ps sp := by
  obtain ⟨f, fd, F, m, b⟩ := D.ex
  refine ⟨f, fd, ⟨len, ?_⟩, m, F.kp, b⟩
  obtain ⟨oc, od, kV, doc, pm, an, cdv, ct, osl, rfl, lk, hcd⟩ := F.ex
  intro a A outer s H args us vs Q hh hr e0 hb r hsp
  have held : ∀ b o, base.get? b = some o → s.heap.get? b = some o := fun b o e => (e0.bs b o e).1
  have e1 : Env0 P w K mg base (coolA A) outer s H := ⟨e0.frames, e0.mod, e0.bs, e0.bsz, e0.funs, e0.frf, e0.hok, e0.bare⟩
  refine codeAny_call_function hr.depth (e0.mod.kin.keeps held _ _ lk) rfl S.co S.gen rfl (PySem.W.codeRec_of (e0.mod.kin.keeps held) hcd) (hb _ _ _ _ ?_)
  refine wpAny_newFunctionEnv_cells S.kind (fun y hy => ?_) fun env he s1 z => ?_
  · rcases S.par y.1 (List.of_mem_zip hy).1 with q | q
    · exact .inl q
    · exact .inr ⟨q, PySem.W.cellsFrom_some _ _ _ (.inl q)⟩
  subst he
  refine ⟨(e0.mod.nolimit.keeps held).keeps z.toInCall.keep, codeAny_func ?_⟩
  obtain ⟨t, ht, hq⟩ := hbody qual f cdv (coolA A) outer s H vs Q noX (hr.deeper _) hsp a
  have I0 := inv_start (CX := L2.CX P w) (E := noX) S hr.hd e1 (len _ _ _ _ hsp) r z
  have I1 : L2.Inv ((cxOf (L2.CX P w) P w K mg base N qual (defScope st) f cdv (coolA A) outer s H noX).suite a []) [] (start N vs) H s1 :=
    ⟨I0.ok.suite _ _, I0.os, I0.bare, I0.base, I0.loc, I0.cell, I0.free, I0.freeC, (fun p hp => nomatch hp), I0.hok, I0.len⟩
  have go := ht.run [] s1 (start N vs) H _ I1 hq
  rw [← mark_deep hh]
  refine wpAny_mono go (fun fl s' hs => ?_) (fun _ _ h => h.elim)
  cases fl with
  | next =>
    obtain ⟨σ', H', J, q⟩ := hs
    exact ⟨V.non, H', J.os, J.bare, J.base, J.hok, rfl, q⟩
  | ret u =>
    obtain ⟨v, σ', H', J, rv, q⟩ := hs
    exact ⟨v, H', J.os, J.bare, J.base, J.hok, rv, q⟩
  | brk =>
    obtain ⟨_, _, _, q⟩ := hs
    exact q.elim
  | cont =>
    obtain ⟨_, _, _, q⟩ := hs
    exact q.elim
end
theorem pe_callS {X : Cx} {a : Addr} {k : Nat} {f : Addr} {fd : FuncData} {ps : List Str} {sp : Sp} {x : Str} {p pos : Pos} {e : Expr} {es : List Expr} {t : TA} (F : FnS X.prog X.w X.K X.mg X.base k f fd ps sp) (hh : X.A.handled = some (.ref a)) (hr : Room k (coolA X.A)) (hg : Gl X x) (hm : X.mg x = some (.ref f)) (hk : PySem.W.keepIn X.K (.ref f) = true) (hb : Binds X.K fd ps [])
    (ha : PA X (e :: es) t) (hdb : (x == ("__debug__" : Str)) = false := by decide) (he : starEach (e :: es) X.env = (false, eval e X.env) :: starEach es X.env := by rfl) (hpl : (backTo pos (starEach es X.env)).any (·.1) = false := by rfl) :
    PE X (.Call (.Name x p) (e :: es) [] pos) (tCallW sp (fun _ _ _ _ => False) t) := by
  refine ⟨fun pins s σ H Q I h => wpAny_Call_Name_kw (ld_glob I hg hm ?_ hdb)⟩
  refine PySem.W.callWith_K (h₀ := X.base) I.ok.mod.kin hk (thn (ha.run pos pins s σ H _ I h) fun us g ⟨vs, G, J, r, q⟩ => ⟨J.kIn, ?_⟩) he hpl
  have hl : us.length = ps.length := by rw [← r.length]; exact F.len _ _ _ _ q
  refine wpAny_call (codeAny_mono (F.run a X.A X.stack g G ⟨us, []⟩ us vs Q hh hr J.env0 (by have := hb g us J.kIn (by simpa using hl); simpa using this) r q) fun res g' hq => ?_)
  cases res with
  | error z =>
    obtain ⟨_, _, _, _, _, _, _, _, _, _, _, _, h⟩ := hq
    exact h.elim
  | ok fl =>
    cases fl with
    | ret u => exact J.after hq
    | next => exact hq.elim
    | brk => exact hq.elim
    | cont => exact hq.elim
/-! ### == of data in which whole numbers and truths are mixed -/
class DatumP (a : Type) [Py a] : Prop where
  plain : ∀ x : a, (Py.toD x).plain = true
instance : DatumP (Un Int Bool) := ⟨fun
  | .l x => by show PyData.plain (.int x) = true; simp only [PyData.plain]
  | .r y => by show PyData.plain (.bool y) = true; simp only [PyData.plain]⟩
theorem plainP {a : Type} [Py a] [DatumP a] : ∀ xs : List a, PyData.plainAll (xs.map Py.toD) = true
  | [] => rfl
  | x :: xs => by rw [List.map_cons, PyData.plainAll, DatumP.plain x, plainP xs]; rfl
instance {a : Type} [Py a] [DatumP a] : DatumP (List a) := ⟨fun xs => by
  show PyData.plain (.list (xs.map Py.toD)) = true
  simp only [PyData.plain]
  exact plainP xs⟩
def eqvP {a : Type} [Py a] (x y : a) : Bool := PyData.eqv (Py.toD x) (Py.toD y)
theorem eqvP_refl {a : Type} [Py a] [DatumP a] (x : a) : eqvP x x = true := SeqAt.eqv_refl_plain _ (DatumP.plain x)
theorem dep_ub (x : List (Un Int Bool)) : dep x ≤ 60 := by
  have h : ∀ xs : List (Un Int Bool), PyData.depthAll (xs.map Py.toD) ≤ 1 := fun xs => by
    induction xs with
    | nil => exact Nat.zero_le _
    | cons y ys ih =>
      rw [List.map_cons, PyData.depthAll]
      cases y <;> exact Nat.max_le.mpr ⟨by first | exact Nat.le_refl _ | exact Nat.zero_le _ | decide, ih⟩
  show PyData.depth (.list (x.map Py.toD)) ≤ 60
  rw [PyData.depth]
  have := h x
  omega
section
variable {X : Cx} (a : Type) [Py a] [DatumP a]
def rEqP : R2 := fun x y H Q => ∃ p q : a, R H x p ∧ R H y q ∧ min (dep p) (dep q) ≤ 60 ∧ Q (.bl (decide (eqvP p q = true))) H
def rNeP : R2 := fun x y H Q => ∃ p q : a, R H x p ∧ R H y q ∧ min (dep p) (dep q) ≤ 60 ∧ Q (.bl (decide (¬ eqvP p q = true))) H
theorem op_eqP (hu : X.A.units + 64 < cLine) (hK : X.K = K0 := by rfl) : OpR X (compareOp .Eq) (rEqP a) := by
  subst hK
  intro pins s σ H x y v u Q I rx ry h
  obtain ⟨p, q, hp, hq, hd, k⟩ := h
  obtain ⟨as, ra⟩ := Dp.reads I _ _ _ (Rep.dp _ _ hp) rx
  obtain ⟨bs, rb⟩ := Dp.reads I _ _ _ (Rep.dp _ _ hq) ry
  have hd' : min (Py.toD p).depth (Py.toD q).depth ≤ 60 := hd
  rw [Bool.decide_eq_true] at k
  exact PySem.SeqAt.eq_plain ra rb (DatumP.plain p) (DatumP.plain q) (by omega) ⟨.bl _, H, I, rfl, k⟩
theorem op_neP (hu : X.A.units + 64 < cLine) (hK : X.K = K0 := by rfl) : OpR X (compareOp .NotEq) (rNeP a) := by
  subst hK
  intro pins s σ H x y v u Q I rx ry h
  obtain ⟨p, q, hp, hq, hd, k⟩ := h
  obtain ⟨as, ra⟩ := Dp.reads I _ _ _ (Rep.dp _ _ hp) rx
  obtain ⟨bs, rb⟩ := Dp.reads I _ _ _ (Rep.dp _ _ hq) ry
  have hd' : min (Py.toD p).depth (Py.toD q).depth ≤ 60 := hd
  rw [show decide (¬ eqvP p q = true) = !eqvP p q by cases eqvP p q <;> rfl] at k
  exact PySem.SeqAt.ne_plain ra rb (DatumP.plain p) (DatumP.plain q) (by omega) ⟨.bl _, H, I, rfl, k⟩
end
end PG

set_option Elab.async false
set_option linter.all false
set_option maxRecDepth 100000
set_option maxHeartbeats 4000000
namespace PG
open PySem PySem.Spec PyProof.Rows L2
open PySem.W (T3 T4 Datum DatumOrd Holds HoldAll EachIs)
variable {K0 : PySem.W.Frag} [KF K0]
/-! ### texts, sign by sign -/
def sg (c : Nat) : Str := ⟨#[c]⟩
def sgL (s : Str) : List Str := s.cps.toList.map sg
theorem sg_inj {c d : Nat} (h : sg c = sg d) : c = d := by
  have h : (#[c] : Array Nat) = #[d] := congrArg Str.cps h
  have h := congrArg Array.toList h
  exact (List.cons.inj h).1
theorem sgL_len (s : Str) : (sgL s).length = s.cps.size := by unfold sgL; rw [List.length_map, Array.length_toList]
theorem sgL_has {s : Str} {i c : Nat} (h : s.cps[i]? = some c) : (sgL s)[i]? = some (sg c) := by
  unfold sgL
  rw [List.getElem?_map, Array.getElem?_toList, h]
  rfl
theorem sgL_end (s : Str) : List.drop s.cps.size (sgL s) = [] := List.drop_eq_nil_of_le (by rw [sgL_len]; exact Nat.le_refl _)
theorem mem_sgL {s : Str} {c : Nat} : sg c ∈ sgL s ↔ c ∈ s.cps.toList := by
  unfold sgL
  rw [List.mem_map]
  exact ⟨fun ⟨d, h, e⟩ => sg_inj e ▸ h, fun h => ⟨c, h, rfl⟩⟩
theorem atI_sgL {s : Str} {i : Int} {y : Str} (h : L2.atI (sgL s) i = some y) : ∃ c, L2.atI s.cps.toList i = some c ∧ y = sg c := by
  unfold L2.atI at h ⊢
  unfold sgL at h
  rw [List.length_map] at h
  cases e : ixN s.cps.toList.length i with
  | none => rw [e] at h; exact nomatch h
  | some j =>
    rw [e] at h
    have h : (s.cps.toList.map sg)[j]? = some y := h
    rw [List.getElem?_map] at h
    cases e2 : s.cps.toList[j]? with
    | none => rw [e2] at h; exact nomatch h
    | some c => rw [e2] at h; exact ⟨c, e2, (Option.some.inj h).symm⟩
theorem comp_lenS {z : Str} {w : List V} {i : Nat} (la : w.length ≤ i) (hi : i < z.cps.size) (c : (sgL z).length < 16777216) : w.length < sizeLine := by
  rw [sgL_len] at c
  have := sizeLine_eq
  omega
theorem Rl.strs {H : Hp} : ∀ ys : List Str, RL H (ys.map V.str) ys
  | [] => RL.nil
  | _ :: ys => RL.cons R.str (Rl.strs ys)
theorem Rl.strs_ {H : Hp} : ∀ {ys : List Str} {ws : List V}, RL H ws ys → ws = ys.map V.str
  | [], _, h => RL.nil_ h
  | y :: ys, ws, h => by
    obtain ⟨w, us, rfl, h1, h2⟩ := RL.cons_ h
    rw [R.str_ h1, Rl.strs_ h2]
    rfl
section
variable {X : Cx}
/-- one sign in a text -/
def rInS : R2 := fun x y H Q => ∃ s z : Str, x = .str s ∧ y = .str z ∧ (∃ c, s = sg c) ∧ Q (.bl (decide (s ∈ sgL z))) H
def rNiS : R2 := fun x y H Q => ∃ s z : Str, x = .str s ∧ y = .str z ∧ (∃ c, s = sg c) ∧ Q (.bl (decide (s ∉ sgL z))) H
theorem op_inS : OpR X (compareOp .In) rInS := by
  intro pins s σ H x y v u Q I rx ry h
  obtain ⟨a, z, rfl, rfl, ⟨c, rfl⟩, k⟩ := h
  refine op_in_sign pins s σ H _ _ v u Q I rx ry ⟨c, z, rfl, rfl, ?_⟩
  rw [show decide (c ∈ z.cps.toList) = decide (sg c ∈ sgL z) from decide_eq_decide.mpr mem_sgL.symm]
  exact k
theorem op_niS : OpR X (compareOp .NotIn) rNiS := by
  intro pins s σ H x y v u Q I rx ry h
  obtain ⟨a, z, rfl, rfl, ⟨c, rfl⟩, k⟩ := h
  refine op_notIn_sign pins s σ H _ _ v u Q I rx ry ⟨c, z, rfl, rfl, ?_⟩
  rw [show decide (c ∈ z.cps.toList) = decide (sg c ∈ sgL z) from decide_eq_decide.mpr mem_sgL.symm, ← decide_not]
  exact k
/-- text[i] -/
def rIxG : R2 := fun x y H Q => ∃ (z : Str) (i : Int) (a : Str), x = .str z ∧ y = .int i ∧ z.length ≤ sizeLine ∧ atI (sgL z) i = some a ∧ Q (.str a) H
theorem ix_sg : IxR X rIxG := by
  intro value slice pins s σ H x y v u Q I rx ry h hs
  obtain ⟨z, i, a, rfl, rfl, hz, e, k⟩ := h
  obtain ⟨c, e2, rfl⟩ := atI_sgL e
  exact ix_str value slice pins s σ H _ _ v u Q I rx ry ⟨z, i, c, rfl, rfl, hz, e2, k⟩ hs
/-- text * n -/
def CRepS (s : Str) (n : Int) : Prop := s.length ≤ 4000 ∧ -1 ≤ n ∧ n ≤ 4000
instance (s : Str) (n : Int) : Decidable (CRepS s n) := by unfold CRepS; infer_instance
def rMulS : R2 := fun x y H Q => ∃ (z : Str) (i : Int), x = .str z ∧ y = .int i ∧ CRepS z i ∧ Q (.str (Txt.mul z i)) H
theorem op_mulS : OpR X (binaryOp .Mult) rMulS := by
  intro pins s σ H x y v u Q I rx ry h
  obtain ⟨z, i, rfl, rfl, ⟨h1, h2, h3⟩, k⟩ := h
  obtain ⟨t, rfl⟩ := rx
  obtain ⟨t', rfl⟩ := ry
  exact SB.mul (mulOk_of 4000 4000 h1 h3 (by omega) (by decide) (by decide)) fun t' k' => ⟨.str _, H, I.tok _, ⟨_, rfl⟩, k⟩
end
/-- a call of a def that keeps two promises: one or the other -/
def tCall2 (sp sp' : Sp) (t : TA) : TE := fun σ H Q => t σ H fun vs H1 => sp vs H1 Q (fun _ _ _ => False) ∨ sp' vs H1 Q (fun _ _ _ => False)
theorem pe_call2 {X : Cx} {k k' : Nat} {f f' : Addr} {fd fd' : FuncData} {ps : List Str} {sp sp' : Sp} {x : Str} {p pos : Pos} {e : Expr} {es : List Expr} {t : TA} (F : FnOk X.prog X.w X.K X.mg X.base (L2.CX X.prog X.w) k f fd ps sp) (F' : FnOk X.prog X.w X.K X.mg X.base (L2.CX X.prog X.w) k' f' fd' ps sp') (hr : Room k X.A) (hr' : Room k' X.A) (hg : Gl X x) (hm : X.mg x = some (.ref f)) (hm' : X.mg x = some (.ref f')) (hk : PySem.W.keepIn X.K (.ref f) = true) (hb : Binds X.K fd ps []) (hb' : Binds X.K fd' ps [])
    (ha : PA X (e :: es) t) (hdb : (x == ("__debug__" : Str)) = false := by decide) (he : starEach (e :: es) X.env = (false, eval e X.env) :: starEach es X.env := by rfl) (hpl : (backTo pos (starEach es X.env)).any (·.1) = false := by rfl) :
    PE X (.Call (.Name x p) (e :: es) [] pos) (tCall2 sp sp' t) := by
  have ef : f' = f := by
    rw [hm] at hm'
    injection hm' with h
    injection h with h
    exact h.symm
  subst ef
  refine ⟨fun pins s σ H Q I h => wpAny_Call_Name_kw (ld_glob I hg hm ?_ hdb)⟩
  refine PySem.W.callWith_K (h₀ := X.base) I.ok.mod.kin hk (thn (ha.run pos pins s σ H _ I h) fun us g ⟨vs, G, J, r, q⟩ => ⟨J.kIn, ?_⟩) he hpl
  rcases q with q | q
  · have hl : us.length = ps.length := by rw [← r.length]; exact F.len _ _ _ _ q
    refine wpAny_call (codeAny_mono (F.run X.A X.stack g G ⟨us, []⟩ us vs Q _ hr J.env0 (by have := hb g us J.kIn (by simpa using hl); simpa using this) r q) fun res g' hq => ?_)
    cases res with
    | error z =>
      obtain ⟨_, _, _, _, _, _, _, _, _, _, _, _, h⟩ := hq
      exact h.elim
    | ok fl =>
      cases fl with
      | ret u => exact J.after hq
      | next => exact hq.elim
      | brk => exact hq.elim
      | cont => exact hq.elim
  · have hl : us.length = ps.length := by rw [← r.length]; exact F'.len _ _ _ _ q
    refine wpAny_call (codeAny_mono (F'.run X.A X.stack g G ⟨us, []⟩ us vs Q _ hr' J.env0 (by have := hb' g us J.kIn (by simpa using hl); simpa using this) r q) fun res g' hq => ?_)
    cases res with
    | error z =>
      obtain ⟨_, _, _, _, _, _, _, _, _, _, _, _, h⟩ := hq
      exact h.elim
    | ok fl =>
      cases fl with
      | ret u => exact J.after hq
      | next => exact hq.elim
      | brk => exact hq.elim
      | cont => exact hq.elim
/-- int(flag) -/
def b01 (b : Bool) : Int := if b then 1 else 0
end PG

set_option Elab.async false
set_option linter.all false
set_option maxRecDepth 100000
set_option maxHeartbeats 4000000
namespace PG
open PySem PySem.Spec PyProof.Rows L2
open PySem.W (T3 T4 Datum DatumOrd Holds HoldAll EachIs)
variable {K0 : PySem.W.Frag} [KF K0]
theorem ty_tup {F H : Hp} {a : Addr} {xs : List V} (h : TupAt F a xs) (s : Same F H) : TyX K0 H (.ref a) (.type "tuple") := by
  rcases h with h | ⟨_, o, its, n, e, c, _⟩
  · exact .base (.tup (s _ _ h))
  · exact .kTuple e c
/-! ### list(d): the keys -/
theorem RL.keysD {κ β : Type} [DK κ Key] [Py κ] [Py β] {F : Hp} (hk : ∀ k : κ, R F (kV (DK.kk k)) k) : ∀ {kvs : List (Key × V)} {xs : List (κ × β)}, RD F kvs xs → RL F (kvs.map fun e => kV e.1) (xs.map (·.1))
  | _, _, .nil => RL.nil
  | _, _, .cons _ h => RL.cons (hk _) (RL.keysD hk h)
/-! ### text[::-1] -/
def revS (z : Str) : Str := ⟨((Builtin.Str.strSliceIndices none none (-1) z.length).filterMap (z.cps[·]?)).toArray⟩
def tRevS (te : TE) : TE := fun σ H Q => te σ H fun x H1 => ∃ z, x = .str z ∧ (revS z).length ≤ 16777216 ∧ Q (.str (revS z)) H1
theorem pe_revS {X : Cx} {e : Expr} {te : TE} {k : Nat} {p1 p2 p3 pos : Pos} (he : PE X e te) : PE X (.Subscript e (.Slice none none (some (.UnaryOp .USub (.Constant (.int 1) k p1) p2)) p3) pos) (tRevS te) := by
  constructor
  intro pins s σ H Q I hw
  refine Subscript_ (thn (he.run pins s σ H _ I hw) ?_)
  rintro v s1 ⟨x, H1, I1, r1, z, rfl, hz, q⟩
  obtain ⟨t, rfl⟩ := r1
  have hst : PO X (some (.UnaryOp .USub (.Constant (.int 1) k p1) p2)) (tPart (tUn (rU fun i => .int (-i)) (tC (.int 1)))) := po_some (pe_un un_neg pe_int)
  refine wpAny_Slice (thn (po_none.run pins s1 σ H1 (fun o H2 => o = none ∧ H2 = H1) I1 ⟨rfl, rfl⟩) ?_)
  rintro vl s2 ⟨l, H2, I2, pl, rfl, rfl⟩
  refine thn (po_none.run pins s2 σ H2 (fun o H3 => o = none ∧ H3 = H2) I2 ⟨rfl, rfl⟩) ?_
  rintro vu s3 ⟨u, H3, I3, pu, rfl, rfl⟩
  refine thn (hst.run pins s3 σ H3 (fun o H4 => o = some (-1) ∧ H4 = H3) I3 ⟨1, rfl, -1, rfl, rfl, rfl⟩) ?_
  rintro vs s4 ⟨o, H4, I4, ps, rfl, rfl⟩
  obtain ⟨l, hl, el⟩ := IsPart.raw pl
  obtain ⟨u, hu, eu⟩ := IsPart.raw pu
  obtain ⟨st, hs, es⟩ := IsPart.raw ps
  subst hl hu hs
  have I5 : Inv X pins σ H4 { s4 with heap := s4.heap.push { cls := .type "slice", data := .fields #[partValue l, partValue u, partValue st] } } := I4.kept (t' := s4.toks) fun b ob q => Heap.get?_push_of_some _ q
  show wpAny (model X.prog X.w) X.A (subscriptTail e (.Slice none none (some (.UnaryOp .USub (.Constant (.int 1) k p1) p2)) p3) (.str z t) (.ref s4.heap.objs.size)) (EP X pins σ Q) X.xe _
  refine tail_any (ops := [.str z t, .ref s4.heap.objs.size]) (typeIs_str _ _ _) PySem.F.slot_str_getitem.lookup ?_ (by with_unfolding_all rfl)
  refine wpAny_getItem_str_slice (l := l) (u := u) (st := st) ⟨_, Heap.get?_push_size _ rfl, rfl, rfl⟩ (by rw [es]; rfl) ?_
  have hm : (Made.str (revS z)).post (EP X pins σ Q) _ := ⟨by rw [sizeLine_eq]; exact hz, .str _, H4, I5.tok _, ⟨_, rfl⟩, q⟩
  have e3 : sliceMade z t l u st = Made.str (revS z) := by
    unfold sliceMade slicePicked
    rw [es, el, eu]
    rfl
  rw [e3]
  exact hm
/-! ### what was read alone, ours again -/
def delC (F : Hp) (r : Addr) : Hp := fun a => if a = r then none else F a
theorem delC_ne {F : Hp} {r a : Addr} (h : a ≠ r) : delC F r a = F a := if_neg h
theorem delC_at {F : Hp} {r : Addr} : delC F r r = none := if_pos rfl
theorem same_del {F0 F : Hp} {r : Addr} (s : Same F0 F) (h : F0 r = none) : Same F0 (delC F r) := fun a o e => by
  rw [delC_ne (fun z => by rw [z, h] at e; exact nomatch e)]
  exact s a o e
theorem Ow.none0 {Z : Ent} {F H : Hp} {cs : List (Addr × HO)} (O : Ow Z F cs H) {r : Addr} (h : H r = none) : Z.H r = none ∧ Z.F r = none ∧ F r = none := by
  have hf : F r = none := O.no h
  refine ⟨O.was h, ?_, hf⟩
  cases q : Z.F r with
  | none => rfl
  | some o => rw [O.g.f _ _ q] at hf; exact nomatch hf
theorem Ow.thaw {Z : Ent} {F H : Hp} {cs : List (Addr × HO)} (O : Ow Z F cs H) {r : Addr} {w : List V} (h : F r = some (.lst w)) (hz : Z.H r = none) (hf : Z.F r = none) : Ow Z (delC F r) ((r, .lst w) :: cs) H where
  g := ⟨same_del O.g.f hf, fun a o e => by
      by_cases z : a = r
      · rw [z, delC_at] at e; exact nomatch e
      · rw [delC_ne z] at e; exact O.g.s _ _ e, O.g.k, O.g.t, fun b hb => by
      by_cases z : b = r
      · rw [z] at hb; exact absurd hz hb
      · rw [delC_ne z]; exact O.g.n b hb, O.g.u⟩
  cf := fun c hc => by
    rcases List.mem_cons.mp hc with e | hc
    · rw [e]; exact delC_at
    · by_cases z : c.1 = r
      · rw [z]; exact delC_at
      · rw [delC_ne z]; exact O.cf c hc
  ch := fun c hc => by
    rcases List.mem_cons.mp hc with e | hc
    · rw [e]; exact O.g.s _ _ h
    · exact O.ch c hc
  nd := by
    rw [List.map_cons]
    refine List.nodup_cons.mpr ⟨fun hm => ?_, O.nd⟩
    obtain ⟨c, hc, e⟩ := List.mem_map.mp hm
    have := O.cf c hc
    have e : c.1 = r := e
    rw [e, h] at this
    exact nomatch this
  ca := fun c hc => by
    rcases List.mem_cons.mp hc with e | hc
    · rw [e]; exact .inr hz
    · exact O.ca c hc
  nt := fun c hc => by
    rcases List.mem_cons.mp hc with e | hc
    · rw [e]; rfl
    · exact O.nt c hc
/-- a rule all of whose lists are new -/
def FR (H F : Hp) (v : V) : Prop := ∃ (q r0 r1 r2 : Addr) (u : V) (w0 w1 w2 : List V), v = .ref q ∧ F q = some (.tup [.ref r0, .ref r1, .ref r2, u]) ∧ F r0 = some (.lst w0) ∧ F r1 = some (.lst w1) ∧ F r2 = some (.lst w2) ∧ H r0 = none ∧ H r1 = none ∧ H r2 = none ∧ r0 ≠ r1 ∧ r0 ≠ r2 ∧ r1 ≠ r2
theorem FR.mono {H F F' : Hp} {v : V} (h : FR H F v) (s : Same F F') : FR H F' v := by
  obtain ⟨q, r0, r1, r2, u, w0, w1, w2, e, h1, h2, h3, h4, h5⟩ := h
  exact ⟨q, r0, r1, r2, u, w0, w1, w2, e, s _ _ h1, s _ _ h2, s _ _ h3, s _ _ h4, h5⟩
theorem FR.back {H H' F : Hp} {v : V} (h : FR H' F v) (s : ∀ a, H' a = none → H a = none) : FR H F v := by
  obtain ⟨q, r0, r1, r2, u, w0, w1, w2, e, h1, h2, h3, h4, a, b, c, n⟩ := h
  exact ⟨q, r0, r1, r2, u, w0, w1, w2, e, h1, h2, h3, h4, s _ a, s _ b, s _ c, n⟩
/-- a dict of such rules -/
def DFR (H F : Hp) (v : V) : Prop := ∃ (p : Addr) (w : List (Key × V)), v = .ref p ∧ F p = some (.dK w) ∧ ∀ e ∈ w, FR H F e.2
theorem DFR.mono {H F F' : Hp} {v : V} (h : DFR H F v) (s : Same F F') : DFR H F' v := by
  obtain ⟨p, w, e, h1, h2⟩ := h
  exact ⟨p, w, e, s _ _ h1, fun x hx => (h2 x hx).mono s⟩
theorem DFR.got {H F : Hp} {p : Addr} {w : List (Key × V)} (h : DFR H F (.ref p)) (hp : Rd F p (.dK w)) {k : Key} {v : V} (e : valV w k = some v) : FR H F v := by
  obtain ⟨p', w', ep, h1, h2⟩ := h
  cases ep
  have ew : w' = w := by
    rcases hp with hp | ⟨o, hp⟩
    · rw [h1] at hp; injection hp with hp; injection hp
    · rw [h1] at hp; injection hp with hp; exact nomatch hp
  subst ew
  unfold valV at e
  obtain ⟨x, hx, ev⟩ := Option.map_eq_some_iff.mp e
  rw [← ev]
  exact h2 x (List.mem_of_find?_eq_some hx)
theorem addr_ne {H : Hp} {p q : Addr} {o : HO} (h : H p = some o) (hq : H q = none) : p ≠ q := fun e => by
  subst e
  rw [hq] at h
  exact nomatch h
theorem fr_all {P : V → Prop} {e : Key × V} {l : List (Key × V)} (h : P e.2) (hl : ∀ x ∈ l, P x.2) : ∀ x ∈ e :: l, P x.2 := fun x hx => by
  rcases List.mem_cons.mp hx with e | hx
  · rw [e]; exact h
  · exact hl x hx
theorem putK_all {P : V → Prop} {kvs : List (Key × V)} {k : Key} {v : V} (h : ∀ x ∈ kvs, P x.2) (hv : P v) : ∀ x ∈ putK kvs k v, P x.2 := fun x hx => by
  unfold putK at hx
  split at hx
  · obtain ⟨y, hy, e⟩ := List.mem_map.mp hx
    rw [← e]
    split
    · exact hv
    · exact h y hy
  · rcases List.mem_append.mp hx with hx | hx
    · exact h x hx
    · rw [List.mem_singleton.mp hx]; exact hv
theorem fr_merge {P : V → Prop} {more : List (Key × V)} (h : ∀ x ∈ more, P x.2) : ∀ x ∈ mergeK [] more, P x.2 := by
  have go : ∀ (more acc : List (Key × V)), (∀ x ∈ more, P x.2) → (∀ x ∈ acc, P x.2) → ∀ x ∈ mergeK acc more, P x.2 := by
    intro more
    induction more with
    | nil => intro acc _ h; exact h
    | cons y ys ih => intro acc h1 h2; exact ih _ (fun x hx => h1 x (List.mem_cons_of_mem _ hx)) (putK_all h2 (h1 y List.mem_cons_self))
  exact go more [] h fun _ z => nomatch z
/-- sums hang on tuples alone -/
theorem TupAt.del {F : Hp} {a r : Addr} {xs w : List V} (h : TupAt F a xs) (hr : F r = some (.lst w)) : TupAt (delC F r) a xs := by
  rcases h with h | h
  · refine .inl ?_
    rw [delC_ne (fun z => by rw [z, hr] at h; injection h with h; exact nomatch h)]
    exact h
  · exact .inr h
theorem Sm.del {F : Hp} {r : Addr} {w : List V} (hr : F r = some (.lst w)) : ∀ (x : Sm) (v : V), Rep F v (Py.toD x) → Rep (delC F r) v (Py.toD x)
  | .num a k, v, h => by
    cases h with
    | tup ha hs =>
      cases hs with
      | cons h1 hs =>
        cases h1
        cases hs with
        | cons h2 hs =>
          cases h2
          cases hs
          exact .tup (ha.del hr) (.cons (.str _) (.cons (.int _) .nil))
  | .nam a, v, h => by
    cases h with
    | tup ha hs =>
      cases hs with
      | cons h1 hs =>
        cases h1
        cases hs
        exact .tup (ha.del hr) (.cons (.str _) .nil)
  | .two a x y, v, h => by
    cases h with
    | tup ha hs =>
      cases hs with
      | cons h1 hs =>
        cases h1
        cases hs with
        | cons h2 hs =>
          cases hs with
          | cons h3 hs =>
            cases hs
            exact .tup (ha.del hr) (.cons (.str _) (.cons (Sm.del hr x _ h2) (.cons (Sm.del hr y _ h3) .nil)))
theorem RL.delS {F : Hp} {r : Addr} {w : List V} (hr : F r = some (.lst w)) : ∀ {xs : List Sm} {vs : List V}, RL F vs xs → RL (delC F r) vs xs
  | [], _, h => by rw [RL.nil_ h]; exact RL.nil
  | x :: xs, _, h => by
    obtain ⟨v, vs, rfl, h1, h2⟩ := RL.cons_ h
    exact RL.cons (Sm.del hr x v h1) (RL.delS hr h2)
/-- a rule all of whose lists are new, its lists ours again -/
theorem Ow.thawR {Z : Ent} {F F0 H H0 : Hp} {cs cs0 : List (Addr × HO)} {v : V} {x : T4 (List Sm) (List Sm) (List Sm) Sm} (O : Ow Z F cs H) (O0 : Ow Z F0 cs0 H0) (S : Same F0 F) (f : FR H0 F v) (hx : R F v x) :
    ∃ (q r0 r1 r2 : Addr) (u : V) (w0 w1 w2 : List V) (F' : Hp), v = .ref q ∧ Ow Z F' ((r0, .lst w0) :: (r1, .lst w1) :: (r2, .lst w2) :: cs) H ∧ Same F0 F' ∧ F' q = some (.tup [.ref r0, .ref r1, .ref r2, u]) ∧ RL F' w0 x.a ∧ RL F' w1 x.b ∧ RL F' w2 x.c := by
  obtain ⟨q, r0, r1, r2, u, w0, w1, w2, rfl, hq, h0, h1, h2, n0, n1, n2, a, b, c⟩ := f
  obtain ⟨z0, f0, g0⟩ := O0.none0 n0
  obtain ⟨z1, f1, g1⟩ := O0.none0 n1
  obtain ⟨z2, f2, g2⟩ := O0.none0 n2
  have k2 := O.thaw h2 z2 f2
  have h1' : delC F r2 r1 = some (.lst w1) := by rw [delC_ne c]; exact h1
  have k1 := k2.thaw h1' z1 f1
  have h0' : delC (delC F r2) r1 r0 = some (.lst w0) := by rw [delC_ne a, delC_ne b]; exact h0
  have k0 := k1.thaw h0' z0 f0
  obtain ⟨p, v0, v1, v2, v3, ev, hp, m0, m1, m2, m3⟩ := R.t4_ hx
  cases ev
  have hp : F q = some (.tup [v0, v1, v2, v3]) := hp
  rw [hq] at hp
  injection hp with hp
  injection hp with hp
  injection hp with e0 hp
  injection hp with e1 hp
  injection hp with e2 hp
  subst e0 e1 e2
  have lst : ∀ {r : Addr} {w : List V} {xs : List Sm}, F r = some (.lst w) → R F (.ref r) xs → RL F w xs := fun hr hx => by
    obtain ⟨p, vs, e, h3, h4⟩ := R.lst_ hx
    cases e
    rw [hr] at h3
    injection h3 with h3
    injection h3 with h3
    rw [h3]; exact h4
  have go : ∀ {w : List V} {xs : List Sm}, RL F w xs → RL (delC (delC (delC F r2) r1) r0) w xs := fun h => ((h.delS h2).delS h1').delS h0'
  have tq : ∀ {G : Hp} {r : Addr} {w : List V}, G r = some (.lst w) → G q = some (.tup [.ref r0, .ref r1, .ref r2, u]) → delC G r q = some (.tup [.ref r0, .ref r1, .ref r2, u]) := fun hr hq => by
    rw [delC_ne (fun z => by rw [z, hr] at hq; injection hq with hq; exact nomatch hq)]
    exact hq
  exact ⟨q, r0, r1, r2, u, w0, w1, w2, _, rfl, k0, same_del (same_del (same_del S g2) g1) g0, tq h0' (tq h1' (tq h2 hq)), go (lst h0 m0), go (lst h1 m1), go (lst h2 m2)⟩
end PG

set_option Elab.async false
set_option linter.all false
set_option maxRecDepth 100000
set_option maxHeartbeats 4000000
/-! Plain mathematics over the monad M: no program in sight. -/
namespace PG
open PySem L2
open PySem.W (T3 T4 Datum DatumOrd)
section
variable {a b s i : Type}
theorem ok_b (x : a) (k : a → M b) : (Except.ok x >>= k) = k x := rfl
theorem okP_b (x : a) (k : a → M b) : ((Except.ok x : M a) >>= k) = k x := rfl
theorem ret_b (x : a) (k : a → M b) : (ret x >>= k) = k x := rfl
theorem chk_ok {c : Prop} [Decidable c] (h : c) : chk c = .ok () := by unfold chk; rw [if_pos h]
theorem chk_b {c : Prop} [Decidable c] (h : c) (k : Unit → M b) : (chk c >>= k) = k () := by rw [chk_ok h]; rfl
theorem opt_b {o : Option a} {x : a} (h : o = some x) (k : a → M b) : (opt o >>= k) = k x := by rw [h]; rfl
theorem bind_ok {m : M a} {x : a} (h : m = .ok x) (k : a → M b) : (m >>= k) = k x := by rw [h]; rfl
theorem appL_ok {xs : List a} {y : a} (h : xs.length < 16777216) : appL xs y = .ok (xs ++ [y]) := by unfold appL; rw [if_pos h]
theorem ixN_nat {n : Nat} {j : Int} (h0 : 0 ≤ j) (h : j < n) : ixN n j = some j.toNat := by unfold ixN; rw [if_pos h0, if_pos h]
theorem atI_of {xs : List a} {j : Int} {x : a} (h0 : 0 ≤ j) (h : xs[j.toNat]? = some x) : L2.atI xs j = some x := by
  have hl := (List.getElem?_eq_some_iff.mp h).1
  unfold L2.atI
  rw [ixN_nat h0 (by omega)]
  exact h
theorem atI_some {xs : List a} {j : Int} (h0 : 0 ≤ j) (h : j < xs.length) : ∃ x, L2.atI xs j = some x ∧ xs[j.toNat]? = some x := by
  have hl : j.toNat < xs.length := by omega
  exact ⟨xs[j.toNat], atI_of h0 (List.getElem?_eq_getElem hl), List.getElem?_eq_getElem hl⟩
theorem setI_ok {xs : List a} {j : Int} {y : a} (h0 : 0 ≤ j) (h : j < xs.length) : setI xs j y = .ok (xs.set j.toNat y) := by unfold setI; rw [ixN_nat h0 h]
theorem popI_ok {xs : List a} {j : Int} {y : a} (h0 : 0 ≤ j) (h : xs[j.toNat]? = some y) (hl : xs.length < 16777216) : popI xs j = .ok (y, xs.eraseIdx j.toNat) := by
  have h1 := (List.getElem?_eq_some_iff.mp h).1
  unfold popI
  rw [if_pos hl, ixN_nat h0 (by omega)]
  show (match xs[j.toNat]? with
    | some y => (Except.ok (y, xs.eraseIdx j.toNat) : M _)
    | none => bad) = _
  rw [h]
/-- loops by an invariant over the items gone through -/
theorem loopN_inv {f : i → s → M s} (P : List i → s → Prop) : ∀ {xs pre : List i} {x : s}, P pre x → (∀ pre y ys x, xs ++ [] = xs → P pre x → (∃ q, q ++ y :: ys = pre ++ y :: ys) → ∃ x', f y x = .ok x' ∧ P (pre ++ [y]) x') → ∃ x', loopN f xs x = .ok x' ∧ P (pre ++ xs) x' := by
  intro xs
  induction xs with
  | nil => intro pre x h _; exact ⟨x, rfl, by rw [List.append_nil]; exact h⟩
  | cons y ys ih =>
    intro pre x h hs
    obtain ⟨x1, e1, h1⟩ := hs pre y ys x (List.append_nil _) h ⟨pre, rfl⟩
    obtain ⟨x2, e2, h2⟩ := ih (pre := pre ++ [y]) h1 fun pre y ys x _ hp hq => hs pre y ys x (List.append_nil _) hp hq
    refine ⟨x2, ?_, by rw [List.append_assoc] at h2; exact h2⟩
    show (f y x >>= fun x' => loopN f ys x') = _
    rw [e1]
    exact e2
/-- .. with what is known of the items -/
theorem loopN_run {f : i → s → M s} {all : List i} (P : List i → s → Prop) {x : s} (h : P [] x) (hs : ∀ pre y post x, all = pre ++ y :: post → P pre x → ∃ x', f y x = .ok x' ∧ P (pre ++ [y]) x') : ∃ x', loopN f all x = .ok x' ∧ P all x' := by
  have go : ∀ (xs pre : List i) (x : s), all = pre ++ xs → P pre x → ∃ x', loopN f xs x = .ok x' ∧ P (pre ++ xs) x' := by
    intro xs
    induction xs with
    | nil => intro pre x _ h; exact ⟨x, rfl, by rw [List.append_nil]; exact h⟩
    | cons y ys ih =>
      intro pre x e h
      obtain ⟨x1, e1, h1⟩ := hs pre y ys x e h
      obtain ⟨x2, e2, h2⟩ := ih (pre ++ [y]) x1 (by rw [List.append_assoc]; exact e) h1
      refine ⟨x2, ?_, by rw [List.append_assoc] at h2; exact h2⟩
      show (f y x >>= fun x' => loopN f ys x') = _
      rw [e1]
      exact e2
  exact go all [] x rfl h
/-- a loop that goes on at each item -/
theorem loopM_run {r : Type} {f : i → s → M (Fl s r)} {all : List i} (P : List i → s → Prop) {x : s} (h : P [] x) (hs : ∀ pre y post x, all = pre ++ y :: post → P pre x → ∃ x', f y x = .ok (.nx x') ∧ P (pre ++ [y]) x') : ∃ x', loopM f all x = .ok (.nx x') ∧ P all x' := by
  have go : ∀ (xs pre : List i) (x : s), all = pre ++ xs → P pre x → ∃ x', loopM f xs x = .ok (.nx x') ∧ P (pre ++ xs) x' := by
    intro xs
    induction xs with
    | nil => intro pre x _ h; exact ⟨x, rfl, by rw [List.append_nil]; exact h⟩
    | cons y ys ih =>
      intro pre x e h
      obtain ⟨x1, e1, h1⟩ := hs pre y ys x e h
      obtain ⟨x2, e2, h2⟩ := ih (pre ++ [y]) x1 (by rw [List.append_assoc]; exact e) h1
      refine ⟨x2, ?_, by rw [List.append_assoc] at h2; exact h2⟩
      show (f y x >>= fun q => match q with
        | .nx x' => loopM f ys x'
        | .rt z => .ok (.rt z)) = _
      rw [e1]
      exact e2
  exact go all [] x rfl h
/-- .. that has no state -/
theorem loopM_all {r : Type} {f : i → Unit → M (Fl Unit r)} {all : List i} (hs : ∀ y ∈ all, f y () = .ok (.nx ())) : loopM f all () = .ok (.nx ()) := by
  obtain ⟨x, e, _⟩ := loopM_run (f := f) (all := all) (fun _ _ => True) (x := ()) trivial fun pre y post x e _ => ⟨(), by cases x; exact hs y (by rw [e]; simp), trivial⟩
  exact e
theorem compX_run {c : Type} {f : i → s → M (Option c × s)} {all : List i} (P : List i → List c → s → Prop) {x : s} (h : P [] [] x)
    (hs : ∀ pre y post acc x, all = pre ++ y :: post → P pre acc x → ∃ o x', f y x = .ok (o, x') ∧ P (pre ++ [y]) (match o with
      | some z => acc ++ [z]
      | none => acc) x') : ∃ acc x', compX f all [] x = .ok (acc, x') ∧ P all acc x' := by
  have go : ∀ (xs pre : List i) (acc : List c) (x : s), all = pre ++ xs → P pre acc x → ∃ acc' x', compX f xs acc x = .ok (acc', x') ∧ P (pre ++ xs) acc' x' := by
    intro xs
    induction xs with
    | nil => intro pre acc x _ h; exact ⟨acc, x, rfl, by rw [List.append_nil]; exact h⟩
    | cons y ys ih =>
      intro pre acc x e h
      obtain ⟨o, x1, e1, h1⟩ := hs pre y ys acc x e h
      obtain ⟨acc2, x2, e2, h2⟩ := ih (pre ++ [y]) _ x1 (by rw [List.append_assoc]; exact e) h1
      refine ⟨acc2, x2, ?_, by rw [List.append_assoc] at h2; exact h2⟩
      show (nox (f y x) >>= fun p => compX f ys (match p.1 with
        | some z => acc ++ [z]
        | none => acc) p.2) = _
      rw [e1]
      exact e2
  exact go all [] [] x rfl h
theorem compS_run {c : Type} {f : i → s → M (Option c × s)} {all : List i} (hl : all.length < 16777216) (P : List i → List c → s → Prop) {x : s} (h : P [] [] x)
    (hs : ∀ pre y post acc x, all = pre ++ y :: post → P pre acc x → ∃ o x', f y x = .ok (o, x') ∧ P (pre ++ [y]) (match o with
      | some z => acc ++ [z]
      | none => acc) x') : ∃ acc x', compS f all x = .ok (acc, x') ∧ P all acc x' := by
  unfold compS
  rw [chk_b hl]
  exact compX_run P h hs
/-- a plain map with a test -/
theorem compS_pure {c : Type} {f : i → Unit → M (Option c × Unit)} {all : List i} (g : i → Option c) (hl : all.length < 16777216) (hs : ∀ y ∈ all, f y () = .ok (g y, ())) : compS f all () = .ok (all.filterMap g, ()) := by
  obtain ⟨acc, x, e, h⟩ := compS_run (f := f) (all := all) hl (fun pre acc _ => acc = pre.filterMap g) (x := ()) rfl fun pre y post acc x e h => by
    refine ⟨g y, (), by cases x; exact hs y (by rw [e]; simp), ?_⟩
    rw [h, List.filterMap_append]
    cases e2 : g y with
    | none => simp [e2]
    | some z => simp [e2]
  rw [e, h]
end

/-! ### sorted lists -/
section
variable {a : Type}
/-- two sorted lists of the same things are one -/
theorem perm_sorted_eq {le : a → a → Bool} (anti : ∀ x y, le x y = true → le y x = true → x = y) : ∀ {xs ys : List a}, xs.Perm ys → xs.Pairwise (fun x y => le x y = true) → ys.Pairwise (fun x y => le x y = true) → xs = ys := by
  intro xs
  induction xs with
  | nil => intro ys h _ _; exact (List.nil_perm.mp h).symm
  | cons x xs ih =>
    intro ys h hx hy
    cases ys with
    | nil => exact absurd h.length_eq (by simp)
    | cons y ys =>
      rw [List.pairwise_cons] at hx hy
      have e : x = y := by
        have m1 : x ∈ y :: ys := h.mem_iff.mp List.mem_cons_self
        have m2 : y ∈ x :: xs := h.mem_iff.mpr List.mem_cons_self
        rcases List.mem_cons.mp m1 with r | r
        · exact r
        · rcases List.mem_cons.mp m2 with q | q
          · exact q.symm
          · exact anti x y (hx.1 y q) (hy.1 x r)
      subst e
      rw [ih (List.Perm.cons_inv h) hx.2 hy.2]
class LeOk (a : Type) [DecidableEq a] [DatumOrd a] : Prop where
  tr : ∀ x y z : a, leT x y = true → leT y z = true → leT x z = true
  tot : ∀ x y : a, (leT x y || leT y x) = true
  anti : ∀ x y : a, leT x y = true → leT y x = true → x = y
theorem leT_int (x y : Int) : leT x y = decide (x ≤ y) := by
  show (!decide (y < x)) = decide (x ≤ y)
  by_cases h : y < x
  · have : ¬ x ≤ y := by omega
    simp [h, this]
  · have : x ≤ y := by omega
    simp [h, this]
instance : LeOk Int where
  tr x y z h1 h2 := by
    rw [leT_int, decide_eq_true_eq] at h1 h2 ⊢
    omega
  tot x y := by
    rw [leT_int, leT_int, Bool.or_eq_true, decide_eq_true_eq, decide_eq_true_eq]
    omega
  anti x y h1 h2 := by
    rw [leT_int, decide_eq_true_eq] at h1 h2
    omega
theorem leT_p (x y : Int × Int) : leT x y = decide (x.1 < y.1 ∨ (x.1 = y.1 ∧ x.2 ≤ y.2)) := by
  show (!(if y.1 = x.1 then decide (y.2 < x.2) else decide (y.1 < x.1))) = _
  by_cases h : y.1 = x.1
  · rw [if_pos h]
    by_cases h2 : y.2 < x.2
    · have : ¬ (x.1 < y.1 ∨ (x.1 = y.1 ∧ x.2 ≤ y.2)) := by omega
      simp [h2, this]
    · have : (x.1 < y.1 ∨ (x.1 = y.1 ∧ x.2 ≤ y.2)) := by omega
      simp [h2, this]
  · rw [if_neg h]
    by_cases h2 : y.1 < x.1
    · have : ¬ (x.1 < y.1 ∨ (x.1 = y.1 ∧ x.2 ≤ y.2)) := by omega
      simp [h2, this]
    · have : (x.1 < y.1 ∨ (x.1 = y.1 ∧ x.2 ≤ y.2)) := by omega
      simp [h2, this]
instance : LeOk (Int × Int) where
  tr x y z h1 h2 := by
    rw [leT_p, decide_eq_true_eq] at h1 h2 ⊢
    omega
  tot x y := by
    rw [leT_p, leT_p, Bool.or_eq_true, decide_eq_true_eq, decide_eq_true_eq]
    omega
  anti x y h1 h2 := by
    rw [leT_p, decide_eq_true_eq] at h1 h2
    exact Prod.ext (by omega) (by omega)
theorem leT_3 (x y : T3 Int Int Int) : leT x y = decide (x.a < y.a ∨ (x.a = y.a ∧ (x.b < y.b ∨ (x.b = y.b ∧ x.c ≤ y.c)))) := by
  show (!DatumOrd.lt y x) = _
  have e : DatumOrd.lt y x = decide (y.a < x.a ∨ (y.a = x.a ∧ (y.b < x.b ∨ (y.b = x.b ∧ y.c < x.c)))) := by
    rw [Bool.eq_iff_iff, decide_eq_true_eq]
    show (if y.a = x.a then (if y.b = x.b then decide (y.c < x.c) else decide (y.b < x.b)) else decide (y.a < x.a)) = true ↔ _
    by_cases h : y.a = x.a
    · rw [if_pos h]
      by_cases h2 : y.b = x.b
      · rw [if_pos h2, decide_eq_true_eq]; omega
      · rw [if_neg h2, decide_eq_true_eq]; omega
    · rw [if_neg h, decide_eq_true_eq]; omega
  rw [e, Bool.eq_iff_iff, Bool.not_eq_true', decide_eq_false_iff_not, decide_eq_true_eq]
  omega
instance : LeOk (T3 Int Int Int) where
  tr x y z h1 h2 := by
    rw [leT_3, decide_eq_true_eq] at h1 h2 ⊢
    omega
  tot x y := by
    rw [leT_3, leT_3, Bool.or_eq_true, decide_eq_true_eq, decide_eq_true_eq]
    omega
  anti x y h1 h2 := by
    rw [leT_3, decide_eq_true_eq] at h1 h2
    exact PySem.W.T3.same (by omega) (by omega) (by omega)
variable [DecidableEq a] [DatumOrd a] [LeOk a]
theorem sortT_perm (xs : List a) : (sortT xs).Perm xs := List.mergeSort_perm xs _
theorem sortT_sorted (xs : List a) : (sortT xs).Pairwise (fun x y => leT x y = true) := List.pairwise_mergeSort (fun x y z => LeOk.tr x y z) (fun x y => LeOk.tot x y) xs
theorem sortT_eq {xs ys : List a} (h : xs.Perm ys) : sortT xs = sortT ys :=
  perm_sorted_eq LeOk.anti ((sortT_perm xs).trans (h.trans (sortT_perm ys).symm)) (sortT_sorted xs) (sortT_sorted ys)
theorem sortT_id {xs : List a} (h : xs.Pairwise (fun x y => leT x y = true)) : sortT xs = xs := perm_sorted_eq LeOk.anti (sortT_perm xs) (sortT_sorted xs) h
theorem sortT_idem (xs : List a) : sortT (sortT xs) = sortT xs := sortT_id (sortT_sorted xs)
theorem sortT_len (xs : List a) : (sortT xs).length = xs.length := (sortT_perm xs).length_eq
theorem sortT_mem {xs : List a} {x : a} : x ∈ sortT xs ↔ x ∈ xs := (sortT_perm xs).mem_iff
end
/-! ### numbers -/
theorem cdivW {i j : Int} (h : 0 < j) (h2 : j ≤ 10 ^ 40) : CDivW i j := by
  have h3 : j.natAbs ≤ 10 ^ 40 := by omega
  exact wide_div (b := 200) h (Nat.lt_of_le_of_lt h3 (by decide)) (by decide) (by decide)
theorem cmulW {i j : Int} (h1 : i.natAbs < 2 ^ 100000) (h2 : j.natAbs < 2 ^ 100000) : CMulW i j := wide_mul h1 h2 (by decide) (by decide) (by decide)

theorem erase_perm {a : Type} : ∀ {l : List a} {j : Nat} (h : j < l.length), (l[j] :: l.eraseIdx j).Perm l
  | x :: l, 0, _ => List.Perm.refl _
  | x :: l, j + 1, h => by
    have h' : j < l.length := by simpa using h
    show (l[j] :: x :: l.eraseIdx j).Perm (x :: l)
    exact (List.Perm.swap _ _ _).trans (List.Perm.cons _ (erase_perm h'))

/-! ### trees -/
abbrev Tie := T3 Int Int Int
abbrev Tr := List Int × List Tie
def tieOf (p q c : Int) : Tie := if p ≤ q then ⟨p, q, c⟩ else ⟨q, p, c⟩
/-- place by place, each new one tied to one that is there -/
inductive Grown : List Int → List Tie → Prop
  | one (p : Int) : Grown [p] []
  | more {ps : List Int} {ts : List Tie} (q p c : Int) : Grown ps ts → q ∈ ps → p ∉ ps → Grown (ps ++ [p]) (ts ++ [tieOf p q c])
theorem tieOf_lt {p q c : Int} (h : p ≠ q) : (tieOf p q c).a < (tieOf p q c).b ∧ ((tieOf p q c).a = p ∧ (tieOf p q c).b = q ∨ (tieOf p q c).a = q ∧ (tieOf p q c).b = p) ∧ (tieOf p q c).c = c := by
  unfold tieOf
  by_cases h1 : p ≤ q
  · rw [if_pos h1]; exact ⟨by show p < q; omega, .inl ⟨rfl, rfl⟩, rfl⟩
  · rw [if_neg h1]; exact ⟨by show q < p; omega, .inr ⟨rfl, rfl⟩, rfl⟩
theorem Grown.in {ps : List Int} {ts : List Tie} (g : Grown ps ts) : ∀ t ∈ ts, t.a ∈ ps ∧ t.b ∈ ps ∧ t.a < t.b := by
  induction g with
  | one p => intro t h; cases h
  | @more ps ts q p c g hq hp ih =>
    intro t h
    rcases List.mem_append.mp h with h | h
    · obtain ⟨h1, h2, h3⟩ := ih t h
      exact ⟨List.mem_append_left _ h1, List.mem_append_left _ h2, h3⟩
    · have e := List.mem_singleton.mp h
      subst e
      have hpq : p ≠ q := fun e => hp (e ▸ hq)
      obtain ⟨l, hab, _⟩ := tieOf_lt (c := c) hpq
      have mp : p ∈ ps ++ [p] := by simp
      have mq : q ∈ ps ++ [p] := List.mem_append_left _ hq
      rcases hab with ⟨h1, h2⟩ | ⟨h1, h2⟩
      · exact ⟨by rw [h1]; exact mp, by rw [h2]; exact mq, l⟩
      · exact ⟨by rw [h1]; exact mq, by rw [h2]; exact mp, l⟩
theorem Grown.len {ps : List Int} {ts : List Tie} (g : Grown ps ts) : ps.length = ts.length + 1 := by
  induction g with
  | one p => rfl
  | more q p c g hq hp ih => rw [List.length_append, List.length_append, ih]; rfl
theorem Grown.nd {ps : List Int} {ts : List Tie} (g : Grown ps ts) : ps.Nodup := by
  induction g with
  | one p => simp
  | more q p c g hq hp ih => exact List.nodup_append.mpr ⟨ih, by simp, fun x hx y hy e => by rw [List.mem_singleton.mp hy] at e; exact hp (e ▸ hx)⟩
/-- a tree: its worths, its ties sorted -/
structure TreeOk (t : Tr) : Prop where
  ex : ∃ ps ts, Grown ps ts ∧ ps.Perm (rangeL 0 (t.1.length : Int)) ∧ t.2 = sortT ts
theorem TreeOk.pos {t : Tr} (h : TreeOk t) : 1 ≤ t.1.length := by
  obtain ⟨ps, ts, g, p, e⟩ := h.ex
  have h1 := p.length_eq
  rw [rangeL_length] at h1
  have := g.len
  omega
theorem TreeOk.len {t : Tr} (h : TreeOk t) : t.1.length = t.2.length + 1 := by
  obtain ⟨ps, ts, g, p, e⟩ := h.ex
  have h1 := p.length_eq
  rw [rangeL_length] at h1
  have := g.len
  rw [e, sortT_len]
  omega
theorem rangeL_mem' {lo hi x : Int} : x ∈ rangeL lo hi ↔ lo ≤ x ∧ x < hi := by
  unfold rangeL
  rw [List.mem_map]
  constructor
  · rintro ⟨j, hj, rfl⟩
    have := List.mem_range.mp hj
    omega
  · rintro ⟨h1, h2⟩
    exact ⟨(x - lo).toNat, List.mem_range.mpr (by omega), by omega⟩
theorem TreeOk.tie {t : Tr} (h : TreeOk t) : ∀ x ∈ t.2, 0 ≤ x.a ∧ x.a < x.b ∧ x.b < (t.1.length : Int) := by
  obtain ⟨ps, ts, g, p, e⟩ := h.ex
  intro x hx
  rw [e, sortT_mem] at hx
  obtain ⟨h1, h2, h3⟩ := g.in x hx
  have a1 := rangeL_mem'.mp (p.mem_iff.mp h1)
  have a2 := rangeL_mem'.mp (p.mem_iff.mp h2)
  exact ⟨a1.1, h3, a2.2⟩
theorem TreeOk.sorted {t : Tr} (h : TreeOk t) : sortT t.2 = t.2 := by
  obtain ⟨ps, ts, g, p, e⟩ := h.ex
  rw [e, sortT_idem]
theorem sort2 (x y : Int) : sortT [x, y] = if x ≤ y then [x, y] else [y, x] := by
  by_cases h : x ≤ y
  · rw [if_pos h]
    exact sortT_id (by simp [leT_int, h])
  · rw [if_neg h]
    have e : sortT [x, y] = sortT [y, x] := sortT_eq (List.Perm.swap _ _ _)
    rw [e]
    exact sortT_id (by simp [leT_int]; omega)

theorem fm_congr {a b : Type} {f g : a → Option b} : ∀ {l : List a}, (∀ x ∈ l, f x = g x) → l.filterMap f = l.filterMap g
  | [], _ => rfl
  | x :: l, h => by
    have h1 := h x List.mem_cons_self
    have h2 := fm_congr (l := l) fun y hy => h y (List.mem_cons_of_mem _ hy)
    rw [List.filterMap_cons, List.filterMap_cons, h1, h2]
end PG

set_option Elab.async false
set_option linter.all false
set_option maxRecDepth 100000
namespace G
open PySem PySem.Spec PyProof.Rows L2 PG
open PySem.W (T3 T4 Datum DatumOrd)
def top (i : Nat) : Stmt := PySem.Challenge.pw_everyseat_k25_names_of_rules.main.body.getD i (.Pass ⟨0, 0, 0, 0⟩)
structure Nb {K : PySem.W.Frag} [KF K] (mg : Str → Option Value) : Prop where
  b_ValueError : mg "ValueError" = none
  b_all : mg "all" = none
  b_isinstance : mg "isinstance" = none
  b_len : mg "len" = none
  b_list : mg "list" = none
  b_range : mg "range" = none
  b_sorted : mg "sorted" = none
  b_tuple : mg "tuple" = none
  c_MOST : ∃ u, mg "MOST" = some u ∧ RelV (.int 3) u
  t_MORE : ∃ a, mg "MORE" = some (.ref a) ∧ KTup K a [V.str "more", V.int 0]
  t_MORE_MORE : ∃ a, mg "MORE_MORE" = some (.ref a) ∧ KTup K a [V.str "more", V.int 1]
  t_NOUGHT : ∃ a, mg "NOUGHT" = some (.ref a) ∧ KTup K a [V.str "number", V.int 0]
  t_ONE : ∃ a, mg "ONE" = some (.ref a) ∧ KTup K a [V.str "number", V.int 1]
  t_OWN : ∃ a, mg "OWN" = some (.ref a) ∧ KTup K a [V.str "own"]
  t_SO : ∃ a, mg "SO" = some (.ref a) ∧ KTup K a [V.str "so", V.int 0]
  t_SO_MORE : ∃ a, mg "SO_MORE" = some (.ref a) ∧ KTup K a [V.str "so", V.int 1]
  t_TIE : ∃ a, mg "TIE" = some (.ref a) ∧ KTup K a [V.str "tie"]
structure ExA (K : PySem.W.Frag) (mg : Str → Option Value) (C_SeatError C_NoName C_NoLength C_NoOrder C_NoPaper C_NoPlace C_NoRule C_NoText C_NoTie C_NoTree : Addr) : Prop where
  g_SeatError : mg "SeatError" = some (.ref C_SeatError)
  d_SeatError : PySem.W.hasDictIn K C_SeatError = true
  t_SeatError : PySem.W.typeIn K (.ref C_SeatError) = some (.type "type")
  n_SeatError : PySem.W.subIn K (.type "NoneType") (.ref C_SeatError) = some false
  b_SeatError : PySem.W.subIn K (.ref C_SeatError) (.type "BaseException") = some true
  s_SeatError_SeatError : PySem.W.subIn K (.ref C_SeatError) (.ref C_SeatError) = some true
  g_NoName : mg "NoName" = some (.ref C_NoName)
  d_NoName : PySem.W.hasDictIn K C_NoName = true
  t_NoName : PySem.W.typeIn K (.ref C_NoName) = some (.type "type")
  n_NoName : PySem.W.subIn K (.type "NoneType") (.ref C_NoName) = some false
  b_NoName : PySem.W.subIn K (.ref C_NoName) (.type "BaseException") = some true
  s_NoName_NoName : PySem.W.subIn K (.ref C_NoName) (.ref C_NoName) = some true
  g_NoLength : mg "NoLength" = some (.ref C_NoLength)
  d_NoLength : PySem.W.hasDictIn K C_NoLength = true
  t_NoLength : PySem.W.typeIn K (.ref C_NoLength) = some (.type "type")
  n_NoLength : PySem.W.subIn K (.type "NoneType") (.ref C_NoLength) = some false
  b_NoLength : PySem.W.subIn K (.ref C_NoLength) (.type "BaseException") = some true
  s_NoLength_NoLength : PySem.W.subIn K (.ref C_NoLength) (.ref C_NoLength) = some true
  g_NoOrder : mg "NoOrder" = some (.ref C_NoOrder)
  d_NoOrder : PySem.W.hasDictIn K C_NoOrder = true
  t_NoOrder : PySem.W.typeIn K (.ref C_NoOrder) = some (.type "type")
  n_NoOrder : PySem.W.subIn K (.type "NoneType") (.ref C_NoOrder) = some false
  b_NoOrder : PySem.W.subIn K (.ref C_NoOrder) (.type "BaseException") = some true
  s_NoOrder_NoOrder : PySem.W.subIn K (.ref C_NoOrder) (.ref C_NoOrder) = some true
  g_NoPaper : mg "NoPaper" = some (.ref C_NoPaper)
  d_NoPaper : PySem.W.hasDictIn K C_NoPaper = true
  t_NoPaper : PySem.W.typeIn K (.ref C_NoPaper) = some (.type "type")
  n_NoPaper : PySem.W.subIn K (.type "NoneType") (.ref C_NoPaper) = some false
  b_NoPaper : PySem.W.subIn K (.ref C_NoPaper) (.type "BaseException") = some true
  s_NoPaper_NoPaper : PySem.W.subIn K (.ref C_NoPaper) (.ref C_NoPaper) = some true
  g_NoPlace : mg "NoPlace" = some (.ref C_NoPlace)
  d_NoPlace : PySem.W.hasDictIn K C_NoPlace = true
  t_NoPlace : PySem.W.typeIn K (.ref C_NoPlace) = some (.type "type")
  n_NoPlace : PySem.W.subIn K (.type "NoneType") (.ref C_NoPlace) = some false
  b_NoPlace : PySem.W.subIn K (.ref C_NoPlace) (.type "BaseException") = some true
  s_NoPlace_NoPlace : PySem.W.subIn K (.ref C_NoPlace) (.ref C_NoPlace) = some true
  g_NoRule : mg "NoRule" = some (.ref C_NoRule)
  d_NoRule : PySem.W.hasDictIn K C_NoRule = true
  t_NoRule : PySem.W.typeIn K (.ref C_NoRule) = some (.type "type")
  n_NoRule : PySem.W.subIn K (.type "NoneType") (.ref C_NoRule) = some false
  b_NoRule : PySem.W.subIn K (.ref C_NoRule) (.type "BaseException") = some true
  s_NoRule_NoRule : PySem.W.subIn K (.ref C_NoRule) (.ref C_NoRule) = some true
  g_NoText : mg "NoText" = some (.ref C_NoText)
  d_NoText : PySem.W.hasDictIn K C_NoText = true
  t_NoText : PySem.W.typeIn K (.ref C_NoText) = some (.type "type")
  n_NoText : PySem.W.subIn K (.type "NoneType") (.ref C_NoText) = some false
  b_NoText : PySem.W.subIn K (.ref C_NoText) (.type "BaseException") = some true
  s_NoText_NoText : PySem.W.subIn K (.ref C_NoText) (.ref C_NoText) = some true
  g_NoTie : mg "NoTie" = some (.ref C_NoTie)
  d_NoTie : PySem.W.hasDictIn K C_NoTie = true
  t_NoTie : PySem.W.typeIn K (.ref C_NoTie) = some (.type "type")
  n_NoTie : PySem.W.subIn K (.type "NoneType") (.ref C_NoTie) = some false
  b_NoTie : PySem.W.subIn K (.ref C_NoTie) (.type "BaseException") = some true
  s_NoTie_NoTie : PySem.W.subIn K (.ref C_NoTie) (.ref C_NoTie) = some true
  g_NoTree : mg "NoTree" = some (.ref C_NoTree)
  d_NoTree : PySem.W.hasDictIn K C_NoTree = true
  t_NoTree : PySem.W.typeIn K (.ref C_NoTree) = some (.type "type")
  n_NoTree : PySem.W.subIn K (.type "NoneType") (.ref C_NoTree) = some false
  b_NoTree : PySem.W.subIn K (.ref C_NoTree) (.type "BaseException") = some true
  s_NoTree_NoTree : PySem.W.subIn K (.ref C_NoTree) (.ref C_NoTree) = some true
  e_NoName : ExcC K C_NoName
  v_NoName : PySem.W.subIn K (.ref C_NoName) (.type "ValueError") = some true
  s_NoName_SeatError : PySem.W.subIn K (.ref C_NoName) (.ref C_SeatError) = some true
  s_NoName_NoLength : PySem.W.subIn K (.ref C_NoName) (.ref C_NoLength) = some false
  s_NoName_NoOrder : PySem.W.subIn K (.ref C_NoName) (.ref C_NoOrder) = some false
  s_NoName_NoPaper : PySem.W.subIn K (.ref C_NoName) (.ref C_NoPaper) = some false
  s_NoName_NoPlace : PySem.W.subIn K (.ref C_NoName) (.ref C_NoPlace) = some false
  s_NoName_NoRule : PySem.W.subIn K (.ref C_NoName) (.ref C_NoRule) = some false
  s_NoName_NoText : PySem.W.subIn K (.ref C_NoName) (.ref C_NoText) = some false
  s_NoName_NoTie : PySem.W.subIn K (.ref C_NoName) (.ref C_NoTie) = some false
  s_NoName_NoTree : PySem.W.subIn K (.ref C_NoName) (.ref C_NoTree) = some false
structure ExAll (K : PySem.W.Frag) (mg : Str → Option Value) : Prop where
  ex : ∃ C_SeatError C_NoName C_NoLength C_NoOrder C_NoPaper C_NoPlace C_NoRule C_NoText C_NoTie C_NoTree : Addr, ExA K mg C_SeatError C_NoName C_NoLength C_NoOrder C_NoPaper C_NoPlace C_NoRule C_NoText C_NoTie C_NoTree
section
variable {P : Program} {w : World} {K : PySem.W.Frag} {mg : Str → Option Value} {base : Heap} [KF K]
abbrev s_farthest_rule : Stmt := top 20
theorem sc_farthest_rule : FnScope [] [] (defScope s_farthest_rule) := ⟨rfl, rfl, rfl, by decide +kernel, rfl, by decide +kernel, by decide +kernel⟩
def m_farthest_rule  : M ((T4 (List Sm) (List Sm) (List Sm) Sm)) :=
.ok (T4.mk ([(Sm.num ("number" : Str) (0 : Int))]) ([(Sm.two ("plus" : Str) (Sm.num ("more" : Str) (0 : Int)) (Sm.nam ("tie" : Str)))]) ([(Sm.two ("most" : Str) (Sm.num ("so" : Str) (0 : Int)) (Sm.num ("more" : Str) (0 : Int)))]) (Sm.num ("so" : Str) (0 : Int)))
def sp_farthest_rule (mg : Str → Option Value) : Sp := fun vs H Q E => ∃ (F : Hp), vs = [] ∧ Pre F [] H ∧
  wp (m_farthest_rule ) (fun r => ∀ (F' H' : Hp), Gr [] F H F' H' → ∀ v : V, R (a := (T4 (List Sm) (List Sm) (List Sm) Sm)) F' v r → FR H F' v → Q v H')
  (fun n => ∀ (C : Addr) (H' : Hp), mg (Str.ofString n) = some (.ref C) → Kp [] H H' → E (.ref C) none H')
set_option maxHeartbeats 20000000 in
theorem ok_farthest_rule (nb : Nb mg) (D : Df K mg "farthest_rule" "farthest_rule" s_farthest_rule []) : Ca P w K mg base "farthest_rule" 1 [] (sp_farthest_rule mg) := by
  obtain ⟨c_MORE, g_MORE, kt_MORE⟩ := nb.t_MORE
  obtain ⟨c_NOUGHT, g_NOUGHT, kt_NOUGHT⟩ := nb.t_NOUGHT
  obtain ⟨c_SO, g_SO, kt_SO⟩ := nb.t_SO
  obtain ⟨c_TIE, g_TIE, kt_TIE⟩ := nb.t_TIE
  refine Ca.mk' D sc_farthest_rule (fun vs H Q E h => ?_) (fun q_ f_ cdv A outer s H vs Q E hr h => ?_)
  · obtain ⟨F, rfl, _⟩ := h
    rfl
  · obtain ⟨F, rfl, P0, hk⟩ := h
    have nd := sc_farthest_rule.nd
    have hu64 := hr.units
    have hu128 := hu128_of hr
    have O := P0.start
    refine ⟨_, (pss_one (ps_ret (pe_tup (pa_cons (pe_lst (pa_cons (C8.pe_gc (v := .ref c_NOUGHT) (by rfl) ⟨_, g_NOUGHT, rfl⟩) pa_nil)) (pa_cons (pe_lst (pa_cons (pe_tup (pa_cons pe_str (pa_cons (C8.pe_gc (v := .ref c_MORE) (by rfl) ⟨_, g_MORE, rfl⟩) (pa_cons (C8.pe_gc (v := .ref c_TIE) (by rfl) ⟨_, g_TIE, rfl⟩) pa_nil)))) pa_nil)) (pa_cons (pe_lst (pa_cons (pe_tup (pa_cons pe_str (pa_cons (C8.pe_gc (v := .ref c_SO) (by rfl) ⟨_, g_SO, rfl⟩) (pa_cons (C8.pe_gc (v := .ref c_MORE) (by rfl) ⟨_, g_MORE, rfl⟩) pa_nil)))) pa_nil)) (pa_cons (C8.pe_gc (v := .ref c_SO) (by rfl) ⟨_, g_SO, rfl⟩) pa_nil))))))), ?_⟩
    have r1 := R.k_num (F := F) kt_NOUGHT
    refine ⟨(by show 1 ≤ sizeLine; decide), fun p2 hp3 => ?_⟩
    have z10 := O.was hp3
    have hl9 : RL (a := Sm) F ([V.ref c_NOUGHT]) ([(Sm.num ("number" : Str) (0 : Int))]) := RL.cons r1 RL.nil
    obtain ⟨F4, O5, S6, h7⟩ := O.putE hp3 (.lst ([V.ref c_NOUGHT]))
    have hl9 := hl9.mono S6
    have h8 := R.lst (a := Sm) h7 hl9
    have r11 := R.k_num (F := F4) kt_MORE
    have r12 := R.k_nam (F := F4) kt_TIE
    refine ⟨(by show 3 ≤ sizeLine; decide), fun p13 hp14 => ?_⟩
    obtain ⟨F15, O16, S17, h18⟩ := O5.putE hp14 (.tup [V.str ("plus" : Str), V.ref c_MORE, V.ref c_TIE])
    have h8 := h8.mono S17
    have h7 := S17 _ _ h7
    have r11 := r11.mono S17
    have r12 := r12.mono S17
    have h19 : R (a := (T3 Str Sm Sm)) F15 (.ref p13) (T3.mk ("plus" : Str) (Sm.num ("more" : Str) (0 : Int)) (Sm.nam ("tie" : Str))) := R.t3 h18 R.str r11 r12
    refine ⟨(by show 1 ≤ sizeLine; decide), fun p20 hp21 => ?_⟩
    have z28 := O16.was hp21
    have hne29 : p2 ≠ p20 := addr_ne (O16.s _ _ h7) hp21
    have hl27 : RL (a := Sm) F15 ([V.ref p13]) ([(Sm.two ("plus" : Str) (Sm.num ("more" : Str) (0 : Int)) (Sm.nam ("tie" : Str)))]) := RL.cons (R.of_two h19) RL.nil
    obtain ⟨F22, O23, S24, h25⟩ := O16.putE hp21 (.lst ([V.ref p13]))
    have h8 := h8.mono S24
    have h7 := S24 _ _ h7
    have hl27 := hl27.mono S24
    have h26 := R.lst (a := Sm) h25 hl27
    have r30 := R.k_num (F := F22) kt_SO
    have r31 := R.k_num (F := F22) kt_MORE
    refine ⟨(by show 3 ≤ sizeLine; decide), fun p32 hp33 => ?_⟩
    obtain ⟨F34, O35, S36, h37⟩ := O23.putE hp33 (.tup [V.str ("most" : Str), V.ref c_SO, V.ref c_MORE])
    have h8 := h8.mono S36
    have h7 := S36 _ _ h7
    have h26 := h26.mono S36
    have h25 := S36 _ _ h25
    have r30 := r30.mono S36
    have r31 := r31.mono S36
    have h38 : R (a := (T3 Str Sm Sm)) F34 (.ref p32) (T3.mk ("most" : Str) (Sm.num ("so" : Str) (0 : Int)) (Sm.num ("more" : Str) (0 : Int))) := R.t3 h37 R.str r30 r31
    refine ⟨(by show 1 ≤ sizeLine; decide), fun p39 hp40 => ?_⟩
    have z47 := O35.was hp40
    have hne48 : p2 ≠ p39 := addr_ne (O35.s _ _ h7) hp40
    have hne49 : p20 ≠ p39 := addr_ne (O35.s _ _ h25) hp40
    have hl46 : RL (a := Sm) F34 ([V.ref p32]) ([(Sm.two ("most" : Str) (Sm.num ("so" : Str) (0 : Int)) (Sm.num ("more" : Str) (0 : Int)))]) := RL.cons (R.of_two h38) RL.nil
    obtain ⟨F41, O42, S43, h44⟩ := O35.putE hp40 (.lst ([V.ref p32]))
    have h8 := h8.mono S43
    have h7 := S43 _ _ h7
    have h26 := h26.mono S43
    have h25 := S43 _ _ h25
    have hl46 := hl46.mono S43
    have h45 := R.lst (a := Sm) h44 hl46
    have r50 := R.k_num (F := F41) kt_SO
    refine ⟨(by show 4 ≤ sizeLine; decide), fun p51 hp52 => ?_⟩
    obtain ⟨F53, O54, S55, h56⟩ := O42.putE hp52 (.tup [V.ref p2, V.ref p20, V.ref p39, V.ref c_SO])
    have h8 := h8.mono S55
    have h7 := S55 _ _ h7
    have h26 := h26.mono S55
    have h25 := S55 _ _ h25
    have h45 := h45.mono S55
    have h44 := S55 _ _ h44
    have r50 := r50.mono S55
    have h57 : R (a := (T4 (List Sm) (List Sm) (List Sm) Sm)) F53 (.ref p51) (T4.mk ([(Sm.num ("number" : Str) (0 : Int))]) ([(Sm.two ("plus" : Str) (Sm.num ("more" : Str) (0 : Int)) (Sm.nam ("tie" : Str)))]) ([(Sm.two ("most" : Str) (Sm.num ("so" : Str) (0 : Int)) (Sm.num ("more" : Str) (0 : Int)))]) (Sm.num ("so" : Str) (0 : Int))) := R.t4 h56 h8 h26 h45 r50
    exact hk _ _  O54.g  _ h57 (⟨_, _, _, _, _, _, _, _, rfl, h56, h7, h25, h44, z10, z28, z47, hne29, hne48, hne49⟩)
abbrev s_sum_rule : Stmt := top 21
theorem sc_sum_rule : FnScope ["over"] [] (defScope s_sum_rule) := ⟨rfl, rfl, rfl, by decide +kernel, rfl, by decide +kernel, by decide +kernel⟩
def m_sum_rule  : M ((T4 (List Sm) (List Sm) (List Sm) Sm)) :=
.ok (T4.mk ([(Sm.num ("number" : Str) (0 : Int)), (Sm.num ("number" : Str) (1 : Int))]) ([(Sm.two ("plus" : Str) (Sm.num ("more" : Str) (0 : Int)) (Sm.two ("times" : Str) (Sm.nam ("tie" : Str)) (Sm.num ("more" : Str) (1 : Int)))), (Sm.num ("more" : Str) (1 : Int))]) ([(Sm.two ("plus" : Str) (Sm.num ("so" : Str) (0 : Int)) (Sm.num ("more" : Str) (0 : Int))), (Sm.two ("plus" : Str) (Sm.num ("so" : Str) (1 : Int)) (Sm.num ("more" : Str) (1 : Int)))]) (Sm.num ("so" : Str) (0 : Int)))
def sp_sum_rule (mg : Str → Option Value) : Sp := fun vs H Q E => ∃ (F : Hp), vs = [] ∧ Pre F [] H ∧
  wp (m_sum_rule ) (fun r => ∀ (F' H' : Hp), Gr [] F H F' H' → ∀ v : V, R (a := (T4 (List Sm) (List Sm) (List Sm) Sm)) F' v r → FR H F' v → Q v H')
  (fun n => ∀ (C : Addr) (H' : Hp), mg (Str.ofString n) = some (.ref C) → Kp [] H H' → E (.ref C) none H')
set_option maxHeartbeats 20000000 in
theorem ok_sum_rule (nb : Nb mg) (D : Df K mg "sum_rule" "sum_rule" s_sum_rule []) : Ca P w K mg base "sum_rule" 1 [] (sp_sum_rule mg) := by
  obtain ⟨c_MORE, g_MORE, kt_MORE⟩ := nb.t_MORE
  obtain ⟨c_MORE_MORE, g_MORE_MORE, kt_MORE_MORE⟩ := nb.t_MORE_MORE
  obtain ⟨c_NOUGHT, g_NOUGHT, kt_NOUGHT⟩ := nb.t_NOUGHT
  obtain ⟨c_ONE, g_ONE, kt_ONE⟩ := nb.t_ONE
  obtain ⟨c_SO, g_SO, kt_SO⟩ := nb.t_SO
  obtain ⟨c_SO_MORE, g_SO_MORE, kt_SO_MORE⟩ := nb.t_SO_MORE
  obtain ⟨c_TIE, g_TIE, kt_TIE⟩ := nb.t_TIE
  refine Ca.mk' D sc_sum_rule (fun vs H Q E h => ?_) (fun q_ f_ cdv A outer s H vs Q E hr h => ?_)
  · obtain ⟨F, rfl, _⟩ := h
    rfl
  · obtain ⟨F, rfl, P0, hk⟩ := h
    have nd := sc_sum_rule.nd
    have hu64 := hr.units
    have hu128 := hu128_of hr
    have O := P0.start
    refine ⟨_, (pss_cons (ps_toN (ps_set (i := 0) nd rfl (Or.inl rfl) (pe_lst (pa_cons (pe_tup (pa_cons pe_str (pa_cons (C8.pe_gc (v := .ref c_MORE) (by rfl) ⟨_, g_MORE, rfl⟩) (pa_cons (pe_tup (pa_cons pe_str (pa_cons (C8.pe_gc (v := .ref c_TIE) (by rfl) ⟨_, g_TIE, rfl⟩) (pa_cons (C8.pe_gc (v := .ref c_MORE_MORE) (by rfl) ⟨_, g_MORE_MORE, rfl⟩) pa_nil)))) pa_nil)))) (pa_cons (C8.pe_gc (v := .ref c_MORE_MORE) (by rfl) ⟨_, g_MORE_MORE, rfl⟩) pa_nil)))))
  (pss_one (ps_ret (pe_tup (pa_cons (pe_lst (pa_cons (C8.pe_gc (v := .ref c_NOUGHT) (by rfl) ⟨_, g_NOUGHT, rfl⟩) (pa_cons (C8.pe_gc (v := .ref c_ONE) (by rfl) ⟨_, g_ONE, rfl⟩) pa_nil))) (pa_cons (pv 0) (pa_cons (pe_lst (pa_cons (pe_tup (pa_cons pe_str (pa_cons (C8.pe_gc (v := .ref c_SO) (by rfl) ⟨_, g_SO, rfl⟩) (pa_cons (C8.pe_gc (v := .ref c_MORE) (by rfl) ⟨_, g_MORE, rfl⟩) pa_nil)))) (pa_cons (pe_tup (pa_cons pe_str (pa_cons (C8.pe_gc (v := .ref c_SO_MORE) (by rfl) ⟨_, g_SO_MORE, rfl⟩) (pa_cons (C8.pe_gc (v := .ref c_MORE_MORE) (by rfl) ⟨_, g_MORE_MORE, rfl⟩) pa_nil)))) pa_nil))) (pa_cons (C8.pe_gc (v := .ref c_SO) (by rfl) ⟨_, g_SO, rfl⟩) pa_nil)))))))), ?_⟩
    have r1 := R.k_num (F := F) kt_MORE
    have r2 := R.k_nam (F := F) kt_TIE
    have r3 := R.k_num (F := F) kt_MORE_MORE
    refine ⟨(by show 3 ≤ sizeLine; decide), fun p4 hp5 => ?_⟩
    obtain ⟨F6, O7, S8, h9⟩ := O.putE hp5 (.tup [V.str ("times" : Str), V.ref c_TIE, V.ref c_MORE_MORE])
    have r1 := r1.mono S8
    have r2 := r2.mono S8
    have r3 := r3.mono S8
    have h10 : R (a := (T3 Str Sm Sm)) F6 (.ref p4) (T3.mk ("times" : Str) (Sm.nam ("tie" : Str)) (Sm.num ("more" : Str) (1 : Int))) := R.t3 h9 R.str r2 r3
    refine ⟨(by show 3 ≤ sizeLine; decide), fun p11 hp12 => ?_⟩
    have h18 := (R.of_two h10)
    obtain ⟨F13, O14, S15, h16⟩ := O7.putE hp12 (.tup [V.str ("plus" : Str), V.ref c_MORE, V.ref p4])
    have r1 := r1.mono S15
    have h18 := h18.mono S15
    have h17 : R (a := (T3 Str Sm Sm)) F13 (.ref p11) (T3.mk ("plus" : Str) (Sm.num ("more" : Str) (0 : Int)) (Sm.two ("times" : Str) (Sm.nam ("tie" : Str)) (Sm.num ("more" : Str) (1 : Int)))) := R.t3 h16 R.str r1 h18
    have r19 := R.k_num (F := F13) kt_MORE_MORE
    refine ⟨(by show 2 ≤ sizeLine; decide), fun p20 hp21 => ?_⟩
    have z28 := O14.was hp21
    have hl27 : RL (a := Sm) F13 ([V.ref p11, V.ref c_MORE_MORE]) ([(Sm.two ("plus" : Str) (Sm.num ("more" : Str) (0 : Int)) (Sm.two ("times" : Str) (Sm.nam ("tie" : Str)) (Sm.num ("more" : Str) (1 : Int)))), (Sm.num ("more" : Str) (1 : Int))]) := RL.cons (R.of_two h17) (RL.cons r19 RL.nil)
    obtain ⟨F22, O23, S24, h25⟩ := O14.putE hp21 (.lst ([V.ref p11, V.ref c_MORE_MORE]))
    have hl27 := hl27.mono S24
    have h26 := R.lst (a := Sm) h25 hl27
    have r29 := R.k_num (F := F22) kt_NOUGHT
    have r30 := R.k_num (F := F22) kt_ONE
    refine ⟨[some (V.ref p20)], rfl, (by show 2 ≤ sizeLine; decide), fun p31 hp32 => ?_⟩
    have z39 := O23.was hp32
    have hne40 : p20 ≠ p31 := addr_ne (O23.s _ _ h25) hp32
    have hl38 : RL (a := Sm) F22 ([V.ref c_NOUGHT, V.ref c_ONE]) ([(Sm.num ("number" : Str) (0 : Int)), (Sm.num ("number" : Str) (1 : Int))]) := RL.cons r29 (RL.cons r30 RL.nil)
    obtain ⟨F33, O34, S35, h36⟩ := O23.putE hp32 (.lst ([V.ref c_NOUGHT, V.ref c_ONE]))
    have h26 := h26.mono S35
    have h25 := S35 _ _ h25
    have hl38 := hl38.mono S35
    have h37 := R.lst (a := Sm) h36 hl38
    have r41 := R.k_num (F := F33) kt_SO
    have r42 := R.k_num (F := F33) kt_MORE
    refine ⟨_, rfl, (by show 3 ≤ sizeLine; decide), fun p43 hp44 => ?_⟩
    obtain ⟨F45, O46, S47, h48⟩ := O34.putE hp44 (.tup [V.str ("plus" : Str), V.ref c_SO, V.ref c_MORE])
    have h26 := h26.mono S47
    have h25 := S47 _ _ h25
    have h37 := h37.mono S47
    have h36 := S47 _ _ h36
    have r41 := r41.mono S47
    have r42 := r42.mono S47
    have h49 : R (a := (T3 Str Sm Sm)) F45 (.ref p43) (T3.mk ("plus" : Str) (Sm.num ("so" : Str) (0 : Int)) (Sm.num ("more" : Str) (0 : Int))) := R.t3 h48 R.str r41 r42
    have r50 := R.k_num (F := F45) kt_SO_MORE
    have r51 := R.k_num (F := F45) kt_MORE_MORE
    refine ⟨(by show 3 ≤ sizeLine; decide), fun p52 hp53 => ?_⟩
    obtain ⟨F54, O55, S56, h57⟩ := O46.putE hp53 (.tup [V.str ("plus" : Str), V.ref c_SO_MORE, V.ref c_MORE_MORE])
    have h26 := h26.mono S56
    have h25 := S56 _ _ h25
    have h37 := h37.mono S56
    have h36 := S56 _ _ h36
    have h49 := h49.mono S56
    have r50 := r50.mono S56
    have r51 := r51.mono S56
    have h58 : R (a := (T3 Str Sm Sm)) F54 (.ref p52) (T3.mk ("plus" : Str) (Sm.num ("so" : Str) (1 : Int)) (Sm.num ("more" : Str) (1 : Int))) := R.t3 h57 R.str r50 r51
    refine ⟨(by show 2 ≤ sizeLine; decide), fun p59 hp60 => ?_⟩
    have z67 := O55.was hp60
    have hne68 : p20 ≠ p59 := addr_ne (O55.s _ _ h25) hp60
    have hne69 : p31 ≠ p59 := addr_ne (O55.s _ _ h36) hp60
    have hl66 : RL (a := Sm) F54 ([V.ref p43, V.ref p52]) ([(Sm.two ("plus" : Str) (Sm.num ("so" : Str) (0 : Int)) (Sm.num ("more" : Str) (0 : Int))), (Sm.two ("plus" : Str) (Sm.num ("so" : Str) (1 : Int)) (Sm.num ("more" : Str) (1 : Int)))]) := RL.cons (R.of_two h49) (RL.cons (R.of_two h58) RL.nil)
    obtain ⟨F61, O62, S63, h64⟩ := O55.putE hp60 (.lst ([V.ref p43, V.ref p52]))
    have h26 := h26.mono S63
    have h25 := S63 _ _ h25
    have h37 := h37.mono S63
    have h36 := S63 _ _ h36
    have hl66 := hl66.mono S63
    have h65 := R.lst (a := Sm) h64 hl66
    have r70 := R.k_num (F := F61) kt_SO
    refine ⟨(by show 4 ≤ sizeLine; decide), fun p71 hp72 => ?_⟩
    obtain ⟨F73, O74, S75, h76⟩ := O62.putE hp72 (.tup [V.ref p31, V.ref p20, V.ref p59, V.ref c_SO])
    have h26 := h26.mono S75
    have h25 := S75 _ _ h25
    have h37 := h37.mono S75
    have h36 := S75 _ _ h36
    have h65 := h65.mono S75
    have h64 := S75 _ _ h64
    have r70 := r70.mono S75
    have h77 : R (a := (T4 (List Sm) (List Sm) (List Sm) Sm)) F73 (.ref p71) (T4.mk ([(Sm.num ("number" : Str) (0 : Int)), (Sm.num ("number" : Str) (1 : Int))]) ([(Sm.two ("plus" : Str) (Sm.num ("more" : Str) (0 : Int)) (Sm.two ("times" : Str) (Sm.nam ("tie" : Str)) (Sm.num ("more" : Str) (1 : Int)))), (Sm.num ("more" : Str) (1 : Int))]) ([(Sm.two ("plus" : Str) (Sm.num ("so" : Str) (0 : Int)) (Sm.num ("more" : Str) (0 : Int))), (Sm.two ("plus" : Str) (Sm.num ("so" : Str) (1 : Int)) (Sm.num ("more" : Str) (1 : Int)))]) (Sm.num ("so" : Str) (0 : Int))) := R.t4 h76 h37 h26 h65 r70
    exact hk _ _  O74.g  _ h77 (⟨_, _, _, _, _, _, _, _, rfl, h76, h36, h25, h64, z39, z28, z67, (Ne.symm hne40), hne69, hne68⟩)
abbrev s_apart_rule : Stmt := top 22
theorem sc_apart_rule : FnScope ["join"] [] (defScope s_apart_rule) := ⟨rfl, rfl, rfl, by decide +kernel, rfl, by decide +kernel, by decide +kernel⟩
def m_apart_rule  : M ((T4 (List Sm) (List Sm) (List Sm) Sm)) :=
.ok (T4.mk ([(Sm.num ("number" : Str) (1 : Int)), (Sm.num ("number" : Str) (1 : Int))]) ([(Sm.num ("more" : Str) (0 : Int)), (Sm.num ("more" : Str) (1 : Int))]) ([(Sm.two ("times" : Str) (Sm.num ("so" : Str) (0 : Int)) (Sm.num ("more" : Str) (1 : Int))), (Sm.two ("times" : Str) (Sm.num ("so" : Str) (1 : Int)) (Sm.two ("plus" : Str) (Sm.num ("more" : Str) (0 : Int)) (Sm.num ("more" : Str) (1 : Int))))]) (Sm.two ("plus" : Str) (Sm.num ("so" : Str) (0 : Int)) (Sm.num ("so" : Str) (1 : Int))))
def sp_apart_rule (mg : Str → Option Value) : Sp := fun vs H Q E => ∃ (F : Hp), vs = [] ∧ Pre F [] H ∧
  wp (m_apart_rule ) (fun r => ∀ (F' H' : Hp), Gr [] F H F' H' → ∀ v : V, R (a := (T4 (List Sm) (List Sm) (List Sm) Sm)) F' v r → FR H F' v → Q v H')
  (fun n => ∀ (C : Addr) (H' : Hp), mg (Str.ofString n) = some (.ref C) → Kp [] H H' → E (.ref C) none H')
set_option maxHeartbeats 20000000 in
theorem ok_apart_rule (nb : Nb mg) (D : Df K mg "apart_rule" "apart_rule" s_apart_rule []) : Ca P w K mg base "apart_rule" 1 [] (sp_apart_rule mg) := by
  obtain ⟨c_MORE, g_MORE, kt_MORE⟩ := nb.t_MORE
  obtain ⟨c_MORE_MORE, g_MORE_MORE, kt_MORE_MORE⟩ := nb.t_MORE_MORE
  obtain ⟨c_ONE, g_ONE, kt_ONE⟩ := nb.t_ONE
  obtain ⟨c_SO, g_SO, kt_SO⟩ := nb.t_SO
  obtain ⟨c_SO_MORE, g_SO_MORE, kt_SO_MORE⟩ := nb.t_SO_MORE
  refine Ca.mk' D sc_apart_rule (fun vs H Q E h => ?_) (fun q_ f_ cdv A outer s H vs Q E hr h => ?_)
  · obtain ⟨F, rfl, _⟩ := h
    rfl
  · obtain ⟨F, rfl, P0, hk⟩ := h
    have nd := sc_apart_rule.nd
    have hu64 := hr.units
    have hu128 := hu128_of hr
    have O := P0.start
    refine ⟨_, (pss_cons (ps_toN (ps_set (i := 0) nd rfl (Or.inl rfl) (pe_lst (pa_cons (pe_tup (pa_cons pe_str (pa_cons (C8.pe_gc (v := .ref c_SO) (by rfl) ⟨_, g_SO, rfl⟩) (pa_cons (C8.pe_gc (v := .ref c_MORE_MORE) (by rfl) ⟨_, g_MORE_MORE, rfl⟩) pa_nil)))) (pa_cons (pe_tup (pa_cons pe_str (pa_cons (C8.pe_gc (v := .ref c_SO_MORE) (by rfl) ⟨_, g_SO_MORE, rfl⟩) (pa_cons (pe_tup (pa_cons pe_str (pa_cons (C8.pe_gc (v := .ref c_MORE) (by rfl) ⟨_, g_MORE, rfl⟩) (pa_cons (C8.pe_gc (v := .ref c_MORE_MORE) (by rfl) ⟨_, g_MORE_MORE, rfl⟩) pa_nil)))) pa_nil)))) pa_nil)))))
  (pss_one (ps_ret (pe_tup (pa_cons (pe_lst (pa_cons (C8.pe_gc (v := .ref c_ONE) (by rfl) ⟨_, g_ONE, rfl⟩) (pa_cons (C8.pe_gc (v := .ref c_ONE) (by rfl) ⟨_, g_ONE, rfl⟩) pa_nil))) (pa_cons (pe_lst (pa_cons (C8.pe_gc (v := .ref c_MORE) (by rfl) ⟨_, g_MORE, rfl⟩) (pa_cons (C8.pe_gc (v := .ref c_MORE_MORE) (by rfl) ⟨_, g_MORE_MORE, rfl⟩) pa_nil))) (pa_cons (pv 0) (pa_cons (pe_tup (pa_cons pe_str (pa_cons (C8.pe_gc (v := .ref c_SO) (by rfl) ⟨_, g_SO, rfl⟩) (pa_cons (C8.pe_gc (v := .ref c_SO_MORE) (by rfl) ⟨_, g_SO_MORE, rfl⟩) pa_nil)))) pa_nil)))))))), ?_⟩
    have r1 := R.k_num (F := F) kt_SO
    have r2 := R.k_num (F := F) kt_MORE_MORE
    refine ⟨(by show 3 ≤ sizeLine; decide), fun p3 hp4 => ?_⟩
    obtain ⟨F5, O6, S7, h8⟩ := O.putE hp4 (.tup [V.str ("times" : Str), V.ref c_SO, V.ref c_MORE_MORE])
    have r1 := r1.mono S7
    have r2 := r2.mono S7
    have h9 : R (a := (T3 Str Sm Sm)) F5 (.ref p3) (T3.mk ("times" : Str) (Sm.num ("so" : Str) (0 : Int)) (Sm.num ("more" : Str) (1 : Int))) := R.t3 h8 R.str r1 r2
    have r10 := R.k_num (F := F5) kt_SO_MORE
    have r11 := R.k_num (F := F5) kt_MORE
    have r12 := R.k_num (F := F5) kt_MORE_MORE
    refine ⟨(by show 3 ≤ sizeLine; decide), fun p13 hp14 => ?_⟩
    obtain ⟨F15, O16, S17, h18⟩ := O6.putE hp14 (.tup [V.str ("plus" : Str), V.ref c_MORE, V.ref c_MORE_MORE])
    have h9 := h9.mono S17
    have r10 := r10.mono S17
    have r11 := r11.mono S17
    have r12 := r12.mono S17
    have h19 : R (a := (T3 Str Sm Sm)) F15 (.ref p13) (T3.mk ("plus" : Str) (Sm.num ("more" : Str) (0 : Int)) (Sm.num ("more" : Str) (1 : Int))) := R.t3 h18 R.str r11 r12
    refine ⟨(by show 3 ≤ sizeLine; decide), fun p20 hp21 => ?_⟩
    have h27 := (R.of_two h19)
    obtain ⟨F22, O23, S24, h25⟩ := O16.putE hp21 (.tup [V.str ("times" : Str), V.ref c_SO_MORE, V.ref p13])
    have h9 := h9.mono S24
    have r10 := r10.mono S24
    have h27 := h27.mono S24
    have h26 : R (a := (T3 Str Sm Sm)) F22 (.ref p20) (T3.mk ("times" : Str) (Sm.num ("so" : Str) (1 : Int)) (Sm.two ("plus" : Str) (Sm.num ("more" : Str) (0 : Int)) (Sm.num ("more" : Str) (1 : Int)))) := R.t3 h25 R.str r10 h27
    refine ⟨(by show 2 ≤ sizeLine; decide), fun p28 hp29 => ?_⟩
    have z36 := O23.was hp29
    have hl35 : RL (a := Sm) F22 ([V.ref p3, V.ref p20]) ([(Sm.two ("times" : Str) (Sm.num ("so" : Str) (0 : Int)) (Sm.num ("more" : Str) (1 : Int))), (Sm.two ("times" : Str) (Sm.num ("so" : Str) (1 : Int)) (Sm.two ("plus" : Str) (Sm.num ("more" : Str) (0 : Int)) (Sm.num ("more" : Str) (1 : Int))))]) := RL.cons (R.of_two h9) (RL.cons (R.of_two h26) RL.nil)
    obtain ⟨F30, O31, S32, h33⟩ := O23.putE hp29 (.lst ([V.ref p3, V.ref p20]))
    have hl35 := hl35.mono S32
    have h34 := R.lst (a := Sm) h33 hl35
    have r37 := R.k_num (F := F30) kt_ONE
    have r38 := R.k_num (F := F30) kt_ONE
    refine ⟨[some (V.ref p28)], rfl, (by show 2 ≤ sizeLine; decide), fun p39 hp40 => ?_⟩
    have z47 := O31.was hp40
    have hne48 : p28 ≠ p39 := addr_ne (O31.s _ _ h33) hp40
    have hl46 : RL (a := Sm) F30 ([V.ref c_ONE, V.ref c_ONE]) ([(Sm.num ("number" : Str) (1 : Int)), (Sm.num ("number" : Str) (1 : Int))]) := RL.cons r37 (RL.cons r38 RL.nil)
    obtain ⟨F41, O42, S43, h44⟩ := O31.putE hp40 (.lst ([V.ref c_ONE, V.ref c_ONE]))
    have h34 := h34.mono S43
    have h33 := S43 _ _ h33
    have hl46 := hl46.mono S43
    have h45 := R.lst (a := Sm) h44 hl46
    have r49 := R.k_num (F := F41) kt_MORE
    have r50 := R.k_num (F := F41) kt_MORE_MORE
    refine ⟨(by show 2 ≤ sizeLine; decide), fun p51 hp52 => ?_⟩
    have z59 := O42.was hp52
    have hne60 : p28 ≠ p51 := addr_ne (O42.s _ _ h33) hp52
    have hne61 : p39 ≠ p51 := addr_ne (O42.s _ _ h44) hp52
    have hl58 : RL (a := Sm) F41 ([V.ref c_MORE, V.ref c_MORE_MORE]) ([(Sm.num ("more" : Str) (0 : Int)), (Sm.num ("more" : Str) (1 : Int))]) := RL.cons r49 (RL.cons r50 RL.nil)
    obtain ⟨F53, O54, S55, h56⟩ := O42.putE hp52 (.lst ([V.ref c_MORE, V.ref c_MORE_MORE]))
    have h34 := h34.mono S55
    have h33 := S55 _ _ h33
    have h45 := h45.mono S55
    have h44 := S55 _ _ h44
    have hl58 := hl58.mono S55
    have h57 := R.lst (a := Sm) h56 hl58
    have r62 := R.k_num (F := F53) kt_SO
    have r63 := R.k_num (F := F53) kt_SO_MORE
    refine ⟨_, rfl, (by show 3 ≤ sizeLine; decide), fun p64 hp65 => ?_⟩
    obtain ⟨F66, O67, S68, h69⟩ := O54.putE hp65 (.tup [V.str ("plus" : Str), V.ref c_SO, V.ref c_SO_MORE])
    have h34 := h34.mono S68
    have h33 := S68 _ _ h33
    have h45 := h45.mono S68
    have h44 := S68 _ _ h44
    have h57 := h57.mono S68
    have h56 := S68 _ _ h56
    have r62 := r62.mono S68
    have r63 := r63.mono S68
    have h70 : R (a := (T3 Str Sm Sm)) F66 (.ref p64) (T3.mk ("plus" : Str) (Sm.num ("so" : Str) (0 : Int)) (Sm.num ("so" : Str) (1 : Int))) := R.t3 h69 R.str r62 r63
    refine ⟨(by show 4 ≤ sizeLine; decide), fun p71 hp72 => ?_⟩
    have h78 := (R.of_two h70)
    obtain ⟨F73, O74, S75, h76⟩ := O67.putE hp72 (.tup [V.ref p39, V.ref p51, V.ref p28, V.ref p64])
    have h34 := h34.mono S75
    have h33 := S75 _ _ h33
    have h45 := h45.mono S75
    have h44 := S75 _ _ h44
    have h57 := h57.mono S75
    have h56 := S75 _ _ h56
    have h78 := h78.mono S75
    have h77 : R (a := (T4 (List Sm) (List Sm) (List Sm) Sm)) F73 (.ref p71) (T4.mk ([(Sm.num ("number" : Str) (1 : Int)), (Sm.num ("number" : Str) (1 : Int))]) ([(Sm.num ("more" : Str) (0 : Int)), (Sm.num ("more" : Str) (1 : Int))]) ([(Sm.two ("times" : Str) (Sm.num ("so" : Str) (0 : Int)) (Sm.num ("more" : Str) (1 : Int))), (Sm.two ("times" : Str) (Sm.num ("so" : Str) (1 : Int)) (Sm.two ("plus" : Str) (Sm.num ("more" : Str) (0 : Int)) (Sm.num ("more" : Str) (1 : Int))))]) (Sm.two ("plus" : Str) (Sm.num ("so" : Str) (0 : Int)) (Sm.num ("so" : Str) (1 : Int)))) := R.t4 h76 h45 h57 h34 h78
    exact hk _ _  O74.g  _ h77 (⟨_, _, _, _, _, _, _, _, rfl, h76, h44, h56, h33, z47, z59, z36, hne61, (Ne.symm hne48), (Ne.symm hne60)⟩)
abbrev s_best_rule : Stmt := top 23
theorem sc_best_rule : FnScope ["join"] [] (defScope s_best_rule) := ⟨rfl, rfl, rfl, by decide +kernel, rfl, by decide +kernel, by decide +kernel⟩
def m_best_rule  : M ((T4 (List Sm) (List Sm) (List Sm) Sm)) :=
.ok (T4.mk ([(Sm.nam ("own" : Str)), (Sm.num ("number" : Str) (0 : Int))]) ([(Sm.num ("more" : Str) (0 : Int)), (Sm.num ("more" : Str) (1 : Int))]) ([(Sm.two ("plus" : Str) (Sm.num ("so" : Str) (0 : Int)) (Sm.num ("more" : Str) (1 : Int))), (Sm.two ("plus" : Str) (Sm.num ("so" : Str) (1 : Int)) (Sm.two ("most" : Str) (Sm.num ("more" : Str) (0 : Int)) (Sm.num ("more" : Str) (1 : Int))))]) (Sm.two ("most" : Str) (Sm.num ("so" : Str) (0 : Int)) (Sm.num ("so" : Str) (1 : Int))))
def sp_best_rule (mg : Str → Option Value) : Sp := fun vs H Q E => ∃ (F : Hp), vs = [] ∧ Pre F [] H ∧
  wp (m_best_rule ) (fun r => ∀ (F' H' : Hp), Gr [] F H F' H' → ∀ v : V, R (a := (T4 (List Sm) (List Sm) (List Sm) Sm)) F' v r → FR H F' v → Q v H')
  (fun n => ∀ (C : Addr) (H' : Hp), mg (Str.ofString n) = some (.ref C) → Kp [] H H' → E (.ref C) none H')
set_option maxHeartbeats 20000000 in
theorem ok_best_rule (nb : Nb mg) (D : Df K mg "best_rule" "best_rule" s_best_rule []) : Ca P w K mg base "best_rule" 1 [] (sp_best_rule mg) := by
  obtain ⟨c_MORE, g_MORE, kt_MORE⟩ := nb.t_MORE
  obtain ⟨c_MORE_MORE, g_MORE_MORE, kt_MORE_MORE⟩ := nb.t_MORE_MORE
  obtain ⟨c_NOUGHT, g_NOUGHT, kt_NOUGHT⟩ := nb.t_NOUGHT
  obtain ⟨c_OWN, g_OWN, kt_OWN⟩ := nb.t_OWN
  obtain ⟨c_SO, g_SO, kt_SO⟩ := nb.t_SO
  obtain ⟨c_SO_MORE, g_SO_MORE, kt_SO_MORE⟩ := nb.t_SO_MORE
  refine Ca.mk' D sc_best_rule (fun vs H Q E h => ?_) (fun q_ f_ cdv A outer s H vs Q E hr h => ?_)
  · obtain ⟨F, rfl, _⟩ := h
    rfl
  · obtain ⟨F, rfl, P0, hk⟩ := h
    have nd := sc_best_rule.nd
    have hu64 := hr.units
    have hu128 := hu128_of hr
    have O := P0.start
    refine ⟨_, (pss_cons (ps_toN (ps_set (i := 0) nd rfl (Or.inl rfl) (pe_lst (pa_cons (pe_tup (pa_cons pe_str (pa_cons (C8.pe_gc (v := .ref c_SO) (by rfl) ⟨_, g_SO, rfl⟩) (pa_cons (C8.pe_gc (v := .ref c_MORE_MORE) (by rfl) ⟨_, g_MORE_MORE, rfl⟩) pa_nil)))) (pa_cons (pe_tup (pa_cons pe_str (pa_cons (C8.pe_gc (v := .ref c_SO_MORE) (by rfl) ⟨_, g_SO_MORE, rfl⟩) (pa_cons (pe_tup (pa_cons pe_str (pa_cons (C8.pe_gc (v := .ref c_MORE) (by rfl) ⟨_, g_MORE, rfl⟩) (pa_cons (C8.pe_gc (v := .ref c_MORE_MORE) (by rfl) ⟨_, g_MORE_MORE, rfl⟩) pa_nil)))) pa_nil)))) pa_nil)))))
  (pss_one (ps_ret (pe_tup (pa_cons (pe_lst (pa_cons (C8.pe_gc (v := .ref c_OWN) (by rfl) ⟨_, g_OWN, rfl⟩) (pa_cons (C8.pe_gc (v := .ref c_NOUGHT) (by rfl) ⟨_, g_NOUGHT, rfl⟩) pa_nil))) (pa_cons (pe_lst (pa_cons (C8.pe_gc (v := .ref c_MORE) (by rfl) ⟨_, g_MORE, rfl⟩) (pa_cons (C8.pe_gc (v := .ref c_MORE_MORE) (by rfl) ⟨_, g_MORE_MORE, rfl⟩) pa_nil))) (pa_cons (pv 0) (pa_cons (pe_tup (pa_cons pe_str (pa_cons (C8.pe_gc (v := .ref c_SO) (by rfl) ⟨_, g_SO, rfl⟩) (pa_cons (C8.pe_gc (v := .ref c_SO_MORE) (by rfl) ⟨_, g_SO_MORE, rfl⟩) pa_nil)))) pa_nil)))))))), ?_⟩
    have r1 := R.k_num (F := F) kt_SO
    have r2 := R.k_num (F := F) kt_MORE_MORE
    refine ⟨(by show 3 ≤ sizeLine; decide), fun p3 hp4 => ?_⟩
    obtain ⟨F5, O6, S7, h8⟩ := O.putE hp4 (.tup [V.str ("plus" : Str), V.ref c_SO, V.ref c_MORE_MORE])
    have r1 := r1.mono S7
    have r2 := r2.mono S7
    have h9 : R (a := (T3 Str Sm Sm)) F5 (.ref p3) (T3.mk ("plus" : Str) (Sm.num ("so" : Str) (0 : Int)) (Sm.num ("more" : Str) (1 : Int))) := R.t3 h8 R.str r1 r2
    have r10 := R.k_num (F := F5) kt_SO_MORE
    have r11 := R.k_num (F := F5) kt_MORE
    have r12 := R.k_num (F := F5) kt_MORE_MORE
    refine ⟨(by show 3 ≤ sizeLine; decide), fun p13 hp14 => ?_⟩
    obtain ⟨F15, O16, S17, h18⟩ := O6.putE hp14 (.tup [V.str ("most" : Str), V.ref c_MORE, V.ref c_MORE_MORE])
    have h9 := h9.mono S17
    have r10 := r10.mono S17
    have r11 := r11.mono S17
    have r12 := r12.mono S17
    have h19 : R (a := (T3 Str Sm Sm)) F15 (.ref p13) (T3.mk ("most" : Str) (Sm.num ("more" : Str) (0 : Int)) (Sm.num ("more" : Str) (1 : Int))) := R.t3 h18 R.str r11 r12
    refine ⟨(by show 3 ≤ sizeLine; decide), fun p20 hp21 => ?_⟩
    have h27 := (R.of_two h19)
    obtain ⟨F22, O23, S24, h25⟩ := O16.putE hp21 (.tup [V.str ("plus" : Str), V.ref c_SO_MORE, V.ref p13])
    have h9 := h9.mono S24
    have r10 := r10.mono S24
    have h27 := h27.mono S24
    have h26 : R (a := (T3 Str Sm Sm)) F22 (.ref p20) (T3.mk ("plus" : Str) (Sm.num ("so" : Str) (1 : Int)) (Sm.two ("most" : Str) (Sm.num ("more" : Str) (0 : Int)) (Sm.num ("more" : Str) (1 : Int)))) := R.t3 h25 R.str r10 h27
    refine ⟨(by show 2 ≤ sizeLine; decide), fun p28 hp29 => ?_⟩
    have z36 := O23.was hp29
    have hl35 : RL (a := Sm) F22 ([V.ref p3, V.ref p20]) ([(Sm.two ("plus" : Str) (Sm.num ("so" : Str) (0 : Int)) (Sm.num ("more" : Str) (1 : Int))), (Sm.two ("plus" : Str) (Sm.num ("so" : Str) (1 : Int)) (Sm.two ("most" : Str) (Sm.num ("more" : Str) (0 : Int)) (Sm.num ("more" : Str) (1 : Int))))]) := RL.cons (R.of_two h9) (RL.cons (R.of_two h26) RL.nil)
    obtain ⟨F30, O31, S32, h33⟩ := O23.putE hp29 (.lst ([V.ref p3, V.ref p20]))
    have hl35 := hl35.mono S32
    have h34 := R.lst (a := Sm) h33 hl35
    have r37 := R.k_nam (F := F30) kt_OWN
    have r38 := R.k_num (F := F30) kt_NOUGHT
    refine ⟨[some (V.ref p28)], rfl, (by show 2 ≤ sizeLine; decide), fun p39 hp40 => ?_⟩
    have z47 := O31.was hp40
    have hne48 : p28 ≠ p39 := addr_ne (O31.s _ _ h33) hp40
    have hl46 : RL (a := Sm) F30 ([V.ref c_OWN, V.ref c_NOUGHT]) ([(Sm.nam ("own" : Str)), (Sm.num ("number" : Str) (0 : Int))]) := RL.cons r37 (RL.cons r38 RL.nil)
    obtain ⟨F41, O42, S43, h44⟩ := O31.putE hp40 (.lst ([V.ref c_OWN, V.ref c_NOUGHT]))
    have h34 := h34.mono S43
    have h33 := S43 _ _ h33
    have hl46 := hl46.mono S43
    have h45 := R.lst (a := Sm) h44 hl46
    have r49 := R.k_num (F := F41) kt_MORE
    have r50 := R.k_num (F := F41) kt_MORE_MORE
    refine ⟨(by show 2 ≤ sizeLine; decide), fun p51 hp52 => ?_⟩
    have z59 := O42.was hp52
    have hne60 : p28 ≠ p51 := addr_ne (O42.s _ _ h33) hp52
    have hne61 : p39 ≠ p51 := addr_ne (O42.s _ _ h44) hp52
    have hl58 : RL (a := Sm) F41 ([V.ref c_MORE, V.ref c_MORE_MORE]) ([(Sm.num ("more" : Str) (0 : Int)), (Sm.num ("more" : Str) (1 : Int))]) := RL.cons r49 (RL.cons r50 RL.nil)
    obtain ⟨F53, O54, S55, h56⟩ := O42.putE hp52 (.lst ([V.ref c_MORE, V.ref c_MORE_MORE]))
    have h34 := h34.mono S55
    have h33 := S55 _ _ h33
    have h45 := h45.mono S55
    have h44 := S55 _ _ h44
    have hl58 := hl58.mono S55
    have h57 := R.lst (a := Sm) h56 hl58
    have r62 := R.k_num (F := F53) kt_SO
    have r63 := R.k_num (F := F53) kt_SO_MORE
    refine ⟨_, rfl, (by show 3 ≤ sizeLine; decide), fun p64 hp65 => ?_⟩
    obtain ⟨F66, O67, S68, h69⟩ := O54.putE hp65 (.tup [V.str ("most" : Str), V.ref c_SO, V.ref c_SO_MORE])
    have h34 := h34.mono S68
    have h33 := S68 _ _ h33
    have h45 := h45.mono S68
    have h44 := S68 _ _ h44
    have h57 := h57.mono S68
    have h56 := S68 _ _ h56
    have r62 := r62.mono S68
    have r63 := r63.mono S68
    have h70 : R (a := (T3 Str Sm Sm)) F66 (.ref p64) (T3.mk ("most" : Str) (Sm.num ("so" : Str) (0 : Int)) (Sm.num ("so" : Str) (1 : Int))) := R.t3 h69 R.str r62 r63
    refine ⟨(by show 4 ≤ sizeLine; decide), fun p71 hp72 => ?_⟩
    have h78 := (R.of_two h70)
    obtain ⟨F73, O74, S75, h76⟩ := O67.putE hp72 (.tup [V.ref p39, V.ref p51, V.ref p28, V.ref p64])
    have h34 := h34.mono S75
    have h33 := S75 _ _ h33
    have h45 := h45.mono S75
    have h44 := S75 _ _ h44
    have h57 := h57.mono S75
    have h56 := S75 _ _ h56
    have h78 := h78.mono S75
    have h77 : R (a := (T4 (List Sm) (List Sm) (List Sm) Sm)) F73 (.ref p71) (T4.mk ([(Sm.nam ("own" : Str)), (Sm.num ("number" : Str) (0 : Int))]) ([(Sm.num ("more" : Str) (0 : Int)), (Sm.num ("more" : Str) (1 : Int))]) ([(Sm.two ("plus" : Str) (Sm.num ("so" : Str) (0 : Int)) (Sm.num ("more" : Str) (1 : Int))), (Sm.two ("plus" : Str) (Sm.num ("so" : Str) (1 : Int)) (Sm.two ("most" : Str) (Sm.num ("more" : Str) (0 : Int)) (Sm.num ("more" : Str) (1 : Int))))]) (Sm.two ("most" : Str) (Sm.num ("so" : Str) (0 : Int)) (Sm.num ("so" : Str) (1 : Int)))) := R.t4 h76 h45 h57 h34 h78
    exact hk _ _  O74.g  _ h77 (⟨_, _, _, _, _, _, _, _, rfl, h76, h44, h56, h33, z47, z59, z36, hne61, (Ne.symm hne48), (Ne.symm hne60)⟩)
abbrev s_piece_rule : Stmt := top 24
theorem sc_piece_rule : FnScope [] [] (defScope s_piece_rule) := ⟨rfl, rfl, rfl, by decide +kernel, rfl, by decide +kernel, by decide +kernel⟩
def m_piece_rule  : M ((T4 (List Sm) (List Sm) (List Sm) Sm)) :=
.ok (T4.mk ([(Sm.nam ("own" : Str))]) ([(Sm.two ("most" : Str) (Sm.num ("number" : Str) (0 : Int)) (Sm.num ("more" : Str) (0 : Int)))]) ([(Sm.two ("plus" : Str) (Sm.num ("so" : Str) (0 : Int)) (Sm.num ("more" : Str) (0 : Int)))]) (Sm.num ("so" : Str) (0 : Int)))
def sp_piece_rule (mg : Str → Option Value) : Sp := fun vs H Q E => ∃ (F : Hp), vs = [] ∧ Pre F [] H ∧
  wp (m_piece_rule ) (fun r => ∀ (F' H' : Hp), Gr [] F H F' H' → ∀ v : V, R (a := (T4 (List Sm) (List Sm) (List Sm) Sm)) F' v r → FR H F' v → Q v H')
  (fun n => ∀ (C : Addr) (H' : Hp), mg (Str.ofString n) = some (.ref C) → Kp [] H H' → E (.ref C) none H')
set_option maxHeartbeats 20000000 in
theorem ok_piece_rule (nb : Nb mg) (D : Df K mg "piece_rule" "piece_rule" s_piece_rule []) : Ca P w K mg base "piece_rule" 1 [] (sp_piece_rule mg) := by
  obtain ⟨c_MORE, g_MORE, kt_MORE⟩ := nb.t_MORE
  obtain ⟨c_NOUGHT, g_NOUGHT, kt_NOUGHT⟩ := nb.t_NOUGHT
  obtain ⟨c_OWN, g_OWN, kt_OWN⟩ := nb.t_OWN
  obtain ⟨c_SO, g_SO, kt_SO⟩ := nb.t_SO
  refine Ca.mk' D sc_piece_rule (fun vs H Q E h => ?_) (fun q_ f_ cdv A outer s H vs Q E hr h => ?_)
  · obtain ⟨F, rfl, _⟩ := h
    rfl
  · obtain ⟨F, rfl, P0, hk⟩ := h
    have nd := sc_piece_rule.nd
    have hu64 := hr.units
    have hu128 := hu128_of hr
    have O := P0.start
    refine ⟨_, (pss_one (ps_ret (pe_tup (pa_cons (pe_lst (pa_cons (C8.pe_gc (v := .ref c_OWN) (by rfl) ⟨_, g_OWN, rfl⟩) pa_nil)) (pa_cons (pe_lst (pa_cons (pe_tup (pa_cons pe_str (pa_cons (C8.pe_gc (v := .ref c_NOUGHT) (by rfl) ⟨_, g_NOUGHT, rfl⟩) (pa_cons (C8.pe_gc (v := .ref c_MORE) (by rfl) ⟨_, g_MORE, rfl⟩) pa_nil)))) pa_nil)) (pa_cons (pe_lst (pa_cons (pe_tup (pa_cons pe_str (pa_cons (C8.pe_gc (v := .ref c_SO) (by rfl) ⟨_, g_SO, rfl⟩) (pa_cons (C8.pe_gc (v := .ref c_MORE) (by rfl) ⟨_, g_MORE, rfl⟩) pa_nil)))) pa_nil)) (pa_cons (C8.pe_gc (v := .ref c_SO) (by rfl) ⟨_, g_SO, rfl⟩) pa_nil))))))), ?_⟩
    have r1 := R.k_nam (F := F) kt_OWN
    refine ⟨(by show 1 ≤ sizeLine; decide), fun p2 hp3 => ?_⟩
    have z10 := O.was hp3
    have hl9 : RL (a := Sm) F ([V.ref c_OWN]) ([(Sm.nam ("own" : Str))]) := RL.cons r1 RL.nil
    obtain ⟨F4, O5, S6, h7⟩ := O.putE hp3 (.lst ([V.ref c_OWN]))
    have hl9 := hl9.mono S6
    have h8 := R.lst (a := Sm) h7 hl9
    have r11 := R.k_num (F := F4) kt_NOUGHT
    have r12 := R.k_num (F := F4) kt_MORE
    refine ⟨(by show 3 ≤ sizeLine; decide), fun p13 hp14 => ?_⟩
    obtain ⟨F15, O16, S17, h18⟩ := O5.putE hp14 (.tup [V.str ("most" : Str), V.ref c_NOUGHT, V.ref c_MORE])
    have h8 := h8.mono S17
    have h7 := S17 _ _ h7
    have r11 := r11.mono S17
    have r12 := r12.mono S17
    have h19 : R (a := (T3 Str Sm Sm)) F15 (.ref p13) (T3.mk ("most" : Str) (Sm.num ("number" : Str) (0 : Int)) (Sm.num ("more" : Str) (0 : Int))) := R.t3 h18 R.str r11 r12
    refine ⟨(by show 1 ≤ sizeLine; decide), fun p20 hp21 => ?_⟩
    have z28 := O16.was hp21
    have hne29 : p2 ≠ p20 := addr_ne (O16.s _ _ h7) hp21
    have hl27 : RL (a := Sm) F15 ([V.ref p13]) ([(Sm.two ("most" : Str) (Sm.num ("number" : Str) (0 : Int)) (Sm.num ("more" : Str) (0 : Int)))]) := RL.cons (R.of_two h19) RL.nil
    obtain ⟨F22, O23, S24, h25⟩ := O16.putE hp21 (.lst ([V.ref p13]))
    have h8 := h8.mono S24
    have h7 := S24 _ _ h7
    have hl27 := hl27.mono S24
    have h26 := R.lst (a := Sm) h25 hl27
    have r30 := R.k_num (F := F22) kt_SO
    have r31 := R.k_num (F := F22) kt_MORE
    refine ⟨(by show 3 ≤ sizeLine; decide), fun p32 hp33 => ?_⟩
    obtain ⟨F34, O35, S36, h37⟩ := O23.putE hp33 (.tup [V.str ("plus" : Str), V.ref c_SO, V.ref c_MORE])
    have h8 := h8.mono S36
    have h7 := S36 _ _ h7
    have h26 := h26.mono S36
    have h25 := S36 _ _ h25
    have r30 := r30.mono S36
    have r31 := r31.mono S36
    have h38 : R (a := (T3 Str Sm Sm)) F34 (.ref p32) (T3.mk ("plus" : Str) (Sm.num ("so" : Str) (0 : Int)) (Sm.num ("more" : Str) (0 : Int))) := R.t3 h37 R.str r30 r31
    refine ⟨(by show 1 ≤ sizeLine; decide), fun p39 hp40 => ?_⟩
    have z47 := O35.was hp40
    have hne48 : p2 ≠ p39 := addr_ne (O35.s _ _ h7) hp40
    have hne49 : p20 ≠ p39 := addr_ne (O35.s _ _ h25) hp40
    have hl46 : RL (a := Sm) F34 ([V.ref p32]) ([(Sm.two ("plus" : Str) (Sm.num ("so" : Str) (0 : Int)) (Sm.num ("more" : Str) (0 : Int)))]) := RL.cons (R.of_two h38) RL.nil
    obtain ⟨F41, O42, S43, h44⟩ := O35.putE hp40 (.lst ([V.ref p32]))
    have h8 := h8.mono S43
    have h7 := S43 _ _ h7
    have h26 := h26.mono S43
    have h25 := S43 _ _ h25
    have hl46 := hl46.mono S43
    have h45 := R.lst (a := Sm) h44 hl46
    have r50 := R.k_num (F := F41) kt_SO
    refine ⟨(by show 4 ≤ sizeLine; decide), fun p51 hp52 => ?_⟩
    obtain ⟨F53, O54, S55, h56⟩ := O42.putE hp52 (.tup [V.ref p2, V.ref p20, V.ref p39, V.ref c_SO])
    have h8 := h8.mono S55
    have h7 := S55 _ _ h7
    have h26 := h26.mono S55
    have h25 := S55 _ _ h25
    have h45 := h45.mono S55
    have h44 := S55 _ _ h44
    have r50 := r50.mono S55
    have h57 : R (a := (T4 (List Sm) (List Sm) (List Sm) Sm)) F53 (.ref p51) (T4.mk ([(Sm.nam ("own" : Str))]) ([(Sm.two ("most" : Str) (Sm.num ("number" : Str) (0 : Int)) (Sm.num ("more" : Str) (0 : Int)))]) ([(Sm.two ("plus" : Str) (Sm.num ("so" : Str) (0 : Int)) (Sm.num ("more" : Str) (0 : Int)))]) (Sm.num ("so" : Str) (0 : Int))) := R.t4 h56 h8 h26 h45 r50
    exact hk _ _  O54.g  _ h57 (⟨_, _, _, _, _, _, _, _, rfl, h56, h7, h25, h44, z10, z28, z47, hne29, hne48, hne49⟩)
abbrev s_pieces_rule : Stmt := top 25
theorem sc_pieces_rule : FnScope [] [] (defScope s_pieces_rule) := ⟨rfl, rfl, rfl, by decide +kernel, rfl, by decide +kernel, by decide +kernel⟩
def m_pieces_rule  : M ((T4 (List Sm) (List Sm) (List Sm) Sm)) :=
.ok (T4.mk ([(Sm.num ("number" : Str) (1 : Int))]) ([(Sm.two ("plus" : Str) (Sm.num ("more" : Str) (0 : Int)) (Sm.num ("number" : Str) (1 : Int)))]) ([(Sm.two ("times" : Str) (Sm.num ("so" : Str) (0 : Int)) (Sm.num ("more" : Str) (0 : Int)))]) (Sm.num ("so" : Str) (0 : Int)))
def sp_pieces_rule (mg : Str → Option Value) : Sp := fun vs H Q E => ∃ (F : Hp), vs = [] ∧ Pre F [] H ∧
  wp (m_pieces_rule ) (fun r => ∀ (F' H' : Hp), Gr [] F H F' H' → ∀ v : V, R (a := (T4 (List Sm) (List Sm) (List Sm) Sm)) F' v r → FR H F' v → Q v H')
  (fun n => ∀ (C : Addr) (H' : Hp), mg (Str.ofString n) = some (.ref C) → Kp [] H H' → E (.ref C) none H')
set_option maxHeartbeats 20000000 in
theorem ok_pieces_rule (nb : Nb mg) (D : Df K mg "pieces_rule" "pieces_rule" s_pieces_rule []) : Ca P w K mg base "pieces_rule" 1 [] (sp_pieces_rule mg) := by
  obtain ⟨c_MORE, g_MORE, kt_MORE⟩ := nb.t_MORE
  obtain ⟨c_ONE, g_ONE, kt_ONE⟩ := nb.t_ONE
  obtain ⟨c_SO, g_SO, kt_SO⟩ := nb.t_SO
  refine Ca.mk' D sc_pieces_rule (fun vs H Q E h => ?_) (fun q_ f_ cdv A outer s H vs Q E hr h => ?_)
  · obtain ⟨F, rfl, _⟩ := h
    rfl
  · obtain ⟨F, rfl, P0, hk⟩ := h
    have nd := sc_pieces_rule.nd
    have hu64 := hr.units
    have hu128 := hu128_of hr
    have O := P0.start
    refine ⟨_, (pss_one (ps_ret (pe_tup (pa_cons (pe_lst (pa_cons (C8.pe_gc (v := .ref c_ONE) (by rfl) ⟨_, g_ONE, rfl⟩) pa_nil)) (pa_cons (pe_lst (pa_cons (pe_tup (pa_cons pe_str (pa_cons (C8.pe_gc (v := .ref c_MORE) (by rfl) ⟨_, g_MORE, rfl⟩) (pa_cons (C8.pe_gc (v := .ref c_ONE) (by rfl) ⟨_, g_ONE, rfl⟩) pa_nil)))) pa_nil)) (pa_cons (pe_lst (pa_cons (pe_tup (pa_cons pe_str (pa_cons (C8.pe_gc (v := .ref c_SO) (by rfl) ⟨_, g_SO, rfl⟩) (pa_cons (C8.pe_gc (v := .ref c_MORE) (by rfl) ⟨_, g_MORE, rfl⟩) pa_nil)))) pa_nil)) (pa_cons (C8.pe_gc (v := .ref c_SO) (by rfl) ⟨_, g_SO, rfl⟩) pa_nil))))))), ?_⟩
    have r1 := R.k_num (F := F) kt_ONE
    refine ⟨(by show 1 ≤ sizeLine; decide), fun p2 hp3 => ?_⟩
    have z10 := O.was hp3
    have hl9 : RL (a := Sm) F ([V.ref c_ONE]) ([(Sm.num ("number" : Str) (1 : Int))]) := RL.cons r1 RL.nil
    obtain ⟨F4, O5, S6, h7⟩ := O.putE hp3 (.lst ([V.ref c_ONE]))
    have hl9 := hl9.mono S6
    have h8 := R.lst (a := Sm) h7 hl9
    have r11 := R.k_num (F := F4) kt_MORE
    have r12 := R.k_num (F := F4) kt_ONE
    refine ⟨(by show 3 ≤ sizeLine; decide), fun p13 hp14 => ?_⟩
    obtain ⟨F15, O16, S17, h18⟩ := O5.putE hp14 (.tup [V.str ("plus" : Str), V.ref c_MORE, V.ref c_ONE])
    have h8 := h8.mono S17
    have h7 := S17 _ _ h7
    have r11 := r11.mono S17
    have r12 := r12.mono S17
    have h19 : R (a := (T3 Str Sm Sm)) F15 (.ref p13) (T3.mk ("plus" : Str) (Sm.num ("more" : Str) (0 : Int)) (Sm.num ("number" : Str) (1 : Int))) := R.t3 h18 R.str r11 r12
    refine ⟨(by show 1 ≤ sizeLine; decide), fun p20 hp21 => ?_⟩
    have z28 := O16.was hp21
    have hne29 : p2 ≠ p20 := addr_ne (O16.s _ _ h7) hp21
    have hl27 : RL (a := Sm) F15 ([V.ref p13]) ([(Sm.two ("plus" : Str) (Sm.num ("more" : Str) (0 : Int)) (Sm.num ("number" : Str) (1 : Int)))]) := RL.cons (R.of_two h19) RL.nil
    obtain ⟨F22, O23, S24, h25⟩ := O16.putE hp21 (.lst ([V.ref p13]))
    have h8 := h8.mono S24
    have h7 := S24 _ _ h7
    have hl27 := hl27.mono S24
    have h26 := R.lst (a := Sm) h25 hl27
    have r30 := R.k_num (F := F22) kt_SO
    have r31 := R.k_num (F := F22) kt_MORE
    refine ⟨(by show 3 ≤ sizeLine; decide), fun p32 hp33 => ?_⟩
    obtain ⟨F34, O35, S36, h37⟩ := O23.putE hp33 (.tup [V.str ("times" : Str), V.ref c_SO, V.ref c_MORE])
    have h8 := h8.mono S36
    have h7 := S36 _ _ h7
    have h26 := h26.mono S36
    have h25 := S36 _ _ h25
    have r30 := r30.mono S36
    have r31 := r31.mono S36
    have h38 : R (a := (T3 Str Sm Sm)) F34 (.ref p32) (T3.mk ("times" : Str) (Sm.num ("so" : Str) (0 : Int)) (Sm.num ("more" : Str) (0 : Int))) := R.t3 h37 R.str r30 r31
    refine ⟨(by show 1 ≤ sizeLine; decide), fun p39 hp40 => ?_⟩
    have z47 := O35.was hp40
    have hne48 : p2 ≠ p39 := addr_ne (O35.s _ _ h7) hp40
    have hne49 : p20 ≠ p39 := addr_ne (O35.s _ _ h25) hp40
    have hl46 : RL (a := Sm) F34 ([V.ref p32]) ([(Sm.two ("times" : Str) (Sm.num ("so" : Str) (0 : Int)) (Sm.num ("more" : Str) (0 : Int)))]) := RL.cons (R.of_two h38) RL.nil
    obtain ⟨F41, O42, S43, h44⟩ := O35.putE hp40 (.lst ([V.ref p32]))
    have h8 := h8.mono S43
    have h7 := S43 _ _ h7
    have h26 := h26.mono S43
    have h25 := S43 _ _ h25
    have hl46 := hl46.mono S43
    have h45 := R.lst (a := Sm) h44 hl46
    have r50 := R.k_num (F := F41) kt_SO
    refine ⟨(by show 4 ≤ sizeLine; decide), fun p51 hp52 => ?_⟩
    obtain ⟨F53, O54, S55, h56⟩ := O42.putE hp52 (.tup [V.ref p2, V.ref p20, V.ref p39, V.ref c_SO])
    have h8 := h8.mono S55
    have h7 := S55 _ _ h7
    have h26 := h26.mono S55
    have h25 := S55 _ _ h25
    have h45 := h45.mono S55
    have h44 := S55 _ _ h44
    have r50 := r50.mono S55
    have h57 : R (a := (T4 (List Sm) (List Sm) (List Sm) Sm)) F53 (.ref p51) (T4.mk ([(Sm.num ("number" : Str) (1 : Int))]) ([(Sm.two ("plus" : Str) (Sm.num ("more" : Str) (0 : Int)) (Sm.num ("number" : Str) (1 : Int)))]) ([(Sm.two ("times" : Str) (Sm.num ("so" : Str) (0 : Int)) (Sm.num ("more" : Str) (0 : Int)))]) (Sm.num ("so" : Str) (0 : Int))) := R.t4 h56 h8 h26 h45 r50
    exact hk _ _  O54.g  _ h57 (⟨_, _, _, _, _, _, _, _, rfl, h56, h7, h25, h44, z10, z28, z47, hne29, hne48, hne49⟩)
abbrev s_all_rules : Stmt := top 26
theorem sc_all_rules : FnScope [] [] (defScope s_all_rules) := ⟨rfl, rfl, rfl, by decide +kernel, rfl, by decide +kernel, by decide +kernel⟩
def m_all_rules  : M ((List (Str × (T4 (List Sm) (List Sm) (List Sm) Sm)))) :=
m_farthest_rule  >>= fun r7 =>
m_sum_rule  >>= fun r16 =>
m_apart_rule  >>= fun r25 =>
m_best_rule  >>= fun r34 =>
m_piece_rule  >>= fun r43 =>
m_pieces_rule  >>= fun r52 =>
.ok (mergeDS [(("farthest" : Str), r7), (("sum" : Str), r16), (("apart" : Str), r25), (("best" : Str), r34), (("piece" : Str), r43), (("pieces" : Str), r52)])
def sp_all_rules (mg : Str → Option Value) : Sp := fun vs H Q E => ∃ (F : Hp), vs = [] ∧ Pre F [] H ∧
  wp (m_all_rules ) (fun r => ∀ (F' H' : Hp), Gr [] F H F' H' → ∀ v : V, RDv (κ := Str) (β := (T4 (List Sm) (List Sm) (List Sm) Sm)) F' v r → DFR H F' v → Q v H')
  (fun n => ∀ (C : Addr) (H' : Hp), mg (Str.ofString n) = some (.ref C) → Kp [] H H' → E (.ref C) none H')
set_option maxHeartbeats 20000000 in
theorem ok_all_rules (nb : Nb mg) (C_apart_rule : Ca P w K mg base "apart_rule" 1 [] (sp_apart_rule mg)) (C_best_rule : Ca P w K mg base "best_rule" 1 [] (sp_best_rule mg)) (C_farthest_rule : Ca P w K mg base "farthest_rule" 1 [] (sp_farthest_rule mg)) (C_piece_rule : Ca P w K mg base "piece_rule" 1 [] (sp_piece_rule mg)) (C_pieces_rule : Ca P w K mg base "pieces_rule" 1 [] (sp_pieces_rule mg)) (C_sum_rule : Ca P w K mg base "sum_rule" 1 [] (sp_sum_rule mg)) (D : Df K mg "all_rules" "all_rules" s_all_rules []) : Ca P w K mg base "all_rules" 2 [] (sp_all_rules mg) := by
  obtain ⟨fa_apart_rule, fd_apart_rule, G_apart_rule, M_apart_rule, K_apart_rule, B_apart_rule⟩ := C_apart_rule.ex
  obtain ⟨fa_best_rule, fd_best_rule, G_best_rule, M_best_rule, K_best_rule, B_best_rule⟩ := C_best_rule.ex
  obtain ⟨fa_farthest_rule, fd_farthest_rule, G_farthest_rule, M_farthest_rule, K_farthest_rule, B_farthest_rule⟩ := C_farthest_rule.ex
  obtain ⟨fa_piece_rule, fd_piece_rule, G_piece_rule, M_piece_rule, K_piece_rule, B_piece_rule⟩ := C_piece_rule.ex
  obtain ⟨fa_pieces_rule, fd_pieces_rule, G_pieces_rule, M_pieces_rule, K_pieces_rule, B_pieces_rule⟩ := C_pieces_rule.ex
  obtain ⟨fa_sum_rule, fd_sum_rule, G_sum_rule, M_sum_rule, K_sum_rule, B_sum_rule⟩ := C_sum_rule.ex
  refine Ca.mk' D sc_all_rules (fun vs H Q E h => ?_) (fun q_ f_ cdv A outer s H vs Q E hr h => ?_)
  · obtain ⟨F, rfl, _⟩ := h
    rfl
  · obtain ⟨F, rfl, P0, hk⟩ := h
    have nd := sc_all_rules.nd
    have hu64 := hr.units
    have hu128 := hu128_of hr
    have O := P0.start
    refine ⟨_, (pss_one (ps_ret (pe_disp (pps_cons pe_str (pe_call0 G_farthest_rule (hr.mono (by decide)) rfl M_farthest_rule K_farthest_rule B_farthest_rule .nil (passes_call (takes_of rfl rfl rfl rfl) fun _ _ _ _ h => h)) (pps_cons pe_str (pe_call0 G_sum_rule (hr.mono (by decide)) rfl M_sum_rule K_sum_rule B_sum_rule .nil (passes_call (takes_of rfl rfl rfl rfl) fun _ _ _ _ h => h)) (pps_cons pe_str (pe_call0 G_apart_rule (hr.mono (by decide)) rfl M_apart_rule K_apart_rule B_apart_rule .nil (passes_call (takes_of rfl rfl rfl rfl) fun _ _ _ _ h => h)) (pps_cons pe_str (pe_call0 G_best_rule (hr.mono (by decide)) rfl M_best_rule K_best_rule B_best_rule .nil (passes_call (takes_of rfl rfl rfl rfl) fun _ _ _ _ h => h)) (pps_cons pe_str (pe_call0 G_piece_rule (hr.mono (by decide)) rfl M_piece_rule K_piece_rule B_piece_rule .nil (passes_call (takes_of rfl rfl rfl rfl) fun _ _ _ _ h => h)) (pps_cons pe_str (pe_call0 G_pieces_rule (hr.mono (by decide)) rfl M_pieces_rule K_pieces_rule B_pieces_rule .nil (passes_call (takes_of rfl rfl rfl rfl) fun _ _ _ _ h => h)) pps_nil)))))) rfl rfl (fun h => nomatch h) (by show 6 ≤ 15; decide)))), ?_⟩
    refine fun p2 hp3 => ?_
    have z6 := O.was hp3
    have O4 := O.new (o := .dK []) hp3
    refine ⟨_, rfl, O4.pre0, wp_call hk (fun r7 er8 hk F9 H10 g11 v12 r13 fr14 => ?_) (fun n hn C H1 hC kp => hn C H1 hC (O4.kp0 kp))⟩
    have O15 := O4.call0 g11
    have S_ := g11.f
    refine ⟨_, rfl, O15.pre0, wp_call hk (fun r16 er17 hk F18 H19 g20 v21 r22 fr23 => ?_) (fun n hn C H1 hC kp => hn C H1 hC (O15.kp0 kp))⟩
    have O24 := O15.call0 g20
    have S_ := g20.f
    have fr14 := fr14.mono S_
    have r13 := r13.mono S_
    refine ⟨_, rfl, O24.pre0, wp_call hk (fun r25 er26 hk F27 H28 g29 v30 r31 fr32 => ?_) (fun n hn C H1 hC kp => hn C H1 hC (O24.kp0 kp))⟩
    have O33 := O24.call0 g29
    have S_ := g29.f
    have fr14 := fr14.mono S_
    have r13 := r13.mono S_
    have fr23 := fr23.mono S_
    have r22 := r22.mono S_
    refine ⟨_, rfl, O33.pre0, wp_call hk (fun r34 er35 hk F36 H37 g38 v39 r40 fr41 => ?_) (fun n hn C H1 hC kp => hn C H1 hC (O33.kp0 kp))⟩
    have O42 := O33.call0 g38
    have S_ := g38.f
    have fr14 := fr14.mono S_
    have r13 := r13.mono S_
    have fr23 := fr23.mono S_
    have r22 := r22.mono S_
    have fr32 := fr32.mono S_
    have r31 := r31.mono S_
    refine ⟨_, rfl, O42.pre0, wp_call hk (fun r43 er44 hk F45 H46 g47 v48 r49 fr50 => ?_) (fun n hn C H1 hC kp => hn C H1 hC (O42.kp0 kp))⟩
    have O51 := O42.call0 g47
    have S_ := g47.f
    have fr14 := fr14.mono S_
    have r13 := r13.mono S_
    have fr23 := fr23.mono S_
    have r22 := r22.mono S_
    have fr32 := fr32.mono S_
    have r31 := r31.mono S_
    have fr41 := fr41.mono S_
    have r40 := r40.mono S_
    refine ⟨_, rfl, O51.pre0, wp_call hk (fun r52 er53 hk F54 H55 g56 v57 r58 fr59 => ?_) (fun n hn C H1 hC kp => hn C H1 hC (O51.kp0 kp))⟩
    have O60 := O51.call0 g56
    have S_ := g56.f
    have fr14 := fr14.mono S_
    have r13 := r13.mono S_
    have fr23 := fr23.mono S_
    have r22 := r22.mono S_
    have fr32 := fr32.mono S_
    have r31 := r31.mono S_
    have fr41 := fr41.mono S_
    have r40 := r40.mono S_
    have fr50 := fr50.mono S_
    have r49 := r49.mono S_
    refine ⟨(O60.at 0 rfl), [(DK.kk ("farthest" : Str), v12), (DK.kk ("sum" : Str), v21), (DK.kk ("apart" : Str), v30), (DK.kk ("best" : Str), v39), (DK.kk ("piece" : Str), v48), (DK.kk ("pieces" : Str), v57)], rfl, (by show 6 ≤ 15; decide), ?_⟩
    have O61 := O60.set 0 (.dK (mergeK [] [(DK.kk ("farthest" : Str), v12), (DK.kk ("sum" : Str), v21), (DK.kk ("apart" : Str), v30), (DK.kk ("best" : Str), v39), (DK.kk ("piece" : Str), v48), (DK.kk ("pieces" : Str), v57)])) rfl
    have hl62 : RD (κ := Str) (β := (T4 (List Sm) (List Sm) (List Sm) Sm)) F54 (mergeK [] [(DK.kk ("farthest" : Str), v12), (DK.kk ("sum" : Str), v21), (DK.kk ("apart" : Str), v30), (DK.kk ("best" : Str), v39), (DK.kk ("piece" : Str), v48), (DK.kk ("pieces" : Str), v57)]) (mergeDS [(("farthest" : Str), r7), (("sum" : Str), r16), (("apart" : Str), r25), (("best" : Str), r34), (("piece" : Str), r43), (("pieces" : Str), r52)]) := merge_rdS (.cons (k := ("farthest" : Str)) r13 (.cons (k := ("sum" : Str)) r22 (.cons (k := ("apart" : Str)) r31 (.cons (k := ("best" : Str)) r40 (.cons (k := ("piece" : Str)) r49 (.cons (k := ("pieces" : Str)) r58 .nil)))))) .nil
    obtain ⟨F63, O64, S65, h66⟩ := O61.frzE 0 rfl z6
    have fr14 := fr14.mono S65
    have fr23 := fr23.mono S65
    have fr32 := fr32.mono S65
    have fr41 := fr41.mono S65
    have fr50 := fr50.mono S65
    have fr59 := fr59.mono S65
    have hl62 := hl62.mono S65
    have h67 := RDv.mk (κ := Str) (β := (T4 (List Sm) (List Sm) (List Sm) Sm)) (.inl h66) hl62
    exact hk _ _  O64.g  _ h67 (⟨_, _, rfl, h66, fr_merge (fr_all (fr14.back fun _ h_ => O4.was h_) (fr_all (fr23.back fun _ h_ => O15.was h_) (fr_all (fr32.back fun _ h_ => O24.was h_) (fr_all (fr41.back fun _ h_ => O33.was h_) (fr_all (fr50.back fun _ h_ => O42.was h_) (fr_all (fr59.back fun _ h_ => O51.was h_) (fun _ h_ => nomatch h_)))))))⟩)
abbrev s_rule_named : Stmt := top 27
theorem sc_rule_named : FnScope ["name", "found"] ["name"] (defScope s_rule_named) := ⟨rfl, rfl, rfl, by decide +kernel, rfl, by decide +kernel, by decide +kernel⟩
def m_rule_named (x_name : Str) : M ((T4 (List Sm) (List Sm) (List Sm) Sm)) :=
m_all_rules  >>= fun r1 =>
if dHas r1 x_name = true then (
opt (dGet r1 x_name) >>= fun y19 =>
.ok y19)
else (
raise "NoName")
def sp_rule_named (mg : Str → Option Value) : Sp := fun vs H Q E => ∃ (F : Hp) (x_name : Str), vs = [V.str x_name] ∧ Pre F [] H ∧
  wp (m_rule_named x_name) (fun r => ∀ (F' H' : Hp), Gr [] F H F' H' → ∀ v : V, R (a := (T4 (List Sm) (List Sm) (List Sm) Sm)) F' v r → FR H F' v → Q v H')
  (fun n => ∀ (C : Addr) (H' : Hp), mg (Str.ofString n) = some (.ref C) → Kp [] H H' → E (.ref C) none H')
set_option maxHeartbeats 20000000 in
theorem ok_rule_named (nb : Nb mg) (C_all_rules : Ca P w K mg base "all_rules" 2 [] (sp_all_rules mg)) (E_NoName : ∃ C, Xc K mg "NoName" C) (D : Df K mg "rule_named" "rule_named" s_rule_named ["name"]) : Ca P w K mg base "rule_named" 3 ["name"] (sp_rule_named mg) := by
  obtain ⟨fa_all_rules, fd_all_rules, G_all_rules, M_all_rules, K_all_rules, B_all_rules⟩ := C_all_rules.ex
  obtain ⟨XC_NoName, X_NoName⟩ := E_NoName
  refine Ca.mk' D sc_rule_named (fun vs H Q E h => ?_) (fun q_ f_ cdv A outer s H vs Q E hr h => ?_)
  · obtain ⟨F, _, rfl, _⟩ := h
    rfl
  · obtain ⟨F, x_name, rfl, P0, hk⟩ := h
    have nd := sc_rule_named.nd
    have hu64 := hr.units
    have hu128 := hu128_of hr
    have O := P0.start
    refine ⟨_, (pss_cons (ps_toN (ps_set (i := 1) nd rfl (Or.inl rfl) (pe_call0 G_all_rules (hr.mono (by decide)) rfl M_all_rules K_all_rules B_all_rules .nil (passes_call (takes_of rfl rfl rfl rfl) fun _ _ _ _ h => h))))
  (pss_cons (ps_if (pt_cmp (pc_dnotin (u1_of hu64) (pv 0) (pv 1))) (pss_one (ps_raise rfl (takes_of rfl rfl rfl rfl) (pmk_own PySem.F.excBase_ValueError X_NoName.x X_NoName.g X_NoName.k (raises_own X_NoName.b X_NoName.t) rfl))) pss_nil)
  (pss_one (ps_ret (pe_dget (u1_of hu64) (pv 1) (pv 0) (fun _ _ => rfl)))))), ?_⟩
    refine ⟨_, rfl, O.pre0, wp_call hk (fun r1 er2 hk F3 H4 g5 v6 r7 fr8 => ?_) (fun n hn C H1 hC kp => hn C H1 hC (O.kp0 kp))⟩
    have O9 := O.call0 g5
    obtain ⟨p10, w11, e12, h13, hl14⟩ := r7
    cases e12
    have h13 : Rd F3 _ (.dK w11) := h13
    obtain ⟨o15, hg16, ho17⟩ := din_S (rd_mono O9.s h13) hl14
    refine ⟨[some (V.str x_name), some (V.ref p10)], rfl, _, rfl, _, rfl, _, _, rfl, hg16, ?_⟩
    rw [ho17]
    refine ⟨_, rfl, ?_⟩
    refine iteBN (fun q18 => ?_) (fun q18 => ?_)
    · have hk := wp_if hk q18
      obtain ⟨y19, e20, hk⟩ := wp_opt hk
      obtain ⟨w21, e22, r23⟩ := RD.some hl14 (k := x_name) e20
      refine ⟨_, rfl, _, rfl, _, _, rfl, (dget_S (rd_mono O9.s h13) e22), ?_⟩
      exact hk _ _  O9.g  _ r23 (DFR.got fr8 h13 e22)
    · have hk := wp_el hk q18
      exact hk _ _ X_NoName.g O9.kp
abbrev s_rule_names : Stmt := top 28
theorem sc_rule_names : FnScope [] [] (defScope s_rule_names) := ⟨rfl, rfl, rfl, by decide +kernel, rfl, by decide +kernel, by decide +kernel⟩
def m_rule_names  : M ((List Str)) :=
m_all_rules  >>= fun r2 =>
.ok (sortT (List.map (fun (kv : Str × (T4 (List Sm) (List Sm) (List Sm) Sm)) => kv.1) r2))
def sp_rule_names (mg : Str → Option Value) : Sp := fun vs H Q E => ∃ (F : Hp), vs = [] ∧ Pre F [] H ∧
  wp (m_rule_names ) (fun r => ∀ (F' H' : Hp), Gr [] F H F' H' → ∀ (p : Addr) (w : (List V)), H p = none → F' p = none → H' p = some (.lst w) → RL (a := Str) F' w r → Q (.ref p) H')
  (fun n => ∀ (C : Addr) (H' : Hp), mg (Str.ofString n) = some (.ref C) → Kp [] H H' → E (.ref C) none H')
set_option maxHeartbeats 20000000 in
theorem ok_rule_names (nb : Nb mg) (C_all_rules : Ca P w K mg base "all_rules" 2 [] (sp_all_rules mg)) (D : Df K mg "rule_names" "rule_names" s_rule_names []) : Ca P w K mg base "rule_names" 3 [] (sp_rule_names mg) := by
  obtain ⟨fa_all_rules, fd_all_rules, G_all_rules, M_all_rules, K_all_rules, B_all_rules⟩ := C_all_rules.ex
  refine Ca.mk' D sc_rule_names (fun vs H Q E h => ?_) (fun q_ f_ cdv A outer s H vs Q E hr h => ?_)
  · obtain ⟨F, rfl, _⟩ := h
    rfl
  · obtain ⟨F, rfl, P0, hk⟩ := h
    have nd := sc_rule_names.nd
    have hu64 := hr.units
    have hu128 := hu128_of hr
    have O := P0.start
    refine ⟨_, (pss_one (ps_ret (pe_callB (cr_sortedT Str hu128) (by rfl) nb.b_sorted (by decide +kernel) (pa_cons (pe_callTy (call_listD rfl) (by rfl) nb.b_list (by decide +kernel) (pa_cons (pe_call0 G_all_rules (hr.mono (by decide)) rfl M_all_rules K_all_rules B_all_rules .nil (passes_call (takes_of rfl rfl rfl rfl) fun _ _ _ _ h => h)) pa_nil)) pa_nil)))), ?_⟩
    refine ⟨_, rfl, O.pre0, wp_call hk (fun r2 er3 hk F4 H5 g6 v7 r8 fr9 => ?_) (fun n hn C H1 hC kp => hn C H1 hC (O.kp0 kp))⟩
    have O10 := O.call0 g6
    obtain ⟨p11, w12, e13, h14, hl15⟩ := r8
    cases e13
    have h14 : Rd F4 _ (.dK w12) := h14
    refine ⟨_, _, rfl, (rd_mono O10.s h14), fun p16 hp17 => ?_⟩
    have hl23 : RL (a := Str) F4 (List.map (fun (kv : Key × V) => kV kv.1) w12) (List.map (fun (kv : Str × (T4 (List Sm) (List Sm) (List Sm) Sm)) => kv.1) r2) := (RL.keysD (fun _ => R.str) hl15)
    obtain ⟨F18, O19, S20, h21⟩ := O10.putE hp17 (.lst (List.map (fun (kv : Key × V) => kV kv.1) w12))
    have hl23 := hl23.mono S20
    have h22 := R.lst (a := Str) h21 hl23
    obtain ⟨p24, w25, e26, h27, hl28⟩ := R.lst_ h22
    cases e26
    refine ⟨_, _, _, rfl, (O19.s _ _ h27), (RL.mono hl28 O19.s), fun p29 hp30 => ?_⟩
    have hl32 : RL (a := Str) F18 (sortV w25 (List.map (fun (kv : Str × (T4 (List Sm) (List Sm) (List Sm) Sm)) => kv.1) r2)) (sortT (List.map (fun (kv : Str × (T4 (List Sm) (List Sm) (List Sm) Sm)) => kv.1) r2)) := (RL.sorted hl28)
    have z33 := O19.was hp30
    have O31 := O19.new (o := .lst (sortV w25 (List.map (fun (kv : Str × (T4 (List Sm) (List Sm) (List Sm) Sm)) => kv.1) r2))) hp30
    exact hk _ _  O31.g  _ _ z33 (O31.cf _ (List.mem_of_getElem? (i := 0) rfl)) (O31.at 0 rfl) hl32
abbrev s_may_stand : Stmt := top 31
theorem sc_may_stand : FnScope ["told", "leaves", "many"] ["told", "leaves", "many"] (defScope s_may_stand) := ⟨rfl, rfl, rfl, by decide +kernel, rfl, by decide +kernel, by decide +kernel⟩
def m_may_stand : Nat → Sm → (Tp Str) → Int → M (Bool)
  | 0, _, _, _ => bad
  | k_ + 1, x_told, x_leaves, x_many =>
    if (Sm.word x_told) = ("number" : Str) then (
    .ok true)
    else (
    if (Sm.word x_told) ∈ ([(("own" : Str), ("tie" : Str)).1, (("own" : Str), ("tie" : Str)).2]) then (
    .ok (decide ((Sm.word x_told) ∈ (Tp.l x_leaves))))
    else (
    if (Sm.word x_told) ∈ ([(("so" : Str), ("more" : Str)).1, (("so" : Str), ("more" : Str)).2]) then (
    if (Sm.word x_told) ∈ (Tp.l x_leaves) then (
    opt (Sm.int? x_told) >>= fun y63 =>
    if (0 : Int) ≤ y63 then (
    .ok (decide (y63 < x_many)))
    else (
    .ok false))
    else (
    .ok false))
    else (
    opt (Sm.two? x_told) >>= fun y70 =>
    m_may_stand k_ y70.1 x_leaves x_many >>= fun r80 =>
    if r80 = true then (
    opt (Sm.two? x_told) >>= fun y87 =>
    m_may_stand k_ y87.2 x_leaves x_many >>= fun r97 =>
    .ok r97)
    else (
    .ok false))))
def sp_may_stand (k_ : Nat) (mg : Str → Option Value) : Sp := fun vs H Q E => ∃ (F : Hp) (v_told : V) (x_told : Sm) (v_leaves : V) (x_leaves : (Tp Str)) (x_many : Int), vs = [v_told, v_leaves, V.int x_many] ∧ Pre F [] H ∧ R (a := Sm) F v_told x_told ∧ R (a := (Tp Str)) F v_leaves x_leaves ∧
  wp (m_may_stand k_ x_told x_leaves x_many) (fun r => ∀ (F' H' : Hp), Gr [] F H F' H' → Q (V.bl r) H')
  (fun n => ∀ (C : Addr) (H' : Hp), mg (Str.ofString n) = some (.ref C) → Kp [] H H' → E (.ref C) none H')
set_option maxHeartbeats 20000000 in
theorem ok_may_stand (nb : Nb mg) (D : Df K mg "may_stand" "may_stand" s_may_stand ["told", "leaves", "many"]) : ∀ k_ : Nat, Ca P w K mg base "may_stand" (k_ + 1) ["told", "leaves", "many"] (sp_may_stand k_ mg) := by
  intro k_
  induction k_ with
  | zero =>
    refine Ca.mk' D sc_may_stand (fun vs H Q E h => ?_) (fun q_ f_ cdv A outer s H vs Q E hr h => ?_)
    · obtain ⟨F, _, _, _, _, _, rfl, _⟩ := h
      rfl
    · obtain ⟨F, _, _, _, _, _, rfl, _, _, _, hk⟩ := h
      exact hk.elim
  | succ k_ ih_ =>
    have C_may_stand := ih_
    obtain ⟨fa_may_stand, fd_may_stand, G_may_stand, M_may_stand, K_may_stand, B_may_stand⟩ := C_may_stand.ex
    refine Ca.mk' D sc_may_stand (fun vs H Q E h => ?_) (fun q_ f_ cdv A outer s H vs Q E hr h => ?_)
    · obtain ⟨F, _, _, _, _, _, rfl, _⟩ := h
      rfl
    · obtain ⟨F, v_told, x_told, v_leaves, x_leaves, x_many, rfl, P0, f_told, f_leaves, hk⟩ := h
      have nd := sc_may_stand.nd
      have hu64 := hr.units
      have hu128 := hu128_of hr
      have O := P0.start
      refine ⟨_, (pss_cons (ps_if (pt_cmpR (op_eqT Str hu64) (pe_ix (ixTupK (K := K) rfl) (pv 0) pe_int (fun _ _ => rfl)) pe_str (nomark _)) (pss_one (ps_ret pe_bl)) pss_nil)
  (pss_cons (ps_if (pt_cmpR (op_inT Str hu64) (pe_ix (ixTupK (K := K) rfl) (pv 0) pe_int (fun _ _ => rfl)) (pe_tup (pa_cons pe_str (pa_cons pe_str pa_nil))) rfl) (pss_one (ps_ret (pe_cmpR (op_inT Str hu64) (pe_ix (ixTupK (K := K) rfl) (pv 0) pe_int (fun _ _ => rfl)) (pv 1) rfl))) pss_nil)
  (pss_cons (ps_if (pt_cmpR (op_inT Str hu64) (pe_ix (ixTupK (K := K) rfl) (pv 0) pe_int (fun _ _ => rfl)) (pe_tup (pa_cons pe_str (pa_cons pe_str pa_nil))) rfl) (pss_one (ps_ret (pe_and (pe_cmpR (op_inT Str hu64) (pe_ix (ixTupK (K := K) rfl) (pv 0) pe_int (fun _ _ => rfl)) (pv 1) rfl) (pe_one (pe_chain op_le op_lt pe_int (pe_ix (ixTupK (K := K) rfl) (pv 0) pe_int (fun _ _ => rfl)) (pv 2)))))) pss_nil)
  (pss_one (ps_ret (pe_and (pe_call G_may_stand (hr.mono (by omega)) rfl M_may_stand K_may_stand B_may_stand .nil (passes_call (takes_of rfl rfl rfl rfl) fun _ _ _ _ h => h) (pa_cons (pe_ix (ixTupK (K := K) rfl) (pv 0) pe_int (fun _ _ => rfl)) (pa_cons (pv 1) (pa_cons (pv 2) pa_nil)))) (pe_one (pe_call G_may_stand (hr.mono (by omega)) rfl M_may_stand K_may_stand B_may_stand .nil (passes_call (takes_of rfl rfl rfl rfl) fun _ _ _ _ h => h) (pa_cons (pe_ix (ixTupK (K := K) rfl) (pv 0) pe_int (fun _ _ => rfl)) (pa_cons (pv 1) (pa_cons (pv 2) pa_nil))))))))))), ?_⟩
      obtain ⟨p1, w2, e3, h4⟩ := R.sm_ f_told
      cases e3
      refine ⟨_, rfl, _, _, _, _, rfl, rfl, (SqTK O.s h4), (atI0 _ _), _, _, R.str, R.str, _, rfl, ?_⟩
      refine iteD (fun q5 => ?_) (fun q5 => ?_)
      · have hk := wp_if hk q5
        exact hk _ _  O.g 
      · have hk := wp_el hk q5
        obtain ⟨p6, w7, e8, h9⟩ := R.sm_ f_told
        cases e8
        refine ⟨_, rfl, _, _, _, _, rfl, rfl, (SqTK O.s h9), (atI0 _ _), (by show 2 ≤ sizeLine; decide), fun p10 hp11 => ?_⟩
        obtain ⟨F12, O13, S14, h15⟩ := O.putE hp11 (.tup [V.str ("own" : Str), V.str ("tie" : Str)])
        have f_told := f_told.mono S14
        have f_leaves := f_leaves.mono S14
        have h16 : R (a := (Str × Str)) F12 (.ref p10) (("own" : Str), ("tie" : Str)) := R.t2 h15 R.str R.str
        obtain ⟨p17, v20, v21, e18, h19, r22, r23⟩ := R.t2T_ h16
        cases e18
        obtain rfl := R.str_ r22
        obtain rfl := R.str_ r23
        refine ⟨_, _, _, _, R.str, rfl, (.inr (h19.mono O13.s)), (RL.mono (RL.cons R.str (RL.cons R.str RL.nil)) O13.s), _, rfl, ?_⟩
        refine iteD (fun q24 => ?_) (fun q24 => ?_)
        · have hk := wp_if hk q24
          obtain ⟨p25, w26, e27, h28⟩ := R.sm_ f_told
          cases e27
          obtain ⟨p29, w30, e31, h32, hl33⟩ := R.tp_ f_leaves
          cases e31
          refine ⟨_, rfl, _, _, _, _, rfl, rfl, (SqTK O13.s h28), (atI0 _ _), _, rfl, _, _, _, _, R.str, rfl, (.inr (h32.mono O13.s)), (RL.mono (hl33) O13.s), ?_⟩
          rw [if_neg Bool.false_ne_true]
          rw [to_dec (p := (Sm.word x_told) ∈ (Tp.l x_leaves)) _ inferInstance]
          exact hk _ _  O13.g 
        · have hk := wp_el hk q24
          obtain ⟨p34, w35, e36, h37⟩ := R.sm_ f_told
          cases e36
          refine ⟨_, rfl, _, _, _, _, rfl, rfl, (SqTK O13.s h37), (atI0 _ _), (by show 2 ≤ sizeLine; decide), fun p38 hp39 => ?_⟩
          obtain ⟨F40, O41, S42, h43⟩ := O13.putE hp39 (.tup [V.str ("so" : Str), V.str ("more" : Str)])
          have f_told := f_told.mono S42
          have f_leaves := f_leaves.mono S42
          have h44 : R (a := (Str × Str)) F40 (.ref p38) (("so" : Str), ("more" : Str)) := R.t2 h43 R.str R.str
          obtain ⟨p45, v48, v49, e46, h47, r50, r51⟩ := R.t2T_ h44
          cases e46
          obtain rfl := R.str_ r50
          obtain rfl := R.str_ r51
          refine ⟨_, _, _, _, R.str, rfl, (.inr (h47.mono O41.s)), (RL.mono (RL.cons R.str (RL.cons R.str RL.nil)) O41.s), _, rfl, ?_⟩
          refine iteD (fun q52 => ?_) (fun q52 => ?_)
          · have hk := wp_if hk q52
            obtain ⟨p53, w54, e55, h56⟩ := R.sm_ f_told
            cases e55
            obtain ⟨p57, w58, e59, h60, hl61⟩ := R.tp_ f_leaves
            cases e59
            refine ⟨_, rfl, _, _, _, _, rfl, rfl, (SqTK O41.s h56), (atI0 _ _), _, rfl, _, _, _, _, R.str, rfl, (.inr (h60.mono O41.s)), (RL.mono (hl61) O41.s), ?_⟩
            rw [if_neg Bool.false_ne_true]
            rw [to_dec (p := (Sm.word x_told) ∈ (Tp.l x_leaves)) _ inferInstance]
            refine ⟨_, rfl, ?_⟩
            refine iteD (fun q62 => ?_) (fun q62 => ?_)
            · have hk := wp_if hk q62
              obtain ⟨y63, e64, hk⟩ := wp_opt hk
              obtain ⟨p65, w66, e67, h68⟩ := R.sm_int f_told e64
              cases e67
              refine ⟨_, rfl, _, _, _, _, rfl, rfl, (SqTK O41.s h68), rfl, _, _, rfl, rfl, _, rfl, ?_⟩
              refine iteD (fun q69 => ?_) (fun q69 => ?_)
              · have hk := wp_if hk q69
                refine ⟨_, rfl, _, _, rfl, rfl, ?_⟩
                exact hk _ _  O41.g 
              · have hk := wp_el hk q69
                exact hk _ _  O41.g 
            · have hk := wp_el hk q62
              exact hk _ _  O41.g 
          · have hk := wp_el hk q52
            obtain ⟨y70, e71, hk⟩ := wp_opt hk
            obtain ⟨p72, w73, v74, v75, e76, h77, r78, r79⟩ := R.sm_two f_told e71
            cases e76
            refine ⟨_, rfl, _, _, _, _, rfl, rfl, (SqTK O41.s h77), rfl, _, rfl, _, rfl, _, _, _, _, _, _, rfl, O41.pre0, r78, f_leaves, wp_call hk (fun r80 er81 hk F82 H83 g84 => ?_) (fun n hn C H1 hC kp => hn C H1 hC (O41.kp0 kp))⟩
            have O85 := O41.call0 g84
            have S_ := g84.f
            have f_told := f_told.mono S_
            have f_leaves := f_leaves.mono S_
            refine ⟨_, rfl, ?_⟩
            refine iteB (fun q86 => ?_) (fun q86 => ?_)
            · have hk := wp_if hk q86
              obtain ⟨y87, e88, hk⟩ := wp_opt hk
              obtain ⟨p89, w90, v91, v92, e93, h94, r95, r96⟩ := R.sm_two f_told e88
              cases e93
              refine ⟨_, rfl, _, _, _, _, rfl, rfl, (SqTK O85.s h94), rfl, _, rfl, _, rfl, _, _, _, _, _, _, rfl, O85.pre0, r96, f_leaves, wp_call hk (fun r97 er98 hk F99 H100 g101 => ?_) (fun n hn C H1 hC kp => hn C H1 hC (O85.kp0 kp))⟩
              have O102 := O85.call0 g101
              exact hk _ _  O102.g 
            · have hk := wp_el hk q86
              exact hk _ _  O85.g 
abbrev s_is_rule : Stmt := top 32
theorem sc_is_rule : FnScope ["thing", "many", "begin", "over", "join", "told", "sums", "leaves", "one"] ["thing"] (defScope s_is_rule) := ⟨rfl, rfl, rfl, by decide +kernel, rfl, by decide +kernel, by decide +kernel⟩
def m_is_rule (x_thing : (T4 (List Sm) (List Sm) (List Sm) Sm)) : M (Bool) :=
if (1 : Int) ≤ (x_thing.a.length : Int) then (
if (x_thing.a.length : Int) ≤ (3 : Int) then (
if (x_thing.b.length : Int) ≠ (x_thing.a.length : Int) then (
.ok false)
else (
if (x_thing.c.length : Int) ≠ (x_thing.a.length : Int) then (
.ok false)
else (
loopM (fun (y93 : ((List Sm) × (Tp Str))) (st104 : Unit) =>
compS (fun (y123 : Sm) (st140 : Unit) =>
m_may_stand 60 y123 y93.2 (x_thing.a.length : Int) >>= fun r146 =>
if r146 = true then (
.ok (none, ()))
else (
.ok (some y123, ()))) y93.1 () >>= fun q164 =>
if q164.1 ≠ ([] : List Sm) then (
.ok (.rt false))
else (
.ok (.nx ()))) ([(T3.mk (x_thing.a, (Tp.mk [("own" : Str)])) (x_thing.b, (Tp.mk [(T3.mk ("own" : Str) ("tie" : Str) ("more" : Str)).a, (T3.mk ("own" : Str) ("tie" : Str) ("more" : Str)).b, (T3.mk ("own" : Str) ("tie" : Str) ("more" : Str)).c])) (x_thing.c, (Tp.mk [(T3.mk ("own" : Str) ("so" : Str) ("more" : Str)).a, (T3.mk ("own" : Str) ("so" : Str) ("more" : Str)).b, (T3.mk ("own" : Str) ("so" : Str) ("more" : Str)).c]))).a, (T3.mk (x_thing.a, (Tp.mk [("own" : Str)])) (x_thing.b, (Tp.mk [(T3.mk ("own" : Str) ("tie" : Str) ("more" : Str)).a, (T3.mk ("own" : Str) ("tie" : Str) ("more" : Str)).b, (T3.mk ("own" : Str) ("tie" : Str) ("more" : Str)).c])) (x_thing.c, (Tp.mk [(T3.mk ("own" : Str) ("so" : Str) ("more" : Str)).a, (T3.mk ("own" : Str) ("so" : Str) ("more" : Str)).b, (T3.mk ("own" : Str) ("so" : Str) ("more" : Str)).c]))).b, (T3.mk (x_thing.a, (Tp.mk [("own" : Str)])) (x_thing.b, (Tp.mk [(T3.mk ("own" : Str) ("tie" : Str) ("more" : Str)).a, (T3.mk ("own" : Str) ("tie" : Str) ("more" : Str)).b, (T3.mk ("own" : Str) ("tie" : Str) ("more" : Str)).c])) (x_thing.c, (Tp.mk [(T3.mk ("own" : Str) ("so" : Str) ("more" : Str)).a, (T3.mk ("own" : Str) ("so" : Str) ("more" : Str)).b, (T3.mk ("own" : Str) ("so" : Str) ("more" : Str)).c]))).c]) () >>= fun f188 => match f188 with
| .rt z_ => .ok z_
| .nx st182 =>
m_may_stand 60 x_thing.d (Tp.mk [(("own" : Str), ("so" : Str)).1, (("own" : Str), ("so" : Str)).2]) (x_thing.a.length : Int) >>= fun r196 =>
.ok r196)))
else (
.ok false))
else (
.ok false)
def sp_is_rule (mg : Str → Option Value) : Sp := fun vs H Q E => ∃ (F : Hp) (v_thing : V) (x_thing : (T4 (List Sm) (List Sm) (List Sm) Sm)), vs = [v_thing] ∧ Pre F [] H ∧ R (a := (T4 (List Sm) (List Sm) (List Sm) Sm)) F v_thing x_thing ∧
  wp (m_is_rule x_thing) (fun r => ∀ (F' H' : Hp), Gr [] F H F' H' → Q (V.bl r) H')
  (fun n => ∀ (C : Addr) (H' : Hp), mg (Str.ofString n) = some (.ref C) → Kp [] H H' → E (.ref C) none H')
set_option maxHeartbeats 20000000 in
theorem ok_is_rule (nb : Nb mg) (C_may_stand : Ca P w K mg base "may_stand" 61 ["told", "leaves", "many"] (sp_may_stand 60 mg)) (D : Df K mg "is_rule" "is_rule" s_is_rule ["thing"]) : Ca P w K mg base "is_rule" 62 ["thing"] (sp_is_rule mg) := by
  obtain ⟨fa_may_stand, fd_may_stand, G_may_stand, M_may_stand, K_may_stand, B_may_stand⟩ := C_may_stand.ex
  refine Ca.mk' D sc_is_rule (fun vs H Q E h => ?_) (fun q_ f_ cdv A outer s H vs Q E hr h => ?_)
  · obtain ⟨F, _, _, rfl, _⟩ := h
    rfl
  · obtain ⟨F, v_thing, x_thing, rfl, P0, f_thing, hk⟩ := h
    have nd := sc_is_rule.nd
    have hu64 := hr.units
    have hu128 := hu128_of hr
    have O := P0.start
    refine ⟨_, (pss_cons (ps_asg (pv 0) (pg_tup rfl (pgs_cons (pg_name (i := 2) nd rfl (Or.inl rfl)) (pgs_cons (pg_name (i := 3) nd rfl (Or.inl rfl)) (pgs_cons (pg_name (i := 4) nd rfl (Or.inl rfl)) (pgs_cons (pg_name (i := 5) nd rfl (Or.inl rfl)) pgs_nil))))))
  (pss_cons (ps_toN (ps_set (i := 1) nd rfl (Or.inr rfl) (pe_callB call_lenT (by rfl) nb.b_len PySem.boot_len (pa_cons (pv 2) pa_nil))))
  (pss_cons (ps_if (PW.pt (pw_or (pt_not (pt_chain op_le op_le pe_int (pv 1) (C8.pe_gc (by rfl) nb.c_MOST))) (pw_or (pt_cmpR (op_neT Int hu64) (pe_callB call_lenT (by rfl) nb.b_len PySem.boot_len (pa_cons (pv 3) pa_nil)) (pv 1) (nomark _)) (pw_or1 (pt_cmpR (op_neT Int hu64) (pe_callB call_lenT (by rfl) nb.b_len PySem.boot_len (pa_cons (pv 4) pa_nil)) (pv 1) (nomark _)))))) (pss_one (ps_ret pe_bl)) pss_nil)
  (pss_cons (ps_for (passes_of rfl) rfl (piTupK (K := K) rfl (pe_tup (pa_cons (pe_tup (pa_cons (pv 2) (pa_cons (pe_tup (pa_cons pe_str pa_nil)) pa_nil))) (pa_cons (pe_tup (pa_cons (pv 3) (pa_cons (pe_tup (pa_cons pe_str (pa_cons pe_str (pa_cons pe_str pa_nil)))) pa_nil))) (pa_cons (pe_tup (pa_cons (pv 4) (pa_cons (pe_tup (pa_cons pe_str (pa_cons pe_str (pa_cons pe_str pa_nil)))) pa_nil))) pa_nil))))) (pg_tup rfl (pgs_cons (pg_name (i := 6) nd rfl (Or.inl rfl)) (pgs_cons (pg_name (i := 7) nd rfl (Or.inr rfl)) pgs_nil))) (pss_one (ps_if (pt_cmpR (op_neX (List Sm) hu64) (pe_lc (own := [("one", 8)]) (g := gName 8) (tt := _) rfl nd (piListK (K := K) rfl (pv 6)) (blkOk_by (own := [("one", 8)]) (N := ["thing", "many", "begin", "over", "join", "told", "sums", "leaves", "one"]) (sc := defScope s_is_rule) (by decide +kernel)) (fun _ _ _ _ _ => (pg_name (i := 8) nd rfl (Or.inl rfl))) (fun _ _ _ _ _ => (pts_one (pt_not (pt_val (pe_call G_may_stand (hr.mono (by decide)) rfl M_may_stand K_may_stand B_may_stand .nil passL (pa_cons (pv 8) (pa_cons (pv 7) (pa_cons (pv 1) pa_nil)))))))) (fun _ _ _ _ _ => (pv 8))) (pe_lst pa_nil) (nomark _)) (pss_one (ps_ret pe_bl)) pss_nil)))
  (pss_one (ps_ret (pe_call G_may_stand (hr.mono (by decide)) rfl M_may_stand K_may_stand B_may_stand .nil (passes_call (takes_of rfl rfl rfl rfl) fun _ _ _ _ h => h) (pa_cons (pv 5) (pa_cons (pe_tup (pa_cons pe_str (pa_cons pe_str pa_nil))) (pa_cons (pv 1) pa_nil)))))))))), ?_⟩
    obtain ⟨p1, v4, v5, v6, v7, e2, h3, r8, r9, r10, r11⟩ := R.t4_ f_thing
    cases e2
    obtain ⟨p12, w13, e14, h15, hl16⟩ := R.lst_ r8
    cases e14
    refine ⟨_, rfl, _, _, rfl, (SqTF O.s h3), rfl, _, _, rfl, _, _, rfl, _, _, rfl, _, _, rfl, rfl, _, rfl, _, _, _, rfl, (.inl (O.s _ _ h15)), hl16.len, [some (V.ref p1), some (V.int (x_thing.a.length : Int)), some (V.ref p12), some v5, some v6, some v7, none, none, none], rfl, _, rfl, _, _, rfl, rfl, _, rfl, ?_⟩
    refine iteD (fun q17 => ?_) (fun q17 => ?_)
    · have hk := wp_if hk q17
      refine ⟨_, _, rfl, rfl, _, rfl, ?_⟩
      refine iteN (fun q18 => ?_) (fun q18 => ?_)
      · have hk := wp_if hk q18
        obtain ⟨p19, w20, e21, h22, hl23⟩ := R.lst_ r9
        cases e21
        refine ⟨_, rfl, _, _, _, rfl, (.inl (O.s _ _ h22)), hl23.len, _, rfl, _, _, R.int, R.int, _, rfl, ?_⟩
        refine iteD (fun q24 => ?_) (fun q24 => ?_)
        · have hk := wp_if hk q24
          refine iteT ?_
          exact hk _ _  O.g 
        · have hk := wp_el hk q24
          obtain ⟨p25, w26, e27, h28, hl29⟩ := R.lst_ r10
          cases e27
          refine ⟨_, rfl, _, _, _, rfl, (.inl (O.s _ _ h28)), hl29.len, _, rfl, _, _, R.int, R.int, _, rfl, ?_⟩
          refine iteD (fun q30 => ?_) (fun q30 => ?_)
          · have hk := wp_if hk q30
            exact hk _ _  O.g 
          · have hk := wp_el hk q30
            refine ⟨_, rfl, (by show 1 ≤ sizeLine; decide), fun p31 hp32 => ?_⟩
            obtain ⟨F33, O34, S35, h36⟩ := O.putE hp32 (.tup [V.str ("own" : Str)])
            have r8 := r8.mono S35
            have r9 := r9.mono S35
            have r10 := r10.mono S35
            have r11 := r11.mono S35
            have h37 := R.of_nam h36
            refine ⟨(by show 2 ≤ sizeLine; decide), fun p38 hp39 => ?_⟩
            have h45 := (R.tp1 h37)
            obtain ⟨F40, O41, S42, h43⟩ := O34.putE hp39 (.tup [V.ref p12, V.ref p31])
            have r8 := r8.mono S42
            have r9 := r9.mono S42
            have r10 := r10.mono S42
            have r11 := r11.mono S42
            have h45 := h45.mono S42
            have h44 : R (a := ((List Sm) × (Tp Str))) F40 (.ref p38) (x_thing.a, (Tp.mk [("own" : Str)])) := R.t2 h43 r8 h45
            refine ⟨_, rfl, (by show 3 ≤ sizeLine; decide), fun p46 hp47 => ?_⟩
            obtain ⟨F48, O49, S50, h51⟩ := O41.putE hp47 (.tup [V.str ("own" : Str), V.str ("tie" : Str), V.str ("more" : Str)])
            have r9 := r9.mono S50
            have r10 := r10.mono S50
            have r11 := r11.mono S50
            have h44 := h44.mono S50
            have h52 : R (a := (T3 Str Str Str)) F48 (.ref p46) (T3.mk ("own" : Str) ("tie" : Str) ("more" : Str)) := R.t3 h51 R.str R.str R.str
            refine ⟨(by show 2 ≤ sizeLine; decide), fun p53 hp54 => ?_⟩
            have h60 := (R.tp3 h52)
            obtain ⟨F55, O56, S57, h58⟩ := O49.putE hp54 (.tup [V.ref p19, V.ref p46])
            have r9 := r9.mono S57
            have r10 := r10.mono S57
            have r11 := r11.mono S57
            have h44 := h44.mono S57
            have h60 := h60.mono S57
            have h59 : R (a := ((List Sm) × (Tp Str))) F55 (.ref p53) (x_thing.b, (Tp.mk [(T3.mk ("own" : Str) ("tie" : Str) ("more" : Str)).a, (T3.mk ("own" : Str) ("tie" : Str) ("more" : Str)).b, (T3.mk ("own" : Str) ("tie" : Str) ("more" : Str)).c])) := R.t2 h58 r9 h60
            refine ⟨_, rfl, (by show 3 ≤ sizeLine; decide), fun p61 hp62 => ?_⟩
            obtain ⟨F63, O64, S65, h66⟩ := O56.putE hp62 (.tup [V.str ("own" : Str), V.str ("so" : Str), V.str ("more" : Str)])
            have r10 := r10.mono S65
            have r11 := r11.mono S65
            have h44 := h44.mono S65
            have h59 := h59.mono S65
            have h67 : R (a := (T3 Str Str Str)) F63 (.ref p61) (T3.mk ("own" : Str) ("so" : Str) ("more" : Str)) := R.t3 h66 R.str R.str R.str
            refine ⟨(by show 2 ≤ sizeLine; decide), fun p68 hp69 => ?_⟩
            have h75 := (R.tp3 h67)
            obtain ⟨F70, O71, S72, h73⟩ := O64.putE hp69 (.tup [V.ref p25, V.ref p61])
            have r10 := r10.mono S72
            have r11 := r11.mono S72
            have h44 := h44.mono S72
            have h59 := h59.mono S72
            have h75 := h75.mono S72
            have h74 : R (a := ((List Sm) × (Tp Str))) F70 (.ref p68) (x_thing.c, (Tp.mk [(T3.mk ("own" : Str) ("so" : Str) ("more" : Str)).a, (T3.mk ("own" : Str) ("so" : Str) ("more" : Str)).b, (T3.mk ("own" : Str) ("so" : Str) ("more" : Str)).c])) := R.t2 h73 r10 h75
            refine ⟨(by show 3 ≤ sizeLine; decide), fun p76 hp77 => ?_⟩
            obtain ⟨F78, O79, S80, h81⟩ := O71.putE hp77 (.tup [V.ref p38, V.ref p53, V.ref p68])
            have r11 := r11.mono S80
            have h44 := h44.mono S80
            have h59 := h59.mono S80
            have h74 := h74.mono S80
            have h82 : R (a := (T3 ((List Sm) × (Tp Str)) ((List Sm) × (Tp Str)) ((List Sm) × (Tp Str)))) F78 (.ref p76) (T3.mk (x_thing.a, (Tp.mk [("own" : Str)])) (x_thing.b, (Tp.mk [(T3.mk ("own" : Str) ("tie" : Str) ("more" : Str)).a, (T3.mk ("own" : Str) ("tie" : Str) ("more" : Str)).b, (T3.mk ("own" : Str) ("tie" : Str) ("more" : Str)).c])) (x_thing.c, (Tp.mk [(T3.mk ("own" : Str) ("so" : Str) ("more" : Str)).a, (T3.mk ("own" : Str) ("so" : Str) ("more" : Str)).b, (T3.mk ("own" : Str) ("so" : Str) ("more" : Str)).c]))) := R.t3 h81 h44 h59 h74
            obtain ⟨p83, v86, v87, v88, e84, h85, r89, r90, r91⟩ := R.t3_ h82
            cases e84
            have hl92 : RL (a := ((List Sm) × (Tp Str))) F78 [v86, v87, v88] [(T3.mk (x_thing.a, (Tp.mk [("own" : Str)])) (x_thing.b, (Tp.mk [(T3.mk ("own" : Str) ("tie" : Str) ("more" : Str)).a, (T3.mk ("own" : Str) ("tie" : Str) ("more" : Str)).b, (T3.mk ("own" : Str) ("tie" : Str) ("more" : Str)).c])) (x_thing.c, (Tp.mk [(T3.mk ("own" : Str) ("so" : Str) ("more" : Str)).a, (T3.mk ("own" : Str) ("so" : Str) ("more" : Str)).b, (T3.mk ("own" : Str) ("so" : Str) ("more" : Str)).c]))).a, (T3.mk (x_thing.a, (Tp.mk [("own" : Str)])) (x_thing.b, (Tp.mk [(T3.mk ("own" : Str) ("tie" : Str) ("more" : Str)).a, (T3.mk ("own" : Str) ("tie" : Str) ("more" : Str)).b, (T3.mk ("own" : Str) ("tie" : Str) ("more" : Str)).c])) (x_thing.c, (Tp.mk [(T3.mk ("own" : Str) ("so" : Str) ("more" : Str)).a, (T3.mk ("own" : Str) ("so" : Str) ("more" : Str)).b, (T3.mk ("own" : Str) ("so" : Str) ("more" : Str)).c]))).b, (T3.mk (x_thing.a, (Tp.mk [("own" : Str)])) (x_thing.b, (Tp.mk [(T3.mk ("own" : Str) ("tie" : Str) ("more" : Str)).a, (T3.mk ("own" : Str) ("tie" : Str) ("more" : Str)).b, (T3.mk ("own" : Str) ("tie" : Str) ("more" : Str)).c])) (x_thing.c, (Tp.mk [(T3.mk ("own" : Str) ("so" : Str) ("more" : Str)).a, (T3.mk ("own" : Str) ("so" : Str) ("more" : Str)).b, (T3.mk ("own" : Str) ("so" : Str) ("more" : Str)).c]))).c] := RL.cons r89 (RL.cons r90 (RL.cons r91 RL.nil))
            obtain ⟨L94, hL95, hLs96, hLd97⟩ := loopM_L hk
            refine ⟨_, rfl, ⟨_, (SqTF O79.s h85)⟩, ?_⟩
            refine for_tup (K := K) (xs := [v86, v87, v88]) (fun i σ H_ => ∃ (F_ : Hp) (st : Unit) (t_0 : Option V) (t_1 : Option V), σ = [some (V.ref p1), some (V.int (x_thing.a.length : Int)), some (V.ref p12), some (V.ref p19), some (V.ref p25), some v7, t_0, t_1, none] ∧ Same F78 F_ ∧ Ow _ F_ [] H_ ∧ L94 (List.drop i ([(T3.mk (x_thing.a, (Tp.mk [("own" : Str)])) (x_thing.b, (Tp.mk [(T3.mk ("own" : Str) ("tie" : Str) ("more" : Str)).a, (T3.mk ("own" : Str) ("tie" : Str) ("more" : Str)).b, (T3.mk ("own" : Str) ("tie" : Str) ("more" : Str)).c])) (x_thing.c, (Tp.mk [(T3.mk ("own" : Str) ("so" : Str) ("more" : Str)).a, (T3.mk ("own" : Str) ("so" : Str) ("more" : Str)).b, (T3.mk ("own" : Str) ("so" : Str) ("more" : Str)).c]))).a, (T3.mk (x_thing.a, (Tp.mk [("own" : Str)])) (x_thing.b, (Tp.mk [(T3.mk ("own" : Str) ("tie" : Str) ("more" : Str)).a, (T3.mk ("own" : Str) ("tie" : Str) ("more" : Str)).b, (T3.mk ("own" : Str) ("tie" : Str) ("more" : Str)).c])) (x_thing.c, (Tp.mk [(T3.mk ("own" : Str) ("so" : Str) ("more" : Str)).a, (T3.mk ("own" : Str) ("so" : Str) ("more" : Str)).b, (T3.mk ("own" : Str) ("so" : Str) ("more" : Str)).c]))).b, (T3.mk (x_thing.a, (Tp.mk [("own" : Str)])) (x_thing.b, (Tp.mk [(T3.mk ("own" : Str) ("tie" : Str) ("more" : Str)).a, (T3.mk ("own" : Str) ("tie" : Str) ("more" : Str)).b, (T3.mk ("own" : Str) ("tie" : Str) ("more" : Str)).c])) (x_thing.c, (Tp.mk [(T3.mk ("own" : Str) ("so" : Str) ("more" : Str)).a, (T3.mk ("own" : Str) ("so" : Str) ("more" : Str)).b, (T3.mk ("own" : Str) ("so" : Str) ("more" : Str)).c]))).c])) st) ⟨F78, (), none, none, rfl, Same.refl _, O79, hL95⟩ (fun i_ σ_ H_ _ hp_ => ?_) ?_ ?_
            · obtain ⟨_, _, _, _, _, hS_, hO_, _⟩ := hp_
              exact SqTF hO_.s (hS_ _ _ h85)
            · rintro i98 x99 sg100 H101 hi102 ⟨F107, st104, t105, t106, rfl, S103, O108, hL95⟩
              have hl92 := hl92.mono S103
              obtain ⟨y93, e109, r110⟩ := RL.got hl92 hi102
              rw [drop_at e109] at hL95
              have hk := hLs96 _ _ _ hL95
              obtain ⟨p111, v114, v115, e112, h113, r116, r117⟩ := R.t2_ r110
              cases e112
              obtain ⟨p118, w119, e120, h121, hl122⟩ := R.lst_ r116
              cases e120
              obtain ⟨c128, L124, hL125, hLs126, hLd127⟩ := compS_L hk
              refine ⟨_, _, rfl, (SqTF O108.s h113), rfl, _, _, rfl, _, _, rfl, rfl, _, rfl, _, rfl, ⟨_, (SqLF O108.s h121)⟩, fun p129 hp130 => ?_⟩
              have z153 := O108.was hp130
              refine lc_list (K := K) (xs := w119) (fun i H => ∃ (F_ : Hp) (st : Unit) (acc : List Sm) (wa : List V), Same F107 F_ ∧ Ow _ F_ [(p129, .lst wa)] H ∧ RL F_ wa acc ∧ wa.length ≤ i ∧ L124 (List.drop i y93.1) acc st) ⟨F107, (), [], [], Same.refl _, O108.new hp130, RL.nil, Nat.zero_le _, hL125⟩ (fun i_ H_ _ hp_ => ?_) ?_ ?_
              · obtain ⟨_, _, _, _, hS_, hO_, _⟩ := hp_
                exact SqLF hO_.s (hS_ _ _ h121)
              · rintro i131 x132 H133 hi134 ⟨F139, st140, acc136, wa137, S141, O143, hl142, la138, hL125⟩
                have r117 := r117.mono S141
                have hl122 := hl122.mono S141
                obtain ⟨y123, e144, r145⟩ := RL.got hl122 hi134
                rw [drop_at e144] at hL125
                have hk := hLs126 _ _ _ _ hL125
                refine ⟨rfl, _, rfl, _, rfl, _, rfl, _, _, _, _, _, _, rfl, O143.pre0, r145, r117, wp_call hk (fun r146 er147 hk F148 H149 g150 => ?_) (fun n hn => hn.elim)⟩
                have O151 := O143.call0 g150
                have S_ := g150.f
                have hl122 := hl122.mono S_
                have S141 := S141.trans S_
                have hl142 := hl142.mono S_
                have r145 := r145.mono S_
                refine ⟨_, rfl, ?_⟩
                refine iteBN (fun q152 => ?_) (fun q152 => ?_)
                · have hk := wp_if hk q152
                  exact ⟨F148, (), acc136, wa137, S141, O151, hl142, Nat.le_succ_of_le la138, hk⟩
                · have hk := wp_el hk q152
                  refine ⟨_, rfl, _, (O151.at 0 rfl), (comp_len la138 hi134 hl122.len c128), ?_⟩
                  exact ⟨F148, (), acc136 ++ [y123], wa137 ++ [x132], S141, O151.set 0 (.lst (wa137 ++ [x132])) rfl, RL.snoc hl142 r145, by rw [List.length_append]; exact Nat.succ_le_succ la138, hk⟩
              rintro H154 ⟨F155, st156, acc157, wa158, S159, O160, hl161, la162, hL163⟩
              rw [drop_end hl122.len] at hL163
              have hk := hLd127 _ _ hL163
              have S103 := S103.trans S159
              obtain ⟨F165, O166, S167, h168⟩ := O160.frzE 0 rfl z153
              have S103 := S103.trans S167
              have hl161 := hl161.mono S167
              have h169 := R.lst (a := Sm) h168 hl161
              refine ⟨(by show 0 ≤ sizeLine; decide), fun p170 hp171 => ?_⟩
              have hl177 : RL (a := Sm) F165 ([]) ([] : List Sm) := RL.nil
              obtain ⟨F172, O173, S174, h175⟩ := O166.putE hp171 (.lst ([]))
              have S103 := S103.trans S174
              have h169 := h169.mono S174
              have hl177 := hl177.mono S174
              have h176 := R.lst (a := Sm) h175 hl177
              refine ⟨_, _, (R.mono h169 O173.s), (R.mono h176 O173.s), (Nat.le_trans (Nat.min_le_right _ _) (by decide)), _, rfl, ?_⟩
              refine iteD (fun q178 => ?_) (fun q178 => ?_)
              · have hk := wp_if hk q178
                exact hk _ _  O173.g 
              · have hk := wp_el hk q178
                exact ⟨F172, (), some (V.ref p118), some v115, rfl, S103, O173, hk⟩
            rintro sg179 H180 ⟨F186, st182, t184, t185, rfl, S181, O187, hL183⟩
            rw [drop_end hl92.len] at hL183
            have hk := hLd97 _ hL183
            have r11 := r11.mono S181
            refine ⟨_, rfl, (by show 2 ≤ sizeLine; decide), fun p189 hp190 => ?_⟩
            obtain ⟨F191, O192, S193, h194⟩ := O187.putE hp190 (.tup [V.str ("own" : Str), V.str ("so" : Str)])
            have r11 := r11.mono S193
            have h195 : R (a := (Str × Str)) F191 (.ref p189) (("own" : Str), ("so" : Str)) := R.t2 h194 R.str R.str
            refine ⟨_, rfl, _, _, _, _, _, _, rfl, O192.pre0, r11, (R.tp2 h195), wp_call hk (fun r196 er197 hk F198 H199 g200 => ?_) (fun n hn C H1 hC kp => hn C H1 hC (O192.kp0 kp))⟩
            have O201 := O192.call0 g200
            exact hk _ _  O201.g 
      · have hk := wp_el hk q18
        refine iteT ?_
        exact hk _ _  O.g 
    · have hk := wp_el hk q17
      refine ⟨_, rfl, ?_⟩
      refine iteNF ?_
      refine iteT ?_
      exact hk _ _  O.g 
abbrev s_law_cell_at : Stmt := top 34
theorem sc_law_cell_at : FnScope ["script", "k"] ["script", "k"] (defScope s_law_cell_at) := ⟨rfl, rfl, rfl, by decide +kernel, rfl, by decide +kernel, by decide +kernel⟩
def m_law_cell_at (x_script : (List Int)) (x_k : Int) : M (Int) :=
if x_k < (x_script.length : Int) then (
opt (atI x_script x_k) >>= fun y2 =>
.ok y2)
else (
.ok (0 : Int))
def sp_law_cell_at (K : PySem.W.Frag) (mg : Str → Option Value) : Sp := fun vs H Q E => ∃ (F : Hp) (a_script : Addr) (x_script : (List Int)) (x_k : Int), vs = [.ref a_script, V.int x_k] ∧ Pre F [] H ∧ SqL K F a_script (x_script.map V.int) ∧
  wp (m_law_cell_at x_script x_k) (fun r => ∀ (F' H' : Hp), Gr [] F H F' H' → Q (V.int r) H')
  (fun n => ∀ (C : Addr) (H' : Hp), mg (Str.ofString n) = some (.ref C) → Kp [] H H' → E (.ref C) none H')
set_option maxHeartbeats 20000000 in
theorem ok_law_cell_at (nb : Nb mg) (D : Df K mg "_law_cell_at" "_law_cell_at" s_law_cell_at ["script", "k"]) : Ca P w K mg base "_law_cell_at" 1 ["script", "k"] (sp_law_cell_at K mg) := by
  refine Ca.mk' D sc_law_cell_at (fun vs H Q E h => ?_) (fun q_ f_ cdv A outer s H vs Q E hr h => ?_)
  · obtain ⟨F, _, _, _, rfl, _⟩ := h
    rfl
  · obtain ⟨F, a_script, x_script, x_k, rfl, P0, f_script, hk⟩ := h
    have nd := sc_law_cell_at.nd
    have hu64 := hr.units
    have hu128 := hu128_of hr
    have O := P0.start
    refine ⟨_, (pss_cons (ps_if (pt_cmpR op_lt (pv 1) (pe_callB (call_lenS (K := K) rfl) (by rfl) nb.b_len PySem.boot_len (pa_cons (pv 0) pa_nil)) (nomark _)) (pss_one (ps_ret (pe_ix (ixListK (K := K) rfl) (pv 0) (pv 1) (fun _ _ => rfl)))) pss_nil)
  (pss_one (ps_ret pe_int))), ?_⟩
    refine ⟨_, rfl, _, rfl, _, _, rfl, (O.s.seq f_script), ?_⟩
    rw [List.length_map]
    refine ⟨_, _, rfl, rfl, _, rfl, ?_⟩
    refine iteD (fun q1 => ?_) (fun q1 => ?_)
    · have hk := wp_if hk q1
      obtain ⟨y2, e3, hk⟩ := wp_opt hk
      obtain ⟨w4, e5, r6⟩ := (RL.of_ints (H := F)).atI e3
      obtain rfl := R.int_ r6
      refine ⟨_, rfl, _, rfl, _, _, _, _, rfl, rfl, (O.s.seq f_script), e5, ?_⟩
      exact hk _ _  O.g 
    · have hk := wp_el hk q1
      exact hk _ _  O.g 
abbrev s_law_numbers : Stmt := top 35
theorem sc_law_numbers : FnScope ["cell", "many", "base", "row", "rest", "k", "stir"] ["cell", "many", "base"] (defScope s_law_numbers) := ⟨rfl, rfl, rfl, by decide +kernel, rfl, by decide +kernel, by decide +kernel⟩
def m_law_numbers (x_cell : Int) (x_many : Int) (x_base : Int) : M ((List Int)) :=
chk (CMulX ((10 : Int) ^ Int.toNat (45 : Int)) ((10 : Int) ^ Int.toNat (45 : Int))) >>= fun _ =>
chk (0 < (((10 : Int) ^ Int.toNat (45 : Int)) * ((10 : Int) ^ Int.toNat (45 : Int)))) >>= fun _ =>
ret ((x_cell % (((10 : Int) ^ Int.toNat (45 : Int)) * ((10 : Int) ^ Int.toNat (45 : Int)))) - ((10 : Int) ^ Int.toNat (18 : Int))) >>= fun n9 =>
chk (okR x_many) >>= fun _ =>
loopN (fun (y11 : Int) (st23 : Int × (List Int)) =>
chk (CMulX (977 : Int) y11) >>= fun _ =>
chk (CMulX (((x_cell % (((10 : Int) ^ Int.toNat (45 : Int)) * ((10 : Int) ^ Int.toNat (45 : Int)))) + ((977 : Int) * y11)) + (1 : Int)) (48271 : Int)) >>= fun _ =>
chk (0 < (2147483647 : Int)) >>= fun _ =>
ret (((((x_cell % (((10 : Int) ^ Int.toNat (45 : Int)) * ((10 : Int) ^ Int.toNat (45 : Int)))) + ((977 : Int) * y11)) + (1 : Int)) * (48271 : Int)) % (2147483647 : Int)) >>= fun n33 =>
chk (CMulX n33 n33) >>= fun _ =>
chk (0 < (2147483629 : Int)) >>= fun _ =>
ret ((n33 * n33) % (2147483629 : Int)) >>= fun n37 =>
chk (CMulX (40692 : Int) (y11 + (3 : Int))) >>= fun _ =>
chk (CMulX (n37 + ((40692 : Int) * (y11 + (3 : Int)))) (69621 : Int)) >>= fun _ =>
chk (0 < (2147483563 : Int)) >>= fun _ =>
chk (CDivW (((n37 + ((40692 : Int) * (y11 + (3 : Int)))) * (69621 : Int)) % (2147483563 : Int)) (8 : Int)) >>= fun _ =>
ret ((((n37 + ((40692 : Int) * (y11 + (3 : Int)))) * (69621 : Int)) % (2147483563 : Int)) / (8 : Int)) >>= fun n43 =>
if ((10 : Int) ^ Int.toNat (18 : Int)) ≤ (x_cell % (((10 : Int) ^ Int.toNat (45 : Int)) * ((10 : Int) ^ Int.toNat (45 : Int)))) then (
chk (CDivW st23.1 x_base) >>= fun _ =>
chk (0 < x_base) >>= fun _ =>
appL st23.2 (st23.1 % x_base) >>= fun _ =>
.ok ((st23.1 / x_base), (st23.2 ++ [(st23.1 % x_base)])))
else (
chk (0 < x_base) >>= fun _ =>
appL st23.2 (n43 % x_base) >>= fun _ =>
.ok (st23.1, (st23.2 ++ [(n43 % x_base)])))) (rangeL 0 x_many) (n9, ([] : List Int)) >>= fun st60 =>
.ok st60.2
def sp_law_numbers (mg : Str → Option Value) : Sp := fun vs H Q E => ∃ (F : Hp) (x_cell : Int) (x_many : Int) (x_base : Int), vs = [V.int x_cell, V.int x_many, V.int x_base] ∧ Pre F [] H ∧
  wp (m_law_numbers x_cell x_many x_base) (fun r => ∀ (F' H' : Hp), Gr [] F H F' H' → ∀ (p : Addr) (w : (List V)), H p = none → F' p = none → H' p = some (.lst w) → RL (a := Int) F' w r → Q (.ref p) H')
  (fun n => ∀ (C : Addr) (H' : Hp), mg (Str.ofString n) = some (.ref C) → Kp [] H H' → E (.ref C) none H')
set_option maxHeartbeats 20000000 in
theorem ok_law_numbers (nb : Nb mg) (D : Df K mg "_law_numbers" "_law_numbers" s_law_numbers ["cell", "many", "base"]) : Ca P w K mg base "_law_numbers" 1 ["cell", "many", "base"] (sp_law_numbers mg) := by
  refine Ca.mk' D sc_law_numbers (fun vs H Q E h => ?_) (fun q_ f_ cdv A outer s H vs Q E hr h => ?_)
  · obtain ⟨F, _, _, _, rfl, _⟩ := h
    rfl
  · obtain ⟨F, x_cell, x_many, x_base, rfl, P0, hk⟩ := h
    have nd := sc_law_numbers.nd
    have hu64 := hr.units
    have hu128 := hu128_of hr
    have O := P0.start
    refine ⟨_, (pss_cons (ps_toN (ps_set (i := 0) nd rfl (Or.inl rfl) (pe_op op_mod (pv 0) (pe_op op_mulX (pe_op op_pow pe_int pe_int) (pe_op op_pow pe_int pe_int)))))
  (pss_cons (ps_toN (ps_set (i := 3) nd rfl (Or.inl rfl) (pe_lst pa_nil)))
  (pss_cons (ps_toN (ps_set (i := 4) nd rfl (Or.inl rfl) (pe_op op_sub (pv 0) (pe_op op_pow pe_int pe_int))))
  (pss_cons (ps_for (passes_of rfl) rfl (pi_range1 rfl nb.b_range (pa_cons (pv 1) pa_nil)) (pg_name (i := 5) nd rfl (Or.inl rfl)) (pss_cons (ps_toN (ps_set (i := 6) nd rfl (Or.inl rfl) (pe_op op_mod (pe_op op_mulX (pe_op op_add (pe_op op_add (pv 0) (pe_op op_mulX pe_int (pv 5))) pe_int) pe_int) pe_int)))
  (pss_cons (ps_toN (ps_set (i := 6) nd rfl (Or.inl rfl) (pe_op op_mod (pe_op op_mulX (pv 6) (pv 6)) pe_int)))
  (pss_cons (ps_toN (ps_set (i := 6) nd rfl (Or.inl rfl) (pe_op op_fdivW (pe_op op_mod (pe_op op_mulX (pe_op op_add (pv 6) (pe_op op_mulX pe_int (pe_op op_add (pv 5) pe_int))) pe_int) pe_int) pe_int)))
  (pss_cons (ps_if (pt_cmpR op_ge (pv 0) (pe_op op_pow pe_int pe_int) (nomark _)) (pss_cons (ps_toN (ps_set (i := 6) nd rfl (Or.inl rfl) (pv 4)))
  (pss_one (ps_toN (ps_set (i := 4) nd rfl (Or.inl rfl) (pe_op op_fdivW (pv 4) (pv 2)))))) pss_nil)
  (pss_one (ps_expr (bmK (K := K) rfl (pe_bm PySem.F.plainAttrs_list PySem.F.slot_list_append PySem.F.type_list_append mt_append (pv 3) (pa_cons (pe_op op_mod (pv 6) (pv 2)) pa_nil))))))))))
  (pss_one (ps_ret (pv 3))))))), ?_⟩
    obtain ⟨c1, hk⟩ := wp_chk hk
    obtain ⟨c2, hk⟩ := wp_chk hk
    refine ⟨_, rfl, _, _, rfl, rfl, (by decide), _, _, rfl, rfl, (by decide), _, _, rfl, rfl, c1, _, _, rfl, rfl, c2, [some (V.int (x_cell % (((10 : Int) ^ Int.toNat (45 : Int)) * ((10 : Int) ^ Int.toNat (45 : Int))))), some (V.int x_many), some (V.int x_base), none, none, none, none], rfl, (by show 0 ≤ sizeLine; decide), fun p4 hp5 => ?_⟩
    have hl7 : RL (a := Int) F ([]) ([] : List Int) := RL.nil
    have z8 := O.was hp5
    have O6 := O.new (o := .lst ([])) hp5
    obtain ⟨n9, hn10, hk⟩ := wp_ret hk
    subst hn10
    obtain ⟨c12, hk⟩ := wp_chk hk
    obtain ⟨L13, hL14, hLs15, hLd16⟩ := loopN_L hk
    refine ⟨[some (V.int (x_cell % (((10 : Int) ^ Int.toNat (45 : Int)) * ((10 : Int) ^ Int.toNat (45 : Int))))), some (V.int x_many), some (V.int x_base), some (V.ref p4), none, none, none], rfl, _, rfl, _, _, rfl, rfl, (by decide), _, _, rfl, rfl, [some (V.int (x_cell % (((10 : Int) ^ Int.toNat (45 : Int)) * ((10 : Int) ^ Int.toNat (45 : Int))))), some (V.int x_many), some (V.int x_base), some (V.ref p4), some (V.int ((x_cell % (((10 : Int) ^ Int.toNat (45 : Int)) * ((10 : Int) ^ Int.toNat (45 : Int)))) - ((10 : Int) ^ Int.toNat (18 : Int)))), none, none], rfl, _, rfl, _, rfl, c12.lo, c12.hi, ?_⟩
    refine for_range (lo := 0) (n := (x_many).toNat) (fun i σ H_ => ∃ (F_ : Hp) (st : Int × (List Int)) (w_0 : (List V)) (t_0 : Option V) (t_1 : Option V), σ = [some (V.int (x_cell % (((10 : Int) ^ Int.toNat (45 : Int)) * ((10 : Int) ^ Int.toNat (45 : Int))))), some (V.int x_many), some (V.int x_base), some (V.ref p4), some (V.int st.1), t_0, t_1] ∧ Same F F_ ∧ Ow _ F_ [(p4, .lst w_0)] H_ ∧ RL (a := Int) F_ w_0 st.2 ∧ L13 (List.drop i (rangeL 0 x_many)) st) ⟨F, (((x_cell % (((10 : Int) ^ Int.toNat (45 : Int)) * ((10 : Int) ^ Int.toNat (45 : Int)))) - ((10 : Int) ^ Int.toNat (18 : Int))), ([] : List Int)), [], none, none, rfl, Same.refl _, O6, hl7, hL14⟩ ?_ ?_
    · rintro i17 sg19 H20 hi21 ⟨F28, st23, w24, t26, t27, rfl, S22, O29, hl25, hL14⟩
      rw [rangeL_get0 hi21] at hL14
      have hk := hLs15 _ _ _ hL14
      obtain ⟨y11, he_⟩ : ∃ z_, z_ = 0 + (i17 : Int) := ⟨_, rfl⟩
      try rw [← he_] at hk
      rw [← he_]
      obtain ⟨c30, hk⟩ := wp_chk hk
      obtain ⟨c31, hk⟩ := wp_chk hk
      obtain ⟨c32, hk⟩ := wp_chk hk
      obtain ⟨n33, hn34, hk⟩ := wp_ret hk
      subst hn34
      obtain ⟨c35, hk⟩ := wp_chk hk
      obtain ⟨c36, hk⟩ := wp_chk hk
      obtain ⟨n37, hn38, hk⟩ := wp_ret hk
      subst hn38
      obtain ⟨c39, hk⟩ := wp_chk hk
      obtain ⟨c40, hk⟩ := wp_chk hk
      obtain ⟨c41, hk⟩ := wp_chk hk
      obtain ⟨c42, hk⟩ := wp_chk hk
      obtain ⟨n43, hn44, hk⟩ := wp_ret hk
      subst hn44
      refine ⟨_, rfl, _, rfl, _, _, rfl, rfl, c30, _, _, rfl, rfl, _, _, rfl, rfl, _, _, rfl, rfl, c31, _, _, rfl, rfl, c32, [some (V.int (x_cell % (((10 : Int) ^ Int.toNat (45 : Int)) * ((10 : Int) ^ Int.toNat (45 : Int))))), some (V.int x_many), some (V.int x_base), some (V.ref p4), some (V.int st23.1), some (V.int y11), some (V.int (((((x_cell % (((10 : Int) ^ Int.toNat (45 : Int)) * ((10 : Int) ^ Int.toNat (45 : Int)))) + ((977 : Int) * y11)) + (1 : Int)) * (48271 : Int)) % (2147483647 : Int)))], rfl, _, rfl, _, rfl, _, _, rfl, rfl, c35, _, _, rfl, rfl, c36, [some (V.int (x_cell % (((10 : Int) ^ Int.toNat (45 : Int)) * ((10 : Int) ^ Int.toNat (45 : Int))))), some (V.int x_many), some (V.int x_base), some (V.ref p4), some (V.int st23.1), some (V.int y11), some (V.int (((((((x_cell % (((10 : Int) ^ Int.toNat (45 : Int)) * ((10 : Int) ^ Int.toNat (45 : Int)))) + ((977 : Int) * y11)) + (1 : Int)) * (48271 : Int)) % (2147483647 : Int)) * (((((x_cell % (((10 : Int) ^ Int.toNat (45 : Int)) * ((10 : Int) ^ Int.toNat (45 : Int)))) + ((977 : Int) * y11)) + (1 : Int)) * (48271 : Int)) % (2147483647 : Int))) % (2147483629 : Int)))], rfl, _, rfl, _, rfl, _, _, rfl, rfl, _, _, rfl, rfl, c39, _, _, rfl, rfl, _, _, rfl, rfl, c40, _, _, rfl, rfl, c41, _, _, rfl, rfl, c42, [some (V.int (x_cell % (((10 : Int) ^ Int.toNat (45 : Int)) * ((10 : Int) ^ Int.toNat (45 : Int))))), some (V.int x_many), some (V.int x_base), some (V.ref p4), some (V.int st23.1), some (V.int y11), some (V.int (((((((((((x_cell % (((10 : Int) ^ Int.toNat (45 : Int)) * ((10 : Int) ^ Int.toNat (45 : Int)))) + ((977 : Int) * y11)) + (1 : Int)) * (48271 : Int)) % (2147483647 : Int)) * (((((x_cell % (((10 : Int) ^ Int.toNat (45 : Int)) * ((10 : Int) ^ Int.toNat (45 : Int)))) + ((977 : Int) * y11)) + (1 : Int)) * (48271 : Int)) % (2147483647 : Int))) % (2147483629 : Int)) + ((40692 : Int) * (y11 + (3 : Int)))) * (69621 : Int)) % (2147483563 : Int)) / (8 : Int)))], rfl, _, rfl, _, _, rfl, rfl, (by decide), _, _, rfl, rfl, _, rfl, ?_⟩
      refine iteD (fun q45 => ?_) (fun q45 => ?_)
      · have hk := wp_if hk q45
        obtain ⟨c46, hk⟩ := wp_chk hk
        obtain ⟨c47, hk⟩ := wp_chk hk
        obtain ⟨c48, hk⟩ := wp_appL hk
        refine ⟨_, rfl, [some (V.int (x_cell % (((10 : Int) ^ Int.toNat (45 : Int)) * ((10 : Int) ^ Int.toNat (45 : Int))))), some (V.int x_many), some (V.int x_base), some (V.ref p4), some (V.int st23.1), some (V.int y11), some (V.int st23.1)], rfl, _, rfl, _, rfl, _, _, rfl, rfl, c46, [some (V.int (x_cell % (((10 : Int) ^ Int.toNat (45 : Int)) * ((10 : Int) ^ Int.toNat (45 : Int))))), some (V.int x_many), some (V.int x_base), some (V.ref p4), some (V.int (st23.1 / x_base)), some (V.int y11), some (V.int st23.1)], rfl, _, rfl, (.inl ⟨rfl, _, SqL.of (O29.at 0 rfl)⟩), _, rfl, _, rfl, _, _, rfl, rfl, c47, _, _, _, rfl, rfl, (O29.at 0 rfl), (by rw [hl25.len]; exact c48), ?_⟩
        have O50 := O29.set 0 (.lst (w24 ++ [V.int (st23.1 % x_base)])) rfl
        have hl51 : RL (a := Int) F28 (w24 ++ [V.int (st23.1 % x_base)]) (st23.2 ++ [(st23.1 % x_base)]) := RL.snoc hl25 R.int
        exact ⟨F28, ((st23.1 / x_base), (st23.2 ++ [(st23.1 % x_base)])), (w24 ++ [V.int (st23.1 % x_base)]), some (V.int y11), some (V.int st23.1), rfl, S22, O50, hl51, hk⟩
      · have hk := wp_el hk q45
        obtain ⟨c52, hk⟩ := wp_chk hk
        obtain ⟨c53, hk⟩ := wp_appL hk
        refine ⟨_, rfl, (.inl ⟨rfl, _, SqL.of (O29.at 0 rfl)⟩), _, rfl, _, rfl, _, _, rfl, rfl, c52, _, _, _, rfl, rfl, (O29.at 0 rfl), (by rw [hl25.len]; exact c53), ?_⟩
        have O55 := O29.set 0 (.lst (w24 ++ [V.int ((((((((((((x_cell % (((10 : Int) ^ Int.toNat (45 : Int)) * ((10 : Int) ^ Int.toNat (45 : Int)))) + ((977 : Int) * y11)) + (1 : Int)) * (48271 : Int)) % (2147483647 : Int)) * (((((x_cell % (((10 : Int) ^ Int.toNat (45 : Int)) * ((10 : Int) ^ Int.toNat (45 : Int)))) + ((977 : Int) * y11)) + (1 : Int)) * (48271 : Int)) % (2147483647 : Int))) % (2147483629 : Int)) + ((40692 : Int) * (y11 + (3 : Int)))) * (69621 : Int)) % (2147483563 : Int)) / (8 : Int)) % x_base)])) rfl
        have hl56 : RL (a := Int) F28 (w24 ++ [V.int ((((((((((((x_cell % (((10 : Int) ^ Int.toNat (45 : Int)) * ((10 : Int) ^ Int.toNat (45 : Int)))) + ((977 : Int) * y11)) + (1 : Int)) * (48271 : Int)) % (2147483647 : Int)) * (((((x_cell % (((10 : Int) ^ Int.toNat (45 : Int)) * ((10 : Int) ^ Int.toNat (45 : Int)))) + ((977 : Int) * y11)) + (1 : Int)) * (48271 : Int)) % (2147483647 : Int))) % (2147483629 : Int)) + ((40692 : Int) * (y11 + (3 : Int)))) * (69621 : Int)) % (2147483563 : Int)) / (8 : Int)) % x_base)]) (st23.2 ++ [((((((((((((x_cell % (((10 : Int) ^ Int.toNat (45 : Int)) * ((10 : Int) ^ Int.toNat (45 : Int)))) + ((977 : Int) * y11)) + (1 : Int)) * (48271 : Int)) % (2147483647 : Int)) * (((((x_cell % (((10 : Int) ^ Int.toNat (45 : Int)) * ((10 : Int) ^ Int.toNat (45 : Int)))) + ((977 : Int) * y11)) + (1 : Int)) * (48271 : Int)) % (2147483647 : Int))) % (2147483629 : Int)) + ((40692 : Int) * (y11 + (3 : Int)))) * (69621 : Int)) % (2147483563 : Int)) / (8 : Int)) % x_base)]) := RL.snoc hl25 R.int
        exact ⟨F28, (st23.1, (st23.2 ++ [((((((((((((x_cell % (((10 : Int) ^ Int.toNat (45 : Int)) * ((10 : Int) ^ Int.toNat (45 : Int)))) + ((977 : Int) * y11)) + (1 : Int)) * (48271 : Int)) % (2147483647 : Int)) * (((((x_cell % (((10 : Int) ^ Int.toNat (45 : Int)) * ((10 : Int) ^ Int.toNat (45 : Int)))) + ((977 : Int) * y11)) + (1 : Int)) * (48271 : Int)) % (2147483647 : Int))) % (2147483629 : Int)) + ((40692 : Int) * (y11 + (3 : Int)))) * (69621 : Int)) % (2147483563 : Int)) / (8 : Int)) % x_base)])), (w24 ++ [V.int ((((((((((((x_cell % (((10 : Int) ^ Int.toNat (45 : Int)) * ((10 : Int) ^ Int.toNat (45 : Int)))) + ((977 : Int) * y11)) + (1 : Int)) * (48271 : Int)) % (2147483647 : Int)) * (((((x_cell % (((10 : Int) ^ Int.toNat (45 : Int)) * ((10 : Int) ^ Int.toNat (45 : Int)))) + ((977 : Int) * y11)) + (1 : Int)) * (48271 : Int)) % (2147483647 : Int))) % (2147483629 : Int)) + ((40692 : Int) * (y11 + (3 : Int)))) * (69621 : Int)) % (2147483563 : Int)) / (8 : Int)) % x_base)]), some (V.int y11), some (V.int (((((((((((x_cell % (((10 : Int) ^ Int.toNat (45 : Int)) * ((10 : Int) ^ Int.toNat (45 : Int)))) + ((977 : Int) * y11)) + (1 : Int)) * (48271 : Int)) % (2147483647 : Int)) * (((((x_cell % (((10 : Int) ^ Int.toNat (45 : Int)) * ((10 : Int) ^ Int.toNat (45 : Int)))) + ((977 : Int) * y11)) + (1 : Int)) * (48271 : Int)) % (2147483647 : Int))) % (2147483629 : Int)) + ((40692 : Int) * (y11 + (3 : Int)))) * (69621 : Int)) % (2147483563 : Int)) / (8 : Int))), rfl, S22, O55, hl56, hk⟩
    rintro sg57 H58 ⟨F66, st60, w62, t64, t65, rfl, S59, O67, hl63, hL61⟩
    rw [rangeL_end0] at hL61
    have hk := hLd16 _ hL61
    refine ⟨_, rfl, ?_⟩
    exact hk _ _  O67.g  _ _ z8 (O67.cf _ (List.mem_of_getElem? (i := 0) rfl)) (O67.at 0 rfl) hl63
abbrev s_law_names : Stmt := top 36
theorem sc_law_names : FnScope [] [] (defScope s_law_names) := ⟨rfl, rfl, rfl, by decide +kernel, rfl, by decide +kernel, by decide +kernel⟩
def m_law_names  : M ((List Str)) :=
.ok ([("apart" : Str), ("best" : Str), ("farthest" : Str), ("piece" : Str), ("pieces" : Str), ("sum" : Str)])
def sp_law_names (mg : Str → Option Value) : Sp := fun vs H Q E => ∃ (F : Hp), vs = [] ∧ Pre F [] H ∧
  wp (m_law_names ) (fun r => ∀ (F' H' : Hp), Gr [] F H F' H' → ∀ (p : Addr) (w : (List V)), H p = none → F' p = none → H' p = some (.lst w) → RL (a := Str) F' w r → Q (.ref p) H')
  (fun n => ∀ (C : Addr) (H' : Hp), mg (Str.ofString n) = some (.ref C) → Kp [] H H' → E (.ref C) none H')
set_option maxHeartbeats 20000000 in
theorem ok_law_names (nb : Nb mg) (D : Df K mg "_law_names" "_law_names" s_law_names []) : Ca P w K mg base "_law_names" 1 [] (sp_law_names mg) := by
  refine Ca.mk' D sc_law_names (fun vs H Q E h => ?_) (fun q_ f_ cdv A outer s H vs Q E hr h => ?_)
  · obtain ⟨F, rfl, _⟩ := h
    rfl
  · obtain ⟨F, rfl, P0, hk⟩ := h
    have nd := sc_law_names.nd
    have hu64 := hr.units
    have hu128 := hu128_of hr
    have O := P0.start
    refine ⟨_, (pss_one (ps_ret (pe_lst (pa_cons pe_str (pa_cons pe_str (pa_cons pe_str (pa_cons pe_str (pa_cons pe_str (pa_cons pe_str pa_nil))))))))), ?_⟩
    refine ⟨(by show 6 ≤ sizeLine; decide), fun p2 hp3 => ?_⟩
    have hl5 : RL (a := Str) F ([V.str ("apart" : Str), V.str ("best" : Str), V.str ("farthest" : Str), V.str ("piece" : Str), V.str ("pieces" : Str), V.str ("sum" : Str)]) ([("apart" : Str), ("best" : Str), ("farthest" : Str), ("piece" : Str), ("pieces" : Str), ("sum" : Str)]) := RL.cons R.str (RL.cons R.str (RL.cons R.str (RL.cons R.str (RL.cons R.str (RL.cons R.str RL.nil)))))
    have z6 := O.was hp3
    have O4 := O.new (o := .lst ([V.str ("apart" : Str), V.str ("best" : Str), V.str ("farthest" : Str), V.str ("piece" : Str), V.str ("pieces" : Str), V.str ("sum" : Str)])) hp3
    exact hk _ _  O4.g  _ _ z6 (O4.cf _ (List.mem_of_getElem? (i := 0) rfl)) (O4.at 0 rfl) hl5
abbrev s_law_refused : Stmt := top 37
theorem sc_law_refused : FnScope ["name", "told", "e"] ["name"] (defScope s_law_refused) := ⟨rfl, rfl, rfl, by decide +kernel, rfl, by decide +kernel, by decide +kernel⟩
def m_law_refused (x_name : Str) : M (Bool) :=
tryK ["NoName"] (
m_rule_named x_name >>= fun r7 =>
.ok ()) (
.ok (decide (([] : List Bool) = ([true, true, false])))) (fun n_ => if n_ = "NoName" then (
appL ([true, true]) false >>= fun _ =>
.ok (decide ((([true, true]) ++ [false]) = ([true, true, false]))))
else (
bad))
def sp_law_refused (mg : Str → Option Value) : Sp := fun vs H Q E => ∃ (F : Hp) (x_name : Str), vs = [V.str x_name] ∧ Pre F [] H ∧
  wp (m_law_refused x_name) (fun r => ∀ (F' H' : Hp), Gr [] F H F' H' → Q (V.bl r) H')
  (fun n => ∀ (C : Addr) (H' : Hp), mg (Str.ofString n) = some (.ref C) → Kp [] H H' → E (.ref C) none H')
set_option maxHeartbeats 20000000 in
theorem ok_law_refused (nb : Nb mg) (C_rule_named : Ca P w K mg base "rule_named" 3 ["name"] (sp_rule_named mg)) (EX : ExAll K mg) (D : Df K mg "_law_refused" "_law_refused" s_law_refused ["name"]) : Ca P w K mg base "_law_refused" 4 ["name"] (sp_law_refused mg) := by
  obtain ⟨fa_rule_named, fd_rule_named, G_rule_named, M_rule_named, K_rule_named, B_rule_named⟩ := C_rule_named.ex
  obtain ⟨C_SeatError, C_NoName, C_NoLength, C_NoOrder, C_NoPaper, C_NoPlace, C_NoRule, C_NoText, C_NoTie, C_NoTree, XX⟩ := EX.ex
  refine Ca.mk' D sc_law_refused (fun vs H Q E h => ?_) (fun q_ f_ cdv A outer s H vs Q E hr h => ?_)
  · obtain ⟨F, _, rfl, _⟩ := h
    rfl
  · obtain ⟨F, x_name, rfl, P0, hk⟩ := h
    have nd := sc_law_refused.nd
    have hu64 := hr.units
    have hu128 := hu128_of hr
    have O := P0.start
    refine ⟨_, (pss_cons (ps_toN (ps_set (i := 1) nd rfl (Or.inl rfl) (pe_lst pa_nil)))
  (pss_cons (ps_try_tell (i := 2) rfl rfl rfl nd rfl rfl ⟨by rfl, by decide +kernel, .inl XX.g_SeatError⟩ (takes_of rfl rfl rfl rfl) (fun W_ pn_ xe_ tk_ pas_ => (pss_one (ps_expr (pe_callW G_rule_named (hr.mono (by decide)) rfl M_rule_named K_rule_named B_rule_named tk_ (pa_cons (pv 0) pa_nil))))) (fun a_ pn_ => (pss_cons (ps_toN (ps_set (i := 1) nd rfl (Or.inl rfl) (pe_lst (pa_cons (pe_callB (isuK (K := K) rfl) (by rfl) nb.b_isinstance (by decide +kernel) (pa_cons (pv 2) (pa_cons (C8.pe_gc (v := .ref C_NoName) (by rfl) ⟨_, XX.g_NoName, rfl⟩) pa_nil))) (pa_cons (pe_callB (isuK (K := K) rfl) (by rfl) nb.b_isinstance (by decide +kernel) (pa_cons (pv 2) (pa_cons (pe_bltn (v := .ty "ValueError") (by rfl) nb.b_ValueError (by decide +kernel) rfl) pa_nil))) pa_nil)))))
  (pss_one (ps_expr (bmK (K := K) rfl (pe_bm PySem.F.plainAttrs_list PySem.F.slot_list_append PySem.F.type_list_append mt_append (pv 1) (pa_cons (pe_callB (isutK (K := K) rfl) (by rfl) nb.b_isinstance (by decide +kernel) (pa_cons (pv 2) (pa_cons (pe_tup (pa_cons (C8.pe_gc (v := .ref C_NoLength) (by rfl) ⟨_, XX.g_NoLength, rfl⟩) (pa_cons (C8.pe_gc (v := .ref C_NoOrder) (by rfl) ⟨_, XX.g_NoOrder, rfl⟩) (pa_cons (C8.pe_gc (v := .ref C_NoPaper) (by rfl) ⟨_, XX.g_NoPaper, rfl⟩) (pa_cons (C8.pe_gc (v := .ref C_NoPlace) (by rfl) ⟨_, XX.g_NoPlace, rfl⟩) (pa_cons (C8.pe_gc (v := .ref C_NoRule) (by rfl) ⟨_, XX.g_NoRule, rfl⟩) (pa_cons (C8.pe_gc (v := .ref C_NoText) (by rfl) ⟨_, XX.g_NoText, rfl⟩) (pa_cons (C8.pe_gc (v := .ref C_NoTie) (by rfl) ⟨_, XX.g_NoTie, rfl⟩) (pa_cons (C8.pe_gc (v := .ref C_NoTree) (by rfl) ⟨_, XX.g_NoTree, rfl⟩) pa_nil))))))))) pa_nil))) pa_nil))))))))
  (pss_one (ps_ret (pe_cmpR (op_eqT (List Bool) hu64) (pv 1) (pe_lst (pa_cons pe_bl (pa_cons pe_bl (pa_cons pe_bl pa_nil)))) (nomark _)))))), ?_⟩
    refine ⟨(by show 0 ≤ sizeLine; decide), fun p2 hp3 => ?_⟩
    have hl5 : RL (a := Bool) F ([]) ([] : List Bool) := RL.nil
    have O4 := O.new (o := .lst ([])) hp3
    have hk := wp_tryK hk
    refine ⟨[some (V.str x_name), some (V.ref p2), none], rfl, _, rfl, _, _, rfl, O4.pre0, wp_call hk (fun r7 er8 hk F9 H10 g11 v12 r13 fr14 => ?_) (fun n_ hn_ C_ H1_ hC_ kp_ => ?_)⟩
    · have O15 := O4.call0 g11
      have S_ := g11.f
      have hl5 := hl5.mono S_
      have hk := wp_okE hk
      refine ⟨_, rfl, (by show 3 ≤ sizeLine; decide), fun p16 hp17 => ?_⟩
      have hl23 : RL (a := Bool) F9 ([V.bl true, V.bl true, V.bl false]) ([true, true, false]) := RL.cons R.bl (RL.cons R.bl (RL.cons R.bl RL.nil))
      obtain ⟨F18, O19, S20, h21⟩ := O15.putE hp17 (.lst ([V.bl true, V.bl true, V.bl false]))
      have hl5 := hl5.mono S20
      have hl23 := hl23.mono S20
      have h22 := R.lst (a := Bool) h21 hl23
      refine ⟨_, _, (R.lst (a := Bool) (O19.at 0 rfl) (hl5.mono O19.s)), (R.mono h22 O19.s), ?_⟩
      exact hk _ _  O19.g 
    · obtain ⟨hm_, hk⟩ := hn_
      obtain rfl := mem1 hm_
      have hk := wp_if hk rfl
      have eC_ := XX.g_NoName.symm.trans hC_
      cases eC_
      have O24 := O4.exc kp_
      refine ⟨true, PySem.W.exm_ref XX.b_SeatError XX.d_SeatError XX.t_SeatError XX.s_NoName_SeatError, fun _ a25 ha26 => ?_, fun z => nomatch z⟩
      obtain ⟨F27, O28, S29, h30⟩ := O24.putE ha26 (excO (.ref C_NoName) none a25)
      refine ⟨_, rfl, _, _, _, _, true, rfl, (.own _), (.exc (O28.s _ _ h30) XX.e_NoName), (kit_own XX.d_NoName XX.t_NoName XX.s_NoName_NoName XX.s_NoName_NoName), _, rfl, _, _, _, _, true, rfl, (.ty _), (.exc (O28.s _ _ h30) XX.e_NoName), (kit_blt (by decide +kernel) XX.v_NoName), (by show 2 ≤ sizeLine; decide), fun p34 hp35 => ?_⟩
      have hl37 : RL (a := Bool) F27 ([V.bl true, V.bl true]) ([true, true]) := RL.cons R.bl (RL.cons R.bl RL.nil)
      have O36 := O28.new (o := .lst ([V.bl true, V.bl true])) hp35
      refine ⟨[some (V.str x_name), some (V.ref p34), some (V.ref a25)], rfl, _, rfl, (.inl ⟨rfl, _, SqL.of (O36.at 0 rfl)⟩), _, rfl, (by show 8 ≤ sizeLine; decide), fun p39 hp40 => ?_⟩
      obtain ⟨F41, O42, S43, h44⟩ := O36.putE hp40 (.tup [V.ref C_NoLength, V.ref C_NoOrder, V.ref C_NoPaper, V.ref C_NoPlace, V.ref C_NoRule, V.ref C_NoText, V.ref C_NoTie, V.ref C_NoTree])
      have h30 := S43 _ _ h30
      have hl37 := hl37.mono S43
      obtain ⟨c45, hk⟩ := wp_appL hk
      refine ⟨_, _, _, _, _, false, rfl, (O42.s _ _ h44), (.cons (.own _) (.cons (.own _) (.cons (.own _) (.cons (.own _) (.cons (.own _) (.cons (.own _) (.cons (.own _) (.cons (.own _) .nil)))))))), (.exc (O42.s _ _ h30) XX.e_NoName), (any_no (kit_own XX.d_NoLength XX.t_NoLength XX.s_NoName_NoLength XX.s_NoLength_NoLength) (any_no (kit_own XX.d_NoOrder XX.t_NoOrder XX.s_NoName_NoOrder XX.s_NoOrder_NoOrder) (any_no (kit_own XX.d_NoPaper XX.t_NoPaper XX.s_NoName_NoPaper XX.s_NoPaper_NoPaper) (any_no (kit_own XX.d_NoPlace XX.t_NoPlace XX.s_NoName_NoPlace XX.s_NoPlace_NoPlace) (any_no (kit_own XX.d_NoRule XX.t_NoRule XX.s_NoName_NoRule XX.s_NoRule_NoRule) (any_no (kit_own XX.d_NoText XX.t_NoText XX.s_NoName_NoText XX.s_NoText_NoText) (any_no (kit_own XX.d_NoTie XX.t_NoTie XX.s_NoName_NoTie XX.s_NoTie_NoTie) (any_no (kit_own XX.d_NoTree XX.t_NoTree XX.s_NoName_NoTree XX.s_NoTree_NoTree) kitAny_nil)))))))), _, _, _, rfl, rfl, (O42.at 0 rfl), (by rw [hl37.len]; exact c45), ?_⟩
      have O47 := O42.set 0 (.lst (([V.bl true, V.bl true]) ++ [V.bl false])) rfl
      have hl48 : RL (a := Bool) F41 (([V.bl true, V.bl true]) ++ [V.bl false]) (([true, true]) ++ [false]) := RL.snoc hl37 R.bl
      refine ⟨_, rfl, (by show 3 ≤ sizeLine; decide), fun p49 hp50 => ?_⟩
      have hl56 : RL (a := Bool) F41 ([V.bl true, V.bl true, V.bl false]) ([true, true, false]) := RL.cons R.bl (RL.cons R.bl (RL.cons R.bl RL.nil))
      obtain ⟨F51, O52, S53, h54⟩ := O47.putE hp50 (.lst ([V.bl true, V.bl true, V.bl false]))
      have hl48 := hl48.mono S53
      have hl56 := hl56.mono S53
      have h55 := R.lst (a := Bool) h54 hl56
      refine ⟨_, _, (R.lst (a := Bool) (O52.at 0 rfl) (hl48.mono O52.s)), (R.mono h55 O52.s), ?_⟩
      exact hk _ _  O52.g 
abbrev s_law_other : Stmt := top 38
theorem sc_law_other : FnScope ["row", "name", "at", "sign", "some"] ["row"] (defScope s_law_other) := ⟨rfl, rfl, rfl, by decide +kernel, rfl, by decide +kernel, by decide +kernel⟩
def m_law_other (x_row : (List Int)) : M (Str) :=
m_law_names  >>= fun r1 =>
opt (atI x_row (0 : Int)) >>= fun y25 =>
chk (0 < (6 : Int)) >>= fun _ =>
opt (atI r1 (y25 % (6 : Int))) >>= fun y36 =>
opt (atI x_row (1 : Int)) >>= fun y46 =>
chk (y36.length ≤ 16777216) >>= fun _ =>
chk (0 < ((y36.length : Int) + (1 : Int))) >>= fun _ =>
opt (atI x_row (2 : Int)) >>= fun y58 =>
chk (0 < (33 : Int)) >>= fun _ =>
chk (("abcdefghijklmnopqrstuvwxyz ABCS\n-" : Str).length ≤ 16777216) >>= fun _ =>
opt (atI (sgL ("abcdefghijklmnopqrstuvwxyz ABCS\n-" : Str)) (y58 % (33 : Int))) >>= fun y64 =>
chk (y36.length ≤ 16777216) >>= fun _ =>
chk (y36.length ≤ 16777216) >>= fun _ =>
chk ((cutS y36 none (some (y46 % ((y36.length : Int) + (1 : Int))))).length + (cutS y36 (some ((y46 % ((y36.length : Int) + (1 : Int))) + (1 : Int))) none).length ≤ 16777216) >>= fun _ =>
chk (y36.length ≤ 16777216) >>= fun _ =>
chk ((cutS y36 none (some (y46 % ((y36.length : Int) + (1 : Int))))).length + y64.length ≤ 16777216) >>= fun _ =>
chk (y36.length ≤ 16777216) >>= fun _ =>
chk (((cutS y36 none (some (y46 % ((y36.length : Int) + (1 : Int))))) ++ y64).length + (cutS y36 (some (y46 % ((y36.length : Int) + (1 : Int)))) none).length ≤ 16777216) >>= fun _ =>
chk (y36.length ≤ 16777216) >>= fun _ =>
chk ((cutS y36 none (some (y46 % ((y36.length : Int) + (1 : Int))))).length + y64.length ≤ 16777216) >>= fun _ =>
chk (y36.length ≤ 16777216) >>= fun _ =>
chk (((cutS y36 none (some (y46 % ((y36.length : Int) + (1 : Int))))) ++ y64).length + (cutS y36 (some ((y46 % ((y36.length : Int) + (1 : Int))) + (1 : Int))) none).length ≤ 16777216) >>= fun _ =>
opt (atI x_row (1 : Int)) >>= fun y94 =>
chk (0 < (5 : Int)) >>= fun _ =>
chk (("ABFPS" : Str).length ≤ 16777216) >>= fun _ =>
opt (atI (sgL ("ABFPS" : Str)) (y94 % (5 : Int))) >>= fun y100 =>
chk (y36.length ≤ 16777216) >>= fun _ =>
chk (y100.length + (cutS y36 (some (1 : Int)) none).length ≤ 16777216) >>= fun _ =>
chk ((revS y36).length ≤ 16777216) >>= fun _ =>
opt (atI x_row (3 : Int)) >>= fun y122 =>
chk (0 < (4 : Int)) >>= fun _ =>
opt (atI ([("s" : Str), (" " : Str), ("\n" : Str), ("" : Str)]) (y122 % (4 : Int))) >>= fun y133 =>
chk (y36.length + y133.length ≤ 16777216) >>= fun _ =>
chk (([((cutS y36 none (some (y46 % ((y36.length : Int) + (1 : Int))))) ++ (cutS y36 (some ((y46 % ((y36.length : Int) + (1 : Int))) + (1 : Int))) none)), (((cutS y36 none (some (y46 % ((y36.length : Int) + (1 : Int))))) ++ y64) ++ (cutS y36 (some (y46 % ((y36.length : Int) + (1 : Int)))) none)), (((cutS y36 none (some (y46 % ((y36.length : Int) + (1 : Int))))) ++ y64) ++ (cutS y36 (some ((y46 % ((y36.length : Int) + (1 : Int))) + (1 : Int))) none))]).length + ([(y100 ++ (cutS y36 (some (1 : Int)) none)), (revS y36), (y36 ++ y133)]).length < 16777216) >>= fun _ =>
opt (atI x_row (3 : Int)) >>= fun y179 =>
chk (0 < (8 : Int)) >>= fun _ =>
opt (atI ([("" : Str), ("rule" : Str), ("is" : Str), ("least" : Str), ("sums" : Str), ("set" : Str), ("number" : Str), ("none" : Str)]) (y179 % (8 : Int))) >>= fun y190 =>
chk ((([((cutS y36 none (some (y46 % ((y36.length : Int) + (1 : Int))))) ++ (cutS y36 (some ((y46 % ((y36.length : Int) + (1 : Int))) + (1 : Int))) none)), (((cutS y36 none (some (y46 % ((y36.length : Int) + (1 : Int))))) ++ y64) ++ (cutS y36 (some (y46 % ((y36.length : Int) + (1 : Int)))) none)), (((cutS y36 none (some (y46 % ((y36.length : Int) + (1 : Int))))) ++ y64) ++ (cutS y36 (some ((y46 % ((y36.length : Int) + (1 : Int))) + (1 : Int))) none))]) ++ ([(y100 ++ (cutS y36 (some (1 : Int)) none)), (revS y36), (y36 ++ y133)])).length + ([y190]).length < 16777216) >>= fun _ =>
opt (atI x_row (4 : Int)) >>= fun y227 =>
chk (0 < (7 : Int)) >>= fun _ =>
opt (atI ((([((cutS y36 none (some (y46 % ((y36.length : Int) + (1 : Int))))) ++ (cutS y36 (some ((y46 % ((y36.length : Int) + (1 : Int))) + (1 : Int))) none)), (((cutS y36 none (some (y46 % ((y36.length : Int) + (1 : Int))))) ++ y64) ++ (cutS y36 (some (y46 % ((y36.length : Int) + (1 : Int)))) none)), (((cutS y36 none (some (y46 % ((y36.length : Int) + (1 : Int))))) ++ y64) ++ (cutS y36 (some ((y46 % ((y36.length : Int) + (1 : Int))) + (1 : Int))) none))]) ++ ([(y100 ++ (cutS y36 (some (1 : Int)) none)), (revS y36), (y36 ++ y133)])) ++ ([y190])) (y227 % (7 : Int))) >>= fun y238 =>
.ok y238
def sp_law_other (mg : Str → Option Value) : Sp := fun vs H Q E => ∃ (F : Hp) (v_row : V) (x_row : (List Int)), vs = [v_row] ∧ Pre F [] H ∧ R (a := (List Int)) F v_row x_row ∧
  wp (m_law_other x_row) (fun r => ∀ (F' H' : Hp), Gr [] F H F' H' → Q (V.str r) H')
  (fun n => ∀ (C : Addr) (H' : Hp), mg (Str.ofString n) = some (.ref C) → Kp [] H H' → E (.ref C) none H')
set_option maxHeartbeats 20000000 in
theorem ok_law_other (nb : Nb mg) (C_law_names : Ca P w K mg base "_law_names" 1 [] (sp_law_names mg)) (D : Df K mg "_law_other" "_law_other" s_law_other ["row"]) : Ca P w K mg base "_law_other" 2 ["row"] (sp_law_other mg) := by
  obtain ⟨fa_law_names, fd_law_names, G_law_names, M_law_names, K_law_names, B_law_names⟩ := C_law_names.ex
  refine Ca.mk' D sc_law_other (fun vs H Q E h => ?_) (fun q_ f_ cdv A outer s H vs Q E hr h => ?_)
  · obtain ⟨F, _, _, rfl, _⟩ := h
    rfl
  · obtain ⟨F, v_row, x_row, rfl, P0, f_row, hk⟩ := h
    have nd := sc_law_other.nd
    have hu64 := hr.units
    have hu128 := hu128_of hr
    have O := P0.start
    refine ⟨_, (pss_cons (ps_toN (ps_set (i := 1) nd rfl (Or.inl rfl) (pe_ix (ixListK (K := K) rfl) (pe_call0 G_law_names (hr.mono (by decide)) rfl M_law_names K_law_names B_law_names .nil (passes_call (takes_of rfl rfl rfl rfl) fun _ _ _ _ h => h)) (pe_op op_mod (pe_ix (ixListK (K := K) rfl) (pv 0) pe_int (fun _ _ => rfl)) pe_int) (fun _ _ => rfl))))
  (pss_cons (ps_toN (ps_set (i := 2) nd rfl (Or.inl rfl) (pe_op op_mod (pe_ix (ixListK (K := K) rfl) (pv 0) pe_int (fun _ _ => rfl)) (pe_op op_add (pe_callB call_len_str (by rfl) nb.b_len PySem.boot_len (pa_cons (pv 1) pa_nil)) pe_int))))
  (pss_cons (ps_toN (ps_set (i := 3) nd rfl (Or.inl rfl) (pe_ix ix_sg pe_str (pe_op op_mod (pe_ix (ixListK (K := K) rfl) (pv 0) pe_int (fun _ _ => rfl)) pe_int) (fun _ _ => rfl))))
  (pss_cons (ps_toN (ps_set (i := 4) nd rfl (Or.inl rfl) (pe_lst (pa_cons (pe_op op_add_str (pe_slice sl_str (pv 1) po_none (po_some (pv 2))) (pe_slice sl_str (pv 1) (po_some (pe_op op_add (pv 2) pe_int)) po_none)) (pa_cons (pe_op op_add_str (pe_op op_add_str (pe_slice sl_str (pv 1) po_none (po_some (pv 2))) (pv 3)) (pe_slice sl_str (pv 1) (po_some (pv 2)) po_none)) (pa_cons (pe_op op_add_str (pe_op op_add_str (pe_slice sl_str (pv 1) po_none (po_some (pv 2))) (pv 3)) (pe_slice sl_str (pv 1) (po_some (pe_op op_add (pv 2) pe_int)) po_none)) pa_nil))))))
  (pss_cons (ps_toN (ps_set (i := 4) nd rfl (Or.inl rfl) (pe_op op_cat (pv 4) (pe_lst (pa_cons (pe_op op_add_str (pe_ix ix_sg pe_str (pe_op op_mod (pe_ix (ixListK (K := K) rfl) (pv 0) pe_int (fun _ _ => rfl)) pe_int) (fun _ _ => rfl)) (pe_slice sl_str (pv 1) (po_some pe_int) po_none)) (pa_cons (pe_revS (pv 1)) (pa_cons (pe_op op_add_str (pv 1) (pe_ix (ixListK (K := K) rfl) (pe_lst (pa_cons pe_str (pa_cons pe_str (pa_cons pe_str (pa_cons pe_str pa_nil))))) (pe_op op_mod (pe_ix (ixListK (K := K) rfl) (pv 0) pe_int (fun _ _ => rfl)) pe_int) (fun _ _ => rfl))) pa_nil)))))))
  (pss_cons (ps_toN (ps_set (i := 4) nd rfl (Or.inl rfl) (pe_op op_cat (pv 4) (pe_lst (pa_cons (pe_ix (ixListK (K := K) rfl) (pe_lst (pa_cons pe_str (pa_cons pe_str (pa_cons pe_str (pa_cons pe_str (pa_cons pe_str (pa_cons pe_str (pa_cons pe_str (pa_cons pe_str pa_nil))))))))) (pe_op op_mod (pe_ix (ixListK (K := K) rfl) (pv 0) pe_int (fun _ _ => rfl)) pe_int) (fun _ _ => rfl)) pa_nil)))))
  (pss_one (ps_ret (pe_ix (ixListK (K := K) rfl) (pv 4) (pe_op op_mod (pe_ix (ixListK (K := K) rfl) (pv 0) pe_int (fun _ _ => rfl)) pe_int) (fun _ _ => rfl)))))))))), ?_⟩
    refine ⟨_, rfl, O.pre0, wp_call hk (fun r1 er2 hk F3 H4 g5 p6 w7 hn8 hf9 h10 hl11 => ?_) (fun n hn C H1 hC kp => hn C H1 hC (O.kp0 kp))⟩
    have O12 := O.call0 g5
    have S_ := g5.f
    have f_row := f_row.mono S_
    have O13 := O.got O12 rfl hn8 hf9 h10
    have z14 := O.was hn8
    obtain ⟨F15, O16, S17, h18⟩ := O13.frzE 0 rfl z14
    have f_row := f_row.mono S17
    have hl11 := hl11.mono S17
    have h19 := R.lst (a := Str) h18 hl11
    obtain ⟨p20, w21, e22, h23, hl24⟩ := R.lst_ f_row
    cases e22
    obtain ⟨y25, e26, hk⟩ := wp_opt hk
    obtain ⟨w27, e28, r29⟩ := hl24.atI e26
    obtain rfl := R.int_ r29
    obtain ⟨c30, hk⟩ := wp_chk hk
    obtain ⟨p31, w32, e33, h34, hl35⟩ := R.lst_ h19
    cases e33
    obtain ⟨y36, e37, hk⟩ := wp_opt hk
    obtain ⟨w38, e39, r40⟩ := hl35.atI e37
    obtain rfl := R.str_ r40
    obtain ⟨p41, w42, e43, h44, hl45⟩ := R.lst_ f_row
    cases e43
    obtain ⟨y46, e47, hk⟩ := wp_opt hk
    obtain ⟨w48, e49, r50⟩ := hl45.atI e47
    obtain rfl := R.int_ r50
    obtain ⟨c51, hk⟩ := wp_chk hk
    obtain ⟨c52, hk⟩ := wp_chk hk
    obtain ⟨p53, w54, e55, h56, hl57⟩ := R.lst_ f_row
    cases e55
    obtain ⟨y58, e59, hk⟩ := wp_opt hk
    obtain ⟨w60, e61, r62⟩ := hl57.atI e59
    obtain rfl := R.int_ r62
    obtain ⟨c63, hk⟩ := wp_chk hk
    obtain ⟨c69, hk⟩ := wp_chk hk
    obtain ⟨y64, e65, hk⟩ := wp_opt hk
    obtain ⟨c70, hk⟩ := wp_chk hk
    obtain ⟨c71, hk⟩ := wp_chk hk
    obtain ⟨c72, hk⟩ := wp_chk hk
    obtain ⟨c73, hk⟩ := wp_chk hk
    obtain ⟨c74, hk⟩ := wp_chk hk
    obtain ⟨c75, hk⟩ := wp_chk hk
    obtain ⟨c76, hk⟩ := wp_chk hk
    obtain ⟨c77, hk⟩ := wp_chk hk
    obtain ⟨c78, hk⟩ := wp_chk hk
    obtain ⟨c79, hk⟩ := wp_chk hk
    obtain ⟨c80, hk⟩ := wp_chk hk
    refine ⟨_, rfl, _, _, _, _, rfl, rfl, (SqLF O16.s h23), e28, _, _, rfl, rfl, c30, _, _, _, _, rfl, rfl, (SqLF O16.s h34), e39, [some (V.ref p20), some (V.str y36), none, none, none], rfl, _, rfl, _, _, _, _, rfl, rfl, (SqLF O16.s h44), e49, _, rfl, _, rfl, (by rw [sizeLine_eq]; exact c51), _, _, rfl, rfl, _, _, rfl, rfl, c52, [some (V.ref p20), some (V.str y36), some (V.int (y46 % ((y36.length : Int) + (1 : Int)))), none, none], rfl, _, rfl, _, _, _, _, rfl, rfl, (SqLF O16.s h56), e61, _, _, rfl, rfl, c63, _, _, _, rfl, rfl, (by rw [sizeLine_eq]; exact c69), e65, [some (V.ref p20), some (V.str y36), some (V.int (y46 % ((y36.length : Int) + (1 : Int)))), some (V.str y64), none], rfl, _, rfl, _, rfl, _, rfl, _, rfl, (by rw [sizeLine_eq]; exact c70), _, rfl, _, rfl, _, _, rfl, rfl, _, rfl, _, rfl, (by rw [sizeLine_eq]; exact c71), _, _, rfl, rfl, (by rw [sizeLine_eq]; exact c72), _, rfl, _, rfl, _, rfl, _, rfl, (by rw [sizeLine_eq]; exact c73), _, rfl, _, _, rfl, rfl, (by rw [sizeLine_eq]; exact c74), _, rfl, _, rfl, _, rfl, _, rfl, (by rw [sizeLine_eq]; exact c75), _, _, rfl, rfl, (by rw [sizeLine_eq]; exact c76), _, rfl, _, rfl, _, rfl, _, rfl, (by rw [sizeLine_eq]; exact c77), _, rfl, _, _, rfl, rfl, (by rw [sizeLine_eq]; exact c78), _, rfl, _, rfl, _, _, rfl, rfl, _, rfl, _, rfl, (by rw [sizeLine_eq]; exact c79), _, _, rfl, rfl, (by rw [sizeLine_eq]; exact c80), (by show 3 ≤ sizeLine; decide), fun p81 hp82 => ?_⟩
    have hl88 : RL (a := Str) F15 ([V.str ((cutS y36 none (some (y46 % ((y36.length : Int) + (1 : Int))))) ++ (cutS y36 (some ((y46 % ((y36.length : Int) + (1 : Int))) + (1 : Int))) none)), V.str (((cutS y36 none (some (y46 % ((y36.length : Int) + (1 : Int))))) ++ y64) ++ (cutS y36 (some (y46 % ((y36.length : Int) + (1 : Int)))) none)), V.str (((cutS y36 none (some (y46 % ((y36.length : Int) + (1 : Int))))) ++ y64) ++ (cutS y36 (some ((y46 % ((y36.length : Int) + (1 : Int))) + (1 : Int))) none))]) ([((cutS y36 none (some (y46 % ((y36.length : Int) + (1 : Int))))) ++ (cutS y36 (some ((y46 % ((y36.length : Int) + (1 : Int))) + (1 : Int))) none)), (((cutS y36 none (some (y46 % ((y36.length : Int) + (1 : Int))))) ++ y64) ++ (cutS y36 (some (y46 % ((y36.length : Int) + (1 : Int)))) none)), (((cutS y36 none (some (y46 % ((y36.length : Int) + (1 : Int))))) ++ y64) ++ (cutS y36 (some ((y46 % ((y36.length : Int) + (1 : Int))) + (1 : Int))) none))]) := RL.cons R.str (RL.cons R.str (RL.cons R.str RL.nil))
    obtain ⟨F83, O84, S85, h86⟩ := O16.putE hp82 (.lst ([V.str ((cutS y36 none (some (y46 % ((y36.length : Int) + (1 : Int))))) ++ (cutS y36 (some ((y46 % ((y36.length : Int) + (1 : Int))) + (1 : Int))) none)), V.str (((cutS y36 none (some (y46 % ((y36.length : Int) + (1 : Int))))) ++ y64) ++ (cutS y36 (some (y46 % ((y36.length : Int) + (1 : Int)))) none)), V.str (((cutS y36 none (some (y46 % ((y36.length : Int) + (1 : Int))))) ++ y64) ++ (cutS y36 (some ((y46 % ((y36.length : Int) + (1 : Int))) + (1 : Int))) none))]))
    have f_row := f_row.mono S85
    have hl88 := hl88.mono S85
    have h87 := R.lst (a := Str) h86 hl88
    obtain ⟨p89, w90, e91, h92, hl93⟩ := R.lst_ f_row
    cases e91
    obtain ⟨y94, e95, hk⟩ := wp_opt hk
    obtain ⟨w96, e97, r98⟩ := hl93.atI e95
    obtain rfl := R.int_ r98
    obtain ⟨c99, hk⟩ := wp_chk hk
    obtain ⟨c105, hk⟩ := wp_chk hk
    obtain ⟨y100, e101, hk⟩ := wp_opt hk
    obtain ⟨c106, hk⟩ := wp_chk hk
    obtain ⟨c107, hk⟩ := wp_chk hk
    obtain ⟨c108, hk⟩ := wp_chk hk
    refine ⟨[some (V.ref p20), some (V.str y36), some (V.int (y46 % ((y36.length : Int) + (1 : Int)))), some (V.str y64), some (V.ref p81)], rfl, _, rfl, _, rfl, _, _, _, _, rfl, rfl, (SqLF O84.s h92), e97, _, _, rfl, rfl, c99, _, _, _, rfl, rfl, (by rw [sizeLine_eq]; exact c105), e101, _, rfl, _, rfl, _, rfl, (by rw [sizeLine_eq]; exact c106), _, _, rfl, rfl, (by rw [sizeLine_eq]; exact c107), _, rfl, _, rfl, c108, _, rfl, (by show 4 ≤ sizeLine; decide), fun p109 hp110 => ?_⟩
    have hl116 : RL (a := Str) F83 ([V.str ("s" : Str), V.str (" " : Str), V.str ("\n" : Str), V.str ("" : Str)]) ([("s" : Str), (" " : Str), ("\n" : Str), ("" : Str)]) := RL.cons R.str (RL.cons R.str (RL.cons R.str (RL.cons R.str RL.nil)))
    obtain ⟨F111, O112, S113, h114⟩ := O84.putE hp110 (.lst ([V.str ("s" : Str), V.str (" " : Str), V.str ("\n" : Str), V.str ("" : Str)]))
    have f_row := f_row.mono S113
    have h87 := h87.mono S113
    have hl116 := hl116.mono S113
    have h115 := R.lst (a := Str) h114 hl116
    obtain ⟨p117, w118, e119, h120, hl121⟩ := R.lst_ f_row
    cases e119
    obtain ⟨y122, e123, hk⟩ := wp_opt hk
    obtain ⟨w124, e125, r126⟩ := hl121.atI e123
    obtain rfl := R.int_ r126
    obtain ⟨c127, hk⟩ := wp_chk hk
    obtain ⟨p128, w129, e130, h131, hl132⟩ := R.lst_ h115
    cases e130
    obtain ⟨y133, e134, hk⟩ := wp_opt hk
    obtain ⟨w135, e136, r137⟩ := hl132.atI e134
    obtain rfl := R.str_ r137
    obtain ⟨c138, hk⟩ := wp_chk hk
    refine ⟨_, rfl, _, _, _, _, rfl, rfl, (SqLF O112.s h120), e125, _, _, rfl, rfl, c127, _, _, _, _, rfl, rfl, (SqLF O112.s h131), e136, _, _, rfl, rfl, (by rw [sizeLine_eq]; exact c138), (by show 3 ≤ sizeLine; decide), fun p139 hp140 => ?_⟩
    have hl146 : RL (a := Str) F111 ([V.str (y100 ++ (cutS y36 (some (1 : Int)) none)), V.str (revS y36), V.str (y36 ++ y133)]) ([(y100 ++ (cutS y36 (some (1 : Int)) none)), (revS y36), (y36 ++ y133)]) := RL.cons R.str (RL.cons R.str (RL.cons R.str RL.nil))
    obtain ⟨F141, O142, S143, h144⟩ := O112.putE hp140 (.lst ([V.str (y100 ++ (cutS y36 (some (1 : Int)) none)), V.str (revS y36), V.str (y36 ++ y133)]))
    have f_row := f_row.mono S143
    have h87 := h87.mono S143
    have hl146 := hl146.mono S143
    have h145 := R.lst (a := Str) h144 hl146
    obtain ⟨p147, w148, e149, h150, hl151⟩ := R.lst_ h87
    cases e149
    obtain ⟨p152, w153, e154, h155, hl156⟩ := R.lst_ h145
    cases e154
    obtain ⟨c157, hk⟩ := wp_chk hk
    refine ⟨_, _, _, _, rfl, rfl, (O142.s _ _ h150), (O142.s _ _ h155), (by rw [hl151.len, hl156.len]; exact le_line c157), fun p158 hp159 => ?_⟩
    have hl165 : RL (a := Str) F141 (w148 ++ w153) (([((cutS y36 none (some (y46 % ((y36.length : Int) + (1 : Int))))) ++ (cutS y36 (some ((y46 % ((y36.length : Int) + (1 : Int))) + (1 : Int))) none)), (((cutS y36 none (some (y46 % ((y36.length : Int) + (1 : Int))))) ++ y64) ++ (cutS y36 (some (y46 % ((y36.length : Int) + (1 : Int)))) none)), (((cutS y36 none (some (y46 % ((y36.length : Int) + (1 : Int))))) ++ y64) ++ (cutS y36 (some ((y46 % ((y36.length : Int) + (1 : Int))) + (1 : Int))) none))]) ++ ([(y100 ++ (cutS y36 (some (1 : Int)) none)), (revS y36), (y36 ++ y133)])) := RL.app hl151 hl156
    obtain ⟨F160, O161, S162, h163⟩ := O142.putE hp159 (.lst (w148 ++ w153))
    have f_row := f_row.mono S162
    have hl165 := hl165.mono S162
    have h164 := R.lst (a := Str) h163 hl165
    refine ⟨[some (V.ref p20), some (V.str y36), some (V.int (y46 % ((y36.length : Int) + (1 : Int)))), some (V.str y64), some (V.ref p158)], rfl, _, rfl, (by show 8 ≤ sizeLine; decide), fun p166 hp167 => ?_⟩
    have hl173 : RL (a := Str) F160 ([V.str ("" : Str), V.str ("rule" : Str), V.str ("is" : Str), V.str ("least" : Str), V.str ("sums" : Str), V.str ("set" : Str), V.str ("number" : Str), V.str ("none" : Str)]) ([("" : Str), ("rule" : Str), ("is" : Str), ("least" : Str), ("sums" : Str), ("set" : Str), ("number" : Str), ("none" : Str)]) := RL.cons R.str (RL.cons R.str (RL.cons R.str (RL.cons R.str (RL.cons R.str (RL.cons R.str (RL.cons R.str (RL.cons R.str RL.nil)))))))
    obtain ⟨F168, O169, S170, h171⟩ := O161.putE hp167 (.lst ([V.str ("" : Str), V.str ("rule" : Str), V.str ("is" : Str), V.str ("least" : Str), V.str ("sums" : Str), V.str ("set" : Str), V.str ("number" : Str), V.str ("none" : Str)]))
    have f_row := f_row.mono S170
    have h164 := h164.mono S170
    have hl173 := hl173.mono S170
    have h172 := R.lst (a := Str) h171 hl173
    obtain ⟨p174, w175, e176, h177, hl178⟩ := R.lst_ f_row
    cases e176
    obtain ⟨y179, e180, hk⟩ := wp_opt hk
    obtain ⟨w181, e182, r183⟩ := hl178.atI e180
    obtain rfl := R.int_ r183
    obtain ⟨c184, hk⟩ := wp_chk hk
    obtain ⟨p185, w186, e187, h188, hl189⟩ := R.lst_ h172
    cases e187
    obtain ⟨y190, e191, hk⟩ := wp_opt hk
    obtain ⟨w192, e193, r194⟩ := hl189.atI e191
    obtain rfl := R.str_ r194
    refine ⟨_, rfl, _, _, _, _, rfl, rfl, (SqLF O169.s h177), e182, _, _, rfl, rfl, c184, _, _, _, _, rfl, rfl, (SqLF O169.s h188), e193, (by show 1 ≤ sizeLine; decide), fun p195 hp196 => ?_⟩
    have hl202 : RL (a := Str) F168 ([V.str y190]) ([y190]) := RL.cons R.str RL.nil
    obtain ⟨F197, O198, S199, h200⟩ := O169.putE hp196 (.lst ([V.str y190]))
    have f_row := f_row.mono S199
    have h164 := h164.mono S199
    have hl202 := hl202.mono S199
    have h201 := R.lst (a := Str) h200 hl202
    obtain ⟨p203, w204, e205, h206, hl207⟩ := R.lst_ h164
    cases e205
    obtain ⟨p208, w209, e210, h211, hl212⟩ := R.lst_ h201
    cases e210
    obtain ⟨c213, hk⟩ := wp_chk hk
    refine ⟨_, _, _, _, rfl, rfl, (O198.s _ _ h206), (O198.s _ _ h211), (by rw [hl207.len, hl212.len]; exact le_line c213), fun p214 hp215 => ?_⟩
    have hl221 : RL (a := Str) F197 (w204 ++ w209) ((([((cutS y36 none (some (y46 % ((y36.length : Int) + (1 : Int))))) ++ (cutS y36 (some ((y46 % ((y36.length : Int) + (1 : Int))) + (1 : Int))) none)), (((cutS y36 none (some (y46 % ((y36.length : Int) + (1 : Int))))) ++ y64) ++ (cutS y36 (some (y46 % ((y36.length : Int) + (1 : Int)))) none)), (((cutS y36 none (some (y46 % ((y36.length : Int) + (1 : Int))))) ++ y64) ++ (cutS y36 (some ((y46 % ((y36.length : Int) + (1 : Int))) + (1 : Int))) none))]) ++ ([(y100 ++ (cutS y36 (some (1 : Int)) none)), (revS y36), (y36 ++ y133)])) ++ ([y190])) := RL.app hl207 hl212
    obtain ⟨F216, O217, S218, h219⟩ := O198.putE hp215 (.lst (w204 ++ w209))
    have f_row := f_row.mono S218
    have hl221 := hl221.mono S218
    have h220 := R.lst (a := Str) h219 hl221
    obtain ⟨p222, w223, e224, h225, hl226⟩ := R.lst_ f_row
    cases e224
    obtain ⟨y227, e228, hk⟩ := wp_opt hk
    obtain ⟨w229, e230, r231⟩ := hl226.atI e228
    obtain rfl := R.int_ r231
    obtain ⟨c232, hk⟩ := wp_chk hk
    obtain ⟨p233, w234, e235, h236, hl237⟩ := R.lst_ h220
    cases e235
    obtain ⟨y238, e239, hk⟩ := wp_opt hk
    obtain ⟨w240, e241, r242⟩ := hl237.atI e239
    obtain rfl := R.str_ r242
    refine ⟨[some (V.ref p20), some (V.str y36), some (V.int (y46 % ((y36.length : Int) + (1 : Int)))), some (V.str y64), some (V.ref p214)], rfl, _, rfl, _, rfl, _, _, _, _, rfl, rfl, (SqLF O217.s h225), e230, _, _, rfl, rfl, c232, _, _, _, _, rfl, rfl, (SqLF O217.s h236), e241, ?_⟩
    exact hk _ _  O217.g 
abbrev s_law_kept : Stmt := top 39
theorem sc_law_kept : FnScope ["name", "turn", "found", "part"] ["name"] (defScope s_law_kept) := ⟨rfl, rfl, rfl, by decide +kernel, rfl, by decide +kernel, by decide +kernel⟩
def m_law_kept (x_name : Str) : M (Bool) :=
chk (okR (2 : Int)) >>= fun _ =>
loopM (fun (y1 : Int) (st13 : Unit) =>
m_rule_named x_name >>= fun r18 =>
if ((4 : Nat) : Int) ≠ (4 : Int) then (
.ok (.rt false))
else (
m_is_rule r18 >>= fun r41 =>
if r41 = true then (
compS (fun (y55 : (List Sm)) (st72 : Unit) =>
.ok (some true, ())) ([r18.a, r18.b, r18.c]) () >>= fun q94 =>
if (List.all q94.1 id) = true then (
appL r18.a (Sm.num ("number" : Str) (0 : Int)) >>= fun _ =>
chk (r18.c.length < 16777216) >>= fun _ =>
.ok (.nx ()))
else (
.ok (.rt false)))
else (
.ok (.rt false)))) (rangeL 0 (2 : Int)) () >>= fun f156 => match f156 with
| .rt z_ => .ok z_
| .nx st150 =>
.ok true
def sp_law_kept (mg : Str → Option Value) : Sp := fun vs H Q E => ∃ (F : Hp) (x_name : Str), vs = [V.str x_name] ∧ Pre F [] H ∧
  wp (m_law_kept x_name) (fun r => ∀ (F' H' : Hp), Gr [] F H F' H' → Q (V.bl r) H')
  (fun n => ∀ (C : Addr) (H' : Hp), mg (Str.ofString n) = some (.ref C) → Kp [] H H' → E (.ref C) none H')
set_option maxHeartbeats 20000000 in
theorem ok_law_kept (nb : Nb mg) (C_is_rule : Ca P w K mg base "is_rule" 62 ["thing"] (sp_is_rule mg)) (C_rule_named : Ca P w K mg base "rule_named" 3 ["name"] (sp_rule_named mg)) (D : Df K mg "_law_kept" "_law_kept" s_law_kept ["name"]) : Ca P w K mg base "_law_kept" 63 ["name"] (sp_law_kept mg) := by
  obtain ⟨fa_is_rule, fd_is_rule, G_is_rule, M_is_rule, K_is_rule, B_is_rule⟩ := C_is_rule.ex
  obtain ⟨fa_rule_named, fd_rule_named, G_rule_named, M_rule_named, K_rule_named, B_rule_named⟩ := C_rule_named.ex
  refine Ca.mk' D sc_law_kept (fun vs H Q E h => ?_) (fun q_ f_ cdv A outer s H vs Q E hr h => ?_)
  · obtain ⟨F, _, rfl, _⟩ := h
    rfl
  · obtain ⟨F, x_name, rfl, P0, hk⟩ := h
    have nd := sc_law_kept.nd
    have hu64 := hr.units
    have hu128 := hu128_of hr
    have O := P0.start
    refine ⟨_, (pss_cons (ps_for (passes_of rfl) rfl (pi_range1 rfl nb.b_range (pa_cons pe_int pa_nil)) (pg_name (i := 1) nd rfl (Or.inl rfl)) (pss_cons (ps_toN (ps_set (i := 2) nd rfl (Or.inl rfl) (pe_call G_rule_named (hr.mono (by decide)) rfl M_rule_named K_rule_named B_rule_named .nil (passes_call (takes_of rfl rfl rfl rfl) fun _ _ _ _ h => h) (pa_cons (pv 0) pa_nil))))
  (pss_cons (ps_if (PW.pt (pw_or (pt_not (pt_val (pe_callB (isiK (K := K) rfl) (by rfl) nb.b_isinstance (by decide +kernel) (pa_cons (pv 2) (pa_cons (pe_bltn (v := .ty "tuple") (by rfl) nb.b_tuple (by decide +kernel) rfl) pa_nil))))) (pw_or (pt_cmpR (op_neT Int hu64) (pe_callB call_lenT (by rfl) nb.b_len PySem.boot_len (pa_cons (pv 2) pa_nil)) pe_int (nomark _)) (pw_or1 (pt_not (pt_val (pe_call G_is_rule (hr.mono (by decide)) rfl M_is_rule K_is_rule B_is_rule .nil (passes_call (takes_of rfl rfl rfl rfl) fun _ _ _ _ h => h) (pa_cons (pv 2) pa_nil)))))))) (pss_one (ps_ret pe_bl)) pss_nil)
  (pss_cons (ps_if (PW.pt (pw_or (pt_not (pt_val (pe_callB (cr_allK (K := K) rfl rfl) (by rfl) nb.b_all (by decide +kernel) (pa_cons (pe_lc (own := [("part", 3)]) (g := gName 3) (tt := _) rfl nd (piTupK (K := K) rfl (pe_slice (slTupK (K := K) rfl) (pv 2) po_none (po_some pe_int))) (blkOk_by (own := [("part", 3)]) (N := ["name", "turn", "found", "part"]) (sc := defScope s_law_kept) (by decide +kernel)) (fun _ _ _ _ _ => (pg_name (i := 3) nd rfl (Or.inl rfl))) (fun _ _ _ _ _ => pts_nil) (fun _ _ _ _ _ => (pe_callB (isiK (K := K) rfl) (by rfl) nb.b_isinstance (by decide +kernel) (pa_cons (pv 3) (pa_cons (pe_bltn (v := .ty "list") (by rfl) nb.b_list (by decide +kernel) rfl) pa_nil))))) pa_nil)))) (pw_or1 (pt_not (pt_val (pe_callB (isiK (K := K) rfl) (by rfl) nb.b_isinstance (by decide +kernel) (pa_cons (pe_ix (ixTupK (K := K) rfl) (pv 2) pe_int (fun _ _ => rfl)) (pa_cons (pe_bltn (v := .ty "tuple") (by rfl) nb.b_tuple (by decide +kernel) rfl) pa_nil)))))))) (pss_one (ps_ret pe_bl)) pss_nil)
  (pss_cons (ps_expr (bmK (K := K) rfl (pe_bm PySem.F.plainAttrs_list PySem.F.slot_list_append PySem.F.type_list_append mt_append (pe_ix (ixTupK (K := K) rfl) (pv 2) pe_int (fun _ _ => rfl)) (pa_cons (pe_tup (pa_cons pe_str (pa_cons pe_int pa_nil))) pa_nil))))
  (pss_cons (ps_expr (bm0K (K := K) rfl (pe_bm0 PySem.F.plainAttrs_list PySem.F.slot_list_clear PySem.F.type_list_clear mt_clear (pe_ix (ixTupK (K := K) rfl) (pv 2) pe_int (fun _ _ => rfl)))))
  (pss_one (ps_expr (bmK (K := K) rfl (pe_bm PySem.F.plainAttrs_list PySem.F.slot_list_append PySem.F.type_list_append mt_append (pe_ix (ixTupK (K := K) rfl) (pv 2) pe_int (fun _ _ => rfl)) (pa_cons pe_int pa_nil)))))))))))
  (pss_one (ps_ret pe_bl))), ?_⟩
    obtain ⟨c2, hk⟩ := wp_chk hk
    obtain ⟨L3, hL4, hLs5, hLd6⟩ := loopM_L hk
    refine ⟨_, rfl, c2.lo, c2.hi, ?_⟩
    refine for_range (lo := 0) (n := ((2 : Int)).toNat) (fun i σ H_ => ∃ (F_ : Hp) (st : Unit) (t_0 : Option V) (t_1 : Option V), σ = [some (V.str x_name), t_0, t_1, none] ∧ Same F F_ ∧ Ow _ F_ [] H_ ∧ L3 (List.drop i (rangeL 0 (2 : Int))) st) ⟨F, (), none, none, rfl, Same.refl _, O, hL4⟩ ?_ ?_
    · rintro i7 sg9 H10 hi11 ⟨F16, st13, t14, t15, rfl, S12, O17, hL4⟩
      rw [rangeL_get0 hi11] at hL4
      have hk := hLs5 _ _ _ hL4
      obtain ⟨y1, he_⟩ : ∃ z_, z_ = 0 + (i7 : Int) := ⟨_, rfl⟩
      try rw [← he_] at hk
      rw [← he_]
      refine ⟨_, rfl, _, _, rfl, O17.pre0, wp_call hk (fun r18 er19 hk F20 H21 g22 v23 r24 fr25 => ?_) (fun n hn C H1 hC kp => hn C H1 hC (O17.kp0 kp))⟩
      have O26 := O17.call0 g22
      have sv27 := S12
      have S_ := g22.f
      have S12 := S12.trans S_
      have Sb28 := S_
      obtain ⟨p29, v32, v33, v34, v35, e30, h31, r36, r37, r38, r39⟩ := R.t4_ r24
      cases e30
      refine ⟨[some (V.str x_name), some (V.int y1), some (V.ref p29), none], rfl, _, rfl, _, _, _, _, true, rfl, .ty _, (.base (.tup (O26.s _ _ h31))), kit_ty (by decide +kernel), _, rfl, ?_⟩
      refine iteNT ?_
      refine ⟨_, rfl, _, _, _, rfl, (.inr (O26.s _ _ h31)), rfl, _, _, R.int, R.int, _, rfl, ?_⟩
      refine iteD (fun q40 => ?_) (fun q40 => ?_)
      · have hk := wp_if hk q40
        refine iteT ?_
        exact hk _ _  O26.g 
      · have hk := wp_el hk q40
        refine ⟨_, rfl, _, _, _, rfl, O26.pre0, r24, wp_call hk (fun r41 er42 hk F43 H44 g45 => ?_) (fun n hn C H1 hC kp => hn C H1 hC (O26.kp0 kp))⟩
        have O46 := O26.call0 g45
        have S_ := g45.f
        have S12 := S12.trans S_
        have Sb28 := Sb28.trans S_
        have fr25 := fr25.mono S_
        have r24 := r24.mono S_
        have h31 := S_ _ _ h31
        have r36 := r36.mono S_
        have r37 := r37.mono S_
        have r38 := r38.mono S_
        have r39 := r39.mono S_
        refine ⟨_, rfl, ?_⟩
        refine iteBN (fun q47 => ?_) (fun q47 => ?_)
        · have hk := wp_if hk q47
          refine ⟨_, rfl, _, rfl, _, _, rfl, (SqTF O46.s h31), (sl43 _ _ _ _), fun p48 hp49 => ?_⟩
          obtain ⟨F50, O51, S52, h53⟩ := O46.putE hp49 (.tup [v32, v33, v34])
          have S12 := S12.trans S52
          have Sb28 := Sb28.trans S52
          have fr25 := fr25.mono S52
          have r24 := r24.mono S52
          have h31 := S52 _ _ h31
          have r36 := r36.mono S52
          have r37 := r37.mono S52
          have r38 := r38.mono S52
          have r39 := r39.mono S52
          have hl54 : RL (a := (List Sm)) F50 [v32, v33, v34] [r18.a, r18.b, r18.c] := RL.cons r36 (RL.cons r37 (RL.cons r38 RL.nil))
          obtain ⟨c60, L56, hL57, hLs58, hLd59⟩ := compS_L hk
          refine ⟨_, rfl, ⟨_, (SqTF O51.s h53)⟩, fun p61 hp62 => ?_⟩
          have z83 := O51.was hp62
          refine lc_tup (K := K) (xs := [v32, v33, v34]) (fun i H => ∃ (F_ : Hp) (st : Unit) (acc : List Bool) (wa : List V), Same F50 F_ ∧ Ow _ F_ [(p61, .lst wa)] H ∧ RL F_ wa acc ∧ wa.length ≤ i ∧ L56 (List.drop i ([r18.a, r18.b, r18.c])) acc st) ⟨F50, (), [], [], Same.refl _, O51.new hp62, RL.nil, Nat.zero_le _, hL57⟩ (fun i_ H_ _ hp_ => ?_) ?_ ?_
          · obtain ⟨_, _, _, _, hS_, hO_, _⟩ := hp_
            exact SqTF hO_.s (hS_ _ _ h53)
          · rintro i63 x64 H65 hi66 ⟨F71, st72, acc68, wa69, S73, O75, hl74, la70, hL57⟩
            have hl54 := hl54.mono S73
            obtain ⟨y55, e76, r77⟩ := RL.got hl54 hi66
            rw [drop_at e76] at hL57
            have hk := hLs58 _ _ _ _ hL57
            refine ⟨rfl, ?_⟩
            obtain ⟨p78, w79, e80, h81, hl82⟩ := R.lst_ r77
            cases e80
            refine ⟨_, rfl, _, _, _, _, true, rfl, .ty _, (.base (.lst (O75.s _ _ h81))), kit_ty (by decide +kernel), _, (O75.at 0 rfl), (comp_len la70 hi66 hl54.len c60), ?_⟩
            exact ⟨F71, (), acc68 ++ [true], wa69 ++ [V.bl true], S73, O75.set 0 (.lst (wa69 ++ [V.bl true])) rfl, RL.snoc hl74 R.bl, by rw [List.length_append]; exact Nat.succ_le_succ la70, hk⟩
          rintro H84 ⟨F85, st86, acc87, wa88, S89, O90, hl91, la92, hL93⟩
          rw [drop_end hl54.len] at hL93
          have hk := hLd59 _ _ hL93
          have S12 := S12.trans S89
          have Sb28 := Sb28.trans S89
          have fr25 := fr25.mono S89
          have r24 := r24.mono S89
          have h31 := S89 _ _ h31
          have r39 := r39.mono S89
          obtain ⟨F95, O96, S97, h98⟩ := O90.frzE 0 rfl z83
          have S12 := S12.trans S97
          have Sb28 := Sb28.trans S97
          have fr25 := fr25.mono S97
          have r24 := r24.mono S97
          have h31 := S97 _ _ h31
          have r39 := r39.mono S97
          have hl91 := hl91.mono S97
          have h99 := R.lst (a := Bool) h98 hl91
          obtain ⟨p100, w101, e102, h103, hl104⟩ := R.lst_ h99
          cases e102
          refine ⟨_, acc87, rfl, (by rw [← RL.bools hl104]; exact (SqLF O96.s h103)), _, rfl, ?_⟩
          refine iteBN (fun q105 => ?_) (fun q105 => ?_)
          · have hk := wp_if hk q105
            obtain ⟨p106, w107, e108, h109⟩ := R.sm_ r39
            cases e108
            refine ⟨_, rfl, _, _, _, _, rfl, rfl, (SqTF O96.s h31), rfl, _, _, _, _, true, rfl, .ty _, (ty_tup h109 O96.s), kit_ty (by decide +kernel), _, rfl, ?_⟩
            refine iteNT ?_
            obtain ⟨p110, p111, p112, p113, u114, w115, w116, w117, F118, e119, O120, S121, h122, hl123, hl124, hl125⟩ := Ow.thawR O96 O17 Sb28 fr25 r24
            cases e119
            have S12 := sv27
            have S12 := S12.trans S121
            refine ⟨_, rfl, _, _, _, _, rfl, rfl, (SqTF O120.s h122), rfl, (.inl ⟨rfl, _, SqL.of (O120.at 0 rfl)⟩), (by show 2 ≤ sizeLine; decide), fun p129 hp130 => ?_⟩
            obtain ⟨F131, O132, S133, h134⟩ := O120.putE hp130 (.tup [V.str ("number" : Str), V.int (0 : Int)])
            have S12 := S12.trans S133
            have hl123 := hl123.mono S133
            have hl125 := hl125.mono S133
            have h122 := S133 _ _ h122
            obtain ⟨c136, hk⟩ := wp_appL hk
            refine ⟨_, _, _, rfl, rfl, (O132.at 0 rfl), (by rw [hl123.len]; exact c136), ?_⟩
            have O138 := O132.set 0 (.lst (w115 ++ [V.ref p129])) rfl
            refine ⟨_, rfl, _, _, _, _, rfl, rfl, (SqTF O138.s h122), rfl, (.inl ⟨rfl, _, SqL.of (O138.at 1 rfl)⟩), _, _, rfl, rfl, (O138.at 1 rfl), ?_⟩
            have O140 := O138.set 1 (.lst ([])) rfl
            obtain ⟨c142, hk⟩ := wp_chk hk
            refine ⟨_, rfl, _, _, _, _, rfl, rfl, (SqTF O140.s h122), rfl, (.inl ⟨rfl, _, SqL.of (O140.at 2 rfl)⟩), _, _, _, rfl, rfl, (O140.at 2 rfl), (by rw [hl125.len]; exact lt_line c142), ?_⟩
            have O143 := O140.set 2 (.lst (w117 ++ [V.int (0 : Int)])) rfl
            have O144 := O143.drop 0
            have O145 := O144.drop 0
            have O146 := O145.drop 0
            exact ⟨F131, (), some (V.int y1), some (V.ref p29), rfl, S12, O146, hk⟩
          · have hk := wp_el hk q105
            refine iteT ?_
            exact hk _ _  O96.g 
        · have hk := wp_el hk q47
          exact hk _ _  O46.g 
    rintro sg147 H148 ⟨F154, st150, t152, t153, rfl, S149, O155, hL151⟩
    rw [rangeL_end0] at hL151
    have hk := hLd6 _ hL151
    exact hk _ _  O155.g 
abbrev s_law : Stmt := top 40
theorem sc_law : FnScope ["script", "turn", "cell", "names", "name"] ["script"] (defScope s_law) := ⟨rfl, rfl, rfl, by decide +kernel, rfl, by decide +kernel, by decide +kernel⟩
def m_law (x_script : (List Int)) : M (Bool) :=
chk (okR (2 : Int)) >>= fun _ =>
loopM (fun (y1 : Int) (st13 : Unit) =>
m_rule_names  >>= fun r19 =>
m_law_names  >>= fun r33 =>
if r19 ≠ r33 then (
.ok (.rt false))
else (
appL r19 ("" : Str) >>= fun _ =>
.ok (.nx ()))) (rangeL 0 (2 : Int)) () >>= fun f67 => match f67 with
| .rt z_ => .ok z_
| .nx st61 =>
m_law_names  >>= fun r68 =>
compS (fun (y92 : Str) (st109 : Unit) =>
m_law_kept y92 >>= fun r115 =>
.ok (some r115, ())) r68 () >>= fun q132 =>
if (List.all q132.1 id) = true then (
m_law_cell_at x_script (0 : Int) >>= fun r152 =>
chk ((cutL x_script (some (1 : Int)) (some (30 : Int))).length + ([r152]).length < 16777216) >>= fun _ =>
loopM (fun (y190 : Int) (st201 : Unit) =>
m_law_numbers y190 (5 : Int) (720720 : Int) >>= fun r208 =>
m_law_other r208 >>= fun r227 =>
m_law_names  >>= fun r233 =>
if r227 ∉ r233 then (
m_law_refused r227 >>= fun r258 =>
if r258 = true then (
m_law_names  >>= fun r265 =>
if r227 ∈ r265 then (
m_rule_named r227 >>= fun r290 =>
m_is_rule r290 >>= fun r299 =>
if r299 = true then (
.ok (.nx ()))
else (
.ok (.rt false)))
else (
.ok (.nx ())))
else (
.ok (.rt false)))
else (
m_law_names  >>= fun r306 =>
if r227 ∈ r306 then (
m_rule_named r227 >>= fun r331 =>
m_is_rule r331 >>= fun r340 =>
if r340 = true then (
.ok (.nx ()))
else (
.ok (.rt false)))
else (
.ok (.nx ())))) ((cutL x_script (some (1 : Int)) (some (30 : Int))) ++ ([r152])) () >>= fun f356 => match f356 with
| .rt z_ => .ok z_
| .nx st350 =>
.ok true)
else (
.ok false)
def sp_law (K : PySem.W.Frag) : Sp := fun vs H Q E => ∃ (F : Hp) (a_script : Addr) (x_script : (List Int)), vs = [.ref a_script] ∧ Pre F [] H ∧ SqL K F a_script (x_script.map V.int) ∧
  wp (m_law x_script) (fun r => ∀ (F' H' : Hp), Gr [] F H F' H' → Q (V.bl r) H') (fun _ => False)
set_option maxHeartbeats 20000000 in
theorem ok_law (nb : Nb mg) (C_law_cell_at : Ca P w K mg base "_law_cell_at" 1 ["script", "k"] (sp_law_cell_at K mg)) (C_law_kept : Ca P w K mg base "_law_kept" 63 ["name"] (sp_law_kept mg)) (C_law_names : Ca P w K mg base "_law_names" 1 [] (sp_law_names mg)) (C_law_numbers : Ca P w K mg base "_law_numbers" 1 ["cell", "many", "base"] (sp_law_numbers mg)) (C_law_other : Ca P w K mg base "_law_other" 2 ["row"] (sp_law_other mg)) (C_law_refused : Ca P w K mg base "_law_refused" 4 ["name"] (sp_law_refused mg)) (C_is_rule : Ca P w K mg base "is_rule" 62 ["thing"] (sp_is_rule mg)) (C_rule_named : Ca P w K mg base "rule_named" 3 ["name"] (sp_rule_named mg)) (C_rule_names : Ca P w K mg base "rule_names" 3 [] (sp_rule_names mg)) {f : Addr} {fd : FuncData} (F_ : Fun K "law" "law" s_law f fd) : FnOk P w K mg base (L2.CX P w) 64 f fd ["script"] (sp_law K) := by
  obtain ⟨fa_law_cell_at, fd_law_cell_at, G_law_cell_at, M_law_cell_at, K_law_cell_at, B_law_cell_at⟩ := C_law_cell_at.ex
  obtain ⟨fa_law_kept, fd_law_kept, G_law_kept, M_law_kept, K_law_kept, B_law_kept⟩ := C_law_kept.ex
  obtain ⟨fa_law_names, fd_law_names, G_law_names, M_law_names, K_law_names, B_law_names⟩ := C_law_names.ex
  obtain ⟨fa_law_numbers, fd_law_numbers, G_law_numbers, M_law_numbers, K_law_numbers, B_law_numbers⟩ := C_law_numbers.ex
  obtain ⟨fa_law_other, fd_law_other, G_law_other, M_law_other, K_law_other, B_law_other⟩ := C_law_other.ex
  obtain ⟨fa_law_refused, fd_law_refused, G_law_refused, M_law_refused, K_law_refused, B_law_refused⟩ := C_law_refused.ex
  obtain ⟨fa_is_rule, fd_is_rule, G_is_rule, M_is_rule, K_is_rule, B_is_rule⟩ := C_is_rule.ex
  obtain ⟨fa_rule_named, fd_rule_named, G_rule_named, M_rule_named, K_rule_named, B_rule_named⟩ := C_rule_named.ex
  obtain ⟨fa_rule_names, fd_rule_names, G_rule_names, M_rule_names, K_rule_names, B_rule_names⟩ := C_rule_names.ex
  refine F_.okX sc_law (fun vs H Q E h => ?_) (fun cdv A outer s H vs Q E hr h => ?_)
  · obtain ⟨F, _, _, rfl, _⟩ := h
    rfl
  · obtain ⟨F, a_script, x_script, rfl, P0, f_script, hk⟩ := h
    have nd := sc_law.nd
    have hu64 := hr.units
    have hu128 := hu128_of hr
    have O := P0.start
    refine ⟨_, (pss_cons (ps_for (passes_of rfl) rfl (pi_range1 rfl nb.b_range (pa_cons pe_int pa_nil)) (pg_name (i := 1) nd rfl (Or.inl rfl)) (pss_cons (ps_toN (ps_set (i := 3) nd rfl (Or.inl rfl) (pe_call0 G_rule_names (hr.mono (by decide)) rfl M_rule_names K_rule_names B_rule_names .nil (passes_call (takes_of rfl rfl rfl rfl) fun _ _ _ _ h => h))))
  (pss_cons (ps_if (PW.pt (pw_or (pt_not (pt_val (pe_callB (isiK (K := K) rfl) (by rfl) nb.b_isinstance (by decide +kernel) (pa_cons (pv 3) (pa_cons (pe_bltn (v := .ty "list") (by rfl) nb.b_list (by decide +kernel) rfl) pa_nil))))) (pw_or1 (pt_cmpR (op_neT (List Str) hu64) (pv 3) (pe_call0 G_law_names (hr.mono (by decide)) rfl M_law_names K_law_names B_law_names .nil (passes_call (takes_of rfl rfl rfl rfl) fun _ _ _ _ h => h)) (nomark _))))) (pss_one (ps_ret pe_bl)) pss_nil)
  (pss_one (ps_expr (bmK (K := K) rfl (pe_bm PySem.F.plainAttrs_list PySem.F.slot_list_append PySem.F.type_list_append mt_append (pv 3) (pa_cons pe_str pa_nil))))))))
  (pss_cons (ps_if (pt_not (pt_val (pe_callB (cr_allK (K := K) rfl rfl) (by rfl) nb.b_all (by decide +kernel) (pa_cons (pe_lc (own := [("name", 4)]) (g := gName 4) (tt := _) rfl nd (piListK (K := K) rfl (pe_call0 G_law_names (hr.mono (by decide)) rfl M_law_names K_law_names B_law_names .nil (passes_call (takes_of rfl rfl rfl rfl) fun _ _ _ _ h => h))) (blkOk_by (own := [("name", 4)]) (N := ["script", "turn", "cell", "names", "name"]) (sc := defScope s_law) (by decide +kernel)) (fun _ _ _ _ _ => (pg_name (i := 4) nd rfl (Or.inl rfl))) (fun _ _ _ _ _ => pts_nil) (fun _ _ _ _ _ => (pe_call G_law_kept (hr.mono (by decide)) rfl M_law_kept K_law_kept B_law_kept .nil passL (pa_cons (pv 4) pa_nil)))) pa_nil)))) (pss_one (ps_ret pe_bl)) pss_nil)
  (pss_cons (ps_for (passes_of rfl) rfl (piListK (K := K) rfl (pe_op op_cat (pe_slice (slListK (K := K) rfl) (pv 0) (po_some pe_int) (po_some pe_int)) (pe_lst (pa_cons (pe_call G_law_cell_at (hr.mono (by decide)) rfl M_law_cell_at K_law_cell_at B_law_cell_at .nil (passes_call (takes_of rfl rfl rfl rfl) fun _ _ _ _ h => h) (pa_cons (pv 0) (pa_cons pe_int pa_nil))) pa_nil)))) (pg_name (i := 2) nd rfl (Or.inl rfl)) (pss_cons (ps_toN (ps_set (i := 4) nd rfl (Or.inl rfl) (pe_call G_law_other (hr.mono (by decide)) rfl M_law_other K_law_other B_law_other .nil (passes_call (takes_of rfl rfl rfl rfl) fun _ _ _ _ h => h) (pa_cons (pe_call G_law_numbers (hr.mono (by decide)) rfl M_law_numbers K_law_numbers B_law_numbers .nil (passes_call (takes_of rfl rfl rfl rfl) fun _ _ _ _ h => h) (pa_cons (pv 2) (pa_cons pe_int (pa_cons pe_int pa_nil)))) pa_nil))))
  (pss_cons (ps_if (PW.pt (pw_and (pt_cmpR (op_ninT Str hu64) (pv 4) (pe_call0 G_law_names (hr.mono (by decide)) rfl M_law_names K_law_names B_law_names .nil (passes_call (takes_of rfl rfl rfl rfl) fun _ _ _ _ h => h)) rfl) (pw_and1 (pt_not (pt_val (pe_call G_law_refused (hr.mono (by decide)) rfl M_law_refused K_law_refused B_law_refused .nil (passes_call (takes_of rfl rfl rfl rfl) fun _ _ _ _ h => h) (pa_cons (pv 4) pa_nil))))))) (pss_one (ps_ret pe_bl)) pss_nil)
  (pss_one (ps_if (PW.pt (pw_and (pt_cmpR (op_inT Str hu64) (pv 4) (pe_call0 G_law_names (hr.mono (by decide)) rfl M_law_names K_law_names B_law_names .nil (passes_call (takes_of rfl rfl rfl rfl) fun _ _ _ _ h => h)) rfl) (pw_and1 (pt_not (pt_val (pe_call G_is_rule (hr.mono (by decide)) rfl M_is_rule K_is_rule B_is_rule .nil (passes_call (takes_of rfl rfl rfl rfl) fun _ _ _ _ h => h) (pa_cons (pe_call G_rule_named (hr.mono (by decide)) rfl M_rule_named K_rule_named B_rule_named .nil (passes_call (takes_of rfl rfl rfl rfl) fun _ _ _ _ h => h) (pa_cons (pv 4) pa_nil)) pa_nil))))))) (pss_one (ps_ret pe_bl)) pss_nil)))))
  (pss_one (ps_ret pe_bl))))), ?_⟩
    obtain ⟨c2, hk⟩ := wp_chk hk
    obtain ⟨L3, hL4, hLs5, hLd6⟩ := loopM_L hk
    refine ⟨_, rfl, c2.lo, c2.hi, ?_⟩
    refine for_range (lo := 0) (n := ((2 : Int)).toNat) (fun i σ H_ => ∃ (F_ : Hp) (st : Unit) (t_0 : Option V) (t_1 : Option V), σ = [some (V.ref a_script), t_0, none, t_1, none] ∧ Same F F_ ∧ Ow _ F_ [] H_ ∧ L3 (List.drop i (rangeL 0 (2 : Int))) st) ⟨F, (), none, none, rfl, Same.refl _, O, hL4⟩ ?_ ?_
    · rintro i7 sg9 H10 hi11 ⟨F16, st13, t14, t15, rfl, S12, O17, hL4⟩
      rw [rangeL_get0 hi11] at hL4
      have hk := hLs5 _ _ _ hL4
      obtain ⟨y1, he_⟩ : ∃ z_, z_ = 0 + (i7 : Int) := ⟨_, rfl⟩
      try rw [← he_] at hk
      rw [← he_]
      refine ⟨_, rfl, O17.pre0, wp_call hk (fun r19 er20 hk F21 H22 g23 p24 w25 hn26 hf27 h28 hl29 => ?_) (fun n hn C H1 hC kp => hn.elim)⟩
      have O30 := O17.call0 g23
      have S_ := g23.f
      have S12 := S12.trans S_
      have O31 := O17.got O30 rfl hn26 hf27 h28
      refine ⟨[some (V.ref a_script), some (V.int y1), none, some (V.ref p24), none], rfl, _, rfl, _, _, _, _, true, rfl, .ty _, (.base (.lst (O31.at 0 rfl))), kit_ty (by decide +kernel), _, rfl, ?_⟩
      refine iteNT ?_
      refine ⟨_, rfl, _, rfl, O31.pre0, wp_call hk (fun r33 er34 hk F35 H36 g37 p38 w39 hn40 hf41 h42 hl43 => ?_) (fun n hn C H1 hC kp => hn.elim)⟩
      have O44 := O31.call0 g37
      have S_ := g37.f
      have S12 := S12.trans S_
      have hl29 := hl29.mono S_
      have O45 := O31.got O44 rfl hn40 hf41 h42
      have z46 := O31.was hn40
      obtain ⟨F47, O48, S49, h50⟩ := O45.frzE 0 rfl z46
      have S12 := S12.trans S49
      have hl29 := hl29.mono S49
      have hl43 := hl43.mono S49
      have h51 := R.lst (a := Str) h50 hl43
      refine ⟨_, _, (R.lst (a := Str) (O48.at 0 rfl) (hl29.mono O48.s)), (R.mono h51 O48.s), _, rfl, ?_⟩
      refine iteD (fun q52 => ?_) (fun q52 => ?_)
      · have hk := wp_if hk q52
        exact hk _ _  O48.g 
      · have hk := wp_el hk q52
        obtain ⟨c53, hk⟩ := wp_appL hk
        refine ⟨_, rfl, (.inl ⟨rfl, _, SqL.of (O48.at 0 rfl)⟩), _, _, _, rfl, rfl, (O48.at 0 rfl), (by rw [hl29.len]; exact c53), ?_⟩
        have O55 := O48.set 0 (.lst (w25 ++ [V.str ("" : Str)])) rfl
        have O57 := O55.drop 0
        exact ⟨F47, (), some (V.int y1), some (V.ref p24), rfl, S12, O57, hk⟩
    rintro sg58 H59 ⟨F65, st61, t63, t64, rfl, S60, O66, hL62⟩
    rw [rangeL_end0] at hL62
    have hk := hLd6 _ hL62
    have f_script := S60.seq f_script
    refine ⟨_, rfl, O66.pre0, wp_call hk (fun r68 er69 hk F70 H71 g72 p73 w74 hn75 hf76 h77 hl78 => ?_) (fun n hn C H1 hC kp => hn.elim)⟩
    have O79 := O66.call0 g72
    have S_ := g72.f
    have f_script := S_.seq f_script
    have O80 := O66.got O79 rfl hn75 hf76 h77
    have z81 := O66.was hn75
    obtain ⟨F82, O83, S84, h85⟩ := O80.frzE 0 rfl z81
    have f_script := S84.seq f_script
    have hl78 := hl78.mono S84
    have h86 := R.lst (a := Str) h85 hl78
    obtain ⟨p87, w88, e89, h90, hl91⟩ := R.lst_ h86
    cases e89
    obtain ⟨c97, L93, hL94, hLs95, hLd96⟩ := compS_L hk
    refine ⟨_, rfl, ⟨_, (SqLF O83.s h90)⟩, fun p98 hp99 => ?_⟩
    have z121 := O83.was hp99
    refine lc_list (K := K) (xs := w88) (fun i H => ∃ (F_ : Hp) (st : Unit) (acc : List Bool) (wa : List V), Same F82 F_ ∧ Ow _ F_ [(p98, .lst wa)] H ∧ RL F_ wa acc ∧ wa.length ≤ i ∧ L93 (List.drop i r68) acc st) ⟨F82, (), [], [], Same.refl _, O83.new hp99, RL.nil, Nat.zero_le _, hL94⟩ (fun i_ H_ _ hp_ => ?_) ?_ ?_
    · obtain ⟨_, _, _, _, hS_, hO_, _⟩ := hp_
      exact SqLF hO_.s (hS_ _ _ h90)
    · rintro i100 x101 H102 hi103 ⟨F108, st109, acc105, wa106, S110, O112, hl111, la107, hL94⟩
      have hl91 := hl91.mono S110
      obtain ⟨y92, e113, r114⟩ := RL.got hl91 hi103
      rw [drop_at e113] at hL94
      have hk := hLs95 _ _ _ _ hL94
      obtain rfl := R.str_ r114
      refine ⟨rfl, ?_⟩
      refine ⟨_, rfl, _, _, rfl, O112.pre0, wp_call hk (fun r115 er116 hk F117 H118 g119 => ?_) (fun n hn => hn.elim)⟩
      have O120 := O112.call0 g119
      have S_ := g119.f
      have hl91 := hl91.mono S_
      have S110 := S110.trans S_
      have hl111 := hl111.mono S_
      refine ⟨_, (O120.at 0 rfl), (comp_len la107 hi103 hl91.len c97), ?_⟩
      exact ⟨F117, (), acc105 ++ [r115], wa106 ++ [V.bl r115], S110, O120.set 0 (.lst (wa106 ++ [V.bl r115])) rfl, RL.snoc hl111 R.bl, by rw [List.length_append]; exact Nat.succ_le_succ la107, hk⟩
    rintro H122 ⟨F123, st124, acc125, wa126, S127, O128, hl129, la130, hL131⟩
    rw [drop_end hl91.len] at hL131
    have hk := hLd96 _ _ hL131
    have f_script := S127.seq f_script
    obtain ⟨F133, O134, S135, h136⟩ := O128.frzE 0 rfl z121
    have f_script := S135.seq f_script
    have hl129 := hl129.mono S135
    have h137 := R.lst (a := Bool) h136 hl129
    obtain ⟨p138, w139, e140, h141, hl142⟩ := R.lst_ h137
    cases e140
    refine ⟨_, acc125, rfl, (by rw [← RL.bools hl142]; exact (SqLF O134.s h141)), _, rfl, ?_⟩
    refine iteBN (fun q143 => ?_) (fun q143 => ?_)
    · have hk := wp_if hk q143
      refine ⟨_, rfl, _, rfl, _, rfl, _, _, rfl, (O134.s.seq f_script), fun p144 hp145 => ?_⟩
      have hl151 : RL (a := Int) F133 (cutV (List.map V.int x_script) (some (1 : Int)) (some (30 : Int))) (cutL x_script (some (1 : Int)) (some (30 : Int))) := RL.cutL (RL.of_ints (H := F133)) (some (1 : Int)) (some (30 : Int))
      obtain ⟨F146, O147, S148, h149⟩ := O134.putE hp145 (.lst (cutV (List.map V.int x_script) (some (1 : Int)) (some (30 : Int))))
      have f_script := S148.seq f_script
      have hl151 := hl151.mono S148
      have h150 := R.lst (a := Int) h149 hl151
      refine ⟨_, rfl, _, _, _, _, rfl, O147.pre0, f_script, wp_call hk (fun r152 er153 hk F154 H155 g156 => ?_) (fun n hn C H1 hC kp => hn.elim)⟩
      have O157 := O147.call0 g156
      have S_ := g156.f
      have h150 := h150.mono S_
      refine ⟨(by show 1 ≤ sizeLine; decide), fun p158 hp159 => ?_⟩
      have hl165 : RL (a := Int) F154 ([V.int r152]) ([r152]) := RL.cons R.int RL.nil
      obtain ⟨F160, O161, S162, h163⟩ := O157.putE hp159 (.lst ([V.int r152]))
      have h150 := h150.mono S162
      have hl165 := hl165.mono S162
      have h164 := R.lst (a := Int) h163 hl165
      obtain ⟨p166, w167, e168, h169, hl170⟩ := R.lst_ h150
      cases e168
      obtain ⟨p171, w172, e173, h174, hl175⟩ := R.lst_ h164
      cases e173
      obtain ⟨c176, hk⟩ := wp_chk hk
      refine ⟨_, _, _, _, rfl, rfl, (O161.s _ _ h169), (O161.s _ _ h174), (by rw [hl170.len, hl175.len]; exact le_line c176), fun p177 hp178 => ?_⟩
      have hl184 : RL (a := Int) F160 (w167 ++ w172) ((cutL x_script (some (1 : Int)) (some (30 : Int))) ++ ([r152])) := RL.app hl170 hl175
      obtain ⟨F179, O180, S181, h182⟩ := O161.putE hp178 (.lst (w167 ++ w172))
      have hl184 := hl184.mono S181
      have h183 := R.lst (a := Int) h182 hl184
      obtain ⟨p185, w186, e187, h188, hl189⟩ := R.lst_ h183
      cases e187
      obtain ⟨L191, hL192, hLs193, hLd194⟩ := loopM_L hk
      refine ⟨_, rfl, ⟨_, (SqLF O180.s h188)⟩, ?_⟩
      refine for_list (K := K) (xs := w186) (fun i σ H_ => ∃ (F_ : Hp) (st : Unit) (t_0 : Option V) (t_1 : Option V), σ = [some (V.ref a_script), t63, t_0, t64, t_1] ∧ Same F179 F_ ∧ Ow _ F_ [] H_ ∧ L191 (List.drop i ((cutL x_script (some (1 : Int)) (some (30 : Int))) ++ ([r152]))) st) ⟨F179, (), none, none, rfl, Same.refl _, O180, hL192⟩ (fun i_ σ_ H_ _ hp_ => ?_) ?_ ?_
      · obtain ⟨_, _, _, _, _, hS_, hO_, _⟩ := hp_
        exact SqLF hO_.s (hS_ _ _ h188)
      · rintro i195 x196 sg197 H198 hi199 ⟨F204, st201, t202, t203, rfl, S200, O205, hL192⟩
        have hl189 := hl189.mono S200
        obtain ⟨y190, e206, r207⟩ := RL.got hl189 hi199
        rw [drop_at e206] at hL192
        have hk := hLs193 _ _ _ hL192
        obtain rfl := R.int_ r207
        refine ⟨_, rfl, _, _, _, _, rfl, O205.pre0, wp_call hk (fun r208 er209 hk F210 H211 g212 p213 w214 hn215 hf216 h217 hl218 => ?_) (fun n hn C H1 hC kp => hn.elim)⟩
        have O219 := O205.call0 g212
        have S_ := g212.f
        have S200 := S200.trans S_
        have O220 := O205.got O219 rfl hn215 hf216 h217
        have z221 := O205.was hn215
        obtain ⟨F222, O223, S224, h225⟩ := O220.frzE 0 rfl z221
        have S200 := S200.trans S224
        have hl218 := hl218.mono S224
        have h226 := R.lst (a := Int) h225 hl218
        refine ⟨_, _, _, rfl, O223.pre0, h226, wp_call hk (fun r227 er228 hk F229 H230 g231 => ?_) (fun n hn C H1 hC kp => hn.elim)⟩
        have O232 := O223.call0 g231
        have S_ := g231.f
        have S200 := S200.trans S_
        refine ⟨[some (V.ref a_script), t63, some (V.int y190), t64, some (V.str r227)], rfl, _, rfl, _, rfl, O232.pre0, wp_call hk (fun r233 er234 hk F235 H236 g237 p238 w239 hn240 hf241 h242 hl243 => ?_) (fun n hn C H1 hC kp => hn.elim)⟩
        have O244 := O232.call0 g237
        have S_ := g237.f
        have S200 := S200.trans S_
        have O245 := O232.got O244 rfl hn240 hf241 h242
        have z246 := O232.was hn240
        obtain ⟨F247, O248, S249, h250⟩ := O245.frzE 0 rfl z246
        have S200 := S200.trans S249
        have hl243 := hl243.mono S249
        have h251 := R.lst (a := Str) h250 hl243
        obtain ⟨p252, w253, e254, h255, hl256⟩ := R.lst_ h251
        cases e254
        refine ⟨_, _, _, _, R.str, rfl, (.inl (O248.s _ _ h255)), (RL.mono (hl256) O248.s), _, rfl, ?_⟩
        refine iteD (fun q257 => ?_) (fun q257 => ?_)
        · have hk := wp_if hk q257
          refine ⟨_, rfl, _, _, rfl, O248.pre0, wp_call hk (fun r258 er259 hk F260 H261 g262 => ?_) (fun n hn C H1 hC kp => hn.elim)⟩
          have O263 := O248.call0 g262
          have S_ := g262.f
          have S200 := S200.trans S_
          refine ⟨_, rfl, ?_⟩
          refine iteBN (fun q264 => ?_) (fun q264 => ?_)
          · have hk := wp_if hk q264
            refine ⟨_, rfl, _, rfl, O263.pre0, wp_call hk (fun r265 er266 hk F267 H268 g269 p270 w271 hn272 hf273 h274 hl275 => ?_) (fun n hn C H1 hC kp => hn.elim)⟩
            have O276 := O263.call0 g269
            have S_ := g269.f
            have S200 := S200.trans S_
            have O277 := O263.got O276 rfl hn272 hf273 h274
            have z278 := O263.was hn272
            obtain ⟨F279, O280, S281, h282⟩ := O277.frzE 0 rfl z278
            have S200 := S200.trans S281
            have hl275 := hl275.mono S281
            have h283 := R.lst (a := Str) h282 hl275
            obtain ⟨p284, w285, e286, h287, hl288⟩ := R.lst_ h283
            cases e286
            refine ⟨_, _, _, _, R.str, rfl, (.inl (O280.s _ _ h287)), (RL.mono (hl288) O280.s), _, rfl, ?_⟩
            refine iteD (fun q289 => ?_) (fun q289 => ?_)
            · have hk := wp_if hk q289
              refine ⟨_, rfl, _, _, rfl, O280.pre0, wp_call hk (fun r290 er291 hk F292 H293 g294 v295 r296 fr297 => ?_) (fun n hn C H1 hC kp => hn.elim)⟩
              have O298 := O280.call0 g294
              have S_ := g294.f
              have S200 := S200.trans S_
              refine ⟨_, _, _, rfl, O298.pre0, r296, wp_call hk (fun r299 er300 hk F301 H302 g303 => ?_) (fun n hn C H1 hC kp => hn.elim)⟩
              have O304 := O298.call0 g303
              have S_ := g303.f
              have S200 := S200.trans S_
              refine ⟨_, rfl, ?_⟩
              refine iteBN (fun q305 => ?_) (fun q305 => ?_)
              · have hk := wp_if hk q305
                exact ⟨F301, (), some (V.int y190), some (V.str r227), rfl, S200, O304, hk⟩
              · have hk := wp_el hk q305
                exact hk _ _  O304.g 
            · have hk := wp_el hk q289
              refine iteF ?_
              exact ⟨F279, (), some (V.int y190), some (V.str r227), rfl, S200, O280, hk⟩
          · have hk := wp_el hk q264
            exact hk _ _  O263.g 
        · have hk := wp_el hk q257
          refine iteF ?_
          refine ⟨_, rfl, _, rfl, O248.pre0, wp_call hk (fun r306 er307 hk F308 H309 g310 p311 w312 hn313 hf314 h315 hl316 => ?_) (fun n hn C H1 hC kp => hn.elim)⟩
          have O317 := O248.call0 g310
          have S_ := g310.f
          have S200 := S200.trans S_
          have O318 := O248.got O317 rfl hn313 hf314 h315
          have z319 := O248.was hn313
          obtain ⟨F320, O321, S322, h323⟩ := O318.frzE 0 rfl z319
          have S200 := S200.trans S322
          have hl316 := hl316.mono S322
          have h324 := R.lst (a := Str) h323 hl316
          obtain ⟨p325, w326, e327, h328, hl329⟩ := R.lst_ h324
          cases e327
          refine ⟨_, _, _, _, R.str, rfl, (.inl (O321.s _ _ h328)), (RL.mono (hl329) O321.s), _, rfl, ?_⟩
          refine iteD (fun q330 => ?_) (fun q330 => ?_)
          · have hk := wp_if hk q330
            refine ⟨_, rfl, _, _, rfl, O321.pre0, wp_call hk (fun r331 er332 hk F333 H334 g335 v336 r337 fr338 => ?_) (fun n hn C H1 hC kp => hn.elim)⟩
            have O339 := O321.call0 g335
            have S_ := g335.f
            have S200 := S200.trans S_
            refine ⟨_, _, _, rfl, O339.pre0, r337, wp_call hk (fun r340 er341 hk F342 H343 g344 => ?_) (fun n hn C H1 hC kp => hn.elim)⟩
            have O345 := O339.call0 g344
            have S_ := g344.f
            have S200 := S200.trans S_
            refine ⟨_, rfl, ?_⟩
            refine iteBN (fun q346 => ?_) (fun q346 => ?_)
            · have hk := wp_if hk q346
              exact ⟨F342, (), some (V.int y190), some (V.str r227), rfl, S200, O345, hk⟩
            · have hk := wp_el hk q346
              exact hk _ _  O345.g 
          · have hk := wp_el hk q330
            refine iteF ?_
            exact ⟨F320, (), some (V.int y190), some (V.str r227), rfl, S200, O321, hk⟩
      rintro sg347 H348 ⟨F354, st350, t352, t353, rfl, S349, O355, hL351⟩
      rw [drop_end hl189.len] at hL351
      have hk := hLd194 _ hL351
      exact hk _ _  O355.g 
    · have hk := wp_el hk q143
      exact hk _ _  O134.g 
end
set_option maxHeartbeats 2000000
/-! ### ranges, cells -/
theorem rangeL_mem {lo hi x : Int} : x ∈ rangeL lo hi ↔ lo ≤ x ∧ x < hi := rangeL_mem'
theorem rangeL_nodup (lo hi : Int) : (rangeL lo hi).Nodup := by
  unfold rangeL
  rw [List.nodup_iff_pairwise_ne, List.pairwise_map]
  exact List.nodup_range.imp fun h e => h (by omega)
theorem mulx_l {i j : Int} (h : -(2 ^ 64) < i) (h2 : i < 2 ^ 64) : CMulX i j := .inl (.inl ⟨h, h2⟩)
theorem mulx_r {i j : Int} (h : -(2 ^ 64) < j) (h2 : j < 2 ^ 64) : CMulX i j := .inl (.inr ⟨h, h2⟩)
theorem cell_ok (s : List Int) (k : Int) (k0 : 0 ≤ k) : ∃ c, m_law_cell_at s k = .ok c := by
  unfold m_law_cell_at
  by_cases h : k < (s.length : Int)
  · rw [if_pos h]
    obtain ⟨x, e, _⟩ := atI_some (xs := s) (j := k) k0 h
    rw [opt_b e]
    exact ⟨x, rfl⟩
  · rw [if_neg h]
    exact ⟨0, rfl⟩
theorem rep0 (m : Int) : repL m [(0 : Int)] = List.replicate m.toNat 0 := by
  unfold repL
  induction m.toNat with
  | zero => rfl
  | succ n ih => rw [List.replicate_succ, List.flatten_cons, ih]; rfl
theorem at_in {xs : List Int} {k : Int} (k0 : 0 ≤ k) (k1 : k < (xs.length : Int)) : ∃ x, L2.atI xs k = some x ∧ x ∈ xs ∧ xs[k.toNat]? = some x := by
  obtain ⟨x, h1, h2⟩ := atI_some (xs := xs) (j := k) k0 k1
  exact ⟨x, h1, List.mem_of_getElem? h2, h2⟩
theorem range_pre {m : Int} {pre post : List Int} {y : Int} (ea : rangeL 0 m = pre ++ y :: post) : (pre.length : Int) = y ∧ 0 ≤ y ∧ y < m := by
  have h1 : (rangeL 0 m)[pre.length]? = some y := by rw [ea, List.getElem?_append_right (Nat.le_refl _), Nat.sub_self]; rfl
  have hlt := (List.getElem?_eq_some_iff.mp h1).1
  rw [rangeL_length] at hlt
  unfold rangeL at h1
  rw [List.getElem?_map, List.getElem?_range (by omega)] at h1
  have : (0 : Int) + (pre.length : Int) = y := Option.some.inj h1
  omega

/-! ### runs, what follows told of -/
theorem loopN_runB {i s b : Type} {f : i → s → M s} {all : List i} {x : s} {k : s → M b} {Q : b → Prop} (P : List i → s → Prop) (h : P [] x) (hs : ∀ pre y post x, all = pre ++ y :: post → P pre x → ∃ x', f y x = .ok x' ∧ P (pre ++ [y]) x') (hk : ∀ x', P all x' → ∃ r, k x' = .ok r ∧ Q r) : ∃ r, (loopN f all x >>= k) = .ok r ∧ Q r := by
  obtain ⟨st, e, g⟩ := loopN_run P h hs
  obtain ⟨r, e2, q⟩ := hk st g
  exact ⟨r, by rw [bind_ok e]; exact e2, q⟩
theorem compS_runB {i s b c : Type} {f : i → s → M (Option c × s)} {all : List i} {x : s} {k : List c × s → M b} {Q : b → Prop} (hl : all.length < 16777216) (P : List i → List c → s → Prop) (h : P [] [] x)
    (hs : ∀ pre y post acc x, all = pre ++ y :: post → P pre acc x → ∃ o x', f y x = .ok (o, x') ∧ P (pre ++ [y]) (match o with
      | some z => acc ++ [z]
      | none => acc) x') (hk : ∀ acc x', P all acc x' → ∃ r, k (acc, x') = .ok r ∧ Q r) : ∃ r, (compS f all x >>= k) = .ok r ∧ Q r := by
  obtain ⟨acc, st, e, g⟩ := compS_run hl P h hs
  obtain ⟨r, e2, q⟩ := hk acc st g
  exact ⟨r, by rw [bind_ok e]; exact e2, q⟩
theorem compS_pureB {i b c : Type} {f : i → Unit → M (Option c × Unit)} {all : List i} {k : List c × Unit → M b} {R : M b} (g : i → Option c) (hl : all.length < 16777216) (hs : ∀ y ∈ all, f y () = .ok (g y, ())) (hk : k (all.filterMap g, ()) = R) : (compS f all () >>= k) = R := by
  rw [bind_ok (compS_pure g hl hs)]
  exact hk
theorem compS_mapB {i b c : Type} {f : i → Unit → M (Option c × Unit)} {all : List i} {k : List c × Unit → M b} {R : M b} (g : i → c) (hl : all.length < 16777216) (hs : ∀ y ∈ all, f y () = .ok (some (g y), ())) (hk : k (all.map g, ()) = R) : (compS f all () >>= k) = R := by
  rw [bind_ok (compS_pure (fun y => some (g y)) hl hs), List.filterMap_eq_map']
  exact hk
theorem loopM_allB {i r b : Type} {f : i → Unit → M (Fl Unit r)} {all : List i} {k : Fl Unit r → M b} {R : M b} (hs : ∀ y ∈ all, f y () = .ok (.nx ())) (hk : k (.nx ()) = R) : (loopM f all () >>= k) = R := by
  rw [bind_ok (loopM_all hs)]
  exact hk
theorem loopM_hit {i r : Type} {f : i → Unit → M (Fl Unit r)} {z : r} {y : i} {post : List i} : ∀ {pre : List i}, (∀ x ∈ pre, f x () = .ok (.nx ())) → f y () = .ok (.rt z) → loopM f (pre ++ y :: post) () = .ok (.rt z)
  | [], _, h => by
    show (f y () >>= _) = _
    rw [bind_ok h]
  | x :: pre, hp, h => by
    show (f x () >>= _) = _
    rw [bind_ok (hp x List.mem_cons_self)]
    exact loopM_hit (fun w hw => hp w (List.mem_cons_of_mem _ hw)) h
theorem ok_of {b : Type} {m : M b} {v : b} (h : ∃ r, m = .ok r ∧ r = v) : m = .ok v := by
  obtain ⟨r, e, q⟩ := h
  rw [e, q]
theorem ex_imp {b : Type} {m : M b} {Q Q2 : b → Prop} (h : ∃ r, m = .ok r ∧ Q2 r) (i : ∀ r, Q2 r → Q r) : ∃ r, m = .ok r ∧ Q r := by
  obtain ⟨r, e, q⟩ := h
  exact ⟨r, e, i r q⟩

/-! ### drawn numbers (of mb3_tree) -/
theorem numbers_ok (c m base : Int) (m0 : 0 ≤ m) (m1 : m ≤ 1000) (t0 : 0 < base) (t1 : base ≤ 10 ^ 40) : ∃ xs, m_law_numbers c m base = .ok xs ∧ (xs.length : Int) = m ∧ ∀ x ∈ xs, 0 ≤ x ∧ x < base := by
  unfold m_law_numbers
  rw [chk_b (show CMulX ((10 : Int) ^ Int.toNat (45 : Int)) ((10 : Int) ^ Int.toNat (45 : Int)) from .inr (cmulW (by decide +kernel) (by decide +kernel))), chk_b (by decide), ret_b, chk_b (show okR m from ⟨by omega, by omega⟩)]
  obtain ⟨C, hC⟩ : ∃ C, C = c % ((10 : Int) ^ Int.toNat (45 : Int) * (10 : Int) ^ Int.toNat (45 : Int)) := ⟨_, rfl⟩
  rw [← hC]
  refine loopN_runB (fun pre st => st.2.length = pre.length ∧ ∀ x ∈ st.2, 0 ≤ x ∧ x < base) ⟨rfl, fun _ z => nomatch z⟩ (fun pre y post ⟨r, xs⟩ ea ⟨g1, g2⟩ => ?_) (fun st ⟨g1, g2⟩ => ?_)
  · have g1 : xs.length = pre.length := g1
    have g2 : ∀ x ∈ xs, 0 ≤ x ∧ x < base := g2
    have hpl : pre.length < (rangeL 0 m).length := by rw [ea]; simp
    rw [rangeL_length] at hpl
    dsimp only
    rw [chk_b (mulx_l (by decide) (by decide)), chk_b (mulx_r (by decide) (by decide)), chk_b (by decide), ret_b]
    have b0 := Int.emod_nonneg ((C + 977 * y + 1) * 48271) (show (2147483647 : Int) ≠ 0 by decide)
    have b1 := Int.emod_lt_of_pos ((C + 977 * y + 1) * 48271) (show (0 : Int) < 2147483647 by decide)
    rw [chk_b (mulx_l (by omega) (by omega)), chk_b (by decide), ret_b, chk_b (mulx_l (by decide) (by decide)), chk_b (mulx_r (by decide) (by decide)), chk_b (by decide), chk_b (cdivW (by decide) (by decide)), ret_b]
    have both : ∀ z : Int, (xs ++ [z % base]).length = (pre ++ [y]).length ∧ ∀ x ∈ xs ++ [z % base], 0 ≤ x ∧ x < base := fun z => by
      refine ⟨by rw [List.length_append, List.length_append, g1]; rfl, fun x hx => ?_⟩
      rcases List.mem_append.mp hx with hx | hx
      · exact g2 x hx
      · rw [List.mem_singleton.mp hx]
        exact ⟨Int.emod_nonneg _ (by omega), Int.emod_lt_of_pos _ t0⟩
    by_cases hc : ((10 : Int) ^ Int.toNat (18 : Int)) ≤ C
    · rw [if_pos hc]
      exact ⟨_, by rw [chk_b (cdivW t0 t1), chk_b t0, bind_ok (appL_ok (by omega))], both r⟩
    · rw [if_neg hc]
      exact ⟨_, by rw [chk_b t0, bind_ok (appL_ok (by omega))], both _⟩
  · rw [rangeL_length] at g1
    exact ⟨st.2, rfl, by omega, g2⟩

/-! ### k25 -/
def six : List Str := [("apart" : Str), ("best" : Str), ("farthest" : Str), ("piece" : Str), ("pieces" : Str), ("sum" : Str)]
theorem names_ok : m_law_names = .ok six := rfl
def testR (name : Str) : Bool := match m_rule_named name with
  | .ok r => (match m_is_rule r with
    | .ok b => b && decide (r.a.length < 10 ∧ r.c.length < 10)
    | .error _ => false)
  | .error _ => false
theorem six_test : ∀ name ∈ six, testR name = true := by decide +kernel
theorem six_rule {name : Str} (h : name ∈ six) : ∃ r, m_rule_named name = .ok r ∧ m_is_rule r = .ok true ∧ r.a.length < 10 ∧ r.c.length < 10 := by
  have t := six_test name h
  unfold testR at t
  cases e : m_rule_named name with
  | error z => rw [e] at t; exact nomatch t
  | ok r =>
    rw [e] at t
    have t : (match m_is_rule r with
      | .ok b => b && decide (r.a.length < 10 ∧ r.c.length < 10)
      | .error _ => false) = true := t
    cases e2 : m_is_rule r with
    | error z => rw [e2] at t; exact nomatch t
    | ok b =>
      rw [e2] at t
      have t : (b && decide (r.a.length < 10 ∧ r.c.length < 10)) = true := t
      rw [Bool.and_eq_true] at t
      obtain ⟨t1, t2⟩ := t
      rw [t1] at e2
      exact ⟨r, rfl, e2, of_decide_eq_true t2⟩
theorem keys_ok : ∃ D, m_all_rules = .ok D ∧ D.map (·.1) = [("farthest" : Str), ("sum" : Str), ("apart" : Str), ("best" : Str), ("piece" : Str), ("pieces" : Str)] := ⟨_, rfl, by decide +kernel⟩
theorem leT_str (x y : Str) : leT x y = true ↔ x.cps.toList ≤ y.cps.toList := by
  show (!decide (y.cps.toList < x.cps.toList)) = true ↔ ¬ (y.cps.toList < x.cps.toList)
  rw [Bool.not_eq_true', decide_eq_false_iff_not]
instance : LeOk Str where
  tr x y z h1 h2 := by
    rw [leT_str] at h1 h2 ⊢
    exact List.le_trans h1 h2
  tot x y := by
    rw [Bool.or_eq_true, leT_str, leT_str]
    exact List.le_total _ _
  anti x y h1 h2 := by
    rw [leT_str] at h1 h2
    exact TL.ext_tl (List.le_antisymm h1 h2)
theorem names_told : m_rule_names = .ok six := by
  obtain ⟨D, e, k⟩ := keys_ok
  unfold m_rule_names
  rw [bind_ok e]
  refine congrArg Except.ok ?_
  have k : List.map (fun (kv : Str × (T4 (List Sm) (List Sm) (List Sm) Sm)) => kv.1) D = [("farthest" : Str), ("sum" : Str), ("apart" : Str), ("best" : Str), ("piece" : Str), ("pieces" : Str)] := k
  rw [k]
  have p : [("farthest" : Str), ("sum" : Str), ("apart" : Str), ("best" : Str), ("piece" : Str), ("pieces" : Str)].Perm six := by decide +kernel
  have s : six.Pairwise fun x y => leT x y = true := by decide +kernel
  rw [sortT_eq p]
  exact sortT_id s
theorem none_ok {name : Str} (h : name ∉ six) : m_law_refused name = .ok true := by
  obtain ⟨D, e, k⟩ := keys_ok
  have hk : name ∉ D.map (·.1) := by
    rw [k]
    intro hm
    refine h ?_
    simp only [List.mem_cons, List.not_mem_nil, or_false] at hm
    unfold six
    rcases hm with e | e | e | e | e | e <;> rw [e] <;> simp
  have hd : dHas D name = false := by
    unfold dHas dGet
    have : D.find? (fun p => decide (p.1 = name)) = none := List.find?_eq_none.mpr fun p hp => by
      rw [decide_eq_true_iff]
      exact fun e => hk (List.mem_map.mpr ⟨p, hp, e⟩)
    rw [this]
    rfl
  have er : m_rule_named name = raise "NoName" := by
    unfold m_rule_named
    rw [bind_ok e, hd]
    rfl
  unfold m_law_refused
  rw [er]
  show (appL ([true, true]) false >>= _) = _
  rw [bind_ok (appL_ok (by decide))]
  exact congrArg Except.ok (decide_eq_true rfl)
theorem kept_ok {name : Str} (h : name ∈ six) : m_law_kept name = .ok true := by
  obtain ⟨r, e1, e2, l1, l2⟩ := six_rule h
  unfold m_law_kept
  rw [chk_b (by decide)]
  refine loopM_allB (fun y _ => ?_) rfl
  rw [bind_ok e1, if_neg (fun z => z rfl), bind_ok e2, if_pos rfl]
  refine compS_mapB (fun _ => true) (by show 3 < _; decide) (fun _ _ => rfl) ?_
  refine (if_pos (show (List.all [true, true, true] id) = true from rfl)).trans ?_
  rw [bind_ok (appL_ok (by omega)), chk_b (by omega)]
theorem six_len : ∀ name ∈ six, name.length ≤ 8 ∧ (revS name).length ≤ 8 := by decide +kernel
theorem sg_len {s y : Str} {i : Int} (h : L2.atI (sgL s) i = some y) : y.length = 1 := by
  obtain ⟨c, _, e⟩ := atI_sgL h
  rw [e]
  rfl
theorem app_len (x y : Str) : (x ++ y).length = x.length + y.length := by rw [TL.len_tl, TL.len_tl, TL.len_tl, TL.tl_append, List.length_append]
theorem other_ok {row : List Int} (rl : (row.length : Int) = 5) (hr : ∀ x ∈ row, 0 ≤ x ∧ x < 720720) : ∃ s, m_law_other row = .ok s := by
  have at_ : ∀ k : Int, 0 ≤ k → k < 5 → ∃ x, L2.atI row k = some x ∧ 0 ≤ x := fun k k0 k1 => by
    obtain ⟨x, e, m, _⟩ := at_in (xs := row) k0 (by omega)
    exact ⟨x, e, (hr x m).1⟩
  have pick : ∀ {a : Type} (xs : List a) (n : Int) (x : Int), (xs.length : Int) = n → 0 < n → ∃ y, L2.atI xs (x % n) = some y ∧ y ∈ xs := fun xs n x hn n0 => by
    obtain ⟨y, e, m⟩ := atI_some (xs := xs) (j := x % n) (Int.emod_nonneg _ (by omega)) (by rw [hn]; exact Int.emod_lt_of_pos _ n0)
    exact ⟨y, e, List.mem_of_getElem? m⟩
  obtain ⟨y0, e0, _⟩ := at_ 0 (by decide) (by decide)
  obtain ⟨y1, e1, _⟩ := at_ 1 (by decide) (by decide)
  obtain ⟨y2, e2, _⟩ := at_ 2 (by decide) (by decide)
  obtain ⟨y3, e3, _⟩ := at_ 3 (by decide) (by decide)
  obtain ⟨y4, e4, _⟩ := at_ 4 (by decide) (by decide)
  obtain ⟨name, f0, m0⟩ := pick six 6 y0 rfl (by decide)
  obtain ⟨sgn, f2, _⟩ := pick (sgL ("abcdefghijklmnopqrstuvwxyz ABCS\n-" : Str)) 33 y2 (by decide +kernel) (by decide)
  obtain ⟨cap, f1, _⟩ := pick (sgL ("ABFPS" : Str)) 5 y1 (by decide +kernel) (by decide)
  obtain ⟨tail, f3, m3⟩ := pick [("s" : Str), (" " : Str), ("\n" : Str), ("" : Str)] 4 y3 rfl (by decide)
  obtain ⟨word, f5, _⟩ := pick [("" : Str), ("rule" : Str), ("is" : Str), ("least" : Str), ("sums" : Str), ("set" : Str), ("number" : Str), ("none" : Str)] 8 y3 rfl (by decide)
  have nl := six_len name m0
  have sl := sg_len f2
  have cl := sg_len f1
  have tl3 : ∀ s ∈ [("s" : Str), (" " : Str), ("\n" : Str), ("" : Str)], s.length ≤ 1 := by decide +kernel
  have tl := tl3 tail m3
  have cs : ∀ lo hi, (cutS name lo hi).length ≤ 8 := fun lo hi => Nat.le_trans (cutS_length name lo hi) nl.1
  have c1 := cs none (some (y1 % ((name.length : Int) + (1 : Int))))
  have c2 := cs (some ((y1 % ((name.length : Int) + (1 : Int))) + (1 : Int))) none
  have c3 := cs (some (y1 % ((name.length : Int) + (1 : Int)))) none
  have c4 := cs (some (1 : Int)) none
  have n0 : name.length ≤ 16777216 := by omega
  unfold m_law_other
  rw [bind_ok names_ok, opt_b e0, chk_b (by decide), opt_b f0, opt_b e1, chk_b n0, chk_b (by omega), opt_b e2, chk_b (by decide), chk_b (by decide +kernel), opt_b f2, chk_b n0, chk_b n0, chk_b (by omega), chk_b n0, chk_b (by omega), chk_b n0, chk_b (by simp only [app_len]; omega), chk_b n0, chk_b (by omega), chk_b n0, chk_b (by simp only [app_len]; omega), opt_b e1, chk_b (by decide), chk_b (by decide +kernel), opt_b f1, chk_b n0, chk_b (by omega), chk_b (by omega), opt_b e3, chk_b (by decide), opt_b f3, chk_b (by omega), chk_b (by show 3 + 3 < 16777216; decide), opt_b e3, chk_b (by decide), opt_b f5, chk_b (by show 6 + 1 < 16777216; decide), opt_b e4, chk_b (by decide)]
  obtain ⟨s, fs, _⟩ := pick ((([((cutS name none (some (y1 % ((name.length : Int) + (1 : Int))))) ++ (cutS name (some ((y1 % ((name.length : Int) + (1 : Int))) + (1 : Int))) none)), (((cutS name none (some (y1 % ((name.length : Int) + (1 : Int))))) ++ sgn) ++ (cutS name (some (y1 % ((name.length : Int) + (1 : Int)))) none)), (((cutS name none (some (y1 % ((name.length : Int) + (1 : Int))))) ++ sgn) ++ (cutS name (some ((y1 % ((name.length : Int) + (1 : Int))) + (1 : Int))) none))]) ++ ([(cap ++ (cutS name (some (1 : Int)) none)), (revS name), (name ++ tail)])) ++ ([word])) 7 y4 rfl (by decide)
  exact ⟨s, by rw [opt_b fs]⟩
theorem cut_le {a : Type} (xs : List a) (lo hi : Option Int) : (cutL xs lo hi).length ≤ xs.length := by
  unfold cutL
  rw [List.length_take, List.length_drop]
  omega
theorem law_true (ns : List Int) (h : ns.length ≤ 63) : m_law ns = .ok true := by
  obtain ⟨c0, f0⟩ := cell_ok ns 0 (by decide)
  have cl := cut_le ns (some (1 : Int)) (some (30 : Int))
  unfold m_law
  rw [chk_b (by decide)]
  refine loopM_allB (fun y _ => ?_) ?_
  · rw [bind_ok names_told, bind_ok names_ok, if_neg (fun z => z rfl), bind_ok (appL_ok (by decide))]
  dsimp only
  rw [bind_ok names_ok]
  refine compS_mapB (fun _ => true) (by decide) (fun y hy => by rw [bind_ok (kept_ok hy)]) ?_
  dsimp only
  rw [if_pos (by decide), bind_ok f0, chk_b (by rw [List.length_singleton]; omega)]
  refine loopM_allB (fun y _ => ?_) rfl
  obtain ⟨row, e1, rl, rb⟩ := numbers_ok y 5 720720 (by decide) (by decide) (by decide) (by decide)
  obtain ⟨s, e2⟩ := other_ok rl rb
  rw [bind_ok e1, bind_ok e2, bind_ok names_ok]
  by_cases q : s ∈ six
  · obtain ⟨r, g1, g2, _⟩ := six_rule q
    rw [if_neg (fun z => z q), bind_ok names_ok, if_pos q, bind_ok g1, bind_ok g2, if_pos rfl]
  · rw [if_pos q, bind_ok (none_ok q), if_pos rfl, bind_ok names_ok, if_neg q]

theorem all_mk {P : Program} {w : World} {K : PySem.W.Frag} {h : Heap} {mg : Str → Option Value} {fa f1 f2 f3 f4 f5 f6 f7 f8 f9 f10 f11 f12 f13 f14 f15 f16 f17 f18 C_NoName C_SeatError C_NoLength C_NoOrder C_NoPaper C_NoPlace C_NoRule C_NoText C_NoTie C_NoTree : Addr} {od1 an1 od2 an2 od3 an3 od4 an4 od5 an5 od6 an6 od7 an7 od8 an8 od9 an9 od10 an10 od11 an11 od12 an12 od13 an13 od14 an14 od15 an15 od16 an16 od17 an17 od18 an18 : Option Addr} {sl1 sl2 sl3 sl4 sl5 sl6 sl7 sl8 sl9 sl10 sl11 sl12 sl13 sl14 sl15 sl16 sl17 sl18 : Array (Option Value)} {oc1 kV1 dc1 pm1 cd1 ct1 oc2 kV2 dc2 pm2 cd2 ct2 oc3 kV3 dc3 pm3 cd3 ct3 oc4 kV4 dc4 pm4 cd4 ct4 oc5 kV5 dc5 pm5 cd5 ct5 oc6 kV6 dc6 pm6 cd6 ct6 oc7 kV7 dc7 pm7 cd7 ct7 oc8 kV8 dc8 pm8 cd8 ct8 oc9 kV9 dc9 pm9 cd9 ct9 oc10 kV10 dc10 pm10 cd10 ct10 oc11 kV11 dc11 pm11 cd11 ct11 oc12 kV12 dc12 pm12 cd12 ct12 oc13 kV13 dc13 pm13 cd13 ct13 oc14 kV14 dc14 pm14 cd14 ct14 oc15 kV15 dc15 pm15 cd15 ct15 oc16 kV16 dc16 pm16 cd16 ct16 oc17 kV17 dc17 pm17 cd17 ct17 oc18 kV18 dc18 pm18 cd18 ct18 : Value} {tk_MOST : Tok} {at_MORE : Addr} {do_MORE : Option Addr} {nn_MORE : Nat} {so_MORE : Array (Option Value)} {tw_MORE : Tok} {tn_MORE : Tok} {at_MORE_MORE : Addr} {do_MORE_MORE : Option Addr} {nn_MORE_MORE : Nat} {so_MORE_MORE : Array (Option Value)} {tw_MORE_MORE : Tok} {tn_MORE_MORE : Tok} {at_NOUGHT : Addr} {do_NOUGHT : Option Addr} {nn_NOUGHT : Nat} {so_NOUGHT : Array (Option Value)} {tw_NOUGHT : Tok} {tn_NOUGHT : Tok} {at_ONE : Addr} {do_ONE : Option Addr} {nn_ONE : Nat} {so_ONE : Array (Option Value)} {tw_ONE : Tok} {tn_ONE : Tok} {at_OWN : Addr} {do_OWN : Option Addr} {nn_OWN : Nat} {so_OWN : Array (Option Value)} {tw_OWN : Tok} {at_SO : Addr} {do_SO : Option Addr} {nn_SO : Nat} {so_SO : Array (Option Value)} {tw_SO : Tok} {tn_SO : Tok} {at_SO_MORE : Addr} {do_SO_MORE : Option Addr} {nn_SO_MORE : Nat} {so_SO_MORE : Array (Option Value)} {tw_SO_MORE : Tok} {tn_SO_MORE : Tok} {at_TIE : Addr} {do_TIE : Option Addr} {nn_TIE : Nat} {so_TIE : Array (Option Value)} {tw_TIE : Tok} (X : K.In h) (G : h.Ns mainGlobals mg) (hfa : mg "law" = some (.ref fa))
    (a1 : PySem.W.nsIn K mainGlobals "farthest_rule" = some (some (.ref f1))) (l1 : K.lookup f1 = some ⟨oc1, od1, .func (PySem.W.fnOf "farthest_rule" "farthest_rule" (defArgs s_farthest_rule) (defBody s_farthest_rule) (defScope s_farthest_rule) .none kV1 dc1 pm1 an1 cd1 ct1), sl1⟩) (c1 : PySem.W.codeIn K cd1 "farthest_rule" = true) (k1 : PySem.W.keepIn K (.ref f1) = true)
    (a2 : PySem.W.nsIn K mainGlobals "sum_rule" = some (some (.ref f2))) (l2 : K.lookup f2 = some ⟨oc2, od2, .func (PySem.W.fnOf "sum_rule" "sum_rule" (defArgs s_sum_rule) (defBody s_sum_rule) (defScope s_sum_rule) .none kV2 dc2 pm2 an2 cd2 ct2), sl2⟩) (c2 : PySem.W.codeIn K cd2 "sum_rule" = true) (k2 : PySem.W.keepIn K (.ref f2) = true)
    (a3 : PySem.W.nsIn K mainGlobals "apart_rule" = some (some (.ref f3))) (l3 : K.lookup f3 = some ⟨oc3, od3, .func (PySem.W.fnOf "apart_rule" "apart_rule" (defArgs s_apart_rule) (defBody s_apart_rule) (defScope s_apart_rule) .none kV3 dc3 pm3 an3 cd3 ct3), sl3⟩) (c3 : PySem.W.codeIn K cd3 "apart_rule" = true) (k3 : PySem.W.keepIn K (.ref f3) = true)
    (a4 : PySem.W.nsIn K mainGlobals "best_rule" = some (some (.ref f4))) (l4 : K.lookup f4 = some ⟨oc4, od4, .func (PySem.W.fnOf "best_rule" "best_rule" (defArgs s_best_rule) (defBody s_best_rule) (defScope s_best_rule) .none kV4 dc4 pm4 an4 cd4 ct4), sl4⟩) (c4 : PySem.W.codeIn K cd4 "best_rule" = true) (k4 : PySem.W.keepIn K (.ref f4) = true)
    (a5 : PySem.W.nsIn K mainGlobals "piece_rule" = some (some (.ref f5))) (l5 : K.lookup f5 = some ⟨oc5, od5, .func (PySem.W.fnOf "piece_rule" "piece_rule" (defArgs s_piece_rule) (defBody s_piece_rule) (defScope s_piece_rule) .none kV5 dc5 pm5 an5 cd5 ct5), sl5⟩) (c5 : PySem.W.codeIn K cd5 "piece_rule" = true) (k5 : PySem.W.keepIn K (.ref f5) = true)
    (a6 : PySem.W.nsIn K mainGlobals "pieces_rule" = some (some (.ref f6))) (l6 : K.lookup f6 = some ⟨oc6, od6, .func (PySem.W.fnOf "pieces_rule" "pieces_rule" (defArgs s_pieces_rule) (defBody s_pieces_rule) (defScope s_pieces_rule) .none kV6 dc6 pm6 an6 cd6 ct6), sl6⟩) (c6 : PySem.W.codeIn K cd6 "pieces_rule" = true) (k6 : PySem.W.keepIn K (.ref f6) = true)
    (a7 : PySem.W.nsIn K mainGlobals "all_rules" = some (some (.ref f7))) (l7 : K.lookup f7 = some ⟨oc7, od7, .func (PySem.W.fnOf "all_rules" "all_rules" (defArgs s_all_rules) (defBody s_all_rules) (defScope s_all_rules) .none kV7 dc7 pm7 an7 cd7 ct7), sl7⟩) (c7 : PySem.W.codeIn K cd7 "all_rules" = true) (k7 : PySem.W.keepIn K (.ref f7) = true)
    (a8 : PySem.W.nsIn K mainGlobals "rule_named" = some (some (.ref f8))) (l8 : K.lookup f8 = some ⟨oc8, od8, .func (PySem.W.fnOf "rule_named" "rule_named" (defArgs s_rule_named) (defBody s_rule_named) (defScope s_rule_named) .none kV8 dc8 pm8 an8 cd8 ct8), sl8⟩) (c8 : PySem.W.codeIn K cd8 "rule_named" = true) (k8 : PySem.W.keepIn K (.ref f8) = true)
    (a9 : PySem.W.nsIn K mainGlobals "rule_names" = some (some (.ref f9))) (l9 : K.lookup f9 = some ⟨oc9, od9, .func (PySem.W.fnOf "rule_names" "rule_names" (defArgs s_rule_names) (defBody s_rule_names) (defScope s_rule_names) .none kV9 dc9 pm9 an9 cd9 ct9), sl9⟩) (c9 : PySem.W.codeIn K cd9 "rule_names" = true) (k9 : PySem.W.keepIn K (.ref f9) = true)
    (a10 : PySem.W.nsIn K mainGlobals "may_stand" = some (some (.ref f10))) (l10 : K.lookup f10 = some ⟨oc10, od10, .func (PySem.W.fnOf "may_stand" "may_stand" (defArgs s_may_stand) (defBody s_may_stand) (defScope s_may_stand) .none kV10 dc10 pm10 an10 cd10 ct10), sl10⟩) (c10 : PySem.W.codeIn K cd10 "may_stand" = true) (k10 : PySem.W.keepIn K (.ref f10) = true)
    (a11 : PySem.W.nsIn K mainGlobals "is_rule" = some (some (.ref f11))) (l11 : K.lookup f11 = some ⟨oc11, od11, .func (PySem.W.fnOf "is_rule" "is_rule" (defArgs s_is_rule) (defBody s_is_rule) (defScope s_is_rule) .none kV11 dc11 pm11 an11 cd11 ct11), sl11⟩) (c11 : PySem.W.codeIn K cd11 "is_rule" = true) (k11 : PySem.W.keepIn K (.ref f11) = true)
    (a12 : PySem.W.nsIn K mainGlobals "_law_cell_at" = some (some (.ref f12))) (l12 : K.lookup f12 = some ⟨oc12, od12, .func (PySem.W.fnOf "_law_cell_at" "_law_cell_at" (defArgs s_law_cell_at) (defBody s_law_cell_at) (defScope s_law_cell_at) .none kV12 dc12 pm12 an12 cd12 ct12), sl12⟩) (c12 : PySem.W.codeIn K cd12 "_law_cell_at" = true) (k12 : PySem.W.keepIn K (.ref f12) = true)
    (a13 : PySem.W.nsIn K mainGlobals "_law_numbers" = some (some (.ref f13))) (l13 : K.lookup f13 = some ⟨oc13, od13, .func (PySem.W.fnOf "_law_numbers" "_law_numbers" (defArgs s_law_numbers) (defBody s_law_numbers) (defScope s_law_numbers) .none kV13 dc13 pm13 an13 cd13 ct13), sl13⟩) (c13 : PySem.W.codeIn K cd13 "_law_numbers" = true) (k13 : PySem.W.keepIn K (.ref f13) = true)
    (a14 : PySem.W.nsIn K mainGlobals "_law_names" = some (some (.ref f14))) (l14 : K.lookup f14 = some ⟨oc14, od14, .func (PySem.W.fnOf "_law_names" "_law_names" (defArgs s_law_names) (defBody s_law_names) (defScope s_law_names) .none kV14 dc14 pm14 an14 cd14 ct14), sl14⟩) (c14 : PySem.W.codeIn K cd14 "_law_names" = true) (k14 : PySem.W.keepIn K (.ref f14) = true)
    (a15 : PySem.W.nsIn K mainGlobals "_law_refused" = some (some (.ref f15))) (l15 : K.lookup f15 = some ⟨oc15, od15, .func (PySem.W.fnOf "_law_refused" "_law_refused" (defArgs s_law_refused) (defBody s_law_refused) (defScope s_law_refused) .none kV15 dc15 pm15 an15 cd15 ct15), sl15⟩) (c15 : PySem.W.codeIn K cd15 "_law_refused" = true) (k15 : PySem.W.keepIn K (.ref f15) = true)
    (a16 : PySem.W.nsIn K mainGlobals "_law_other" = some (some (.ref f16))) (l16 : K.lookup f16 = some ⟨oc16, od16, .func (PySem.W.fnOf "_law_other" "_law_other" (defArgs s_law_other) (defBody s_law_other) (defScope s_law_other) .none kV16 dc16 pm16 an16 cd16 ct16), sl16⟩) (c16 : PySem.W.codeIn K cd16 "_law_other" = true) (k16 : PySem.W.keepIn K (.ref f16) = true)
    (a17 : PySem.W.nsIn K mainGlobals "_law_kept" = some (some (.ref f17))) (l17 : K.lookup f17 = some ⟨oc17, od17, .func (PySem.W.fnOf "_law_kept" "_law_kept" (defArgs s_law_kept) (defBody s_law_kept) (defScope s_law_kept) .none kV17 dc17 pm17 an17 cd17 ct17), sl17⟩) (c17 : PySem.W.codeIn K cd17 "_law_kept" = true) (k17 : PySem.W.keepIn K (.ref f17) = true)
    (a18 : PySem.W.nsIn K mainGlobals "law" = some (some (.ref f18))) (l18 : K.lookup f18 = some ⟨oc18, od18, .func (PySem.W.fnOf "law" "law" (defArgs s_law) (defBody s_law) (defScope s_law) .none kV18 dc18 pm18 an18 cd18 ct18), sl18⟩) (c18 : PySem.W.codeIn K cd18 "law" = true) (k18 : PySem.W.keepIn K (.ref f18) = true)
    (ga_NoName : PySem.W.nsIn K mainGlobals "NoName" = some (some (.ref C_NoName))) (gx_NoName : PySem.W.excIn K C_NoName [.type "ValueError", .type "Exception", .type "BaseException", .type "object"] "ValueError.__new__" = true) (gk_NoName : PySem.W.keepIn K (.ref C_NoName) = true) (gb_NoName : PySem.W.subIn K (.ref C_NoName) (.type "BaseException") = some true) (gt_NoName : PySem.W.typeIn K (.ref C_NoName) = some (.type "type"))
    (ga_SeatError : PySem.W.nsIn K mainGlobals "SeatError" = some (some (.ref C_SeatError)))
    (xd_SeatError : PySem.W.hasDictIn K C_SeatError = true)
    (xt_SeatError : PySem.W.typeIn K (.ref C_SeatError) = some (.type "type"))
    (xn_SeatError : PySem.W.subIn K (.type "NoneType") (.ref C_SeatError) = some false)
    (xb_SeatError : PySem.W.subIn K (.ref C_SeatError) (.type "BaseException") = some true)
    (xs_SeatError_SeatError : PySem.W.subIn K (.ref C_SeatError) (.ref C_SeatError) = some true)
    (xd_NoName : PySem.W.hasDictIn K C_NoName = true)
    (xt_NoName : PySem.W.typeIn K (.ref C_NoName) = some (.type "type"))
    (xn_NoName : PySem.W.subIn K (.type "NoneType") (.ref C_NoName) = some false)
    (xb_NoName : PySem.W.subIn K (.ref C_NoName) (.type "BaseException") = some true)
    (xs_NoName_NoName : PySem.W.subIn K (.ref C_NoName) (.ref C_NoName) = some true)
    (ga_NoLength : PySem.W.nsIn K mainGlobals "NoLength" = some (some (.ref C_NoLength)))
    (xd_NoLength : PySem.W.hasDictIn K C_NoLength = true)
    (xt_NoLength : PySem.W.typeIn K (.ref C_NoLength) = some (.type "type"))
    (xn_NoLength : PySem.W.subIn K (.type "NoneType") (.ref C_NoLength) = some false)
    (xb_NoLength : PySem.W.subIn K (.ref C_NoLength) (.type "BaseException") = some true)
    (xs_NoLength_NoLength : PySem.W.subIn K (.ref C_NoLength) (.ref C_NoLength) = some true)
    (ga_NoOrder : PySem.W.nsIn K mainGlobals "NoOrder" = some (some (.ref C_NoOrder)))
    (xd_NoOrder : PySem.W.hasDictIn K C_NoOrder = true)
    (xt_NoOrder : PySem.W.typeIn K (.ref C_NoOrder) = some (.type "type"))
    (xn_NoOrder : PySem.W.subIn K (.type "NoneType") (.ref C_NoOrder) = some false)
    (xb_NoOrder : PySem.W.subIn K (.ref C_NoOrder) (.type "BaseException") = some true)
    (xs_NoOrder_NoOrder : PySem.W.subIn K (.ref C_NoOrder) (.ref C_NoOrder) = some true)
    (ga_NoPaper : PySem.W.nsIn K mainGlobals "NoPaper" = some (some (.ref C_NoPaper)))
    (xd_NoPaper : PySem.W.hasDictIn K C_NoPaper = true)
    (xt_NoPaper : PySem.W.typeIn K (.ref C_NoPaper) = some (.type "type"))
    (xn_NoPaper : PySem.W.subIn K (.type "NoneType") (.ref C_NoPaper) = some false)
    (xb_NoPaper : PySem.W.subIn K (.ref C_NoPaper) (.type "BaseException") = some true)
    (xs_NoPaper_NoPaper : PySem.W.subIn K (.ref C_NoPaper) (.ref C_NoPaper) = some true)
    (ga_NoPlace : PySem.W.nsIn K mainGlobals "NoPlace" = some (some (.ref C_NoPlace)))
    (xd_NoPlace : PySem.W.hasDictIn K C_NoPlace = true)
    (xt_NoPlace : PySem.W.typeIn K (.ref C_NoPlace) = some (.type "type"))
    (xn_NoPlace : PySem.W.subIn K (.type "NoneType") (.ref C_NoPlace) = some false)
    (xb_NoPlace : PySem.W.subIn K (.ref C_NoPlace) (.type "BaseException") = some true)
    (xs_NoPlace_NoPlace : PySem.W.subIn K (.ref C_NoPlace) (.ref C_NoPlace) = some true)
    (ga_NoRule : PySem.W.nsIn K mainGlobals "NoRule" = some (some (.ref C_NoRule)))
    (xd_NoRule : PySem.W.hasDictIn K C_NoRule = true)
    (xt_NoRule : PySem.W.typeIn K (.ref C_NoRule) = some (.type "type"))
    (xn_NoRule : PySem.W.subIn K (.type "NoneType") (.ref C_NoRule) = some false)
    (xb_NoRule : PySem.W.subIn K (.ref C_NoRule) (.type "BaseException") = some true)
    (xs_NoRule_NoRule : PySem.W.subIn K (.ref C_NoRule) (.ref C_NoRule) = some true)
    (ga_NoText : PySem.W.nsIn K mainGlobals "NoText" = some (some (.ref C_NoText)))
    (xd_NoText : PySem.W.hasDictIn K C_NoText = true)
    (xt_NoText : PySem.W.typeIn K (.ref C_NoText) = some (.type "type"))
    (xn_NoText : PySem.W.subIn K (.type "NoneType") (.ref C_NoText) = some false)
    (xb_NoText : PySem.W.subIn K (.ref C_NoText) (.type "BaseException") = some true)
    (xs_NoText_NoText : PySem.W.subIn K (.ref C_NoText) (.ref C_NoText) = some true)
    (ga_NoTie : PySem.W.nsIn K mainGlobals "NoTie" = some (some (.ref C_NoTie)))
    (xd_NoTie : PySem.W.hasDictIn K C_NoTie = true)
    (xt_NoTie : PySem.W.typeIn K (.ref C_NoTie) = some (.type "type"))
    (xn_NoTie : PySem.W.subIn K (.type "NoneType") (.ref C_NoTie) = some false)
    (xb_NoTie : PySem.W.subIn K (.ref C_NoTie) (.type "BaseException") = some true)
    (xs_NoTie_NoTie : PySem.W.subIn K (.ref C_NoTie) (.ref C_NoTie) = some true)
    (ga_NoTree : PySem.W.nsIn K mainGlobals "NoTree" = some (some (.ref C_NoTree)))
    (xd_NoTree : PySem.W.hasDictIn K C_NoTree = true)
    (xt_NoTree : PySem.W.typeIn K (.ref C_NoTree) = some (.type "type"))
    (xn_NoTree : PySem.W.subIn K (.type "NoneType") (.ref C_NoTree) = some false)
    (xb_NoTree : PySem.W.subIn K (.ref C_NoTree) (.type "BaseException") = some true)
    (xs_NoTree_NoTree : PySem.W.subIn K (.ref C_NoTree) (.ref C_NoTree) = some true)
    (xg_NoName : PySem.W.findIn K (.ref C_NoName) "__getattribute__" = some (some (.builtin "BaseException.__getattribute__")))
    (xk_NoName : PySem.W.findIn K (.ref C_NoName) "__getattr__" = some none)
    (xc_NoName : PySem.W.findIn K (.ref C_NoName) "__class__" = some (some (.builtin "object.__class__")))
    (xm_NoName : PySem.W.mroIn K C_NoName (.type "object") = some true)
    (xv_NoName : PySem.W.subIn K (.ref C_NoName) (.type "ValueError") = some true)
    (xs_NoName_SeatError : PySem.W.subIn K (.ref C_NoName) (.ref C_SeatError) = some true)
    (xs_NoName_NoLength : PySem.W.subIn K (.ref C_NoName) (.ref C_NoLength) = some false)
    (xs_NoName_NoOrder : PySem.W.subIn K (.ref C_NoName) (.ref C_NoOrder) = some false)
    (xs_NoName_NoPaper : PySem.W.subIn K (.ref C_NoName) (.ref C_NoPaper) = some false)
    (xs_NoName_NoPlace : PySem.W.subIn K (.ref C_NoName) (.ref C_NoPlace) = some false)
    (xs_NoName_NoRule : PySem.W.subIn K (.ref C_NoName) (.ref C_NoRule) = some false)
    (xs_NoName_NoText : PySem.W.subIn K (.ref C_NoName) (.ref C_NoText) = some false)
    (xs_NoName_NoTie : PySem.W.subIn K (.ref C_NoName) (.ref C_NoTie) = some false)
    (xs_NoName_NoTree : PySem.W.subIn K (.ref C_NoName) (.ref C_NoTree) = some false)
    (xh1 : PySem.W.specialIn K (.builtin "object.__class__") "__get__" = some (some (.builtin "getset_descriptor.__get__")))
    (xh2 : PySem.W.takesIn K (.builtin "object.__class__") = some true)
    (zc_MOST : PySem.W.nsIn K mainGlobals "MOST" = some (some (.int 3 tk_MOST)))
    (zt_MORE : PySem.W.nsIn K mainGlobals "MORE" = some (some (.ref at_MORE)))
    (zl_MORE : K.lookup at_MORE = some ⟨.type "tuple", do_MORE, .seq #[.str "more" tw_MORE, .int 0 tn_MORE] nn_MORE, so_MORE⟩)
    (zt_MORE_MORE : PySem.W.nsIn K mainGlobals "MORE_MORE" = some (some (.ref at_MORE_MORE)))
    (zl_MORE_MORE : K.lookup at_MORE_MORE = some ⟨.type "tuple", do_MORE_MORE, .seq #[.str "more" tw_MORE_MORE, .int 1 tn_MORE_MORE] nn_MORE_MORE, so_MORE_MORE⟩)
    (zt_NOUGHT : PySem.W.nsIn K mainGlobals "NOUGHT" = some (some (.ref at_NOUGHT)))
    (zl_NOUGHT : K.lookup at_NOUGHT = some ⟨.type "tuple", do_NOUGHT, .seq #[.str "number" tw_NOUGHT, .int 0 tn_NOUGHT] nn_NOUGHT, so_NOUGHT⟩)
    (zt_ONE : PySem.W.nsIn K mainGlobals "ONE" = some (some (.ref at_ONE)))
    (zl_ONE : K.lookup at_ONE = some ⟨.type "tuple", do_ONE, .seq #[.str "number" tw_ONE, .int 1 tn_ONE] nn_ONE, so_ONE⟩)
    (zt_OWN : PySem.W.nsIn K mainGlobals "OWN" = some (some (.ref at_OWN)))
    (zl_OWN : K.lookup at_OWN = some ⟨.type "tuple", do_OWN, .seq #[.str "own" tw_OWN] nn_OWN, so_OWN⟩)
    (zt_SO : PySem.W.nsIn K mainGlobals "SO" = some (some (.ref at_SO)))
    (zl_SO : K.lookup at_SO = some ⟨.type "tuple", do_SO, .seq #[.str "so" tw_SO, .int 0 tn_SO] nn_SO, so_SO⟩)
    (zt_SO_MORE : PySem.W.nsIn K mainGlobals "SO_MORE" = some (some (.ref at_SO_MORE)))
    (zl_SO_MORE : K.lookup at_SO_MORE = some ⟨.type "tuple", do_SO_MORE, .seq #[.str "so" tw_SO_MORE, .int 1 tn_SO_MORE] nn_SO_MORE, so_SO_MORE⟩)
    (zt_TIE : PySem.W.nsIn K mainGlobals "TIE" = some (some (.ref at_TIE)))
    (zl_TIE : K.lookup at_TIE = some ⟨.type "tuple", do_TIE, .seq #[.str "tie" tw_TIE] nn_TIE, so_TIE⟩)
    (z_ValueError : PySem.W.nsIn K mainGlobals "ValueError" = some none)
    (z_all : PySem.W.nsIn K mainGlobals "all" = some none)
    (z_isinstance : PySem.W.nsIn K mainGlobals "isinstance" = some none)
    (z_len : PySem.W.nsIn K mainGlobals "len" = some none)
    (z_list : PySem.W.nsIn K mainGlobals "list" = some none)
    (z_range : PySem.W.nsIn K mainGlobals "range" = some none)
    (z_sorted : PySem.W.nsIn K mainGlobals "sorted" = some none)
    (z_tuple : PySem.W.nsIn K mainGlobals "tuple" = some none) :
    ∃ fd : FuncData, (∀ (s : Shared) (v : Value), BindsTo s fd ⟨[v], []⟩ [("script", v)]) ∧ ∀ base : Heap, K.In base → base.Ns mainGlobals mg → FnOk P w K mg base (L2.CX P w) 64 fa fd ["script"] (sp_law K) := by
  haveI : KF K := ⟨⟩
  have e := hfa.symm.trans (PySem.W.mg_of X G a18)
  cases e
  have nb : Nb mg := ⟨PySem.W.mg_none_of X G z_ValueError, PySem.W.mg_none_of X G z_all, PySem.W.mg_none_of X G z_isinstance, PySem.W.mg_none_of X G z_len, PySem.W.mg_none_of X G z_list, PySem.W.mg_none_of X G z_range, PySem.W.mg_none_of X G z_sorted, PySem.W.mg_none_of X G z_tuple, ⟨_, PySem.W.mg_of X G zc_MOST, ⟨_, rfl⟩⟩, ⟨_, PySem.W.mg_of X G zt_MORE, _, _, _, zl_MORE, rfl, rfl, show (2 : Nat) ≤ sizeLine by decide, .cons ⟨_, rfl⟩ (.cons ⟨_, rfl⟩ .nil)⟩, ⟨_, PySem.W.mg_of X G zt_MORE_MORE, _, _, _, zl_MORE_MORE, rfl, rfl, show (2 : Nat) ≤ sizeLine by decide, .cons ⟨_, rfl⟩ (.cons ⟨_, rfl⟩ .nil)⟩, ⟨_, PySem.W.mg_of X G zt_NOUGHT, _, _, _, zl_NOUGHT, rfl, rfl, show (2 : Nat) ≤ sizeLine by decide, .cons ⟨_, rfl⟩ (.cons ⟨_, rfl⟩ .nil)⟩, ⟨_, PySem.W.mg_of X G zt_ONE, _, _, _, zl_ONE, rfl, rfl, show (2 : Nat) ≤ sizeLine by decide, .cons ⟨_, rfl⟩ (.cons ⟨_, rfl⟩ .nil)⟩, ⟨_, PySem.W.mg_of X G zt_OWN, _, _, _, zl_OWN, rfl, rfl, show (1 : Nat) ≤ sizeLine by decide, .cons ⟨_, rfl⟩ .nil⟩, ⟨_, PySem.W.mg_of X G zt_SO, _, _, _, zl_SO, rfl, rfl, show (2 : Nat) ≤ sizeLine by decide, .cons ⟨_, rfl⟩ (.cons ⟨_, rfl⟩ .nil)⟩, ⟨_, PySem.W.mg_of X G zt_SO_MORE, _, _, _, zl_SO_MORE, rfl, rfl, show (2 : Nat) ≤ sizeLine by decide, .cons ⟨_, rfl⟩ (.cons ⟨_, rfl⟩ .nil)⟩, ⟨_, PySem.W.mg_of X G zt_TIE, _, _, _, zl_TIE, rfl, rfl, show (1 : Nat) ≤ sizeLine by decide, .cons ⟨_, rfl⟩ .nil⟩⟩
  have E_NoName : ∃ C, Xc K mg "NoName" C := ⟨C_NoName, PySem.W.mg_of X G ga_NoName, gx_NoName, gk_NoName, gb_NoName, gt_NoName⟩
  have EX : ExAll K mg := ⟨C_SeatError, C_NoName, C_NoLength, C_NoOrder, C_NoPaper, C_NoPlace, C_NoRule, C_NoText, C_NoTie, C_NoTree, PySem.W.mg_of X G ga_SeatError, xd_SeatError, xt_SeatError, xn_SeatError, xb_SeatError, xs_SeatError_SeatError, PySem.W.mg_of X G ga_NoName, xd_NoName, xt_NoName, xn_NoName, xb_NoName, xs_NoName_NoName, PySem.W.mg_of X G ga_NoLength, xd_NoLength, xt_NoLength, xn_NoLength, xb_NoLength, xs_NoLength_NoLength, PySem.W.mg_of X G ga_NoOrder, xd_NoOrder, xt_NoOrder, xn_NoOrder, xb_NoOrder, xs_NoOrder_NoOrder, PySem.W.mg_of X G ga_NoPaper, xd_NoPaper, xt_NoPaper, xn_NoPaper, xb_NoPaper, xs_NoPaper_NoPaper, PySem.W.mg_of X G ga_NoPlace, xd_NoPlace, xt_NoPlace, xn_NoPlace, xb_NoPlace, xs_NoPlace_NoPlace, PySem.W.mg_of X G ga_NoRule, xd_NoRule, xt_NoRule, xn_NoRule, xb_NoRule, xs_NoRule_NoRule, PySem.W.mg_of X G ga_NoText, xd_NoText, xt_NoText, xn_NoText, xb_NoText, xs_NoText_NoText, PySem.W.mg_of X G ga_NoTie, xd_NoTie, xt_NoTie, xn_NoTie, xb_NoTie, xs_NoTie_NoTie, PySem.W.mg_of X G ga_NoTree, xd_NoTree, xt_NoTree, xn_NoTree, xb_NoTree, xs_NoTree_NoTree, ⟨xg_NoName, xk_NoName, xb_NoName, xd_NoName, xc_NoName, xh1, xh2, xm_NoName⟩, xv_NoName, xs_NoName_SeatError, xs_NoName_NoLength, xs_NoName_NoOrder, xs_NoName_NoPaper, xs_NoName_NoPlace, xs_NoName_NoRule, xs_NoName_NoText, xs_NoName_NoTie, xs_NoName_NoTree⟩
  have F1 := fun_mk (x := "farthest_rule") (st := s_farthest_rule) l1 c1 k1
  have D_farthest_rule : Df K mg "farthest_rule" "farthest_rule" s_farthest_rule [] := ⟨_, _, F1, PySem.W.mg_of X G a1, F1.binds (ps := []) fun _ _ _ _ _ _ us hl => match us, hl with | [], _ => rfl⟩
  have F2 := fun_mk (x := "sum_rule") (st := s_sum_rule) l2 c2 k2
  have D_sum_rule : Df K mg "sum_rule" "sum_rule" s_sum_rule [] := ⟨_, _, F2, PySem.W.mg_of X G a2, F2.binds (ps := []) fun _ _ _ _ _ _ us hl => match us, hl with | [], _ => rfl⟩
  have F3 := fun_mk (x := "apart_rule") (st := s_apart_rule) l3 c3 k3
  have D_apart_rule : Df K mg "apart_rule" "apart_rule" s_apart_rule [] := ⟨_, _, F3, PySem.W.mg_of X G a3, F3.binds (ps := []) fun _ _ _ _ _ _ us hl => match us, hl with | [], _ => rfl⟩
  have F4 := fun_mk (x := "best_rule") (st := s_best_rule) l4 c4 k4
  have D_best_rule : Df K mg "best_rule" "best_rule" s_best_rule [] := ⟨_, _, F4, PySem.W.mg_of X G a4, F4.binds (ps := []) fun _ _ _ _ _ _ us hl => match us, hl with | [], _ => rfl⟩
  have F5 := fun_mk (x := "piece_rule") (st := s_piece_rule) l5 c5 k5
  have D_piece_rule : Df K mg "piece_rule" "piece_rule" s_piece_rule [] := ⟨_, _, F5, PySem.W.mg_of X G a5, F5.binds (ps := []) fun _ _ _ _ _ _ us hl => match us, hl with | [], _ => rfl⟩
  have F6 := fun_mk (x := "pieces_rule") (st := s_pieces_rule) l6 c6 k6
  have D_pieces_rule : Df K mg "pieces_rule" "pieces_rule" s_pieces_rule [] := ⟨_, _, F6, PySem.W.mg_of X G a6, F6.binds (ps := []) fun _ _ _ _ _ _ us hl => match us, hl with | [], _ => rfl⟩
  have F7 := fun_mk (x := "all_rules") (st := s_all_rules) l7 c7 k7
  have D_all_rules : Df K mg "all_rules" "all_rules" s_all_rules [] := ⟨_, _, F7, PySem.W.mg_of X G a7, F7.binds (ps := []) fun _ _ _ _ _ _ us hl => match us, hl with | [], _ => rfl⟩
  have F8 := fun_mk (x := "rule_named") (st := s_rule_named) l8 c8 k8
  have D_rule_named : Df K mg "rule_named" "rule_named" s_rule_named ["name"] := ⟨_, _, F8, PySem.W.mg_of X G a8, F8.binds (ps := ["name"]) fun _ _ _ _ _ _ us hl => match us, hl with | [_], _ => rfl⟩
  have F9 := fun_mk (x := "rule_names") (st := s_rule_names) l9 c9 k9
  have D_rule_names : Df K mg "rule_names" "rule_names" s_rule_names [] := ⟨_, _, F9, PySem.W.mg_of X G a9, F9.binds (ps := []) fun _ _ _ _ _ _ us hl => match us, hl with | [], _ => rfl⟩
  have F10 := fun_mk (x := "may_stand") (st := s_may_stand) l10 c10 k10
  have D_may_stand : Df K mg "may_stand" "may_stand" s_may_stand ["told", "leaves", "many"] := ⟨_, _, F10, PySem.W.mg_of X G a10, F10.binds (ps := ["told", "leaves", "many"]) fun _ _ _ _ _ _ us hl => match us, hl with | [_, _, _], _ => rfl⟩
  have F11 := fun_mk (x := "is_rule") (st := s_is_rule) l11 c11 k11
  have D_is_rule : Df K mg "is_rule" "is_rule" s_is_rule ["thing"] := ⟨_, _, F11, PySem.W.mg_of X G a11, F11.binds (ps := ["thing"]) fun _ _ _ _ _ _ us hl => match us, hl with | [_], _ => rfl⟩
  have F12 := fun_mk (x := "_law_cell_at") (st := s_law_cell_at) l12 c12 k12
  have D_law_cell_at : Df K mg "_law_cell_at" "_law_cell_at" s_law_cell_at ["script", "k"] := ⟨_, _, F12, PySem.W.mg_of X G a12, F12.binds (ps := ["script", "k"]) fun _ _ _ _ _ _ us hl => match us, hl with | [_, _], _ => rfl⟩
  have F13 := fun_mk (x := "_law_numbers") (st := s_law_numbers) l13 c13 k13
  have D_law_numbers : Df K mg "_law_numbers" "_law_numbers" s_law_numbers ["cell", "many", "base"] := ⟨_, _, F13, PySem.W.mg_of X G a13, F13.binds (ps := ["cell", "many", "base"]) fun _ _ _ _ _ _ us hl => match us, hl with | [_, _, _], _ => rfl⟩
  have F14 := fun_mk (x := "_law_names") (st := s_law_names) l14 c14 k14
  have D_law_names : Df K mg "_law_names" "_law_names" s_law_names [] := ⟨_, _, F14, PySem.W.mg_of X G a14, F14.binds (ps := []) fun _ _ _ _ _ _ us hl => match us, hl with | [], _ => rfl⟩
  have F15 := fun_mk (x := "_law_refused") (st := s_law_refused) l15 c15 k15
  have D_law_refused : Df K mg "_law_refused" "_law_refused" s_law_refused ["name"] := ⟨_, _, F15, PySem.W.mg_of X G a15, F15.binds (ps := ["name"]) fun _ _ _ _ _ _ us hl => match us, hl with | [_], _ => rfl⟩
  have F16 := fun_mk (x := "_law_other") (st := s_law_other) l16 c16 k16
  have D_law_other : Df K mg "_law_other" "_law_other" s_law_other ["row"] := ⟨_, _, F16, PySem.W.mg_of X G a16, F16.binds (ps := ["row"]) fun _ _ _ _ _ _ us hl => match us, hl with | [_], _ => rfl⟩
  have F17 := fun_mk (x := "_law_kept") (st := s_law_kept) l17 c17 k17
  have D_law_kept : Df K mg "_law_kept" "_law_kept" s_law_kept ["name"] := ⟨_, _, F17, PySem.W.mg_of X G a17, F17.binds (ps := ["name"]) fun _ _ _ _ _ _ us hl => match us, hl with | [_], _ => rfl⟩
  have F18 := fun_mk (x := "law") (st := s_law) l18 c18 k18
  refine ⟨PySem.W.fnOf "law" "law" (defArgs s_law) (defBody s_law) (defScope s_law) .none kV18 dc18 pm18 an18 cd18 ct18, fun s v => .of_eq rfl, fun base _ _ => ?_⟩
  have C_farthest_rule : Ca P w K mg base "farthest_rule" 1 [] (sp_farthest_rule mg) := ok_farthest_rule nb  D_farthest_rule
  have C_sum_rule : Ca P w K mg base "sum_rule" 1 [] (sp_sum_rule mg) := ok_sum_rule nb  D_sum_rule
  have C_apart_rule : Ca P w K mg base "apart_rule" 1 [] (sp_apart_rule mg) := ok_apart_rule nb  D_apart_rule
  have C_best_rule : Ca P w K mg base "best_rule" 1 [] (sp_best_rule mg) := ok_best_rule nb  D_best_rule
  have C_piece_rule : Ca P w K mg base "piece_rule" 1 [] (sp_piece_rule mg) := ok_piece_rule nb  D_piece_rule
  have C_pieces_rule : Ca P w K mg base "pieces_rule" 1 [] (sp_pieces_rule mg) := ok_pieces_rule nb  D_pieces_rule
  have C_all_rules : Ca P w K mg base "all_rules" 2 [] (sp_all_rules mg) := ok_all_rules nb C_apart_rule C_best_rule C_farthest_rule C_piece_rule C_pieces_rule C_sum_rule  D_all_rules
  have C_rule_named : Ca P w K mg base "rule_named" 3 ["name"] (sp_rule_named mg) := ok_rule_named nb C_all_rules E_NoName  D_rule_named
  have C_rule_names : Ca P w K mg base "rule_names" 3 [] (sp_rule_names mg) := ok_rule_names nb C_all_rules  D_rule_names
  have C_may_stand : Ca P w K mg base "may_stand" 61 ["told", "leaves", "many"] (sp_may_stand 60 mg) := ok_may_stand nb  D_may_stand 60
  have C_is_rule : Ca P w K mg base "is_rule" 62 ["thing"] (sp_is_rule mg) := ok_is_rule nb C_may_stand  D_is_rule
  have C_law_cell_at : Ca P w K mg base "_law_cell_at" 1 ["script", "k"] (sp_law_cell_at K mg) := ok_law_cell_at nb  D_law_cell_at
  have C_law_numbers : Ca P w K mg base "_law_numbers" 1 ["cell", "many", "base"] (sp_law_numbers mg) := ok_law_numbers nb  D_law_numbers
  have C_law_names : Ca P w K mg base "_law_names" 1 [] (sp_law_names mg) := ok_law_names nb  D_law_names
  have C_law_refused : Ca P w K mg base "_law_refused" 4 ["name"] (sp_law_refused mg) := ok_law_refused nb C_rule_named EX  D_law_refused
  have C_law_other : Ca P w K mg base "_law_other" 2 ["row"] (sp_law_other mg) := ok_law_other nb C_law_names  D_law_other
  have C_law_kept : Ca P w K mg base "_law_kept" 63 ["name"] (sp_law_kept mg) := ok_law_kept nb C_is_rule C_rule_named  D_law_kept
  exact ok_law nb C_law_cell_at C_law_kept C_law_names C_law_numbers C_law_other C_law_refused C_is_rule C_rule_named C_rule_names F18
theorem walk {l : PySem.W.OpenLaw} {q : Program} {loose : List Str} {XP : (Str → Option Value) → Heap → Prop} {YP : World → Heap → Prop} {d : DefRec} {K : Params → PySem.W.Frag} (hn : l.most = some 63) (hdf : d.params.defaults = [])
    (hY : ∀ (w : World) (h : Heap), YP w h → (K w.params).In h)
    (F : ∀ (w : World) (mg : Str → Option Value) (fa : Addr) (h : Heap), (K w.params).In h → h.Ns mainGlobals mg → mg d.name = some (.ref fa) →
      ∃ fd : FuncData, (∀ (s : Shared) (u : Value), BindsTo s fd ⟨[u], []⟩ [("script", u)]) ∧ ∀ base : Heap, (K w.params).In base → base.Ns mainGlobals mg → FnOk l.prog w (K w.params) mg base (L2.CX l.prog w) 64 fa fd ["script"] (sp_law (K w.params))) :
    PySem.W.WalkO q loose XP YP l.row.toRowW d [] (fun f vs => PySem.call f vs) :=
  L2.walk_of (n := 63) (k := 64) (x := "script") (CX := fun w => L2.CX l.prog w) (sp := fun w => sp_law (K w.params)) hn (by decide) hdf ⟨rfl, by decide, by decide⟩ hY F
    (fun _ H a ns hl _ hS => ⟨H, a, ns, rfl, ⟨Same.refl _, (fun _ h => nomatch h), (fun _ h => nomatch h), List.nodup_nil, (fun _ h => nomatch h)⟩, hS, by rw [law_true ns hl]; exact fun _ _ _ => rfl⟩)
    fun _ _ _ _ _ z => by
      obtain ⟨_, _, _, _, _, _, _, _, _, _, _, _, z⟩ := z
      exact z.elim
end G
open PySem PySem.W PyProof.Rows
set_option maxRecDepth 100000 in
set_option maxHeartbeats 0 in
theorem PySem.Challenge.cw_everyseat_k25_names_of_rules_holds : PySem.Challenge.rw_everyseat_k25_names_of_rules.Holds := by
  w_on; o_law; k_head; (case hw => w_witness2)
  k_fill
  refine G.walk (l := PySem.Challenge.rw_everyseat_k25_names_of_rules) rfl rfl (fun w h Y => PySem.W.kIn_of Y) ?F
  case F =>
    intro w mg fa h KX GG hmg
    refine' G.all_mk KX GG hmg ?a1 ?l1 ?c1 ?k1 ?a2 ?l2 ?c2 ?k2 ?a3 ?l3 ?c3 ?k3 ?a4 ?l4 ?c4 ?k4 ?a5 ?l5 ?c5 ?k5 ?a6 ?l6 ?c6 ?k6 ?a7 ?l7 ?c7 ?k7 ?a8 ?l8 ?c8 ?k8 ?a9 ?l9 ?c9 ?k9 ?a10 ?l10 ?c10 ?k10 ?a11 ?l11 ?c11 ?k11 ?a12 ?l12 ?c12 ?k12 ?a13 ?l13 ?c13 ?k13 ?a14 ?l14 ?c14 ?k14 ?a15 ?l15 ?c15 ?k15 ?a16 ?l16 ?c16 ?k16 ?a17 ?l17 ?c17 ?k17 ?a18 ?l18 ?c18 ?k18 ?ga_NoName ?gx_NoName ?gk_NoName ?gb_NoName ?gt_NoName ?ga_SeatError ?xd_SeatError ?xt_SeatError ?xn_SeatError ?xb_SeatError ?xs_SeatError_SeatError ?xd_NoName ?xt_NoName ?xn_NoName ?xb_NoName ?xs_NoName_NoName ?ga_NoLength ?xd_NoLength ?xt_NoLength ?xn_NoLength ?xb_NoLength ?xs_NoLength_NoLength ?ga_NoOrder ?xd_NoOrder ?xt_NoOrder ?xn_NoOrder ?xb_NoOrder ?xs_NoOrder_NoOrder ?ga_NoPaper ?xd_NoPaper ?xt_NoPaper ?xn_NoPaper ?xb_NoPaper ?xs_NoPaper_NoPaper ?ga_NoPlace ?xd_NoPlace ?xt_NoPlace ?xn_NoPlace ?xb_NoPlace ?xs_NoPlace_NoPlace ?ga_NoRule ?xd_NoRule ?xt_NoRule ?xn_NoRule ?xb_NoRule ?xs_NoRule_NoRule ?ga_NoText ?xd_NoText ?xt_NoText ?xn_NoText ?xb_NoText ?xs_NoText_NoText ?ga_NoTie ?xd_NoTie ?xt_NoTie ?xn_NoTie ?xb_NoTie ?xs_NoTie_NoTie ?ga_NoTree ?xd_NoTree ?xt_NoTree ?xn_NoTree ?xb_NoTree ?xs_NoTree_NoTree ?xg_NoName ?xk_NoName ?xc_NoName ?xm_NoName ?xv_NoName ?xs_NoName_SeatError ?xs_NoName_NoLength ?xs_NoName_NoOrder ?xs_NoName_NoPaper ?xs_NoName_NoPlace ?xs_NoName_NoRule ?xs_NoName_NoText ?xs_NoName_NoTie ?xs_NoName_NoTree ?xh1 ?xh2 ?zc_MOST ?zt_MORE ?zl_MORE ?zt_MORE_MORE ?zl_MORE_MORE ?zt_NOUGHT ?zl_NOUGHT ?zt_ONE ?zl_ONE ?zt_OWN ?zl_OWN ?zt_SO ?zl_SO ?zt_SO_MORE ?zl_SO_MORE ?zt_TIE ?zl_TIE ?z_ValueError ?z_all ?z_isinstance ?z_len ?z_list ?z_range ?z_sorted ?z_tuple
    (case a1 => k_is)
    (case l1 => k_is)
    (case c1 => k_is)
    (case k1 => k_is)
    (case a2 => k_is)
    (case l2 => k_is)
    (case c2 => k_is)
    (case k2 => k_is)
    (case a3 => k_is)
    (case l3 => k_is)
    (case c3 => k_is)
    (case k3 => k_is)
    (case a4 => k_is)
    (case l4 => k_is)
    (case c4 => k_is)
    (case k4 => k_is)
    (case a5 => k_is)
    (case l5 => k_is)
    (case c5 => k_is)
    (case k5 => k_is)
    (case a6 => k_is)
    (case l6 => k_is)
    (case c6 => k_is)
    (case k6 => k_is)
    (case a7 => k_is)
    (case l7 => k_is)
    (case c7 => k_is)
    (case k7 => k_is)
    (case a8 => k_is)
    (case l8 => k_is)
    (case c8 => k_is)
    (case k8 => k_is)
    (case a9 => k_is)
    (case l9 => k_is)
    (case c9 => k_is)
    (case k9 => k_is)
    (case a10 => k_is)
    (case l10 => k_is)
    (case c10 => k_is)
    (case k10 => k_is)
    (case a11 => k_is)
    (case l11 => k_is)
    (case c11 => k_is)
    (case k11 => k_is)
    (case a12 => k_is)
    (case l12 => k_is)
    (case c12 => k_is)
    (case k12 => k_is)
    (case a13 => k_is)
    (case l13 => k_is)
    (case c13 => k_is)
    (case k13 => k_is)
    (case a14 => k_is)
    (case l14 => k_is)
    (case c14 => k_is)
    (case k14 => k_is)
    (case a15 => k_is)
    (case l15 => k_is)
    (case c15 => k_is)
    (case k15 => k_is)
    (case a16 => k_is)
    (case l16 => k_is)
    (case c16 => k_is)
    (case k16 => k_is)
    (case a17 => k_is)
    (case l17 => k_is)
    (case c17 => k_is)
    (case k17 => k_is)
    (case a18 => k_is)
    (case l18 => k_is)
    (case c18 => k_is)
    (case k18 => k_is)
    (case ga_NoName => k_is)
    (case gx_NoName => k_exc)
    (case gk_NoName => k_is)
    (case gb_NoName => k_is)
    (case gt_NoName => k_is)
    (case ga_SeatError => k_is)
    (case xd_SeatError => k_is)
    (case xt_SeatError => k_is)
    (case xn_SeatError => k_is)
    (case xb_SeatError => k_is)
    (case xs_SeatError_SeatError => k_is)
    (case xd_NoName => k_is)
    (case xt_NoName => k_is)
    (case xn_NoName => k_is)
    (case xb_NoName => k_is)
    (case xs_NoName_NoName => k_is)
    (case ga_NoLength => k_is)
    (case xd_NoLength => k_is)
    (case xt_NoLength => k_is)
    (case xn_NoLength => k_is)
    (case xb_NoLength => k_is)
    (case xs_NoLength_NoLength => k_is)
    (case ga_NoOrder => k_is)
    (case xd_NoOrder => k_is)
    (case xt_NoOrder => k_is)
    (case xn_NoOrder => k_is)
    (case xb_NoOrder => k_is)
    (case xs_NoOrder_NoOrder => k_is)
    (case ga_NoPaper => k_is)
    (case xd_NoPaper => k_is)
    (case xt_NoPaper => k_is)
    (case xn_NoPaper => k_is)
    (case xb_NoPaper => k_is)
    (case xs_NoPaper_NoPaper => k_is)
    (case ga_NoPlace => k_is)
    (case xd_NoPlace => k_is)
    (case xt_NoPlace => k_is)
    (case xn_NoPlace => k_is)
    (case xb_NoPlace => k_is)
    (case xs_NoPlace_NoPlace => k_is)
    (case ga_NoRule => k_is)
    (case xd_NoRule => k_is)
    (case xt_NoRule => k_is)
    (case xn_NoRule => k_is)
    (case xb_NoRule => k_is)
    (case xs_NoRule_NoRule => k_is)
    (case ga_NoText => k_is)
    (case xd_NoText => k_is)
    (case xt_NoText => k_is)
    (case xn_NoText => k_is)
    (case xb_NoText => k_is)
    (case xs_NoText_NoText => k_is)
    (case ga_NoTie => k_is)
    (case xd_NoTie => k_is)
    (case xt_NoTie => k_is)
    (case xn_NoTie => k_is)
    (case xb_NoTie => k_is)
    (case xs_NoTie_NoTie => k_is)
    (case ga_NoTree => k_is)
    (case xd_NoTree => k_is)
    (case xt_NoTree => k_is)
    (case xn_NoTree => k_is)
    (case xb_NoTree => k_is)
    (case xs_NoTree_NoTree => k_is)
    (case xg_NoName => k_is)
    (case xk_NoName => k_is)
    (case xc_NoName => k_is)
    (case xm_NoName => k_is)
    (case xv_NoName => k_is)
    (case xs_NoName_SeatError => k_is)
    (case xs_NoName_NoLength => k_is)
    (case xs_NoName_NoOrder => k_is)
    (case xs_NoName_NoPaper => k_is)
    (case xs_NoName_NoPlace => k_is)
    (case xs_NoName_NoRule => k_is)
    (case xs_NoName_NoText => k_is)
    (case xs_NoName_NoTie => k_is)
    (case xs_NoName_NoTree => k_is)
    (case xh1 => k_is)
    (case xh2 => k_is)
    (case zc_MOST => k_is)
    (case zt_MORE => k_is)
    (case zl_MORE => k_is)
    (case zt_MORE_MORE => k_is)
    (case zl_MORE_MORE => k_is)
    (case zt_NOUGHT => k_is)
    (case zl_NOUGHT => k_is)
    (case zt_ONE => k_is)
    (case zl_ONE => k_is)
    (case zt_OWN => k_is)
    (case zl_OWN => k_is)
    (case zt_SO => k_is)
    (case zl_SO => k_is)
    (case zt_SO_MORE => k_is)
    (case zl_SO_MORE => k_is)
    (case zt_TIE => k_is)
    (case zl_TIE => k_is)
    (case z_ValueError => k_is)
    (case z_all => k_is)
    (case z_isinstance => k_is)
    (case z_len => k_is)
    (case z_list => k_is)
    (case z_range => k_is)
    (case z_sorted => k_is)
    (case z_tuple => k_is)
#print axioms PySem.Challenge.cw_everyseat_k25_names_of_rules_holds
