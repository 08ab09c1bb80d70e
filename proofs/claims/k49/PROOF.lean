import PyProof.Rows.All
import Wide.All
import OpenK.AllK
import Wide.FinOn
import HandS.ForMost
import HandS.ForExc
import HandS.Wide
import HandS.Flow
import HandS.Evl
import HandS.Conv
import HandS.IsInst
import KE.SortData
import KE.DatumMoreOrd
import KE.DatumIndex
import HandS.Walk
import HandS.TupSets
import HandS.TryOnly
import HandS.Codes
import HandS.Dict
import HandS.TupLe
import HandS.List
import KE.KDictPairs
import HandS.Exc
import HandS.ExcIs
import HandS.ExcValue
import PyProof.Rows.CountFlat
import HandS.Style
import HandS.SetKeys
import HandS.DictTup
import HandS.Text
import PyProof.StrBlock2
import PyProof.Rows.StrMul
import PySem.Challenge.RW_everyseat_k49_trees_written_and_read
set_option Elab.async false
set_option linter.all false
set_option maxRecDepth 100000
set_option maxHeartbeats 4000000
/-! My own layer over HandS: mirrors in an error monad, represented data, owned cells. -/
namespace PG
open PySem L2

/-! ### the mirrors' monad -/
inductive Er where
  | bad
  | exc (n : String)
  deriving DecidableEq
abbrev M := Except Er
def wp {a : Type} (m : M a) (Q : a → Prop) (E : String → Prop) : Prop :=
  match m with
  | .ok x => Q x
  | .error .bad => False
  | .error (.exc n) => E n
section
variable {a b : Type} {Q : a → Prop} {R : b → Prop} {E E' : String → Prop}
theorem wp_ok {x : a} : wp (Except.ok x : M a) Q E = Q x := rfl
theorem wp_pure {x : a} : wp (pure x : M a) Q E = Q x := rfl
theorem wp_bind {m : M b} {k : b → M a} : wp (m >>= k) Q E ↔ wp m (fun x => wp (k x) Q E) E := by
  cases m with
  | ok x => exact Iff.rfl
  | error e => cases e <;> exact Iff.rfl
theorem wp_call {m : M b} {k : b → M a} {E1 : String → Prop} (h : wp (m >>= k) Q E) (hr : ∀ r, m = .ok r → wp (k r) Q E → R r) (he : ∀ n, E n → E1 n) : wp m R E1 := by
  cases m with
  | ok x => exact hr x rfl h
  | error e =>
    cases e with
    | bad => exact h
    | exc n => exact he n h
/-- the last call of a def -/
theorem wp_tail {m : M a} {E1 : String → Prop} {R : a → Prop} (h : wp m Q E) (hr : ∀ r, m = .ok r → Q r → R r) (he : ∀ n, E n → E1 n) : wp m R E1 := by
  cases m with
  | ok x => exact hr x rfl h
  | error e =>
    cases e with
    | bad => exact h
    | exc n => exact he n h
def bad : M a := .error .bad
def raise (n : String) : M a := .error (.exc n)
theorem wp_bad {P : Prop} (h : wp (bad : M a) Q E) : P := h.elim
/-- a guard -/
@[irreducible] def chk (c : Prop) [Decidable c] : M Unit := if c then .ok () else bad
theorem wp_chk {c : Prop} [Decidable c] {k : Unit → M a} (h : wp (chk c >>= k) Q E) : c ∧ wp (k ()) Q E := by
  unfold chk at h
  by_cases hc : c
  · rw [if_pos hc] at h
    exact ⟨hc, h⟩
  · rw [if_neg hc] at h
    exact h.elim
/-- something that is there -/
def opt (o : Option b) : M b := match o with
  | some x => .ok x
  | none => bad
theorem wp_opt {o : Option b} {k : b → M a} (h : wp (opt o >>= k) Q E) : ∃ x, o = some x ∧ wp (k x) Q E := by
  cases o with
  | none => exact h.elim
  | some x => exact ⟨x, rfl, h⟩
/-- no exception leaves -/
def nox (m : M a) : M a := match m with
  | .ok x => .ok x
  | .error _ => bad
theorem wp_nox {m : M b} {k : b → M a} (h : wp (nox m >>= k) Q E) : ∃ x, m = .ok x ∧ wp (k x) Q E := by
  cases m with
  | ok x => exact ⟨x, rfl, h⟩
  | error e => exact h.elim
theorem wp_of_ok {m : M b} {x : b} (e : m = .ok x) (h : R x) : wp m R E := by
  rw [e]
  exact h
theorem wp_ite {c : Prop} [Decidable c] {x y : M a} (h : wp (if c then x else y) Q E) : (c → wp x Q E) ∧ (¬ c → wp y Q E) := by
  by_cases hc : c
  · rw [if_pos hc] at h
    exact ⟨fun _ => h, fun n => (n hc).elim⟩
  · rw [if_neg hc] at h
    exact ⟨fun p => (hc p).elim, fun _ => h⟩
end

/-! ### loops -/
/-- a turn's end: on to the next, or the def's return -/
inductive Fl (s r : Type) where
  | nx (x : s)
  | rt (x : r)
section
variable {i s r a : Type}
def loopM (b : i → s → M (Fl s r)) : List i → s → M (Fl s r)
  | [], x => .ok (.nx x)
  | y :: ys, x => b y x >>= fun
    | .nx x' => loopM b ys x'
    | .rt z => .ok (.rt z)
/-- a loop without return -/
def loopN (b : i → s → M s) : List i → s → M s
  | [], x => .ok x
  | y :: ys, x => b y x >>= fun x' => loopN b ys x'
def whileM (c : s → M Bool) (b : s → M (Fl s r)) : Nat → s → M (Fl s r)
  | 0, _ => bad
  | n + 1, x => c x >>= fun t => if t = true then b x >>= fun
      | .nx x' => whileM c b n x'
      | .rt z => .ok (.rt z)
    else .ok (.nx x)
def whileN (c : s → M Bool) (b : s → M s) : Nat → s → M s
  | 0, _ => bad
  | n + 1, x => c x >>= fun t => if t = true then b x >>= fun x' => whileN c b n x' else .ok x
/-- a comprehension: f gives an element, or none where the test fails -/
def compN (b : i → s → M (Option a × s)) : List i → s → M (List a × s)
  | [], x => .ok ([], x)
  | y :: ys, x => b y x >>= fun p => compN b ys p.2 >>= fun q => .ok (match p.1 with
    | some z => z :: q.1
    | none => q.1, q.2)
/-- .. that changes nothing -/
def compM (b : i → M (Option a)) : List i → M (List a)
  | [] => .ok []
  | y :: ys => b y >>= fun p => compM b ys >>= fun q => .ok (match p with
    | some z => z :: q
    | none => q)
end

/-! ### what a value stands for -/
open PySem.W (T3 T4 Datum DatumOrd)
/-- the frag whose own tuples (the module's constants) may stand in data; told by an instance alone -/
class KF (K : outParam PySem.W.Frag) : Type
def KTup (K : PySem.W.Frag) (a : Addr) (xs : List V) : Prop :=
  ∃ (o : Obj) (its : Array Value) (n : Nat), K.lookup a = some o ∧ o.cls = .type "tuple" ∧ o.data = .seq its n ∧ its.size ≤ sizeLine ∧ Vals xs its.toList
section
variable {K0 : PySem.W.Frag} [KF K0]
/-- a tuple: the heap's, or one of the module's, a text first -/
def TupAt {K0 : PySem.W.Frag} [KF K0] (H : Hp) (a : Addr) (xs : List V) : Prop := H a = some (.tup xs) ∨ ((∃ w ws, xs = V.str w :: ws) ∧ KTup K0 a xs)
theorem TupAt.mono {H H' : Hp} {a : Addr} {xs : List V} (h : TupAt H a xs) (s : Same H H') : TupAt H' a xs := by
  rcases h with h | h
  · exact .inl (s _ _ h)
  · exact .inr h
theorem TupAt.sq {H : Hp} {a : Addr} {xs : List V} (h : TupAt H a xs) : SqT K0 H a xs := by
  rcases h with h | ⟨_, h⟩
  · exact SqT.of h
  · exact .inr h
mutual
inductive Rep (H : Hp) : V → PyData → Prop
  | non : Rep H .non .none
  | bl (b : Bool) : Rep H (.bl b) (.bool b)
  | int (i : Int) : Rep H (.int i) (.int i)
  | str (x : Str) : Rep H (.str x) (.str x)
  | lst {a : Addr} {xs : List V} {ds : List PyData} : H a = some (.lst xs) → RepA H xs ds → Rep H (.ref a) (.list ds)
  | tup {a : Addr} {xs : List V} {ds : List PyData} : TupAt H a xs → RepA H xs ds → Rep H (.ref a) (.tuple ds)
inductive RepA (H : Hp) : List V → List PyData → Prop
  | nil : RepA H [] []
  | cons {v : V} {vs : List V} {d : PyData} {ds : List PyData} : Rep H v d → RepA H vs ds → RepA H (v :: vs) (d :: ds)
end
mutual
theorem Rep.mono {H H' : Hp} (s : Same H H') : ∀ (d : PyData) (v : V), Rep H v d → Rep H' v d
  | .none, _, h => by cases h; exact .non
  | .bool _, _, h => by cases h; exact .bl _
  | .int _, _, h => by cases h; exact .int _
  | .str _, _, h => by cases h; exact .str _
  | .list ds, _, h => by
    cases h with
    | lst ha hs => exact .lst (s _ _ ha) (RepA.mono s ds _ hs)
  | .tuple ds, _, h => by
    cases h with
    | tup ha hs => exact .tup (ha.mono s) (RepA.mono s ds _ hs)
  | .dict _, _, h => by cases h
theorem RepA.mono {H H' : Hp} (s : Same H H') : ∀ (ds : List PyData) (vs : List V), RepA H vs ds → RepA H' vs ds
  | [], _, h => by cases h; exact .nil
  | d :: ds, _, h => by
    cases h with
    | cons h1 h2 => exact .cons (Rep.mono s d _ h1) (RepA.mono s ds _ h2)
end
mutual
theorem Rep.dp {H : Hp} : ∀ (d : PyData) (v : V), Rep H v d → Dp K0 H v d
  | .none, _, h => by cases h; exact .non
  | .bool _, _, h => by cases h; exact .bl _
  | .int _, _, h => by cases h; exact .int _
  | .str _, _, h => by cases h; exact .str _
  | .list ds, _, h => by
    cases h with
    | lst ha hs => exact .lst (SqL.of ha) (RepA.dp ds _ hs)
  | .tuple ds, _, h => by
    cases h with
    | tup ha hs => exact .tup ha.sq (RepA.dp ds _ hs)
  | .dict _, _, h => by cases h
theorem RepA.dp {H : Hp} : ∀ (ds : List PyData) (vs : List V), RepA H vs ds → DpAll K0 H vs ds
  | [], _, h => by cases h; exact .nil
  | d :: ds, _, h => by
    cases h with
    | cons h1 h2 => exact .cons (Rep.dp d _ h1) (RepA.dp ds _ h2)
end

end
/-- a Lean type whose values are Python's data -/
class Py (a : Type) where
  toD : a → PyData
instance : Py Int := ⟨.int⟩
instance : Py Bool := ⟨.bool⟩
instance : Py Str := ⟨.str⟩
instance : Py Unit := ⟨fun _ => .none⟩
instance {a : Type} [Py a] : Py (List a) := ⟨fun xs => .list (xs.map Py.toD)⟩
instance {a b : Type} [Py a] [Py b] : Py (a × b) := ⟨fun p => .tuple [Py.toD p.1, Py.toD p.2]⟩
instance {a b c : Type} [Py a] [Py b] [Py c] : Py (T3 a b c) := ⟨fun p => .tuple [Py.toD p.a, Py.toD p.b, Py.toD p.c]⟩
instance {a b c d : Type} [Py a] [Py b] [Py c] [Py d] : Py (T4 a b c d) := ⟨fun p => .tuple [Py.toD p.a, Py.toD p.b, Py.toD p.c, Py.toD p.d]⟩
instance {a : Type} [Py a] : Py (Option a) := ⟨fun o => match o with
  | none => .none
  | some x => Py.toD x⟩
class IsD (a : Type) [Py a] [DecidableEq a] [Datum a] : Prop where
  eq : ∀ x : a, Py.toD x = Datum.toD x
instance : IsD Int := ⟨fun _ => rfl⟩
instance : IsD Bool := ⟨fun _ => rfl⟩
instance : IsD Str := ⟨fun _ => rfl⟩
instance : IsD Unit := ⟨fun _ => rfl⟩
section
variable {a b c d : Type} [Py a] [DecidableEq a] [Datum a] [IsD a] [Py b] [DecidableEq b] [Datum b] [IsD b] [Py c] [DecidableEq c] [Datum c] [IsD c] [Py d] [DecidableEq d] [Datum d] [IsD d]
theorem map_toD (xs : List a) : xs.map (Py.toD : a → PyData) = xs.map Datum.toD := List.map_congr_left fun x _ => IsD.eq x
instance : IsD (List a) := ⟨fun xs => congrArg PyData.list (map_toD xs)⟩
instance : IsD (a × b) := ⟨fun p => by show PyData.tuple [_, _] = PyData.tuple [_, _]; rw [IsD.eq, IsD.eq]⟩
instance : IsD (T3 a b c) := ⟨fun p => by show PyData.tuple [_, _, _] = PyData.tuple [_, _, _]; rw [IsD.eq, IsD.eq, IsD.eq]⟩
instance : IsD (T4 a b c d) := ⟨fun p => by show PyData.tuple [_, _, _, _] = PyData.tuple [_, _, _, _]; rw [IsD.eq, IsD.eq, IsD.eq, IsD.eq]⟩
instance [PySem.W.SomeDatum a] : IsD (Option a) := ⟨fun o => by
  cases o with
  | none => rfl
  | some x => exact IsD.eq x⟩
end

/-- no text -/
class NoS (a : Type) [Py a] : Prop where
  ns : ∀ (x : a) (s : Str), Py.toD x ≠ .str s
instance : NoS Int := ⟨fun _ _ h => nomatch h⟩
instance : NoS Bool := ⟨fun _ _ h => nomatch h⟩
instance : NoS Unit := ⟨fun _ _ h => nomatch h⟩
section
variable {a b c d : Type} [Py a] [Py b] [Py c] [Py d]
instance : NoS (List a) := ⟨fun _ _ h => nomatch h⟩
instance : NoS (a × b) := ⟨fun _ _ h => nomatch h⟩
instance : NoS (T3 a b c) := ⟨fun _ _ h => nomatch h⟩
instance : NoS (T4 a b c d) := ⟨fun _ _ h => nomatch h⟩
instance [NoS a] : NoS (Option a) := ⟨fun o s h => by
  cases o with
  | none => exact nomatch h
  | some x => exact NoS.ns x s h⟩
end
variable {K0 : PySem.W.Frag} [KF K0]
theorem TupAt.plain {a : Type} [Py a] [NoS a] {H : Hp} {p : Addr} {v : V} {vs : List V} {x : a} (h : TupAt H p (v :: vs)) (r : Rep H v (Py.toD x)) : H p = some (.tup (v :: vs)) := by
  rcases h with h | ⟨⟨w, ws, e⟩, _⟩
  · exact h
  · injection e with e _
    subst e
    obtain ⟨d, hd⟩ : ∃ d, d = Py.toD x := ⟨_, rfl⟩
    rw [← hd] at r
    cases r with
    | str => exact (NoS.ns x w hd.symm).elim
/-- v stands for x -/
def R {a : Type} [Py a] (H : Hp) (v : V) (x : a) : Prop := Rep H v (Py.toD x)
/-- item by item -/
def RL {a : Type} [Py a] (H : Hp) (vs : List V) (xs : List a) : Prop := RepA H vs (xs.map Py.toD)
section
variable {H H' : Hp} {v : V} {vs : List V} {p q : Addr}
theorem R.mono {a : Type} [Py a] {x : a} (h : R H v x) (s : Same H H') : R H' v x := Rep.mono s _ _ h
theorem RL.mono {a : Type} [Py a] {xs : List a} (h : RL H vs xs) (s : Same H H') : RL H' vs xs := RepA.mono s _ _ h
theorem R.int {i : Int} : R H (.int i) i := Rep.int i
theorem R.bl {b : Bool} : R H (.bl b) b := Rep.bl b
theorem R.str {x : Str} : R H (.str x) x := Rep.str x
theorem R.unit {u : Unit} : R H .non u := Rep.non
theorem R.non {a : Type} [Py a] : R H .non (none : Option a) := Rep.non
theorem R.jst {a : Type} [Py a] {x : a} (h : R H v x) : R H v (some x) := h
theorem R.int_ {i : Int} (h : R H v i) : v = .int i := by cases h; rfl
theorem R.bl_ {b : Bool} (h : R H v b) : v = .bl b := by cases h; rfl
theorem R.str_ {x : Str} (h : R H v x) : v = .str x := by cases h; rfl
theorem R.unit_ {u : Unit} (h : R H v u) : v = .non := by cases h; rfl
theorem R.non_ {a : Type} [Py a] (h : R H v (none : Option a)) : v = .non := by cases h; rfl
theorem R.jst_ {a : Type} [Py a] {x : a} (h : R H v (some x)) : R H v x := h
variable {a b c d : Type} [Py a] [Py b] [Py c] [Py d]
theorem R.lst {xs : List a} (ha : H p = some (.lst vs)) (h : RL H vs xs) : R H (.ref p) xs := Rep.lst ha h
theorem R.lst_ {xs : List a} (h : R H v xs) : ∃ p vs, v = .ref p ∧ H p = some (.lst vs) ∧ RL H vs xs := by
  have h' : Rep H v (.list (xs.map Py.toD)) := h
  cases h' with
  | lst ha hs => exact ⟨_, _, rfl, ha, hs⟩
theorem R.t2 {x : a × b} {v1 v2 : V} (ha : H p = some (.tup [v1, v2])) (h1 : R H v1 x.1) (h2 : R H v2 x.2) : R H (.ref p) x := Rep.tup (.inl ha) (.cons h1 (.cons h2 .nil))
theorem R.t2T_ {x : a × b} (h : R H v x) : ∃ p v1 v2, v = .ref p ∧ TupAt H p [v1, v2] ∧ R H v1 x.1 ∧ R H v2 x.2 := by
  have h' : Rep H v (.tuple [_, _]) := h
  cases h' with
  | tup ha hs =>
    cases hs with
    | cons h1 hs =>
      cases hs with
      | cons h2 hs =>
        cases hs
        exact ⟨_, _, _, rfl, ha, h1, h2⟩
theorem R.t2T {x : a × b} {v1 v2 : V} (ha : TupAt H p [v1, v2]) (h1 : R H v1 x.1) (h2 : R H v2 x.2) : R H (.ref p) x := Rep.tup ha (.cons h1 (.cons h2 .nil))
theorem R.t3T {x : T3 a b c} {v1 v2 v3 : V} (ha : TupAt H p [v1, v2, v3]) (h1 : R H v1 x.a) (h2 : R H v2 x.b) (h3 : R H v3 x.c) : R H (.ref p) x := Rep.tup ha (.cons h1 (.cons h2 (.cons h3 .nil)))
theorem TupAt.mv {F F' : Hp} {xs : List V} (h : TupAt F p xs) (t : ∀ b xs, F b = some (.tup xs) → F' b = some (.tup xs)) : TupAt F' p xs := by
  rcases h with h | h
  · exact .inl (t _ _ h)
  · exact .inr h
theorem R.t2_ [NoS a] {x : a × b} (h : R H v x) : ∃ p v1 v2, v = .ref p ∧ H p = some (.tup [v1, v2]) ∧ R H v1 x.1 ∧ R H v2 x.2 := by
  have h' : Rep H v (.tuple [_, _]) := h
  cases h' with
  | tup ha hs =>
    cases hs with
    | cons h1 hs =>
      cases hs with
      | cons h2 hs =>
        cases hs
        exact ⟨_, _, _, rfl, ha.plain h1, h1, h2⟩
theorem R.t3 {x : T3 a b c} {v1 v2 v3 : V} (ha : H p = some (.tup [v1, v2, v3])) (h1 : R H v1 x.a) (h2 : R H v2 x.b) (h3 : R H v3 x.c) : R H (.ref p) x := Rep.tup (.inl ha) (.cons h1 (.cons h2 (.cons h3 .nil)))
theorem R.t3T_ {x : T3 a b c} (h : R H v x) : ∃ p v1 v2 v3, v = .ref p ∧ TupAt H p [v1, v2, v3] ∧ R H v1 x.a ∧ R H v2 x.b ∧ R H v3 x.c := by
  have h' : Rep H v (.tuple [_, _, _]) := h
  cases h' with
  | tup ha hs =>
    cases hs with
    | cons h1 hs =>
      cases hs with
      | cons h2 hs =>
        cases hs with
        | cons h3 hs =>
          cases hs
          exact ⟨_, _, _, _, rfl, ha, h1, h2, h3⟩
theorem R.t3_ [NoS a] {x : T3 a b c} (h : R H v x) : ∃ p v1 v2 v3, v = .ref p ∧ H p = some (.tup [v1, v2, v3]) ∧ R H v1 x.a ∧ R H v2 x.b ∧ R H v3 x.c := by
  have h' : Rep H v (.tuple [_, _, _]) := h
  cases h' with
  | tup ha hs =>
    cases hs with
    | cons h1 hs =>
      cases hs with
      | cons h2 hs =>
        cases hs with
        | cons h3 hs =>
          cases hs
          exact ⟨_, _, _, _, rfl, ha.plain h1, h1, h2, h3⟩
theorem R.t4 {x : T4 a b c d} {v1 v2 v3 v4 : V} (ha : H p = some (.tup [v1, v2, v3, v4])) (h1 : R H v1 x.a) (h2 : R H v2 x.b) (h3 : R H v3 x.c) (h4 : R H v4 x.d) : R H (.ref p) x :=
  Rep.tup (.inl ha) (.cons h1 (.cons h2 (.cons h3 (.cons h4 .nil))))
theorem R.t4_ [NoS a] {x : T4 a b c d} (h : R H v x) : ∃ p v1 v2 v3 v4, v = .ref p ∧ H p = some (.tup [v1, v2, v3, v4]) ∧ R H v1 x.a ∧ R H v2 x.b ∧ R H v3 x.c ∧ R H v4 x.d := by
  have h' : Rep H v (.tuple [_, _, _, _]) := h
  cases h' with
  | tup ha hs =>
    cases hs with
    | cons h1 hs =>
      cases hs with
      | cons h2 hs =>
        cases hs with
        | cons h3 hs =>
          cases hs with
          | cons h4 hs =>
            cases hs
            exact ⟨_, _, _, _, _, rfl, ha.plain h1, h1, h2, h3, h4⟩
theorem RL.nil : RL H [] ([] : List a) := RepA.nil
theorem RL.cons {x : a} {xs : List a} (h : R H v x) (hs : RL H vs xs) : RL H (v :: vs) (x :: xs) := RepA.cons h hs
theorem RL.cons_ {x : a} {xs : List a} (h : RL H vs (x :: xs)) : ∃ w ws, vs = w :: ws ∧ R H w x ∧ RL H ws xs := by
  have h' : RepA H vs (Py.toD x :: xs.map Py.toD) := h
  cases h' with
  | cons h1 h2 => exact ⟨_, _, rfl, h1, h2⟩
theorem RL.nil_ (h : RL H vs ([] : List a)) : vs = [] := by
  have h' : RepA H vs [] := h
  cases h'
  rfl
theorem RL.len : ∀ {vs : List V} {xs : List a}, RL H vs xs → vs.length = xs.length
  | _, [], h => by rw [RL.nil_ h]; rfl
  | _, x :: xs, h => by
    obtain ⟨w, ws, rfl, _, h2⟩ := RL.cons_ h
    rw [List.length_cons, List.length_cons, RL.len h2]
theorem RL.app : ∀ {vs ws : List V} {xs ys : List a}, RL H vs xs → RL H ws ys → RL H (vs ++ ws) (xs ++ ys)
  | _, _, [], _, h, k => by rw [RL.nil_ h]; exact k
  | _, _, x :: xs, _, h, k => by
    obtain ⟨w, ws', rfl, h1, h2⟩ := RL.cons_ h
    exact RL.cons h1 (RL.app h2 k)
theorem RL.snoc {x : a} {xs : List a} (h : RL H vs xs) (k : R H v x) : RL H (vs ++ [v]) (xs ++ [x]) := RL.app h (RL.cons k RL.nil)
theorem RL.get : ∀ {vs : List V} {xs : List a}, RL H vs xs → ∀ {i : Nat} {x : a}, xs[i]? = some x → ∃ w, vs[i]? = some w ∧ R H w x
  | _, [], _, i, x, e => by simp at e
  | _, y :: ys, h, i, x, e => by
    obtain ⟨w, ws, rfl, h1, h2⟩ := RL.cons_ h
    cases i with
    | zero =>
      cases (Option.some.inj e : y = x)
      exact ⟨w, rfl, h1⟩
    | succ i => exact RL.get h2 (i := i) (by simpa using e)
theorem RL.got : ∀ {vs : List V} {xs : List a}, RL H vs xs → ∀ {i : Nat} {w : V}, vs[i]? = some w → ∃ x, xs[i]? = some x ∧ R H w x
  | _, [], h, i, w, e => by rw [RL.nil_ h] at e; simp at e
  | _, y :: ys, h, i, w, e => by
    obtain ⟨w', ws, rfl, h1, h2⟩ := RL.cons_ h
    cases i with
    | zero =>
      cases (Option.some.inj e : w' = w)
      exact ⟨y, rfl, h1⟩
    | succ i => exact RL.got h2 (i := i) (by simpa using e)
theorem RL.atI {xs : List a} (h : RL H vs xs) {i : Int} {x : a} (e : L2.atI xs i = some x) : ∃ w, L2.atI vs i = some w ∧ R H w x := by
  unfold L2.atI at e ⊢
  rw [h.len]
  cases q : ixN xs.length i with
  | none => rw [q] at e; cases e
  | some j =>
    rw [q] at e
    exact h.get e
theorem RL.take : ∀ {vs : List V} {xs : List a} (n : Nat), RL H vs xs → RL H (vs.take n) (xs.take n)
  | _, _, 0, _ => RL.nil
  | _, [], n + 1, h => by rw [RL.nil_ h]; exact RL.nil
  | _, x :: xs, n + 1, h => by
    obtain ⟨w, ws, rfl, h1, h2⟩ := RL.cons_ h
    exact RL.cons h1 (RL.take n h2)
theorem RL.drop : ∀ {vs : List V} {xs : List a} (n : Nat), RL H vs xs → RL H (vs.drop n) (xs.drop n)
  | _, _, 0, h => h
  | _, [], n + 1, h => by rw [RL.nil_ h]; exact RL.nil
  | _, x :: xs, n + 1, h => by
    obtain ⟨w, ws, rfl, h1, h2⟩ := RL.cons_ h
    exact RL.drop n h2
theorem RL.set : ∀ {vs : List V} {xs : List a} (n : Nat) {w : V} {y : a}, RL H vs xs → R H w y → RL H (vs.set n w) (xs.set n y)
  | _, [], n, _, _, h, _ => by rw [RL.nil_ h]; exact RL.nil
  | _, x :: xs, 0, _, _, h, k => by
    obtain ⟨w, ws, rfl, h1, h2⟩ := RL.cons_ h
    exact RL.cons k h2
  | _, x :: xs, n + 1, _, _, h, k => by
    obtain ⟨w, ws, rfl, h1, h2⟩ := RL.cons_ h
    exact RL.cons h1 (RL.set n h2 k)
theorem RL.erase : ∀ {vs : List V} {xs : List a} (n : Nat), RL H vs xs → RL H (vs.eraseIdx n) (xs.eraseIdx n)
  | _, [], n, h => by rw [RL.nil_ h]; exact RL.nil
  | _, x :: xs, 0, h => by
    obtain ⟨w, ws, rfl, h1, h2⟩ := RL.cons_ h
    exact h2
  | _, x :: xs, n + 1, h => by
    obtain ⟨w, ws, rfl, h1, h2⟩ := RL.cons_ h
    exact RL.cons h1 (RL.erase n h2)
theorem RL.dropLast : ∀ {vs : List V} {xs : List a}, RL H vs xs → RL H vs.dropLast xs.dropLast
  | _, [], h => by rw [RL.nil_ h]; exact RL.nil
  | _, x :: xs, h => by
    obtain ⟨w, ws, rfl, h1, h2⟩ := RL.cons_ h
    cases xs with
    | nil => rw [RL.nil_ h2]; exact RL.nil
    | cons y ys =>
      obtain ⟨w2, ws2, rfl, _, _⟩ := RL.cons_ h2
      exact RL.cons h1 (RL.dropLast h2)
theorem RL.rev : ∀ {vs : List V} {xs : List a}, RL H vs xs → RL H vs.reverse xs.reverse
  | _, [], h => by rw [RL.nil_ h]; exact RL.nil
  | _, x :: xs, h => by
    obtain ⟨w, ws, rfl, h1, h2⟩ := RL.cons_ h
    rw [List.reverse_cons, List.reverse_cons]
    exact RL.snoc (RL.rev h2) h1
theorem RL.ints : ∀ {vs : List V} {xs : List Int}, RL H vs xs → vs = xs.map V.int
  | _, [], h => RL.nil_ h
  | _, x :: xs, h => by
    obtain ⟨w, ws, rfl, h1, h2⟩ := RL.cons_ h
    rw [R.int_ h1, RL.ints h2]
    rfl
theorem RL.of_ints : ∀ {xs : List Int}, RL H (xs.map V.int) xs
  | [] => RL.nil
  | x :: xs => RL.cons R.int RL.of_ints
theorem RL.bls : ∀ {vs : List V} {xs : List Bool}, RL H vs xs → vs = xs.map V.bl
  | _, [], h => RL.nil_ h
  | _, x :: xs, h => by
    obtain ⟨w, ws, rfl, h1, h2⟩ := RL.cons_ h
    rw [R.bl_ h1, RL.bls h2]
    rfl
theorem RL.strs : ∀ {vs : List V} {xs : List Str}, RL H vs xs → vs = xs.map V.str
  | _, [], h => RL.nil_ h
  | _, x :: xs, h => by
    obtain ⟨w, ws, rfl, h1, h2⟩ := RL.cons_ h
    rw [R.str_ h1, RL.strs h2]
    rfl
theorem RL.of_strs : ∀ {xs : List Str}, RL H (xs.map V.str) xs
  | [] => RL.nil
  | x :: xs => RL.cons R.str RL.of_strs
theorem RL.cut {xs : List a} (h : RL H vs xs) (lo hi : Option Int) : RL H (cutV vs lo hi) ((xs.drop (HT.sIx xs.length 0 lo)).take (HT.sIx xs.length xs.length hi - HT.sIx xs.length 0 lo)) := by
  unfold cutV
  rw [h.len]
  exact (h.drop _).take _
end

/-! ### owned cells: F is what is read alone, cs are the cells that the code may change -/
/-- what is known of the heap behind a def, by the heap at its entry; the cells at as may have changed -/
structure Gr (as : List Addr) (F H F' H' : Hp) : Prop where
  f : Same F F'
  s : Same F' H'
  k : ∀ b o, b ∉ as → H b = some o → H' b = some o
  t : ∀ b, H b ≠ none → H' b ≠ none
  n : ∀ b, H b ≠ none → F' b = F b ∨ ∃ xs, H b = some (.tup xs)
  u : ∀ b xs, H' b = some (.tup xs) → H b = none ∨ H b = some (.tup xs)
/-- what may be a cell -/
def noTup : HO → Bool
  | .tup _ => false
  | _ => true
structure Kp (as : List Addr) (H H' : Hp) : Prop where
  k : ∀ b o, b ∉ as → H b = some o → H' b = some o
  t : ∀ b, H b ≠ none → H' b ≠ none
/-- the entry of a def -/
structure Ent where
  as : List Addr
  F : Hp
  H : Hp
structure Ow (Z : Ent) (F : Hp) (cs : List (Addr × HO)) (H : Hp) : Prop where
  g : Gr Z.as Z.F Z.H F H
  cf : ∀ c ∈ cs, F c.1 = none
  ch : ∀ c ∈ cs, H c.1 = some c.2
  nd : (cs.map (·.1)).Nodup
  ca : ∀ c ∈ cs, c.1 ∈ Z.as ∨ Z.H c.1 = none
  nt : ∀ c ∈ cs, noTup c.2 = true
/-- what a def asks of its cells -/
structure Pre (F : Hp) (cs : List (Addr × HO)) (H : Hp) : Prop where
  s : Same F H
  cf : ∀ c ∈ cs, F c.1 = none
  ch : ∀ c ∈ cs, H c.1 = some c.2
  nd : (cs.map (·.1)).Nodup
  nt : ∀ c ∈ cs, noTup c.2 = true
theorem Same.new {H : Hp} {p : Addr} {o : HO} (h : H p = none) : Same H (upd H p o) := fun b u e => by
  rw [upd_ne (ne_of_none e h)]
  exact e
theorem Same.upd2 {F H : Hp} {p : Addr} {o : HO} (s : Same F H) : Same (upd F p o) (upd H p o) := fun b u e => by
  by_cases hb : b = p
  · subst hb
    rw [upd_same] at e ⊢
    exact e
  · rw [upd_ne hb] at e ⊢
    exact s b u e
theorem Same.no {F H : Hp} {p : Addr} (s : Same F H) (h : H p = none) : F p = none := Same.free s h
section
variable {Z : Ent} {F F' H H' : Hp} {cs : List (Addr × HO)} {p a : Addr} {o o' : HO}
theorem Pre.start (P : Pre F cs H) : Ow ⟨cs.map (·.1), F, H⟩ F cs H where
  g := ⟨Same.refl _, P.s, fun _ _ _ e => e, fun _ e => e, fun _ _ => .inl rfl, fun _ _ e => .inr e⟩
  cf := P.cf
  ch := P.ch
  nd := P.nd
  ca := fun c hc => .inl (List.mem_map.mpr ⟨c, hc, rfl⟩)
  nt := P.nt
theorem Ow.s (O : Ow Z F cs H) : Same F H := O.g.s
theorem Ow.pre (O : Ow Z F cs H) : Pre F cs H := ⟨O.g.s, O.cf, O.ch, O.nd, O.nt⟩
theorem Ow.pre0 (O : Ow Z F cs H) : Pre F [] H := ⟨O.g.s, (fun _ h => nomatch h), (fun _ h => nomatch h), List.nodup_nil, fun _ h => nomatch h⟩
theorem Ow.pre1 (O : Ow Z F cs H) (i : Nat) (e : cs[i]? = some (a, o)) : Pre F [(a, o)] H := by
  have m := List.mem_of_getElem? e
  refine ⟨O.g.s, fun c hc => ?_, fun c hc => ?_, by simp, fun c hc => ?_⟩
  · rw [List.mem_singleton.mp hc]; exact O.cf _ m
  · rw [List.mem_singleton.mp hc]; exact O.ch _ m
  · rw [List.mem_singleton.mp hc]; exact O.nt _ m
theorem Ow.at (O : Ow Z F cs H) (i : Nat) (e : cs[i]? = some (a, o)) : H a = some o := O.ch _ (List.mem_of_getElem? e)
theorem Ow.no (O : Ow Z F cs H) (h : H p = none) : F p = none := Same.no O.s h
theorem Gr.new (g : Gr Z.as Z.F Z.H F H) (h : H p = none) : Gr Z.as Z.F Z.H F (upd H p o) where
  f := g.f
  s := g.s.trans (Same.new h)
  k := fun b u hb e => Same.new h b u (g.k b u hb e)
  t := fun b e z => by
    by_cases hb : b = p
    · subst hb; exact g.t _ e h
    · rw [upd_ne hb] at z; exact g.t b e z
  n := g.n
  u := fun b xs e => by
    by_cases hb : b = p
    · subst hb
      cases q : Z.H b with
      | none => exact .inl rfl
      | some u => exact absurd h (g.t b (by rw [q]; simp))
    · rw [upd_ne hb] at e; exact g.u b xs e
/-- a new cell -/
theorem Ow.new (O : Ow Z F cs H) (h : H p = none) (hn : noTup o = true := by rfl) : Ow Z F ((p, o) :: cs) (upd H p o) where
  g := O.g.new h
  cf := fun c hc => by
    rcases List.mem_cons.mp hc with rfl | hc
    · exact O.no h
    · exact O.cf c hc
  ch := fun c hc => by
    rcases List.mem_cons.mp hc with rfl | hc
    · exact upd_same
    · rw [upd_ne (ne_of_none (O.ch c hc) h)]; exact O.ch c hc
  nd := by
    rw [List.map_cons, List.nodup_cons]
    refine ⟨fun hm => ?_, O.nd⟩
    obtain ⟨c, hc, e⟩ := List.mem_map.mp hm
    have z := O.ch c hc
    rw [e] at z
    rw [z] at h
    cases h
  ca := fun c hc => by
    rcases List.mem_cons.mp hc with rfl | hc
    · refine .inr ?_
      cases q : Z.H p with
      | none => rfl
      | some u => exact absurd h (O.g.t p (by rw [q]; simp))
    · exact O.ca c hc
  nt := fun c hc => by
    rcases List.mem_cons.mp hc with rfl | hc
    · exact hn
    · exact O.nt c hc
/-- a new thing that is read alone -/
theorem Ow.put (O : Ow Z F cs H) (h : H p = none) : Ow Z (upd F p o) cs (upd H p o) where
  g := {
    f := O.g.f.trans (Same.new (O.no h))
    s := Same.upd2 O.g.s
    k := (O.g.new h).k
    t := (O.g.new h).t
    n := fun b e => by
      have hb : b ≠ p := fun z => by subst z; exact O.g.t _ e h
      rw [upd_ne hb]
      exact O.g.n b e
    u := (O.g.new h).u }
  cf := fun c hc => by rw [upd_ne (ne_of_none (O.ch c hc) h)]; exact O.cf c hc
  ch := fun c hc => by rw [upd_ne (ne_of_none (O.ch c hc) h)]; exact O.ch c hc
  nd := O.nd
  ca := O.ca
  nt := O.nt
theorem map_set_fst {i : Nat} (e : cs[i]? = some (a, o)) : (cs.set i (a, o')).map (·.1) = cs.map (·.1) := by
  rw [List.map_set]
  obtain ⟨h, e'⟩ := List.getElem?_eq_some_iff.mp e
  refine List.ext_getElem? fun j => ?_
  by_cases hj : i = j
  · subst hj
    rw [List.getElem?_set_self (by simpa using h), List.getElem?_map, e]
    rfl
  · rw [List.getElem?_set_ne hj]
theorem nd_other {i : Nat} (nd : (cs.map (·.1)).Nodup) (e : cs[i]? = some (a, o)) {c : Addr × HO} (hc : c ∈ cs.set i (a, o')) : c = (a, o') ∨ (c ∈ cs ∧ c.1 ≠ a) := by
  obtain ⟨j, hj⟩ := List.mem_iff_getElem?.mp hc
  by_cases hij : i = j
  · subst hij
    obtain ⟨h, _⟩ := List.getElem?_eq_some_iff.mp e
    rw [List.getElem?_set_self h] at hj
    exact .inl (Option.some.inj hj).symm
  · rw [List.getElem?_set_ne hij] at hj
    refine .inr ⟨List.mem_of_getElem? hj, fun z => hij ?_⟩
    have h1 : (cs.map (·.1))[i]? = some a := by rw [List.getElem?_map, e]; rfl
    have h2 : (cs.map (·.1))[j]? = some a := by rw [List.getElem?_map, hj, ← z]; rfl
    exact nd_ix nd h1 h2
/-- a cell is changed -/
theorem Ow.set (O : Ow Z F cs H) (i : Nat) (o' : HO) (e : cs[i]? = some (a, o)) (hn : noTup o' = true := by rfl) : Ow Z F (cs.set i (a, o')) (upd H a o') := by
  have m := List.mem_of_getElem? e
  have ha := O.ca _ m
  refine ⟨⟨O.g.f, fun b u q => ?_, fun b u hb q => ?_, fun b q z => ?_, O.g.n, fun b xs q => ?_⟩, fun c hc => ?_, fun c hc => ?_, ?_, fun c hc => ?_, fun c hc => ?_⟩
  · have hb : b ≠ a := fun z => by subst z; rw [O.cf _ m] at q; cases q
    rw [upd_ne hb]
    exact O.g.s b u q
  · have hba : b ≠ a := fun z => by
      subst z
      rcases ha with ha | ha
      · exact hb ha
      · have q' : Z.H b = some u := q
        have ha' : Z.H b = none := ha
        rw [ha'] at q'; cases q'
    rw [upd_ne hba]
    exact O.g.k b u hb q
  · by_cases hb : b = a
    · subst hb; rw [upd_same] at z; cases z
    · rw [upd_ne hb] at z; exact O.g.t b q z
  · by_cases hb : b = a
    · subst hb
      rw [upd_same] at q
      rw [Option.some.inj q] at hn
      cases hn
    · rw [upd_ne hb] at q; exact O.g.u b xs q
  · rcases nd_other O.nd e hc with rfl | ⟨h1, _⟩
    · exact O.cf (a, o) m
    · exact O.cf c h1
  · rcases nd_other O.nd e hc with rfl | ⟨h1, h2⟩
    · exact upd_same
    · rw [upd_ne h2]; exact O.ch c h1
  · rw [map_set_fst e]; exact O.nd
  · rcases nd_other O.nd e hc with rfl | ⟨h1, _⟩
    · exact ha
    · exact O.ca c h1
  · rcases nd_other O.nd e hc with rfl | ⟨h1, _⟩
    · exact hn
    · exact O.nt c h1
theorem mem_erase {i : Nat} {c : Addr × HO} (h : c ∈ cs.eraseIdx i) : c ∈ cs := List.mem_of_mem_eraseIdx h
theorem nd_erase {i : Nat} (h : (cs.map (·.1)).Nodup) : ((cs.eraseIdx i).map (·.1)).Nodup := by
  exact h.sublist ((List.eraseIdx_sublist cs i).map (fun x => x.1))
/-- a cell that nobody changes any more (it was not there at the entry) -/
theorem Ow.frz (O : Ow Z F cs H) (i : Nat) (e : cs[i]? = some (a, o)) (hz : Z.H a = none) : Ow Z (upd F a o) (cs.eraseIdx i) H := by
  have m := List.mem_of_getElem? e
  have h1 : ∀ c ∈ cs.eraseIdx i, c.1 ≠ a := fun c hc z => by
    have nd := O.nd
    obtain ⟨hi, e'⟩ := List.getElem?_eq_some_iff.mp e
    obtain ⟨j, hj⟩ := List.mem_iff_getElem?.mp hc
    rw [List.getElem?_eraseIdx] at hj
    have h1 : (cs.map (·.1))[i]? = some a := by rw [List.getElem?_map, e]; rfl
    by_cases hji : j < i
    · rw [if_pos hji] at hj
      have h2 : (cs.map (·.1))[j]? = some a := by rw [List.getElem?_map, hj, ← z]; rfl
      have := nd_ix nd h1 h2
      omega
    · rw [if_neg hji] at hj
      have h2 : (cs.map (·.1))[j + 1]? = some a := by rw [List.getElem?_map, hj, ← z]; rfl
      have := nd_ix nd h1 h2
      omega
  refine ⟨⟨O.g.f.trans (Same.new (O.cf _ m)), fun b u q => ?_, O.g.k, O.g.t, fun b q => ?_, O.g.u⟩, fun c hc => ?_, fun c hc => O.ch c (mem_erase hc), nd_erase O.nd, fun c hc => O.ca c (mem_erase hc), fun c hc => O.nt c (mem_erase hc)⟩
  · by_cases hb : b = a
    · subst hb; rw [upd_same] at q; rw [← q]; exact O.ch _ m
    · rw [upd_ne hb] at q; exact O.g.s b u q
  · have hb : b ≠ a := fun z => by subst z; exact q hz
    rw [upd_ne hb]
    exact O.g.n b q
  · rw [upd_ne (h1 c hc)]; exact O.cf c (mem_erase hc)
theorem Ow.drop (O : Ow Z F cs H) (i : Nat) : Ow Z F (cs.eraseIdx i) H := ⟨O.g, fun c hc => O.cf c (mem_erase hc), fun c hc => O.ch c (mem_erase hc), nd_erase O.nd, fun c hc => O.ca c (mem_erase hc), fun c hc => O.nt c (mem_erase hc)⟩
theorem Ow.frzS (O : Ow Z F cs H) (i : Nat) (e : cs[i]? = some (a, o)) : Same F (upd F a o) := Same.new (O.cf _ (List.mem_of_getElem? e))
theorem Ow.putS (O : Ow Z F cs H) (h : H p = none) : Same F (upd F p o) := Same.new (O.no h)
theorem Gr.then {as : List Addr} (g0 : Gr Z.as Z.F Z.H F H) (g : Gr as F H F' H') (ha : ∀ b ∈ as, b ∈ Z.as ∨ Z.H b = none) : Gr Z.as Z.F Z.H F' H' where
  f := g0.f.trans g.f
  s := g.s
  k := fun b u hb e => by
    refine g.k b u (fun z => ?_) (g0.k b u hb e)
    rcases ha b z with h | h
    · exact hb h
    · rw [h] at e; cases e
  t := fun b e => g.t b (g0.t b e)
  n := fun b e => by
    rcases g0.n b e with h0 | h0
    · rcases g.n b (g0.t b e) with h1 | ⟨xs, hx⟩
      · exact .inl (h1.trans h0)
      · rcases g0.u b xs hx with z | z
        · exact absurd z e
        · exact .inr ⟨xs, z⟩
    · exact .inr h0
  u := fun b xs e => by
    rcases g.u b xs e with z | z
    · refine .inl ?_
      cases q : Z.H b with
      | none => rfl
      | some u => exact absurd z (g0.t b (by rw [q]; simp))
    · exact g0.u b xs z
theorem Gr.none {as : List Addr} (g : Gr as F H F' H') {c : Addr × HO} (h : H c.1 = some c.2) (hn : noTup c.2 = true) (hf : F c.1 = Option.none) : F' c.1 = Option.none := by
  rcases g.n c.1 (by rw [h]; simp) with z | ⟨xs, z⟩
  · exact z.trans hf
  · rw [h] at z
    rw [Option.some.inj z] at hn
    cases hn
/-- behind a call that changes none of our cells -/
theorem Ow.call0 (O : Ow Z F cs H) (g : Gr [] F H F' H') : Ow Z F' cs H' where
  g := O.g.then g (fun _ h => nomatch h)
  cf := fun c hc => g.none (O.ch c hc) (O.nt c hc) (O.cf c hc)
  ch := fun c hc => g.k _ _ (fun h => nomatch h) (O.ch c hc)
  nd := O.nd
  ca := O.ca
  nt := O.nt
/-- .. one -/
theorem Ow.call1 (O : Ow Z F cs H) (g : Gr [a] F H F' H') (i : Nat) (e : cs[i]? = some (a, o)) (h' : H' a = some o') (hn : noTup o' = true := by rfl) : Ow Z F' (cs.set i (a, o')) H' := by
  have m := List.mem_of_getElem? e
  refine ⟨O.g.then g (fun b hb => by rw [List.mem_singleton.mp hb]; exact O.ca _ m), fun c hc => ?_, fun c hc => ?_, by rw [map_set_fst e]; exact O.nd, fun c hc => ?_, fun c hc => ?_⟩
  · rcases nd_other O.nd e hc with rfl | ⟨h1, _⟩
    · exact g.none (c := (a, o)) (O.ch (a, o) m) (O.nt (a, o) m) (O.cf (a, o) m)
    · exact g.none (O.ch c h1) (O.nt c h1) (O.cf c h1)
  · rcases nd_other O.nd e hc with rfl | ⟨h1, h2⟩
    · exact h'
    · exact g.k _ _ (fun z => h2 (List.mem_singleton.mp z)) (O.ch c h1)
  · rcases nd_other O.nd e hc with rfl | ⟨h1, _⟩
    · exact O.ca (a, o) m
    · exact O.ca c h1
  · rcases nd_other O.nd e hc with rfl | ⟨h1, _⟩
    · exact hn
    · exact O.nt c h1
/-- a cell that a call made -/
theorem Ow.add {H0 : Hp} {F0 : Hp} (O : Ow Z F cs H) (O0 : Ow Z F0 cs' H0) (hk : ∀ c ∈ cs, c.1 ∈ cs'.map (·.1)) (hn : H0 p = none) (hf : F p = none) (h : H p = some o) (ht : noTup o = true := by rfl) : Ow Z F ((p, o) :: cs) H where
  g := O.g
  cf := fun c hc => by
    rcases List.mem_cons.mp hc with rfl | hc
    · exact hf
    · exact O.cf c hc
  ch := fun c hc => by
    rcases List.mem_cons.mp hc with rfl | hc
    · exact h
    · exact O.ch c hc
  nd := by
    rw [List.map_cons, List.nodup_cons]
    refine ⟨fun hm => ?_, O.nd⟩
    obtain ⟨c, hc, e⟩ := List.mem_map.mp hm
    obtain ⟨c', hc', e'⟩ := List.mem_map.mp (hk c hc)
    have z := O0.ch c' hc'
    rw [e', e] at z
    rw [z] at hn
    cases hn
  ca := fun c hc => by
    rcases List.mem_cons.mp hc with rfl | hc
    · refine .inr ?_
      cases q : Z.H p with
      | none => rfl
      | some u => exact absurd hn (O0.g.t p (by rw [q]; simp))
    · exact O.ca c hc
  nt := fun c hc => by
    rcases List.mem_cons.mp hc with rfl | hc
    · exact ht
    · exact O.nt c hc
theorem Ow.kp (O : Ow Z F cs H) : Kp Z.as Z.H H := ⟨O.g.k, O.g.t⟩
theorem Kp.of {as : List Addr} {H0 H1 : Hp} (g : Gr as F H0 F' H1) : Kp as H0 H1 := ⟨g.k, g.t⟩
/-- an error of a call leaves this def -/
theorem Ow.kpCall {as : List Addr} {H1 : Hp} (O : Ow Z F cs H) (k : Kp as H H1) (ha : ∀ b ∈ as, ∃ o, (b, o) ∈ cs) : Kp Z.as Z.H H1 where
  k := fun b u hb e => by
    refine k.k b u (fun z => ?_) (O.g.k b u hb e)
    obtain ⟨o, hc⟩ := ha b z
    rcases O.ca _ hc with h | h
    · exact hb h
    · have h' : Z.H b = none := h
      rw [h'] at e; cases e
  t := fun b e => k.t b (O.g.t b e)
theorem Ow.kp0 {H1 : Hp} (O : Ow Z F cs H) (k : Kp [] H H1) : Kp Z.as Z.H H1 := O.kpCall k fun _ h => nomatch h
theorem Ow.kp1 {H1 : Hp} (O : Ow Z F cs H) (k : Kp [a] H H1) (i : Nat) (e : cs[i]? = some (a, o)) : Kp Z.as Z.H H1 := O.kpCall k fun b hb => by
  rw [List.mem_singleton.mp hb]
  exact ⟨o, List.mem_of_getElem? e⟩
end
end PG

set_option Elab.async false
set_option linter.all false
set_option maxRecDepth 100000
set_option maxHeartbeats 4000000
namespace PG
open PySem L2
open PySem.W (T3 T4 Datum DatumOrd Holds HoldAll EachIs)
variable {K0 : PySem.W.Frag} [KF K0]
/-! ### rules over typed data -/
section
variable {X : Cx} {pins : List (Addr × Obj)} {σ : St} {H : Hp} {s : Shared} {v : V} {u : Value} {vs : List V} {us : List Value}
theorem R.holds [KF X.K] {a : Type} [Py a] [DecidableEq a] [Datum a] [IsD a] {x : a} (I : Inv X pins σ H s) (h : R H v x) (r : RelV v u) : Holds s.heap u x := by
  obtain ⟨as, q⟩ := Dp.reads I _ _ _ (Rep.dp _ _ h) r
  rw [IsD.eq] at q
  exact ⟨as, q⟩
theorem RL.holds [KF X.K] {a : Type} [Py a] [DecidableEq a] [Datum a] [IsD a] {xs : List a} (I : Inv X pins σ H s) (h : RL H vs xs) (r : Vals vs us) : HoldAll s.heap us xs := by
  obtain ⟨as, q⟩ := Dp.readsAll I _ _ _ (RepA.dp _ _ h) r
  rw [map_toD] at q
  exact ⟨as, q⟩
end
section
variable {X : Cx} (a : Type) [Py a] [DecidableEq a] [Datum a] [IsD a]
def rEqT : R2 := fun x y H Q => ∃ p q : a, R H x p ∧ R H y q ∧ Q (.bl (decide (p = q))) H
def rNeT : R2 := fun x y H Q => ∃ p q : a, R H x p ∧ R H y q ∧ Q (.bl (decide (p ≠ q))) H
theorem op_eqT (hu : X.A.units + 64 < cLine) (hd : Datum.depth a ≤ 64 := by decide) (hK : X.K = K0 := by rfl) : OpR X (compareOp .Eq) (rEqT a) := by
  subst hK
  intro pins s σ H x y v u Q I rx ry h
  obtain ⟨p, q, hp, hq, k⟩ := h
  exact PySem.W.eq_datum (hp.holds I rx) (hq.holds I ry) (by omega) ⟨.bl _, H, I, rfl, k⟩
theorem op_neT (hu : X.A.units + 64 < cLine) (hd : Datum.depth a ≤ 64 := by decide) (hK : X.K = K0 := by rfl) : OpR X (compareOp .NotEq) (rNeT a) := by
  subst hK
  intro pins s σ H x y v u Q I rx ry h
  obtain ⟨p, q, hp, hq, k⟩ := h
  exact PySem.W.ne_datum (hp.holds I rx) (hq.holds I ry) (by omega) ⟨.bl _, H, I, rfl, k⟩
def rInT (neg : Bool) : R2 := fun x y H Q => ∃ (p : a) (l : Addr) (vs : List V) (ys : List a), R H x p ∧ y = .ref l ∧ (H l = some (.lst vs) ∨ TupAt H l vs) ∧ RL H vs ys ∧ Q (.bl (if neg then decide (p ∉ ys) else decide (p ∈ ys))) H
end
section
variable {X : Cx} (a : Type) [Py a] [DecidableEq a] [Datum a] [IsD a]
theorem op_inT (hu : X.A.units + 64 < cLine) (hd : Datum.depth a ≤ 60 := by decide) (hK : X.K = K0 := by rfl) : OpR X (compareOp .In) (rInT a false) := by
  subst hK
  intro pins s σ H x y v u Q I rx ry h
  obtain ⟨p, l, vs, ys, hp, rfl, hl, hy, k⟩ := h
  cases ry
  rcases hl with hl | hl
  · obtain ⟨its, rv, hL, _⟩ := I.list (SqL.of (K := X.K) hl)
    exact PySem.W.in_list_datum hL.isList (by simpa using hy.holds I rv) (hp.holds I rx) (by omega) ⟨.bl _, H, I, rfl, k⟩
  · obtain ⟨its, rv, hL, _⟩ := I.tuple hl.sq
    exact PySem.W.in_tuple_datum (show s.heap.IsTuple l its.toArray from hL) (by simpa using hy.holds I rv) (hp.holds I rx) (by omega) ⟨.bl _, H, I, rfl, k⟩
theorem op_ninT (hu : X.A.units + 64 < cLine) (hd : Datum.depth a ≤ 60 := by decide) (hK : X.K = K0 := by rfl) : OpR X (compareOp .NotIn) (rInT a true) := by
  subst hK
  intro pins s σ H x y v u Q I rx ry h
  obtain ⟨p, l, vs, ys, hp, rfl, hl, hy, k⟩ := h
  cases ry
  rcases hl with hl | hl
  · obtain ⟨its, rv, hL, _⟩ := I.list (SqL.of (K := X.K) hl)
    exact PySem.W.notIn_list_datum hL.isList (by simpa using hy.holds I rv) (hp.holds I rx) (by omega) ⟨.bl _, H, I, rfl, k⟩
  · obtain ⟨its, rv, hL, _⟩ := I.tuple hl.sq
    exact PySem.W.notIn_tuple_datum (show s.heap.IsTuple l its.toArray from hL) (by simpa using hy.holds I rv) (hp.holds I rx) (by omega) ⟨.bl _, H, I, rfl, k⟩
end

/-! ### sorted -/
/-- how data may be sorted: all are tuples with an item, or none is a tuple or None -/
class SortB (a : Type) [DecidableEq a] [Datum a] : Prop where
  ok : (∀ x : a, ∃ d r, Datum.toD x = .tuple (d :: r)) ∨ ∀ x : a, Datum.toD x ≠ .none ∧ ∀ ds, Datum.toD x ≠ .tuple ds
instance : SortB Int := ⟨.inr fun x => ⟨(fun e => nomatch (show PyData.int x = .none from e)), fun ds e => nomatch (show PyData.int x = .tuple ds from e)⟩⟩
instance : SortB Str := ⟨.inr fun x => ⟨(fun e => nomatch (show PyData.str x = .none from e)), fun ds e => nomatch (show PyData.str x = .tuple ds from e)⟩⟩
section
variable {a b c : Type} [DecidableEq a] [Datum a] [DecidableEq b] [Datum b] [DecidableEq c] [Datum c]
instance : SortB (List a) := ⟨.inr fun x => ⟨(fun e => nomatch (show PyData.list _ = .none from e)), fun ds e => nomatch (show PyData.list _ = .tuple ds from e)⟩⟩
instance : SortB (a × b) := ⟨.inl fun x => ⟨_, _, rfl⟩⟩
instance : SortB (T3 a b c) := ⟨.inl fun x => ⟨_, _, rfl⟩⟩
end
/-- Python's order -/
def leT {a : Type} [DecidableEq a] [DatumOrd a] (x y : a) : Bool := !DatumOrd.lt y x
def sortT {a : Type} [DecidableEq a] [DatumOrd a] (xs : List a) : List a := xs.mergeSort leT
theorem dataLe_T {a β : Type} [DecidableEq a] [DatumOrd a] (f : β → a) : PySem.W.dataLe false (fun b => Datum.toD (f b)) = fun x y => leT (f x) (f y) := by
  funext x y
  rw [PySem.W.dataLe_eq]
  show (!PySem.W.dataLt (Datum.toD (f y)) (Datum.toD (f x))) = _
  rw [DatumOrd.lt_eq]
  rfl
section
variable {a : Type} [Py a] [DecidableEq a] [DatumOrd a] [IsD a] {H : Hp}
theorem each_pairs : ∀ {vs : List V} {xs : List a} {us : List Value}, RL H vs xs → Vals vs us → EachIs (fun (u : Value) (p : V × a) => RelV p.1 u ∧ R H p.1 p.2) us (vs.zip xs)
  | _, [], _, h, r => by
    rw [RL.nil_ h] at r ⊢
    cases r
    exact .nil
  | _, x :: xs, _, h, r => by
    obtain ⟨w, ws, rfl, h1, h2⟩ := RL.cons_ h
    cases r with
    | cons r1 r2 => exact .cons ⟨r1, h1⟩ (each_pairs h2 r2)
theorem pairs_vals : ∀ {ps : List (V × a)} {us : List Value}, EachIs (fun (u : Value) (p : V × a) => RelV p.1 u ∧ R H p.1 p.2) us ps → Vals (ps.map (·.1)) us ∧ RL H (ps.map (·.1)) (ps.map (·.2))
  | _, _, .nil => ⟨.nil, RL.nil⟩
  | _, _, .cons ⟨r1, h1⟩ t => ⟨.cons r1 (pairs_vals t).1, RL.cons h1 (pairs_vals t).2⟩
theorem each_imp {β γ : Type} {A B : β → γ → Prop} (f : ∀ x y, A x y → B x y) : ∀ {xs : List β} {ys : List γ}, EachIs A xs ys → EachIs B xs ys
  | _, _, .nil => .nil
  | _, _, .cons h t => .cons (f _ _ h) (each_imp f t)
theorem zip_snd : ∀ {vs : List V} {xs : List a}, vs.length = xs.length → (vs.zip xs).map (·.2) = xs
  | [], [], _ => rfl
  | v :: vs, x :: xs, h => by
    rw [List.zip_cons_cons, List.map_cons, zip_snd (by simpa using h)]
  | [], _ :: _, h => by simp at h
  | _ :: _, [], h => by simp at h
theorem sort_zip {vs : List V} {xs : List a} (h : vs.length = xs.length) : ((vs.zip xs).mergeSort fun p q => leT p.2 q.2).map (·.2) = sortT xs := by
  unfold sortT
  rw [List.map_mergeSort (s := leT) (fun _ _ _ _ => rfl), zip_snd h]
end
section
variable {a : Type} [Py a] [DecidableEq a] [DatumOrd a] [IsD a] {H : Hp}
def sortV (ws : List V) (xs : List a) : List V := ((ws.zip xs).mergeSort fun p q => leT p.2 q.2).map (·.1)
theorem RL.pairs : ∀ {ws : List V} {xs : List a}, RL H ws xs → ∀ p ∈ ws.zip xs, R H p.1 p.2
  | _, [], _, p, hp => by simp at hp
  | _, x :: xs, h, p, hp => by
    obtain ⟨w, ws, rfl, h1, h2⟩ := RL.cons_ h
    rw [List.zip_cons_cons] at hp
    rcases List.mem_cons.mp hp with rfl | hp
    · exact h1
    · exact RL.pairs h2 p hp
theorem RL.of_pairs : ∀ {ps : List (V × a)}, (∀ p ∈ ps, R H p.1 p.2) → RL H (ps.map (·.1)) (ps.map (·.2))
  | [], _ => RL.nil
  | p :: ps, h => RL.cons (h p List.mem_cons_self) (RL.of_pairs fun q hq => h q (List.mem_cons_of_mem _ hq))
theorem RL.sorted {ws : List V} {xs : List a} (h : RL H ws xs) : RL H (sortV ws xs) (sortT xs) := by
  have q : RL H (sortV ws xs) (((ws.zip xs).mergeSort fun p q => leT p.2 q.2).map (·.2)) := RL.of_pairs fun p hp => h.pairs p (List.mem_mergeSort.mp hp)
  rw [sort_zip h.len] at q
  exact q
end
section
variable {X : Cx} (a : Type) [Py a] [DecidableEq a] [DatumOrd a] [IsD a]
/-- sorted(xs) of a list: a new list -/
def rSortedT : List V → Hp → VK → Prop := fun vs H Q => ∃ (l : Addr) (ws : List V) (xs : List a), vs = [.ref l] ∧ H l = some (.lst ws) ∧ RL H ws xs ∧ ∀ (p : Addr), H p = none → Q (.ref p) (upd H p (.lst (sortV ws xs)))
theorem cr_sortedT [SortB a] (hu : X.A.units + 128 < cLine) (hd : Datum.depth a ≤ 100 := by decide) (hK : X.K = K0 := by rfl) : CallR X (.builtin "sorted") (rSortedT a) := by
  subst hK
  intro pins s σ H vs us Q I r h
  obtain ⟨l, ws, xs, rfl, hl, hx, k⟩ := h
  obtain ⟨its, rv, hL, hz⟩ := I.list (SqL.of (K := X.K) hl)
  rw [Vals.ref1 r]
  have hlen : ws.length = xs.length := hx.len
  have hE := each_pairs hx rv
  refine PySem.W.sorted_data (bs := ws.zip xs) (enc := fun p => Datum.toD p.2) hL.isList hE (each_imp (fun u p hp => hp.2.holds I hp.1) hE) (PySem.W.AllAlike.of fun p q => DatumOrd.alike p.2 q.2) ?_ (by rw [List.length_zip, ← hlen, Nat.min_self]; exact hz) (fun p _ => ?_) fun out ho he => ?_
  · rcases SortB.ok (a := a) with q | q
    · exact PySem.W.Sortable.tuples fun p => q p.2
    · exact PySem.W.Sortable.others fun p => q p.2
  · have := Datum.depth_le p.2
    omega
  · rw [dataLe_T (fun p : V × a => p.2)] at he
    obtain ⟨q1, q2⟩ := pairs_vals he
    obtain ⟨ep, he'⟩ := PyProof.Rows.sortedAll_at s.heap its out.toArray
    refine ⟨.ref _, upd H (s.heap.objs.size + 1) (.lst _), I.laid (t' := s.toks) (fun _ _ => PyProof.Rows.sortedAll_old) (Nat.le_succ _) ⟨?_, out, ep, q1, he'⟩, rfl, k _ (I.hok.fresh (Nat.le_succ _))⟩
    rw [List.length_map, List.length_mergeSort, List.length_zip, ← hlen, Nat.min_self]
    exact hz
end
end PG

set_option Elab.async false
set_option linter.all false
set_option maxRecDepth 100000
set_option maxHeartbeats 4000000
namespace PG
open PySem PySem.Spec PyProof.Rows L2
open PySem.W (T3 T4 Datum DatumOrd Holds HoldAll EachIs)
variable {K0 : PySem.W.Frag} [KF K0]

instance (i j : Int) : Decidable (CMulW i j) := inferInstanceAs (Decidable (_ < _))
instance (i j : Int) : Decidable (CDivW i j) := inferInstanceAs (Decidable (_ ∧ _))
instance (i j : Int) : Decidable (CPow i j) := inferInstanceAs (Decidable (_ ∧ _ ∧ _))
theorem szl : sizeLine = 16777216 := sizeLine_eq
theorem lt_line {n : Nat} (h : n < 16777216) : n < sizeLine := by rw [szl]; exact h
theorem le_line {n : Nat} (h : n < 16777216) : n ≤ sizeLine := Nat.le_of_lt (lt_line h)
theorem len_line {vs : List V} (h : vs.length < 16777216 := by (show _ < 16777216); simp) : vs.length ≤ sizeLine := le_line h
theorem SqLF {K : PySem.W.Frag} {F H : Hp} {p : Addr} {vs : List V} (s : Same F H) (h : F p = some (.lst vs)) : SqL K H p vs := SqL.of (s _ _ h)
theorem SqTF {K : PySem.W.Frag} {F H : Hp} {p : Addr} {vs : List V} (s : Same F H) (h : F p = some (.tup vs)) : SqT K H p vs := SqT.of (s _ _ h)
theorem SqTK {F H : Hp} {p : Addr} {vs : List V} (s : Same F H) (h : TupAt F p vs) : SqT K0 H p vs := (h.mono s).sq

/-! ### mirrors of what may go wrong -/
def setI {a : Type} (xs : List a) (i : Int) (y : a) : M (List a) := match ixN xs.length i with
  | some j => .ok (xs.set j y)
  | none => bad
def popI {a : Type} (xs : List a) (i : Int) : M (a × List a) := if xs.length < 16777216 then (match ixN xs.length i with
    | some j => (match xs[j]? with
      | some y => .ok (y, xs.eraseIdx j)
      | none => bad)
    | none => bad) else bad
def popL {a : Type} (xs : List a) : M (a × List a) := match xs[xs.length - 1]? with
  | some y => .ok (y, xs.dropLast)
  | none => bad
def appL {a : Type} (xs : List a) (y : a) : M (List a) := if xs.length < 16777216 then .ok (xs ++ [y]) else bad
def rangeL (lo hi : Int) : List Int := (List.range (hi - lo).toNat).map fun (i : Nat) => lo + (i : Int)
def okR (i : Int) : Prop := -1000000 ≤ i ∧ i ≤ 1000000
instance (i : Int) : Decidable (okR i) := inferInstanceAs (Decidable (_ ∧ _))
theorem okR.lo {i : Int} (h : okR i) : -(2 ^ 62) ≤ i := by obtain ⟨a, b⟩ := h; omega
theorem okR.hi {i : Int} (h : okR i) : i < 2 ^ 62 := by obtain ⟨a, b⟩ := h; omega
theorem rangeL_get {lo hi : Int} {i : Nat} (h : i < (hi - lo).toNat) : (rangeL lo hi).drop i = (lo + (i : Int)) :: (rangeL lo hi).drop (i + 1) := by
  unfold rangeL
  rw [List.drop_eq_getElem_cons (by simpa using h)]
  simp
theorem rangeL_end {lo hi : Int} : (rangeL lo hi).drop (hi - lo).toNat = [] := by
  rw [List.drop_eq_nil_iff]
  unfold rangeL
  simp
section
variable {a b : Type} {Q : a → Prop} {E : String → Prop} {H : Hp}
theorem wp_setI {xs : List b} {i : Int} {y : b} {k : List b → M a} (h : wp (setI xs i y >>= k) Q E) : ∃ j, ixN xs.length i = some j ∧ wp (k (xs.set j y)) Q E := by
  unfold setI at h
  cases e : ixN xs.length i with
  | none => rw [e] at h; exact h.elim
  | some j => rw [e] at h; exact ⟨j, rfl, h⟩
theorem wp_popI {xs : List b} {i : Int} {k : b × List b → M a} (h : wp (popI xs i >>= k) Q E) : ∃ j y, seqIndex? i xs.length = some j ∧ -(2 ^ 63) ≤ i ∧ i < 2 ^ 63 ∧ xs[j]? = some y ∧ wp (k (y, xs.eraseIdx j)) Q E := by
  unfold popI at h
  by_cases hl : xs.length < 16777216
  · rw [if_pos hl] at h
    cases e : ixN xs.length i with
    | none => rw [e] at h; exact h.elim
    | some j =>
      rw [e] at h
      have h : wp ((match xs[j]? with
        | some y => .ok (y, xs.eraseIdx j)
        | none => bad) >>= k) Q E := h
      cases e2 : xs[j]? with
      | none => rw [e2] at h; exact h.elim
      | some y =>
        rw [e2] at h
        obtain ⟨q1, q2, q3, q4⟩ := ixN_seq e
        exact ⟨j, y, q1, by omega, by omega, e2, h⟩
  · rw [if_neg hl] at h
    exact h.elim
theorem wp_popL {xs : List b} {k : b × List b → M a} (h : wp (popL xs >>= k) Q E) : ∃ y, xs[xs.length - 1]? = some y ∧ wp (k (y, xs.dropLast)) Q E := by
  unfold popL at h
  cases e : xs[xs.length - 1]? with
  | none => rw [e] at h; exact h.elim
  | some y => rw [e] at h; exact ⟨y, rfl, h⟩
theorem wp_appL {xs : List b} {y : b} {k : List b → M a} (h : wp (appL xs y >>= k) Q E) : xs.length < sizeLine ∧ wp (k (xs ++ [y])) Q E := by
  unfold appL at h
  by_cases hl : xs.length < 16777216
  · rw [if_pos hl] at h
    exact ⟨lt_line hl, h⟩
  · rw [if_neg hl] at h
    exact h.elim
end
/-! loops, by what is left to be done -/
section
variable {i s r a c : Type} {Q : a → Prop} {E : String → Prop}
theorem loopN_L {b : i → s → M s} {xs : List i} {x : s} {k : s → M a} (h : wp (loopN b xs x >>= k) Q E) :
    ∃ L : List i → s → Prop, L xs x ∧ (∀ y ys x, L (y :: ys) x → wp (b y x) (fun x' => L ys x') E) ∧ ∀ x, L [] x → wp (k x) Q E := by
  refine ⟨fun ys x => wp (loopN b ys x >>= k) Q E, h, fun y ys x hx => ?_, fun x hx => hx⟩
  have hx : wp (loopN b (y :: ys) x >>= k) Q E := hx
  rw [wp_bind] at hx
  have hx : wp (b y x >>= fun x' => loopN b ys x') (fun x => wp (k x) Q E) E := hx
  rw [wp_bind] at hx
  cases e : b y x with
  | ok z =>
    rw [e] at hx
    exact wp_bind.mpr hx
  | error e2 =>
    rw [e] at hx
    cases e2 <;> exact hx
theorem loopM_L {b : i → s → M (Fl s r)} {xs : List i} {x : s} {k : Fl s r → M a} (h : wp (loopM b xs x >>= k) Q E) :
    ∃ L : List i → s → Prop, L xs x ∧ (∀ y ys x, L (y :: ys) x → wp (b y x) (fun f => match f with
      | .nx x' => L ys x'
      | .rt z => wp (k (.rt z)) Q E) E) ∧ ∀ x, L [] x → wp (k (.nx x)) Q E := by
  refine ⟨fun ys x => wp (loopM b ys x >>= k) Q E, h, fun y ys x hx => ?_, fun x hx => hx⟩
  have hx : wp (loopM b (y :: ys) x >>= k) Q E := hx
  rw [wp_bind] at hx
  cases e : b y x with
  | ok z =>
    have hx : wp (b y x >>= fun f => match f with
      | .nx x' => loopM b ys x'
      | .rt z => .ok (.rt z)) (fun x => wp (k x) Q E) E := hx
    rw [e] at hx
    cases z with
    | nx z => exact wp_bind.mpr hx
    | rt z => exact hx
  | error e2 =>
    have hx : wp (b y x >>= fun f => match f with
      | .nx x' => loopM b ys x'
      | .rt z => .ok (.rt z)) (fun x => wp (k x) Q E) E := hx
    rw [e] at hx
    cases e2 <;> exact hx
theorem whileN_L {c : s → M Bool} {b : s → M s} {n : Nat} {x : s} {k : s → M a} (h : wp (whileN c b n x >>= k) Q E) :
    ∃ L : Nat → s → Prop, L n x ∧ ∀ m x, L m x → wp (c x) (fun t => if t = true then ∃ m', m' < m ∧ wp (b x) (fun x' => L m' x') E else wp (k x) Q E) E := by
  refine ⟨fun n x => wp (whileN c b n x >>= k) Q E, h, fun m x hx => ?_⟩
  cases m with
  | zero => exact hx.elim
  | succ m =>
    have hx : wp ((c x >>= fun t => if t = true then b x >>= fun x' => whileN c b m x' else .ok x) >>= k) Q E := hx
    rw [wp_bind, wp_bind] at hx
    cases e : c x with
    | error e2 => rw [e] at hx; cases e2 <;> exact hx
    | ok t =>
      rw [e] at hx
      cases t with
      | false => exact hx
      | true =>
        refine ⟨m, Nat.lt_succ_self m, ?_⟩
        have hx : wp (b x >>= fun x' => whileN c b m x') (fun x => wp (k x) Q E) E := hx
        rw [wp_bind] at hx
        cases e : b x with
        | error e2 => rw [e] at hx; cases e2 <;> exact hx
        | ok z =>
          rw [e] at hx
          exact wp_bind.mpr hx
theorem whileM_L {c : s → M Bool} {b : s → M (Fl s r)} {n : Nat} {x : s} {k : Fl s r → M a} (h : wp (whileM c b n x >>= k) Q E) :
    ∃ L : Nat → s → Prop, L n x ∧ ∀ m x, L m x → wp (c x) (fun t => if t = true then ∃ m', m' < m ∧ wp (b x) (fun f => match f with
      | .nx x' => L m' x'
      | .rt z => wp (k (.rt z)) Q E) E else wp (k (.nx x)) Q E) E := by
  refine ⟨fun n x => wp (whileM c b n x >>= k) Q E, h, fun m x hx => ?_⟩
  cases m with
  | zero => exact hx.elim
  | succ m =>
    have hx : wp ((c x >>= fun t => if t = true then b x >>= fun
      | .nx x' => whileM c b m x'
      | .rt z => .ok (.rt z)
    else .ok (.nx x)) >>= k) Q E := hx
    rw [wp_bind, wp_bind] at hx
    cases e : c x with
    | error e2 => rw [e] at hx; cases e2 <;> exact hx
    | ok t =>
      rw [e] at hx
      cases t with
      | false => exact hx
      | true =>
        refine ⟨m, Nat.lt_succ_self m, ?_⟩
        have hx : wp (b x >>= fun
          | .nx x' => whileM c b m x'
          | .rt z => .ok (.rt z)) (fun x => wp (k x) Q E) E := hx
        rw [wp_bind] at hx
        cases e : b x with
        | error e2 => rw [e] at hx; cases e2 <;> exact hx
        | ok z =>
          rw [e] at hx
          cases z with
          | nx z => exact wp_bind.mpr hx
          | rt z => exact hx
/-- a comprehension: what it has made so far, then the items left; no exception leaves it -/
def compX (b : i → s → M (Option c × s)) : List i → List c → s → M (List c × s)
  | [], acc, x => .ok (acc, x)
  | y :: ys, acc, x => nox (b y x) >>= fun p => compX b ys (match p.1 with
    | some z => acc ++ [z]
    | none => acc) p.2
/-- the list is short enough -/
def compS (b : i → s → M (Option c × s)) (xs : List i) (x : s) : M (List c × s) := chk (xs.length < 16777216) >>= fun _ => compX b xs [] x
theorem compX_L {b : i → s → M (Option c × s)} {k : List c × s → M a} : ∀ {xs : List i} {acc : List c} {x : s}, wp (compX b xs acc x >>= k) Q E →
    ∃ L : List i → List c → s → Prop, L xs acc x ∧ (∀ y ys acc x, L (y :: ys) acc x → wp (b y x) (fun p => L ys (match p.1 with
      | some z => acc ++ [z]
      | none => acc) p.2) (fun _ => False)) ∧ ∀ acc x, L [] acc x → wp (k (acc, x)) Q E := by
  intro xs acc x h
  refine ⟨fun ys acc x => wp (compX b ys acc x >>= k) Q E, h, fun y ys acc x hx => ?_, fun acc x hx => hx⟩
  have hx : wp ((nox (b y x) >>= fun p => compX b ys (match p.1 with
    | some z => acc ++ [z]
    | none => acc) p.2) >>= k) Q E := hx
  rw [wp_bind] at hx
  obtain ⟨p, e, hx⟩ := wp_nox hx
  rw [e]
  exact wp_bind.mpr hx
theorem compS_L {b : i → s → M (Option c × s)} {k : List c × s → M a} {xs : List i} {x : s} (h : wp (compS b xs x >>= k) Q E) : xs.length < 16777216 ∧
    ∃ L : List i → List c → s → Prop, L xs [] x ∧ (∀ y ys acc x, L (y :: ys) acc x → wp (b y x) (fun p => L ys (match p.1 with
      | some z => acc ++ [z]
      | none => acc) p.2) (fun _ => False)) ∧ ∀ acc x, L [] acc x → wp (k (acc, x)) Q E := by
  unfold compS at h
  rw [wp_bind] at h
  obtain ⟨h1, h2⟩ := wp_chk h
  exact ⟨h1, compX_L (wp_bind.mpr h2)⟩
end
theorem drop_at {a : Type} {xs : List a} {i : Nat} {x : a} (h : xs[i]? = some x) : xs.drop i = x :: xs.drop (i + 1) := by
  obtain ⟨h1, h2⟩ := List.getElem?_eq_some_iff.mp h
  rw [List.drop_eq_getElem_cons h1, h2]
theorem drop_end {a : Type} {xs : List a} {vs : List V} (h : vs.length = xs.length) : xs.drop vs.length = [] := by
  rw [h, List.drop_length]

/-! ### a def as it stands -/
structure Df (K : PySem.W.Frag) (mg : Str → Option Value) (x qual : Str) (st : Stmt) (ps : List Str) : Prop where
  ex : ∃ f fd, Fun K x qual st f fd ∧ mg x = some (.ref f) ∧ Binds K fd ps []
structure Ca (P : Program) (w : World) (K : PySem.W.Frag) (mg : Str → Option Value) (base : Heap) (x : Str) (k : Nat) (ps : List Str) (sp : Sp) : Prop where
  ex : ∃ f fd, FnOk P w K mg base (L2.CX P w) k f fd ps sp ∧ mg x = some (.ref f) ∧ PySem.W.keepIn K (.ref f) = true ∧ Binds K fd ps []
/-- an exception class of the program -/
structure Xc (K : PySem.W.Frag) (mg : Str → Option Value) (x : Str) (C : Addr) : Prop where
  g : mg x = some (.ref C)
  x : PySem.W.excIn K C [.type "ValueError", .type "Exception", .type "BaseException", .type "object"] "ValueError.__new__" = true
  k : PySem.W.keepIn K (.ref C) = true
  b : PySem.W.subIn K (.ref C) (.type "BaseException") = some true
  t : PySem.W.typeIn K (.ref C) = some (.type "type")
section
variable {P : Program} {w : World} {K : PySem.W.Frag} {mg : Str → Option Value} {base : Heap}
theorem Ca.mk' {x qual : Str} {st : Stmt} {N ps : List Str} {k : Nat} {sp : Sp} (D : Df K mg x qual st ps) (S : FnScope N ps (defScope st)) (len : ∀ vs H Q E, sp vs H Q E → vs.length = ps.length)
    (hbody : ∀ (qual' : Str) (f : Addr) (cdv : Value) (A : Around) (outer : List Env) (s : Shared) (H : Hp) (vs : List V) (Q : VK) (E : XK), Room k (A.deeper (envOfC qual (defScope st) s.heap.objs.size f cdv)) → sp vs H Q E →
      ∃ t, PSs (cxOf (L2.CX P w) P w K mg base N qual (defScope st) f cdv A outer s H E) (defBody st) t ∧ t { nx := fun _ H' => Q .non H', rt := Q } (start N vs) H) : Ca P w K mg base x (k + 1) ps sp := by
  obtain ⟨f, fd, F, m, b⟩ := D.ex
  exact ⟨f, fd, F.okX S len fun cdv A outer s H vs Q E hr h => hbody qual f cdv A outer s H vs Q E hr h, m, F.kp, b⟩
end
section
variable {X : Cx}
/-- len of a list or tuple -/
def rLenT : List V → Hp → VK → Prop := fun vs H Q => ∃ (l : Addr) (ws : List V) (n : Nat), vs = [.ref l] ∧ (H l = some (.lst ws) ∨ H l = some (.tup ws)) ∧ ws.length = n ∧ Q (.int n) H
theorem call_lenT : CallR X (.builtin "len") rLenT := by
  intro pins s σ H vs us Q I r h
  obtain ⟨l, ws, n, e, hl, rfl, k⟩ := h
  refine call_len_seq pins s σ H vs us Q I r ⟨l, ws, e, ?_, k⟩
  rcases hl with hl | hl
  · exact .inl (SqL.of hl)
  · exact .inr (SqT.of hl)
end

section
variable {Z : Ent} {F F' H H' : Hp} {cs : List (Addr × HO)} {p a : Addr} {o o' : HO}
theorem Ow.putE (O : Ow Z F cs H) (h : H p = none) (o : HO) : ∃ F', Ow Z F' cs (upd H p o) ∧ Same F F' ∧ F' p = some o := ⟨_, O.put h, O.putS h, upd_same⟩
theorem Ow.was (O : Ow Z F cs H) (h : H p = none) : Z.H p = none := by
  cases q : Z.H p with
  | none => rfl
  | some u => exact absurd h (O.g.t p (by rw [q]; simp))
theorem Ow.frzE (O : Ow Z F cs H) (i : Nat) (e : cs[i]? = some (a, o)) (hz : Z.H a = none) : ∃ F', Ow Z F' (cs.eraseIdx i) H ∧ Same F F' ∧ F' a = some o := ⟨_, O.frz i e hz, O.frzS i e, upd_same⟩
/-- a cell that a call made -/
theorem Ow.got (O : Ow Z F cs H) (O' : Ow Z F' cs' H') (hk : cs'.map (·.1) = cs.map (·.1)) (hn : H p = none) (hf : F' p = none) (h : H' p = some o) (ht : noTup o = true := by rfl) : Ow Z F' ((p, o) :: cs') H' :=
  O'.add O (fun c hc => by rw [← hk]; exact List.mem_map.mpr ⟨c, hc, rfl⟩) hn hf h ht
end
theorem rangeL_get0 {n : Int} {i : Nat} (h : i < n.toNat) : (rangeL 0 n).drop i = (0 + (i : Int)) :: (rangeL 0 n).drop (i + 1) := rangeL_get (by simpa using h)
theorem rangeL_end0 {n : Int} : (rangeL 0 n).drop n.toNat = [] := by
  have := rangeL_end (lo := 0) (hi := n)
  simpa using this
theorem iteD {c A B : Prop} [Decidable c] (h1 : c → A) (h2 : ¬ c → B) : if decide c = true then A else B := by
  by_cases h : c
  · rw [decide_eq_true h, if_pos rfl]; exact h1 h
  · rw [decide_eq_false h, if_neg Bool.false_ne_true]; exact h2 h
theorem iteN {c A B : Prop} [Decidable c] (h1 : c → B) (h2 : ¬ c → A) : if (!decide c) = true then A else B := by
  by_cases h : c
  · rw [decide_eq_true h]; exact h1 h
  · rw [decide_eq_false h]; exact h2 h
theorem iteB {b : Bool} {A B : Prop} (h1 : b = true → A) (h2 : ¬ b = true → B) : if b = true then A else B := by
  cases b with
  | true => exact h1 rfl
  | false => exact h2 Bool.false_ne_true
theorem iteBN {b : Bool} {A B : Prop} (h1 : b = true → B) (h2 : ¬ b = true → A) : if (!b) = true then A else B := by
  cases b with
  | true => exact h1 rfl
  | false => exact h2 Bool.false_ne_true
theorem iteNT {A B : Prop} (h : B) : if (!true) = true then A else B := h
theorem iteNF {A B : Prop} (h : A) : if (!false) = true then A else B := h
theorem wp_if {a : Type} {Q : a → Prop} {E : String → Prop} {c : Prop} [Decidable c] {x y : M a} (h : wp (if c then x else y) Q E) (hc : c) : wp x Q E := by
  rw [if_pos hc] at h
  exact h
theorem wp_el {a : Type} {Q : a → Prop} {E : String → Prop} {c : Prop} [Decidable c] {x y : M a} (h : wp (if c then x else y) Q E) (hc : ¬ c) : wp y Q E := by
  rw [if_neg hc] at h
  exact h

theorem hu128_of {A : Around} {k : Nat} (hr : Room k A) : A.units + 128 < cLine := by have := hr.un; omega
def cutL {a : Type} (xs : List a) (lo hi : Option Int) : List a := (xs.drop (HT.sIx xs.length 0 lo)).take (HT.sIx xs.length xs.length hi - HT.sIx xs.length 0 lo)
theorem RL.cutL {a : Type} [Py a] {H : Hp} {vs : List V} {xs : List a} (h : RL H vs xs) (lo hi : Option Int) : RL H (cutV vs lo hi) (PG.cutL xs lo hi) := h.cut lo hi
theorem RL.last {a : Type} [Py a] {H : Hp} {vs : List V} {xs : List a} {y : a} (h : RL H vs xs) (e : xs[xs.length - 1]? = some y) : ∃ w, vs[vs.length - 1]? = some w ∧ R H w y := by
  obtain ⟨w, e1, h1⟩ := h.get e
  exact ⟨w, by rw [h.len]; exact e1, h1⟩

theorem okR.rg1 {n : Int} (h : okR n) : RgOk 0 n := by
  obtain ⟨a, b⟩ := h
  exact ⟨by omega, by omega, by omega, by omega, by omega⟩
theorem rgV_eq (a b : Int) : rgV a b = (rangeL a b).map V.int := by
  unfold rgV rangeL
  rw [List.map_map]
  rfl
theorem RL.rg {H : Hp} {a b : Int} : RL H (rgV a b) (rangeL a b) := by
  rw [rgV_eq]
  exact RL.of_ints

theorem comp_len {b : Type} {w vs : List V} {xs : List b} {i : Nat} {x : V} (la : w.length ≤ i) (hi : vs[i]? = some x) (hl : vs.length = xs.length) (c : xs.length < 16777216) : w.length < sizeLine := by
  have := (List.getElem?_eq_some_iff.mp hi).1
  exact lt_line (by omega)
theorem rangeL_length (lo hi : Int) : (rangeL lo hi).length = (hi - lo).toNat := by
  unfold rangeL
  simp
theorem comp_lenR {w : List V} {lo hi : Int} {i n : Nat} (la : w.length ≤ i) (h : i < n) (e : (hi - lo).toNat = n) (c : (rangeL lo hi).length < 16777216) : w.length < sizeLine := by
  rw [rangeL_length] at c
  exact lt_line (by omega)
theorem tYes_ {σ : L2.St} {H : Hp} {Q : Bool → Hp → Prop} (h : Q true H) : tYes σ H Q := h

/-! lists of own lists of ints -/
abbrev LC := Addr × List Int
def lcell (c : LC) : Addr × HO := (c.1, .lst (c.2.map V.int))
theorem Ow.perm {Z : Ent} {F H : Hp} {cs cs' : List (Addr × HO)} (O : Ow Z F cs H) (h : cs.Perm cs') : Ow Z F cs' H where
  g := O.g
  cf := fun c hc => O.cf c (h.mem_iff.mpr hc)
  ch := fun c hc => O.ch c (h.mem_iff.mpr hc)
  nd := (h.map _).nodup_iff.mp O.nd
  ca := fun c hc => O.ca c (h.mem_iff.mpr hc)
  nt := fun c hc => O.nt c (h.mem_iff.mpr hc)
theorem Ow.sub {Z : Ent} {F H : Hp} {cs cs' : List (Addr × HO)} (O : Ow Z F cs H) (h : cs'.Sublist cs) : Ow Z F cs' H where
  g := O.g
  cf := fun c hc => O.cf c (h.subset hc)
  ch := fun c hc => O.ch c (h.subset hc)
  nd := O.nd.sublist (h.map _)
  ca := fun c hc => O.ca c (h.subset hc)
  nt := fun c hc => O.nt c (h.subset hc)
/-- a new list of new lists -/
structure OwnLL (H F' H' : Hp) (p : Addr) (ps : List LC) : Prop where
  pn : H p = none
  pf : F' p = none
  ph : H' p = some (.lst (ps.map fun c => V.ref c.1))
  qn : ∀ c ∈ ps, H c.1 = none
  qf : ∀ c ∈ ps, F' c.1 = none
  qh : ∀ c ∈ ps, H' c.1 = some (.lst (c.2.map V.int))
  nd : (p :: ps.map (·.1)).Nodup
theorem OwnLL.frz {F H F' H' : Hp} {p : Addr} {ps : List LC} {as : List Addr} (G : Gr as F H F' H') (L : OwnLL H F' H' p ps) :
    ∃ F2, Gr as F H F2 H' ∧ F2 p = none ∧ RL F2 (ps.map fun c => V.ref c.1) (ps.map (·.2)) := by
  refine ⟨fun b => if b ∈ ps.map (·.1) then H' b else F' b, ⟨fun b o e => ?_, fun b o e => ?_, G.k, G.t, fun b e => ?_, G.u⟩, ?_, ?_⟩
  · have h1 := G.f b o e
    by_cases hb : b ∈ ps.map (·.1)
    · obtain ⟨c, hc, rfl⟩ := List.mem_map.mp hb
      rw [L.qf c hc] at h1
      cases h1
    · show (if b ∈ ps.map (·.1) then H' b else F' b) = some o
      rw [if_neg hb]
      exact h1
  · have e : (if b ∈ ps.map (·.1) then H' b else F' b) = some o := e
    by_cases hb : b ∈ ps.map (·.1)
    · rw [if_pos hb] at e
      exact e
    · rw [if_neg hb] at e
      exact G.s b o e
  · show (if b ∈ ps.map (·.1) then H' b else F' b) = F b ∨ _
    have hb : b ∉ ps.map (·.1) := fun hb => by
      obtain ⟨c, hc, rfl⟩ := List.mem_map.mp hb
      exact e (L.qn c hc)
    rw [if_neg hb]
    exact G.n b e
  · show (if p ∈ ps.map (·.1) then H' p else F' p) = none
    rw [if_neg (List.nodup_cons.mp L.nd).1]
    exact L.pf
  · have all : ∀ l : List LC, (∀ c ∈ l, c ∈ ps) → RL (fun b => if b ∈ ps.map (·.1) then H' b else F' b) (l.map fun c => V.ref c.1) (l.map (·.2)) := by
      intro l
      induction l with
      | nil => intro _; exact RL.nil
      | cons c l ih =>
        intro h
        have hc := h c List.mem_cons_self
        refine RL.cons (R.lst (vs := c.2.map V.int) ?_ RL.of_ints) (ih fun d hd => h d (List.mem_cons_of_mem _ hd))
        show (if c.1 ∈ ps.map (·.1) then H' c.1 else F' c.1) = _
        rw [if_pos (List.mem_map.mpr ⟨c, hc, rfl⟩)]
        exact L.qh c hc
    exact all ps fun _ h => h
theorem FnOk.impC {P : Program} {w : World} {K : PySem.W.Frag} {mg : Str → Option Value} {base : Heap} {x : Str} {k : Nat} {ps : List Str} {sp sp' : Sp} (F : Ca P w K mg base x k ps sp) (h : ∀ vs H Q E, sp' vs H Q E → sp vs H Q E) : Ca P w K mg base x k ps sp' := by
  obtain ⟨f, fd, G, m, kp, b⟩ := F.ex
  exact ⟨f, fd, G.imp h, m, kp, b⟩
theorem wp_mono {a : Type} {Q Q' : a → Prop} {E : String → Prop} {m : M a} (h : wp m Q E) (f : ∀ r, Q r → Q' r) : wp m Q' E := wp_tail h (fun r _ q => f r q) fun _ e => e
/-- a scalar call that reads a cell: the cell is as it was, and nothing of the call is kept -/
theorem Ow.borrow {Z : Ent} {F F1 F' H H' : Hp} {cs : List (Addr × HO)} (O : Ow Z F cs H) (s1 : Same F F1) (g : Gr [] F1 H F' H') : Ow Z F cs H' where
  g := ⟨O.g.f, (s1.trans g.f).trans g.s, fun b o hb e => g.k b o (fun h => nomatch h) (O.g.k b o hb e), fun b e => g.t b (O.g.t b e), O.g.n, fun b xs e => by
    rcases g.u b xs e with z | z
    · refine .inl ?_
      cases q : Z.H b with
      | none => rfl
      | some u => exact absurd z (O.g.t b (by rw [q]; simp))
    · exact O.g.u b xs z⟩
  cf := O.cf
  ch := fun c hc => g.k _ _ (fun h => nomatch h) (O.ch c hc)
  nd := O.nd
  ca := O.ca
  nt := O.nt
theorem Ow.lend {Z : Ent} {F H : Hp} {cs : List (Addr × HO)} {a : Addr} {o : HO} (O : Ow Z F cs H) (i : Nat) (e : cs[i]? = some (a, o)) : ∃ F1, Same F F1 ∧ Pre F1 [] H ∧ F1 a = some o := by
  have m := List.mem_of_getElem? e
  refine ⟨upd F a o, Same.new (O.cf _ m), ⟨fun b u q => ?_, (fun _ h => nomatch h), (fun _ h => nomatch h), List.nodup_nil, fun _ h => nomatch h⟩, upd_same⟩
  by_cases hb : b = a
  · subst hb; rw [upd_same] at q; rw [← q]; exact O.ch _ m
  · rw [upd_ne hb] at q; exact O.s b u q

abbrev lrefs (ps : List LC) : List V := ps.map fun (c : LC) => V.ref c.1

def ret {a : Type} (x : a) : M a := .ok x
theorem wp_ret {a b : Type} {Q : a → Prop} {E : String → Prop} {x : b} {k : b → M a} (h : wp (ret x >>= k) Q E) : ∃ y, y = x ∧ wp (k y) Q E := ⟨x, rfl, h⟩

/-- tuples that stand may be read -/
theorem Ow.tups {Z : Ent} {F H : Hp} {cs : List (Addr × HO)} (O : Ow Z F cs H) (bs : List Addr) (h : ∀ b ∈ bs, ∃ xs, H b = some (.tup xs)) : ∃ F', Ow Z F' cs H ∧ Same F F' ∧ ∀ b ∈ bs, F' b = H b := by
  refine ⟨fun b => if b ∈ bs then H b else F b, ⟨⟨fun b o e => ?_, fun b o e => ?_, O.g.k, O.g.t, fun b e => ?_, O.g.u⟩, fun c hc => ?_, O.ch, O.nd, O.ca, O.nt⟩, fun b o e => ?_, fun b hb => if_pos hb⟩
  · have h1 := O.g.f b o e
    show (if b ∈ bs then H b else F b) = some o
    by_cases hb : b ∈ bs
    · rw [if_pos hb]; exact O.s b o h1
    · rw [if_neg hb]; exact h1
  · have e : (if b ∈ bs then H b else F b) = some o := e
    by_cases hb : b ∈ bs
    · rw [if_pos hb] at e; exact e
    · rw [if_neg hb] at e; exact O.s b o e
  · show (if b ∈ bs then H b else F b) = Z.F b ∨ _
    by_cases hb : b ∈ bs
    · obtain ⟨xs, hx⟩ := h b hb
      rcases O.g.u b xs hx with z | z
      · exact absurd z e
      · exact .inr ⟨xs, z⟩
    · rw [if_neg hb]; exact O.g.n b e
  · show (if c.1 ∈ bs then H c.1 else F c.1) = none
    by_cases hb : c.1 ∈ bs
    · obtain ⟨xs, hx⟩ := h c.1 hb
      have hn := O.nt c hc
      rw [O.ch c hc] at hx
      rw [Option.some.inj hx] at hn
      cases hn
    · rw [if_neg hb]; exact O.cf c hc
  · show (if b ∈ bs then H b else F b) = some o
    by_cases hb : b ∈ bs
    · rw [if_pos hb]; exact O.s b o e
    · rw [if_neg hb]; exact e
end PG

set_option Elab.async false
set_option linter.all false
set_option maxRecDepth 100000
set_option maxHeartbeats 4000000
namespace PG
open PySem PySem.Spec PyProof.Rows L2
open PySem.W (T3 T4 Datum DatumOrd Holds HoldAll EachIs)
variable {K0 : PySem.W.Frag} [KF K0]

theorem u1_of {n : Nat} (h : n + 64 < cLine) : n + 1 < cLine := Nat.lt_of_le_of_lt (Nat.add_le_add_left (by decide) _) h
/-! ### dicts: what stands for a key -/
class DK (κ : Type) (K' : outParam Type) where
  kk : κ → K'
  inj : ∀ a b, kk a = kk b → a = b
instance : DK Int Key := ⟨Sum.inl, fun _ _ h => Sum.inl.inj h⟩
instance : DK Str Key := ⟨Sum.inr, fun _ _ h => Sum.inr.inj h⟩
instance : DK (Int × Int) (List Key) := ⟨fun p => [.inl p.1, .inl p.2], fun a b h => by
  injection h with h1 h2
  injection h2 with h2 _
  exact Prod.ext (Sum.inl.inj h1) (Sum.inl.inj h2)⟩
section
variable {κ K' β : Type} [DK κ K'] [Py β]
inductive RD (F : Hp) : List (K' × V) → List (κ × β) → Prop
  | nil : RD F [] []
  | cons {k : κ} {v : V} {y : β} {kvs : List (K' × V)} {xs : List (κ × β)} : R F v y → RD F kvs xs → RD F ((DK.kk k, v) :: kvs) ((k, y) :: xs)
variable {F F' : Hp}
theorem RD.mono {kvs : List (K' × V)} {xs : List (κ × β)} (h : RD F kvs xs) (s : Same F F') : RD F' kvs xs := by
  induction h with
  | nil => exact .nil
  | cons h _ ih => exact .cons (h.mono s) ih
theorem RD.len {kvs : List (K' × V)} {xs : List (κ × β)} (h : RD F kvs xs) : kvs.length = xs.length := by
  induction h with
  | nil => rfl
  | cons h _ ih => rw [List.length_cons, List.length_cons, ih]
theorem RD.keys {kvs : List (K' × V)} {xs : List (κ × β)} (h : RD F kvs xs) : kvs.map (·.1) = (xs.map (·.1)).map DK.kk := by
  induction h with
  | nil => rfl
  | cons h _ ih => rw [List.map_cons, List.map_cons, List.map_cons, ih]
end
section
variable {κ K' β : Type} [DK κ K'] [DecidableEq κ] [DecidableEq K'] [Py β] {F F' : Hp}
def dGet (xs : List (κ × β)) (k : κ) : Option β := (xs.find? fun p => decide (p.1 = k)).map (·.2)
def dPut (xs : List (κ × β)) (k : κ) (y : β) : List (κ × β) :=
  if (xs.any fun p => decide (p.1 = k)) = true then xs.map (fun p => if p.1 = k then (p.1, y) else p) else xs ++ [(k, y)]
def dHas (xs : List (κ × β)) (k : κ) : Bool := (dGet xs k).isSome
theorem kk_dec {a b : κ} : decide ((DK.kk a : K') = DK.kk b) = decide (a = b) := by
  by_cases h : a = b
  · subst h; simp
  · rw [decide_eq_false h, decide_eq_false fun z => h (DK.inj a b z)]
theorem dGet_pos {p : κ × β} {r : List (κ × β)} {k : κ} (e : p.1 = k) : dGet (p :: r) k = some p.2 := by simp [dGet, List.find?_cons, e]
theorem dGet_neg {p : κ × β} {r : List (κ × β)} {k : κ} (e : ¬ p.1 = k) : dGet (p :: r) k = dGet r k := by simp [dGet, List.find?_cons, e]
theorem RD.get {kvs : List (K' × V)} {xs : List (κ × β)} (h : RD F kvs xs) (k : κ) :
    (dGet xs k = none ∧ valV kvs (DK.kk k) = none) ∨ ∃ y v, dGet xs k = some y ∧ valV kvs (DK.kk k) = some v ∧ R F v y := by
  induction h with
  | nil => exact .inl ⟨rfl, rfl⟩
  | @cons j v y kvs xs h hs ih =>
    by_cases e : j = k
    · exact .inr ⟨y, v, dGet_pos e, valV_pos (by rw [e]), h⟩
    · rw [dGet_neg (p := (j, y)) e, valV_neg (fun z => e (DK.inj j k z))]
      exact ih
theorem RD.some {kvs : List (K' × V)} {xs : List (κ × β)} (h : RD F kvs xs) {k : κ} {y : β} (e : dGet xs k = some y) : ∃ v, valV kvs (DK.kk k) = some v ∧ R F v y := by
  rcases h.get k with ⟨a, _⟩ | ⟨y', v, a, b, c⟩
  · rw [e] at a; cases a
  · rw [e] at a; cases a; exact ⟨v, b, c⟩
theorem RD.is {kvs : List (K' × V)} {xs : List (κ × β)} (h : RD F kvs xs) (k : κ) : (valV kvs (DK.kk k)).isSome = dHas xs k := by
  unfold dHas
  rcases h.get k with ⟨a, b⟩ | ⟨y', v, a, b, c⟩
  · rw [a, b]; rfl
  · rw [a, b]; rfl
theorem RD.map {kvs : List (K' × V)} {xs : List (κ × β)} (h : RD F kvs xs) (k : κ) {v : V} {y : β} (hv : R F v y) :
    RD F (kvs.map fun kv => if kv.1 = DK.kk k then (kv.1, v) else kv) (xs.map fun p => if p.1 = k then (p.1, y) else p) := by
  induction h with
  | nil => exact .nil
  | @cons j u z kvs xs h hs ih =>
    rw [List.map_cons, List.map_cons]
    by_cases e : j = k
    · rw [if_pos e, if_pos (show (DK.kk j, u).1 = DK.kk k by rw [e])]
      exact .cons hv ih
    · rw [if_neg e, if_neg (show ¬ (DK.kk j, u).1 = DK.kk k from fun z => e (DK.inj j k z))]
      exact .cons h ih
theorem RD.snoc {kvs : List (K' × V)} {xs : List (κ × β)} (h : RD F kvs xs) (k : κ) {v : V} {y : β} (hv : R F v y) : RD F (kvs ++ [(DK.kk k, v)]) (xs ++ [(k, y)]) := by
  induction h with
  | nil => exact .cons hv .nil
  | cons h _ ih => exact .cons h ih
theorem RD.any {kvs : List (K' × V)} {xs : List (κ × β)} (h : RD F kvs xs) (k : κ) : (kvs.any fun kv => decide (kv.1 = DK.kk k)) = (xs.any fun p => decide (p.1 = k)) := by
  induction h with
  | nil => rfl
  | @cons j u z kvs xs h hs ih => rw [List.any_cons, List.any_cons, ih, kk_dec]
theorem RD.put {kvs : List (K' × V)} {xs : List (κ × β)} (h : RD F kvs xs) (k : κ) {v : V} {y : β} (hv : R F v y) : RD F (putK kvs (DK.kk k) v) (dPut xs k y) := by
  unfold putK dPut
  rw [h.any k]
  by_cases e : (xs.any fun p => decide (p.1 = k)) = true
  · rw [if_pos e, if_pos e]; exact h.map k hv
  · rw [if_neg e, if_neg e]; exact h.snoc k hv
def putD (xs : List (κ × β)) (k : κ) (y : β) : M (List (κ × β)) := if xs.length < 16777216 then .ok (dPut xs k y) else bad
theorem wp_putD {a : Type} {Q : a → Prop} {E : String → Prop} {xs : List (κ × β)} {j : κ} {y : β} {k : List (κ × β) → M a} (h : wp (putD xs j y >>= k) Q E) : xs.length < sizeLine ∧ wp (k (dPut xs j y)) Q E := by
  unfold putD at h
  by_cases hl : xs.length < 16777216
  · rw [if_pos hl] at h
    exact ⟨lt_line hl, h⟩
  · rw [if_neg hl] at h
    exact h.elim
end
/-- a dict that is read alone -/
class DO (K' : Type) where
  ho : List (K' × V) → HO
instance : DO Key := ⟨.dK⟩
instance : DO (List Key) := ⟨.dT⟩
section
variable {κ K' β : Type} [DK κ K'] [Py β] [DO K'] {F F' H : Hp} {v : V} {a b : Addr}
def RDv (F : Hp) (v : V) (xs : List (κ × β)) : Prop := ∃ (a : Addr) (kvs : List (K' × V)), v = .ref a ∧ Rd F a (DO.ho kvs) ∧ RD F kvs xs
theorem rd_mono {u : HO} (s : Same F F') (h : Rd F a u) : Rd F' a u := h.elim (fun e => .inl (s _ _ e)) fun ⟨o, e⟩ => .inr ⟨o, s _ _ e⟩
theorem RDv.mono {xs : List (κ × β)} (h : RDv F v xs) (s : Same F F') : RDv F' v xs := by
  obtain ⟨a, kvs, e, h1, h2⟩ := h
  exact ⟨a, kvs, e, rd_mono s h1, h2.mono s⟩
theorem RDv.mk {xs : List (κ × β)} {kvs : List (K' × V)} (h : Rd F a (DO.ho kvs)) (hr : RD F kvs xs) : RDv F (.ref a) xs := ⟨a, kvs, rfl, h, hr⟩
end
section
variable {β : Type} [Py β] {F H : Hp} {a b : Addr}
theorem dgt {kvs : List (List Key × V)} {k : List Key} (e : Rd H a (.dT kvs)) (eb : H b = some (.tup (k.map kV))) : DGet H a (.ref b) (valV kvs k) := .inr ⟨kvs, k, b, e, rfl, eb, rfl⟩
theorem dgk {kvs : List (Key × V)} {k : Key} (e : Rd H a (.dK kvs)) : DGet H a (kV k) (valV kvs k) := .inl ⟨kvs, k, e, rfl, rfl⟩
theorem dget_T {kvs : List (List Key × V)} {i j : Int} {v : V} (e : Rd H a (.dT kvs)) (eb : H b = some (.tup [.int i, .int j])) (hv : valV kvs (DK.kk (i, j)) = some v) : DGet H a (.ref b) (some v) := by
  rw [← hv]
  exact dgt (k := [.inl i, .inl j]) e eb
theorem dget_I {kvs : List (Key × V)} {i : Int} {v : V} (e : Rd H a (.dK kvs)) (hv : valV kvs (DK.kk i) = some v) : DGet H a (.int i) (some v) := by
  rw [← hv]
  exact dgk (k := .inl i) e
theorem dget_S {kvs : List (Key × V)} {i : Str} {v : V} (e : Rd H a (.dK kvs)) (hv : valV kvs (DK.kk i) = some v) : DGet H a (.str i) (some v) := by
  rw [← hv]
  exact dgk (k := .inr i) e
theorem din_T {kvs : List (List Key × V)} {i j : Int} {xs : List ((Int × Int) × β)} (e : Rd H a (.dT kvs)) (eb : H b = some (.tup [.int i, .int j])) (hr : RD F kvs xs) : ∃ o, DGet H a (.ref b) o ∧ o.isSome = dHas xs (i, j) :=
  ⟨_, dgt (k := [.inl i, .inl j]) e eb, hr.is (i, j)⟩
theorem din_I {kvs : List (Key × V)} {i : Int} {xs : List (Int × β)} (e : Rd H a (.dK kvs)) (hr : RD F kvs xs) : ∃ o, DGet H a (.int i) o ∧ o.isSome = dHas xs i :=
  ⟨_, dgk (k := .inl i) e, hr.is i⟩
theorem din_S {kvs : List (Key × V)} {i : Str} {xs : List (Str × β)} (e : Rd H a (.dK kvs)) (hr : RD F kvs xs) : ∃ o, DGet H a (.str i) o ∧ o.isSome = dHas xs i :=
  ⟨_, dgk (k := .inr i) e, hr.is i⟩
theorem dput_T {kvs : List (List Key × V)} {i j : Int} {v : V} (e : H a = some (.dT kvs)) (eb : H b = some (.tup [.int i, .int j])) (hl : kvs.length < sizeLine) : DPut H a (.ref b) v (upd H a (.dT (putK kvs (DK.kk (i, j)) v))) := DPut.t (k := [.inl i, .inl j]) e eb hl
theorem dput_I {kvs : List (Key × V)} {i : Int} {v : V} (e : H a = some (.dK kvs)) (hl : kvs.length < sizeLine) : DPut H a (.int i) v (upd H a (.dK (putK kvs (DK.kk i) v))) := DPut.k (k := .inl i) e hl
theorem dput_S {kvs : List (Key × V)} {i : Str} {v : V} (e : H a = some (.dK kvs)) (hl : kvs.length < sizeLine) : DPut H a (.str i) v (upd H a (.dK (putK kvs (DK.kk i) v))) := DPut.k (k := .inr i) e hl
end
/-! sorted(d), the keys pairs of whole numbers -/
theorem keys_tups {H : Hp} {kvs : List (List Key × V)} {bs : List Addr} (h : IsKeys H kvs bs) : ∀ b ∈ bs, ∃ xs, H b = some (.tup xs) := by
  unfold IsKeys at h
  induction h with
  | nil => intro b hb; simp at hb
  | cons h t ih =>
    intro c hc
    rcases List.mem_cons.mp hc with rfl | hc
    · exact ⟨_, h⟩
    · exact ih c hc
theorem keys_rl {H : Hp} {kvs : List (List Key × V)} {bs : List Addr} (h : IsKeys H kvs bs) : ∀ {ks : List (Int × Int)}, kvs.map (·.1) = ks.map DK.kk → RL H (bs.map V.ref) ks := by
  unfold IsKeys at h
  induction h with
  | nil =>
    intro ks e
    cases ks with
    | nil => exact RL.nil
    | cons k ks => simp at e
  | cons h t ih =>
    intro ks e
    cases ks with
    | nil => simp at e
    | cons k ks =>
      rw [List.map_cons, List.map_cons] at e
      injection e with e1 e2
      rw [e1] at h
      exact RL.cons (R.t2 h R.int R.int) (ih e2)
theorem keys_in {H F : Hp} {kvs : List (List Key × V)} {bs : List Addr} {ks : List (Int × Int)} (h : IsKeys H kvs bs) (hf : ∀ b ∈ bs, F b = H b) (e : kvs.map (·.1) = ks.map DK.kk) : RL F (bs.map V.ref) ks := by
  refine keys_rl ?_ e
  unfold IsKeys at h ⊢
  clear e
  induction h with
  | nil => exact .nil
  | @cons x b xs bs h t ih =>
    refine .cons ?_ (ih fun c hc => hf c (List.mem_cons_of_mem _ hc))
    rw [hf b List.mem_cons_self]
    exact h
section
variable {X : Cx}
theorem cr_sortedDT (hcalm : X.calm = true) (hu : X.A.units + 128 < cLine) : CallR X (.builtin "sorted") (fun xs H Q => ∃ (d : Addr) (kvs : List (List Key × V)) (ks : List (Int × Int)), xs = [.ref d] ∧ Rd H d (.dT kvs) ∧ kvs.map (·.1) = ks.map DK.kk ∧
    ∀ (bs : List Addr) (p : Addr), IsKeys H kvs bs → H p = none → Q (.ref p) (upd H p (.lst (sortV (bs.map V.ref) ks)))) := by
  haveI : KF X.K := ⟨⟩
  intro pins s σ H xs us Q I r q
  obtain ⟨d, kvs, ks', ex, hd, hks, q⟩ := q
  subst ex
  obtain ⟨u, eu, rx⟩ := vals1 r
  subst eu
  cases rx
  obtain ⟨z, hs, ks, pr, o, es, ep, ho, hx, hdt, he, hn⟩ := (show ObjOk X.prog X.w H s.heap d (.dT kvs) from hd.ok I.hok)
  have l1 : es.size = ks.length := size_of_entries he
  have l2 : kvs.length = ks.length := Paired.length pr
  refine Calls.call_function_entry PyProof.Rows.kind_sorted PyProof.Rows.plain_sorted PyProof.Rows.entry_sorted (PyProof.Rows.args_sorted1 _) ?_
  unfold Builtin.«sorted»
  refine wpAny_bind (m := checkCount "sorted" 1 1 _) (wpAny_pure ?_)
  refine wpAny_bind (PySem.W.kdu_collect (A := X.A.in1) (kdl_raw hs hx hdt) (I.ok.hd hcalm) ho (by omega) fun h' tk acc kp it => ?_)
  have ea : acc.toList = ks.map fun x => Value.ref x.2.1 := by
    have hl : acc.toList.length = ks.length := by rw [Array.length_toList, it.1]; exact l1
    apply List.ext_getElem?
    intro j
    rw [List.getElem?_map]
    cases hj : acc.toList[j]? with
    | none =>
      have h1 := List.getElem?_eq_none_iff.mp hj
      rw [List.getElem?_eq_none (by omega)]
      all_goals rfl
    | some v =>
      obtain ⟨en, hen, hv⟩ := it.2 j v (by rw [← Array.getElem?_toList]; exact hj)
      have qe := entry_at he j
      rw [hen] at qe
      cases hb : ks[j]? with
      | none =>
        rw [hb] at qe
        exact nomatch (show some en = none from qe)
      | some b =>
        rw [hb] at qe
        have e2 : en = entryOfKey (tupleKind (mixKind X.prog X.w)) b := Option.some.inj qe
        rw [hv, e2]
        all_goals rfl
  have eb : acc.toList = (ks.map fun (x : List Key × Addr × Value) => x.2.1).map Value.ref := by rw [ea, List.map_map]; all_goals rfl
  have rv : Vals ((ks.map fun (x : List Key × Addr × Value) => x.2.1).map V.ref) acc.toList := by rw [eb]; exact vals_refs _
  have hik : IsKeys H kvs (ks.map fun (x : List Key × Addr × Value) => x.2.1) := isKeys_of pr
  have hrl := keys_rl hik hks
  have hlen : ((ks.map fun (x : List Key × Addr × Value) => x.2.1).map V.ref).length = ks'.length := hrl.len
  have hal : acc.toList.length = ks.length := by rw [ea, List.length_map]
  have I1 : Inv X pins σ H { s with heap := h', toks := tk } := I.kept kp
  have hE := each_pairs hrl rv
  have hR : EachIs (fun u (p : V × (Int × Int)) => ∃ as, PySem.Reads h' u (Datum.toD p.2) as) acc.toList (((ks.map fun (x : List Key × Addr × Value) => x.2.1).map V.ref).zip ks') := each_imp (fun u p hp => hp.2.holds I1 hp.1) hE
  have hoL : (h'.push (seqObj "list" acc.toList.toArray 0)).get? h'.objs.size = some (seqObj "list" acc.toList.toArray 0) := Heap.get?_push_size _ rfl
  have hz : acc.toList.length ≤ sizeLine := by rw [hal]; omega
  refine wpAny_bind (wpAny_newList ?_ hz)
  show wpAny _ _ _ _ _ { s with heap := h'.push (seqObj "list" acc.toList.toArray 0), toks := tk }
  have er' : EachIs (fun v (p : V × (Int × Int)) => ∃ as, PySem.Reads (PySem.W.sortingHeap (h'.push (seqObj "list" acc.toList.toArray 0)) h'.objs.size acc.toList) v (Datum.toD p.2) as) acc.toList (((ks.map fun (x : List Key × Addr × Value) => x.2.1).map V.ref).zip ks') :=
    hR.mono fun _ _ ⟨as, r⟩ => ⟨as, PyProof.Rows.Reads.keeps (fun b o e => PySem.W.sortingHeap_old (Nat.ne_of_lt (Heap.lt_size e)) (Heap.get?_push_of_some _ e)) r⟩
  have hal2 : PySem.W.AllAlike ((((ks.map fun (x : List Key × Addr × Value) => x.2.1).map V.ref).zip ks').map fun p => Datum.toD p.2) := PySem.W.AllAlike.of fun p q => DatumOrd.alike p.2 q.2
  refine wpAny_bind (wpAny_holding (wpAny_call_entry PyProof.Rows.slot_list_sort ⟨_, hoL, rfl⟩ PyProof.Rows.entry_list_sort
    (PySem.W.list_sort_vals (κ := PySem.W.dataKind (PySem.W.sortingHeap (h'.push (seqObj "list" acc.toList.toArray 0)) h'.objs.size acc.toList) ((((ks.map fun (x : List Key × Addr × Value) => x.2.1).map V.ref).zip ks').map fun p => Datum.toD p.2)) (s := { s with heap := h'.push (seqObj "list" acc.toList.toArray 0), toks := tk }) hoL
      (PySem.W.SortsAt.data (s := { s with heap := PySem.W.sortingHeap (h'.push (seqObj "list" acc.toList.toArray 0)) h'.objs.size acc.toList, toks := tk }) (PySem.W.each_map (R := fun v d => ∃ as, PySem.Reads (PySem.W.sortingHeap (h'.push (seqObj "list" acc.toList.toArray 0)) h'.objs.size acc.toList) v d as) (fun (p : V × (Int × Int)) => Datum.toD p.2) er') hal2 ?_ ?_) hz ⟨_, rfl, ?_⟩)
    (PyProof.Rows.args_list_sort _)))
  · exact PySem.W.Sortable.tuples fun p => ⟨_, _, rfl⟩
  · intro dd hdd
    obtain ⟨p, _, rfl⟩ := List.mem_map.mp hdd
    have hdp : Datum.depth (Int × Int) ≤ 100 := by decide
    have := Datum.depth_le p.2
    have hA : X.A.in1.in1.units ≤ X.A.units + 2 := by simp [Around.in1]
    omega
  · have he2 := PySem.W.sortVals_data (R := fun (u : Value) (p : V × (Int × Int)) => RelV p.1 u ∧ R H p.1 p.2) (enc := fun p => Datum.toD p.2) false hE er' hal2
    rw [dataLe_T (fun p : V × (Int × Int) => p.2)] at he2
    obtain ⟨q1, q2⟩ := pairs_vals he2
    obtain ⟨e', he'⟩ := PyProof.Rows.sortedHeap_at (vs := acc.toList) (out := (PySem.W.sortVals (PySem.W.dataKind (PySem.W.sortingHeap (h'.push (seqObj "list" acc.toList.toArray 0)) h'.objs.size acc.toList) ((((ks.map fun (x : List Key × Addr × Value) => x.2.1).map V.ref).zip ks').map fun p => Datum.toD p.2)) false acc.toList acc.toList).toArray) hoL
    refine wpAny_pure ⟨_, rfl, .ref h'.objs.size, upd H h'.objs.size (.lst (sortV ((ks.map fun (x : List Key × Addr × Value) => x.2.1).map V.ref) ks')), I1.laid (t' := tk) (fun b u e => ?_) (Nat.le_refl _)
      (show ObjOk X.prog X.w _ _ _ (.lst _) from ⟨?_, _, e', q1, he'⟩), rfl, q _ _ hik (I1.hok.fresh (Nat.le_refl _))⟩
    · have hb : b < h'.objs.size := Heap.lt_size e
      rw [PyProof.Rows.sortedHeap_old (Nat.ne_of_lt hb) (by rw [size_push']; exact Nat.lt_succ_of_lt hb)]
      exact Heap.get?_push_of_some _ e
    · unfold sortV
      rw [List.length_map, List.length_mergeSort, List.length_zip, hlen, Nat.min_self, ← hlen, List.length_map, List.length_map]
      omega
end
end PG

set_option Elab.async false
set_option linter.all false
set_option maxRecDepth 100000
set_option maxHeartbeats 4000000
namespace PG
open PySem PySem.Spec PyProof.Rows L2
open PySem.W (T3 T4 Datum DatumOrd Holds HoldAll EachIs)
variable {K0 : PySem.W.Frag} [KF K0]

/-! ### a list of two things of two kinds -/
structure HL2 (a b : Type) where
  a : a
  b : b
  deriving DecidableEq
theorem HL2.same {a b : Type} : ∀ {p q : HL2 a b}, p.a = q.a → p.b = q.b → p = q
  | ⟨_, _⟩, ⟨_, _⟩, rfl, rfl => rfl
section
variable {α β : Type} [DecidableEq α] [Datum α] [DecidableEq β] [Datum β]
instance : Datum (HL2 α β) where
  toD p := .list [Datum.toD p.a, Datum.toD p.b]
  plain p := by simp only [PyData.plain, PyData.plainAll, Datum.plain, Bool.and_self]
  eqv p q := by
    simp only [PyData.eqv, PyData.eqvAll]
    rw [Datum.eqv, Datum.eqv, Bool.and_true, ← Bool.decide_and]
    exact decide_eq_decide.mpr ⟨fun e => HL2.same e.1 e.2, fun e => by rw [e]; exact ⟨rfl, rfl⟩⟩
  depth := max (Datum.depth α) (Datum.depth β) + 1
  depth_le p := by
    simp only [PyData.depth, PyData.depthAll]
    have h0 := Datum.depth_le p.a
    have h1 := Datum.depth_le p.b
    omega
end
instance {a b : Type} [Py a] [Py b] : Py (HL2 a b) := ⟨fun p => .list [Py.toD p.a, Py.toD p.b]⟩
section
variable {a b : Type} [Py a] [DecidableEq a] [Datum a] [IsD a] [Py b] [DecidableEq b] [Datum b] [IsD b]
instance : IsD (HL2 a b) := ⟨fun p => by show PyData.list [_, _] = PyData.list [_, _]; rw [IsD.eq, IsD.eq]⟩
end
theorem R.hl2 {a b : Type} [Py a] [Py b] {H : Hp} {p : Addr} {x : HL2 a b} {v1 v2 : V} (ha : H p = some (.lst [v1, v2])) (h1 : R H v1 x.a) (h2 : R H v2 x.b) : R H (.ref p) x := Rep.lst ha (.cons h1 (.cons h2 .nil))
/-! ### data without lists within -/
class NoL (a : Type) [Py a] : Prop where
  mv : ∀ {K0 : PySem.W.Frag} [KF K0] (F F' : Hp), (∀ b xs, F b = some (.tup xs) → F' b = some (.tup xs)) → ∀ (v : V) (x : a), R F v x → R F' v x
instance : NoL Int := ⟨fun _ _ _ _ _ h => by rw [R.int_ h]; exact R.int⟩
instance : NoL Bool := ⟨fun _ _ _ _ _ h => by rw [R.bl_ h]; exact R.bl⟩
instance : NoL Str := ⟨fun _ _ _ _ _ h => by rw [R.str_ h]; exact R.str⟩
instance {a b : Type} [Py a] [Py b] [NoL a] [NoL b] : NoL (a × b) := ⟨fun _ _ t _ _ h => by
  obtain ⟨p, v1, v2, rfl, hp, h1, h2⟩ := R.t2T_ h
  exact R.t2T (hp.mv t) (NoL.mv _ _ t _ _ h1) (NoL.mv _ _ t _ _ h2)⟩
instance {a b c : Type} [Py a] [Py b] [Py c] [NoL a] [NoL b] [NoL c] : NoL (T3 a b c) := ⟨fun _ _ t _ _ h => by
  obtain ⟨p, v1, v2, v3, rfl, hp, h1, h2, h3⟩ := R.t3T_ h
  exact R.t3T (hp.mv t) (NoL.mv _ _ t _ _ h1) (NoL.mv _ _ t _ _ h2) (NoL.mv _ _ t _ _ h3)⟩
theorem RL.mv {a : Type} [Py a] [NoL a] {F F' : Hp} (t : ∀ b xs, F b = some (.tup xs) → F' b = some (.tup xs)) : ∀ {vs : List V} {xs : List a}, RL F vs xs → RL F' vs xs
  | _, [], h => by rw [RL.nil_ h]; exact RL.nil
  | _, x :: xs, h => by
    obtain ⟨w, ws, rfl, h1, h2⟩ := RL.cons_ h
    exact RL.cons (NoL.mv _ _ t _ _ h1) (RL.mv t h2)
/-! ### cells lent to a call -/
open Classical in
noncomputable def lendF (as : List Addr) (F H : Hp) : Hp := fun b => if b ∈ as then H b else F b
open Classical in
noncomputable def backF (as : List Addr) (F : Hp) : Hp := fun b => if b ∈ as then none else F b
section
variable {Z : Ent} {F F' H H' : Hp} {cs : List (Addr × HO)} {p a q : Addr} {o o' : HO} {as : List Addr}
theorem inA_nil : ∀ b ∈ ([] : List Addr), ∃ o, (b, o) ∈ cs := fun _ h => nomatch h
theorem inA_cons (i : Nat) (e : cs[i]? = some (a, o)) (h : ∀ b ∈ as, ∃ o, (b, o) ∈ cs) : ∀ b ∈ a :: as, ∃ o, (b, o) ∈ cs := fun b hb => by
  rcases List.mem_cons.mp hb with rfl | hb
  · exact ⟨o, List.mem_of_getElem? e⟩
  · exact h b hb
theorem lendF_at (h : a ∈ as) : lendF as F H a = H a := if_pos h
theorem Ow.lendS (O : Ow Z F cs H) (hin : ∀ b ∈ as, ∃ o, (b, o) ∈ cs) : Same F (lendF as F H) := fun b u e => by
  by_cases hb : b ∈ as
  · obtain ⟨o, hc⟩ := hin b hb
    have := O.cf _ hc
    have e' : F b = none := this
    rw [e'] at e; cases e
  · show (if b ∈ as then H b else F b) = _
    rw [if_neg hb]; exact e
theorem Ow.lendP (O : Ow Z F cs H) (hin : ∀ b ∈ as, ∃ o, (b, o) ∈ cs) : Pre (lendF as F H) [] H := by
  refine ⟨fun b u e => ?_, (fun _ h => nomatch h), (fun _ h => nomatch h), List.nodup_nil, fun _ h => nomatch h⟩
  have e : (if b ∈ as then H b else F b) = some u := e
  by_cases hb : b ∈ as
  · rw [if_pos hb] at e; exact e
  · rw [if_neg hb] at e; exact O.s b u e
theorem Ow.unlend (O : Ow Z F cs H) (hin : ∀ b ∈ as, ∃ o, (b, o) ∈ cs) (g : Gr [] (lendF as F H) H F' H') :
    Ow Z (backF as F') cs H' ∧ Same F (backF as F') ∧ (∀ b xs, F' b = some (.tup xs) → backF as F' b = some (.tup xs)) ∧ ∀ b, F' b = none → backF as F' b = none := by
  have inF : ∀ b, b ∉ as → ∀ u, F b = some u → F' b = some u := fun b hb u e => g.f b u (by
    show (if b ∈ as then H b else F b) = _
    rw [if_neg hb]; exact e)
  have nF : ∀ b ∈ as, F b = none := fun b hb => by obtain ⟨o, hc⟩ := hin b hb; exact O.cf _ hc
  have sF : Same F (backF as F') := fun b u e => by
    show (if b ∈ as then none else F' b) = _
    by_cases hb : b ∈ as
    · rw [nF b hb] at e; cases e
    · rw [if_neg hb]; exact inF b hb u e
  refine ⟨⟨⟨O.g.f.trans sF, fun b u e => ?_, fun b u hb e => g.k b u (fun h => nomatch h) (O.g.k b u hb e), fun b e => g.t b (O.g.t b e), fun b e => ?_, fun b xs e => ?_⟩, fun c hc => ?_, fun c hc => g.k _ _ (fun h => nomatch h) (O.ch c hc), O.nd, O.ca, O.nt⟩, sF, fun b xs e => ?_, fun b e => ?_⟩
  · have e : (if b ∈ as then none else F' b) = some u := e
    by_cases hb : b ∈ as
    · rw [if_pos hb] at e; cases e
    · rw [if_neg hb] at e; exact g.s b u e
  · show (if b ∈ as then none else F' b) = _ ∨ _
    by_cases hb : b ∈ as
    · rw [if_pos hb]
      rcases O.g.n b e with h0 | h0
      · rw [nF b hb] at h0; exact .inl h0
      · exact .inr h0
    · rw [if_neg hb]
      rcases O.g.n b e with h0 | h0
      · rcases g.n b (O.g.t b e) with h1 | ⟨xs, hx⟩
        · refine .inl (h1.trans ?_)
          show (if b ∈ as then H b else F b) = _
          rw [if_neg hb]; exact h0
        · rcases O.g.u b xs hx with z | z
          · exact absurd z e
          · exact .inr ⟨xs, z⟩
      · exact .inr h0
  · rcases g.u b xs e with z | z
    · refine .inl ?_
      cases q : Z.H b with
      | none => rfl
      | some u => exact absurd z (O.g.t b (by rw [q]; simp))
    · exact O.g.u b xs z
  · show (if c.1 ∈ as then none else F' c.1) = none
    by_cases hb : c.1 ∈ as
    · rw [if_pos hb]
    · rw [if_neg hb]
      have hl : lendF as F H c.1 = none := by
        show (if c.1 ∈ as then H c.1 else F c.1) = _
        rw [if_neg hb]; exact O.cf c hc
      exact g.none (O.ch c hc) (O.nt c hc) hl
  · show (if b ∈ as then none else F' b) = _
    by_cases hb : b ∈ as
    · obtain ⟨o, hc⟩ := hin b hb
      have h1 : lendF as F H b = some o := by
        show (if b ∈ as then H b else F b) = _
        rw [if_pos hb]; exact O.ch _ hc
      have h2 := g.f b o h1
      rw [e] at h2
      have h3 := O.nt _ hc
      have h3 : noTup o = true := h3
      rw [← Option.some.inj h2] at h3
      cases h3
    · rw [if_neg hb]; exact e
  · show (if b ∈ as then none else F' b) = _
    by_cases hb : b ∈ as
    · rw [if_pos hb]
    · rw [if_neg hb]; exact e
theorem Ow.fresh (O : Ow Z F cs H) (h : H p = none) : p ∉ cs.map (·.1) := fun hm => by
  obtain ⟨c, hc, e⟩ := List.mem_map.mp hm
  have z := O.ch c hc
  rw [e, h] at z
  cases z
theorem Ow.add' (O : Ow Z F cs H) (hm : p ∉ cs.map (·.1)) (hz : Z.H p = none) (hf : F p = none) (h : H p = some o) (ht : noTup o = true := by rfl) : Ow Z F ((p, o) :: cs) H where
  g := O.g
  cf := fun c hc => by
    rcases List.mem_cons.mp hc with rfl | hc
    · exact hf
    · exact O.cf c hc
  ch := fun c hc => by
    rcases List.mem_cons.mp hc with rfl | hc
    · exact h
    · exact O.ch c hc
  nd := by
    rw [List.map_cons, List.nodup_cons]
    exact ⟨hm, O.nd⟩
  ca := fun c hc => by
    rcases List.mem_cons.mp hc with rfl | hc
    · exact .inr hz
    · exact O.ca c hc
  nt := fun c hc => by
    rcases List.mem_cons.mp hc with rfl | hc
    · exact ht
    · exact O.nt c hc
theorem Ow.ne (O : Ow Z F cs H) (i j : Nat) (hij : i ≠ j) (ei : cs[i]? = some (a, o)) (ej : cs[j]? = some (q, o')) : a ≠ q := fun e => by
  subst e
  have h1 : (cs.map (·.1))[i]? = some a := by rw [List.getElem?_map, ei]; rfl
  have h2 : (cs.map (·.1))[j]? = some a := by rw [List.getElem?_map, ej]; rfl
  exact hij (nd_ix O.nd h1 h2)
end
theorem nmem2 {p q : Addr} {l : List Addr} (h : p ≠ q) (h2 : p ∉ l) : p ∉ q :: l := fun m => by
  rcases List.mem_cons.mp m with e | m
  · exact h e
  · exact h2 m
/-! ### while -/
inductive Ws (s r : Type) where
  | go (x : s)
  | stop (x : s)
  | rt (z : r)
def whL {s r : Type} (b : s → M (Ws s r)) : Nat → s → M (Fl s r)
  | 0, _ => bad
  | n + 1, x => b x >>= fun
    | .go x' => whL b n x'
    | .stop x' => .ok (.nx x')
    | .rt z => .ok (.rt z)
theorem whL_L {s r a : Type} {Q : a → Prop} {E : String → Prop} {b : s → M (Ws s r)} {n : Nat} {x : s} {k : Fl s r → M a} (h : wp (whL b n x >>= k) Q E) :
    ∃ (L : Nat → s → Prop) (X : s → Prop), L n x ∧ (∀ m x, L m x → wp (b x) (fun w => match w with
      | .go x' => ∃ m', m' < m ∧ L m' x'
      | .stop x' => X x'
      | .rt z => wp (k (.rt z)) Q E) E) ∧ ∀ x, X x → wp (k (.nx x)) Q E := by
  refine ⟨fun n x => wp (whL b n x >>= k) Q E, fun x => wp (k (.nx x)) Q E, h, fun m x hx => ?_, fun x hx => hx⟩
  cases m with
  | zero => exact hx.elim
  | succ m =>
    have hx : wp ((b x >>= fun
      | .go x' => whL b m x'
      | .stop x' => .ok (.nx x')
      | .rt z => .ok (.rt z)) >>= k) Q E := hx
    rw [wp_bind, wp_bind] at hx
    cases e : b x with
    | error e2 => rw [e] at hx; cases e2 <;> exact hx
    | ok w =>
      rw [e] at hx
      cases w with
      | go x' => exact ⟨m, Nat.lt_succ_self m, wp_bind.mpr hx⟩
      | stop x' => exact hx
      | rt z => exact hx
theorem while_P {c : TT} {tb : TS} {D : Ends} {σ : L2.St} {H : Hp} (W : Nat → L2.St → Hp → Prop) (X : L2.St → Hp → Prop) (n : Nat) (h0 : W n σ H) (exit : ∀ σ H, X σ H → D.nx σ H)
    (turn : (∀ σ H, X σ H → D.nx σ H) → ∀ m σ H, W m σ H → c σ H fun b H1 => if b = true then ∃ N : L2.St → Hp → Prop, (∀ σ' H', N σ' H' → ∃ m', m' < m ∧ W m' σ' H') ∧ tb { D with nx := N, ct := N, bk := D.nx } σ H1 else D.nx σ H1) : tWhile c tb D σ H :=
  ⟨W, ⟨n, h0⟩, turn exit⟩
/-! ### a < b < c < d -/
section
variable {X : Cx} {a b c d : Expr} {ta tb tc td : TE} {pos : Pos}
def tChain3 (r r' r'' : R2) (ta tb tc td : TE) : TE := fun σ H Q => ta σ H fun x H1 => tb σ H1 fun y H2 => r x y H2 fun z H3 => ∃ k, z = .bl k ∧
  (if k = true then tc σ H3 fun w' H4 => r' y w' H4 fun z' H5 => ∃ k', z' = .bl k' ∧ (if k' = true then td σ H5 fun u' H6 => r'' w' u' H6 Q else Q (.bl false) H5) else Q (.bl false) H3)
theorem pt_chain3 {op op' op'' : CmpOp} {r r' r'' : R2} (ho : OpR X (compareOp op) r) (ho' : OpR X (compareOp op') r') (ho'' : OpR X (compareOp op'') r'') (ha : PE X a ta) (hb : PE X b tb) (hc : PE X c tc) (hd : PE X d td)
    (hm : lastMarks [op, op', op''] [b, c, d] = false := by with_unfolding_all rfl) : PT X (.Compare a [op, op', op''] [b, c, d] pos) (tTest (tChain3 r r' r'' ta tb tc td)) := by
  refine ⟨fun pins s σ H Q I h => ?_⟩
  refine isTrue_chain (thn (ha.run pins s σ H _ I h) fun v s1 ⟨x, H1, I1, r1, q1⟩ => test_link (thn (hb.run pins s1 σ H1 _ I1 q1) fun u s2 ⟨y, H2, I2, r2, q2⟩ =>
    thn (ho pins s2 σ H2 x y v u _ I2 r1 r2 q2) fun d1 s3 ⟨z, H3, I3, r3, k, e, q3⟩ => ?_)) hm
  subst e
  cases r3
  refine wpAny_truthy_bool ?_
  cases k with
  | false =>
    obtain ⟨k', e', q'⟩ := q3
    cases e'
    exact ite_ff ⟨H3, I3, q'⟩
  | true =>
    refine ite_tt (test_link (thn (hc.run pins s3 σ H3 _ I3 q3) fun w' s4 ⟨z', H4, I4, r4, q4⟩ => thn (ho' pins s4 σ H4 y z' u w' _ I4 r2 r4 q4) fun d2 s5 ⟨z2, H5, I5, r5, k2, e2, q5⟩ => ?_))
    subst e2
    cases r5
    refine wpAny_truthy_bool ?_
    cases k2 with
    | false =>
      obtain ⟨k', e', q'⟩ := q5
      cases e'
      exact ite_ff ⟨H5, I5, q'⟩
    | true =>
      refine ite_tt (test_last (thn (hd.run pins s5 σ H5 _ I5 q5) fun u' s6 ⟨z3, H6, I6, r6, q6⟩ => thn (ho'' pins s6 σ H6 z' z3 w' u' _ I6 r4 r6 q6) fun d3 s7 ⟨z4, H7, I7, r7, k3, e3, q7⟩ => ?_))
      subst e3
      cases r7
      exact wpAny_truthy_bool ⟨H7, I7, q7⟩
end
/-! ### list.index of whole numbers -/
def ixI (xs : List Int) (y : Int) : M Int := if y ∈ xs then .ok ((xs.findIdx (· == y) : Nat) : Int) else bad
theorem wp_ixI {a : Type} {Q : a → Prop} {E : String → Prop} {xs : List Int} {y : Int} {k : Int → M a} (h : wp (ixI xs y >>= k) Q E) : ∃ j, xs.findIdx (· == y) = j ∧ xs[j]? = some y ∧ (∀ (m : Nat) z, m < j → xs[m]? = some z → z ≠ y) ∧ wp (k (j : Int)) Q E := by
  unfold ixI at h
  by_cases hm : y ∈ xs
  · rw [if_pos hm] at h
    have hlt : xs.findIdx (· == y) < xs.length := List.findIdx_lt_length_of_exists ⟨y, hm, by simp⟩
    refine ⟨_, rfl, ?_, fun m z hmj hz e => ?_, h⟩
    · rw [List.getElem?_eq_getElem hlt]
      have := List.findIdx_getElem (w := hlt)
      rw [eq_of_beq this]
    · have := List.not_of_lt_findIdx hmj
      obtain ⟨hl, hz⟩ := List.getElem?_eq_some_iff.mp hz
      rw [hz, e] at this
      simp at this
  · rw [if_neg hm] at h; exact h.elim
theorem all_flat_int : ∀ xs : List Int, (xs.map V.int).all flatV = true
  | [] => rfl
  | x :: xs => by rw [List.map_cons, List.all_cons, all_flat_int xs]; rfl
theorem int_noeq {xs : List Int} {y : Int} {j : Nat} (h : ∀ (m : Nat) z, m < j → xs[m]? = some z → z ≠ y) : ∀ (m : Nat) (z' : V), m < j → (xs.map V.int)[m]? = some z' → eqV z' (.int y) = false := fun m z' hm hz => by
  rw [List.getElem?_map] at hz
  cases e : xs[m]? with
  | none => rw [e] at hz; cases hz
  | some z =>
    rw [e] at hz
    have hz : V.int z = z' := Option.some.inj hz
    subst hz
    have := h m z hm e
    show (z == y) = false
    simpa using this
theorem int_at {xs : List Int} {y : Int} {j : Nat} (h : xs[j]? = some y) : (xs.map V.int)[j]? = some (.int y) := by rw [List.getElem?_map, h]; rfl
theorem int_eq {y : Int} : eqV (.int y) (.int y) = true := by show (y == y) = true; simp
/-! ### dict(list of pairs), the keys whole numbers -/
section
variable {β : Type} [Py β] {F H : Hp}
def mergeD (xs : List (Int × β)) : List (Int × β) := xs.foldl (fun acc p => dPut acc p.1 p.2) []
theorem merge_rd {kvs : List (Key × V)} {xs : List (Int × β)} (hs : RD F kvs xs) : ∀ {acc : List (Key × V)} {ac : List (Int × β)}, RD F acc ac → RD F (mergeK acc kvs) (xs.foldl (fun acc p => dPut acc p.1 p.2) ac) := by
  induction hs with
  | nil => intro acc ac h; exact h
  | @cons k v y kvs xs hv _ ih =>
    intro acc ac h
    exact ih (h.put k hv)
theorem pairs_of_rl {K : PySem.W.Frag} (s : Same F H) : ∀ {vs : List V} {xs : List (Int × β)}, RL F vs xs → ∃ (ps : List Addr) (kvs : List (Key × V)), vs = ps.map V.ref ∧ Paired (fun p kv => SqT K H p [kV kv.1, kv.2]) ps kvs ∧ RD F kvs xs
  | _, [], h => ⟨[], [], RL.nil_ h, .nil, .nil⟩
  | _, x :: xs, h => by
    obtain ⟨w, ws, rfl, h1, h2⟩ := RL.cons_ h
    obtain ⟨ps, kvs, e, hp, hr⟩ := pairs_of_rl (K := K) s h2
    obtain ⟨p, v1, v2, rfl, hp1, h3, h4⟩ := R.t2_ h1
    rw [R.int_ h3] at hp1
    exact ⟨p :: ps, (.inl x.1, v2) :: kvs, by rw [e]; rfl, .cons (SqT.of (s _ _ hp1)) hp, .cons (k := x.1) h4 hr⟩
end
/-! ### the same rules, the fragment told outright (within a comprehension) -/
section
variable {X : Cx} {K : PySem.W.Frag}
theorem ixTupK (h : X.K = K) : IxR X (rIxT K) := by rw [← h]; exact ix_tup
theorem ixListK (h : X.K = K) : IxR X (rIxL K) := by rw [← h]; exact ix_list
theorem listOfK (h : X.K = K) : CallR X (.type "list") (fun xs H Q => ∃ p ys, xs = [.ref p] ∧ (SqL K H p ys ∨ SqT K H p ys) ∧ ∀ l, H l = none → Q (.ref l) (upd H l (.lst ys))) := by rw [← h]; exact call_list_of
theorem isiK (h : X.K = K) : CallR X (.builtin "isinstance") (rIsi K) := by rw [← h]; exact call_isi
theorem slListK (h : X.K = K) : SlR X (rSlL K) := by rw [← h]; exact sl_list
theorem indexK (h : X.K = K) : MtR X "list.index" (rIndex K) := by rw [← h]; exact mt_index
end
/-! ### enumerate in a comprehension -/
def enumL {b : Type} (xs : List b) : List (Int × b) := xs.zipIdx.map fun p => ((p.2 : Int), p.1)
theorem enumL_get {b : Type} {xs : List b} {i : Nat} {x : b} (h : xs[i]? = some x) : (enumL xs).drop i = ((i : Int), x) :: (enumL xs).drop (i + 1) := by
  apply drop_at
  unfold enumL
  rw [List.getElem?_map, List.getElem?_zipIdx, h]
  simp
theorem enumL_len {b : Type} {xs : List b} : (enumL xs).length = xs.length := by unfold enumL; simp
theorem enumL_end {b : Type} {xs : List b} {vs : List V} (h : vs.length = xs.length) : (enumL xs).drop vs.length = [] := by
  rw [h, ← enumL_len, List.drop_length]
theorem comp_lenE {b : Type} {w vs : List V} {xs : List b} {i : Nat} (la : w.length ≤ i) (hi : i < vs.length) (hl : vs.length = xs.length) (c : (enumL xs).length < 16777216) : w.length < sizeLine := by
  rw [enumL_len] at c
  exact lt_line (by omega)
theorem zip_at {a b : Type} {xs : List a} {ys : List b} {i : Nat} {x : a} {y : b} (h : xs[i]? = some x) (h2 : ys[i]? = some y) : (xs.zip ys).drop i = (x, y) :: (xs.zip ys).drop (i + 1) := by
  apply drop_at
  rw [List.getElem?_zip_eq_some]
  exact ⟨h, h2⟩
theorem zip_end {a b : Type} {xs : List a} {ys : List b} {vs ws : List V} (h : vs.length = xs.length) (h2 : ws.length = ys.length) : (xs.zip ys).drop (min vs.length ws.length) = [] := by
  rw [h, h2, ← List.length_zip, List.drop_length]
theorem comp_lenZ {a b : Type} {w vs ws : List V} {xs : List a} {ys : List b} {i : Nat} (la : w.length ≤ i) (hi : i < min vs.length ws.length) (h : vs.length = xs.length) (h2 : ws.length = ys.length) (c : (xs.zip ys).length < 16777216) : w.length < sizeLine := by
  rw [List.length_zip, ← h, ← h2] at c
  exact lt_line (by omega)
section
variable {X : Cx} {K : PySem.W.Frag}
theorem cr_sumK (hc : X.calm = true) (h : X.K = K) : CallR X (.builtin "sum") (rSum K) := by rw [← h]; exact cr_sum hc
end
end PG

set_option Elab.async false
set_option linter.all false
set_option maxRecDepth 100000
set_option maxHeartbeats 4000000
namespace PG
open PySem PySem.Spec PyProof.Rows L2
open PySem.W (T3 T4 Datum DatumOrd Holds HoldAll EachIs)
variable {K0 : PySem.W.Frag} [KF K0]
/-! ### sums: ("number", n), (word, n), (word,), (word, a, b) -/
inductive Sm where
  | num (w : Str) (n : Int)
  | nam (w : Str)
  | two (w : Str) (a b : Sm)
  deriving DecidableEq
def Sm.d : Sm → PyData
  | .num w n => .tuple [.str w, .int n]
  | .nam w => .tuple [.str w]
  | .two w a b => .tuple [.str w, a.d, b.d]
instance : Py Sm := ⟨Sm.d⟩
def Sm.word : Sm → Str
  | .num w _ => w
  | .nam w => w
  | .two w _ _ => w
def Sm.int? : Sm → Option Int
  | .num _ n => some n
  | _ => none
def Sm.two? : Sm → Option (Sm × Sm)
  | .two _ a b => some (a, b)
  | _ => none
section
variable {F : Hp} {v : V} {p : Addr} {x : Sm}
theorem R.sm_ (h : R F v x) : ∃ p ws, v = .ref p ∧ TupAt F p (V.str x.word :: ws) := by
  cases x with
  | num w n =>
    obtain ⟨p, v1, v2, e, hp, h1, h2⟩ := R.t2T_ (show R (a := Str × Int) F v (w, n) from h)
    rw [R.str_ h1] at hp
    exact ⟨p, [v2], e, hp⟩
  | nam w =>
    have h' : Rep F v (.tuple [.str w]) := h
    cases h' with
    | tup ha hs =>
      cases hs with
      | cons h1 hs =>
        cases hs
        cases h1
        exact ⟨_, _, rfl, ha⟩
  | two w a b =>
    obtain ⟨p, v1, v2, v3, e, hp, h1, h2, h3⟩ := R.t3T_ (show R (a := T3 Str Sm Sm) F v ⟨w, a, b⟩ from h)
    rw [R.str_ h1] at hp
    exact ⟨p, [v2, v3], e, hp⟩
theorem R.sm_int {n : Int} (h : R F v x) (e : x.int? = some n) : ∃ p w, v = .ref p ∧ TupAt F p [V.str w, V.int n] := by
  cases x with
  | num w m =>
    obtain ⟨p, v1, v2, e1, hp, h1, h2⟩ := R.t2T_ (show R (a := Str × Int) F v (w, m) from h)
    rw [R.str_ h1, R.int_ h2] at hp
    have e : some m = some n := e
    cases e
    exact ⟨p, w, e1, hp⟩
  | nam w => cases e
  | two w a b => cases e
theorem R.sm_two {q : Sm × Sm} (h : R F v x) (e : x.two? = some q) : ∃ p w va vb, v = .ref p ∧ TupAt F p [V.str w, va, vb] ∧ R F va q.1 ∧ R F vb q.2 := by
  cases x with
  | num w m => cases e
  | nam w => cases e
  | two w a b =>
    obtain ⟨p, v1, v2, v3, e1, hp, h1, h2, h3⟩ := R.t3T_ (show R (a := T3 Str Sm Sm) F v ⟨w, a, b⟩ from h)
    rw [R.str_ h1] at hp
    have e : some (a, b) = some q := e
    cases e
    exact ⟨p, w, v2, v3, e1, hp, h2, h3⟩
theorem R.of_num {q : Str × Int} (h : R F v q) : R F v (Sm.num q.1 q.2) := h
theorem R.of_two {q : T3 Str Sm Sm} (h : R F v q) : R F v (Sm.two q.a q.b q.c) := h
theorem R.of_nam {w : Str} (h : F p = some (.tup [V.str w])) : R F (.ref p) (Sm.nam w) := Rep.tup (.inl h) (.cons (.str w) .nil)
/-- the module's own tuples -/
theorem R.k_nam {w : Str} (h : KTup K0 p [V.str w]) : R F (.ref p) (Sm.nam w) := Rep.tup (.inr ⟨⟨_, _, rfl⟩, h⟩) (.cons (.str w) .nil)
theorem R.k_num {w : Str} {n : Int} (h : KTup K0 p [V.str w, V.int n]) : R F (.ref p) (Sm.num w n) := Rep.tup (.inr ⟨⟨_, _, rfl⟩, h⟩) (.cons (.str w) (.cons (.int n) .nil))
instance : NoS Sm := ⟨fun x s h => by cases x <;> exact nomatch h⟩
end
/-! ### a whole number or a list of such -/
inductive IL where
  | i (n : Int)
  | l (xs : List Int)
instance : Py IL := ⟨fun
  | .i n => Py.toD n
  | .l xs => Py.toD xs⟩
def IL.i? : IL → Option Int
  | .i n => some n
  | _ => none
def IL.l? : IL → Option (List Int)
  | .l xs => some xs
  | _ => none
section
variable {F : Hp} {v : V}
theorem R.il_i {x : IL} {n : Int} (h : R F v x) (e : x.i? = some n) : R F v n := by
  cases x with
  | i m => have e : some m = some n := e; cases e; exact h
  | l xs => cases e
theorem R.il_l {x : IL} {xs : List Int} (h : R F v x) (e : x.l? = some xs) : R F v xs := by
  cases x with
  | i m => cases e
  | l ys => have e : some ys = some xs := e; cases e; exact h
theorem R.of_i {n : Int} (h : R F v n) : R F v (IL.i n) := h
theorem R.of_l {xs : List Int} (h : R F v xs) : R F v (IL.l xs) := h
end
section
variable {β : Type} [Py β] {F : Hp}
def mergeDS (xs : List (Str × β)) : List (Str × β) := xs.foldl (fun acc p => dPut acc p.1 p.2) []
theorem merge_rdS {kvs : List (Key × V)} {xs : List (Str × β)} (hs : RD F kvs xs) : ∀ {acc : List (Key × V)} {ac : List (Str × β)}, RD F acc ac → RD F (mergeK acc kvs) (xs.foldl (fun acc p => dPut acc p.1 p.2) ac) := by
  induction hs with
  | nil => intro acc ac h; exact h
  | @cons k v y kvs xs hv _ ih =>
    intro acc ac h
    exact ih (h.put k hv)
end
section
variable {X : Cx} {K : PySem.W.Frag} {pos : Pos}
theorem slTupK (h : X.K = K) : SlR X (rSlT K) := by rw [← h]; exact sl_tup
theorem pgLstK (h : X.K = K) {es : List Expr} {k : Nat} {t : TGs} {n : Nat} (hc : X.calm = true) (hp : PGs X es t)
    (hn : (assignEach es X.env).length = n := by rfl) (hst : (assignEach es X.env).findIdx? (·.1) = none := by rfl) : PG X (.Tuple es k pos) (gLst K n t) := by rw [← h]; exact pg_lst hc hp hn hst
end
theorem RL.two {a : Type} [Py a] {F : Hp} {vs : List V} {xs : List a} (h : RL F vs xs) (e : xs.length = 2) : ∃ v1 v2 x1 x2, vs = [v1, v2] ∧ xs = [x1, x2] ∧ R F v1 x1 ∧ R F v2 x2 := by
  match xs, e with
  | [x1, x2], _ =>
    obtain ⟨w, ws, rfl, h1, h2⟩ := RL.cons_ h
    obtain ⟨w2, ws2, rfl, h3, h4⟩ := RL.cons_ h2
    rw [RL.nil_ h4]
    exact ⟨w, w2, x1, x2, rfl, rfl, h1, h3⟩
/-- a list of just two -/
def two2 {a : Type} (xs : List a) : M (a × a) := match xs with
  | [x, y] => .ok (x, y)
  | _ => bad
theorem wp_two2 {a b : Type} {Q : a → Prop} {E : String → Prop} {xs : List b} {k : b × b → M a} (h : wp (two2 xs >>= k) Q E) : ∃ x y, xs = [x, y] ∧ wp (k (x, y)) Q E := by
  match xs, h with
  | [x, y], h => exact ⟨x, y, rfl, h⟩
  | [], h => exact h.elim
  | [_], h => exact h.elim
  | _ :: _ :: _ :: _, h => exact h.elim
theorem sl3 (a b c : V) : ¬ (HT.sIx [a, b, c].length 0 (some (1 : Int)) = 0 ∧ HT.sIx [a, b, c].length [a, b, c].length none = [a, b, c].length) := fun h => absurd h.1 (by show ¬ (HT.sIx 3 0 (some (1 : Int)) = 0); decide)
theorem intB {X : Cx} : CallR X (.type "int") (fun xs H Q => ∃ k, xs = [.bl k] ∧ Q (.int (if k then 1 else 0)) H) := fun pins s σ H xs us Q I r h => call_int1 pins s σ H xs us Q I r (.inr h)
theorem atI0 {a : Type} (x : a) (xs : List a) : L2.atI (x :: xs) (0 : Int) = some x := by
  unfold L2.atI ixN
  rw [if_pos (by omega), if_pos (by rw [List.length_cons]; omega)]
  rfl
end PG

set_option Elab.async false
set_option linter.all false
set_option maxRecDepth 100000
set_option maxHeartbeats 4000000
namespace PG
open PySem PySem.Spec PyProof.Rows L2
open PySem.W (T3 T4 Datum DatumOrd Holds HoldAll EachIs)
variable {K0 : PySem.W.Frag} [KF K0]
/-! ### == of data of any depth, the depth asked outright -/
class DatumX (a : Type) [Py a] [DecidableEq a] : Prop where
  plain : ∀ x : a, (Py.toD x).plain = true
  eqv : ∀ x y : a, PyData.eqv (Py.toD x) (Py.toD y) = decide (x = y)
instance (priority := 50) {a : Type} [Py a] [DecidableEq a] [Datum a] [IsD a] : DatumX a := ⟨fun x => by rw [IsD.eq]; exact Datum.plain x, fun x y => by rw [IsD.eq, IsD.eq]; exact Datum.eqv x y⟩
theorem Sm.pl : ∀ x : Sm, x.d.plain = true
  | .num w n => by simp [Sm.d, PyData.plain, PyData.plainAll]
  | .nam w => by simp [Sm.d, PyData.plain, PyData.plainAll]
  | .two w a b => by simp [Sm.d, PyData.plain, PyData.plainAll, Sm.pl a, Sm.pl b]
theorem ev23 (w w' : Str) (n : PyData) (x y : PyData) : PyData.eqv (.tuple [.str w, n]) (.tuple [.str w', x, y]) = false := by simp [PyData.eqv, PyData.eqvAll]
theorem ev32 (w w' : Str) (n : PyData) (x y : PyData) : PyData.eqv (.tuple [.str w', x, y]) (.tuple [.str w, n]) = false := by simp [PyData.eqv, PyData.eqvAll]
theorem ev13 (w w' : Str) (x y : PyData) : PyData.eqv (.tuple [.str w]) (.tuple [.str w', x, y]) = false := by simp [PyData.eqv, PyData.eqvAll]
theorem ev31 (w w' : Str) (x y : PyData) : PyData.eqv (.tuple [.str w', x, y]) (.tuple [.str w]) = false := by simp [PyData.eqv, PyData.eqvAll]
theorem Sm.ev : ∀ x y : Sm, PyData.eqv x.d y.d = decide (x = y)
  | .num w n, .num w' n' => by
    simp only [Sm.d, PyData.eqv, PyData.eqvAll, Bool.and_true]
    rw [PySem.W.beq_decide, PySem.W.beq_decide, ← Bool.decide_and]
    exact decide_eq_decide.mpr (by rw [Sm.num.injEq])
  | .num w n, .nam w' => by simp [Sm.d, PyData.eqv, PyData.eqvAll]
  | .num w n, .two w' a b => (ev23 w w' (.int n) a.d b.d).trans (by simp)
  | .nam w, .num w' n => by simp [Sm.d, PyData.eqv, PyData.eqvAll]
  | .nam w, .nam w' => by
    simp only [Sm.d, PyData.eqv, PyData.eqvAll, Bool.and_true]
    rw [PySem.W.beq_decide]
    exact decide_eq_decide.mpr (by rw [Sm.nam.injEq])
  | .nam w, .two w' a b => (ev13 w w' a.d b.d).trans (by simp)
  | .two w a b, .num w' n => (ev32 w' w (.int n) a.d b.d).trans (by simp)
  | .two w a b, .nam w' => (ev31 w' w a.d b.d).trans (by simp)
  | .two w a b, .two w' a' b' => by
    simp only [Sm.d, PyData.eqv, PyData.eqvAll, Bool.and_true]
    rw [PySem.W.beq_decide, Sm.ev a a', Sm.ev b b', ← Bool.decide_and, ← Bool.decide_and]
    exact decide_eq_decide.mpr (by rw [Sm.two.injEq])
instance : DatumX Sm := ⟨Sm.pl, Sm.ev⟩
section
variable {a b c d : Type} [Py a] [DecidableEq a] [DatumX a] [Py b] [DecidableEq b] [DatumX b] [Py c] [DecidableEq c] [DatumX c] [Py d] [DecidableEq d] [DatumX d]
theorem plainX : ∀ xs : List a, PyData.plainAll (xs.map Py.toD) = true
  | [] => rfl
  | x :: xs => by
    rw [List.map_cons, PyData.plainAll, DatumX.plain x, plainX xs]
    rfl
theorem eqvX : ∀ xs ys : List a, PyData.eqvAll (xs.map Py.toD) (ys.map Py.toD) = decide (xs = ys)
  | [], [] => by simp only [List.map_nil, PyData.eqvAll, decide_true]
  | [], _ :: _ => by simp [PyData.eqvAll]
  | _ :: _, [] => by simp [PyData.eqvAll]
  | x :: xs, y :: ys => by
    rw [List.map_cons, List.map_cons, PyData.eqvAll, DatumX.eqv x y, eqvX xs ys, ← Bool.decide_and]
    exact decide_eq_decide.mpr (by rw [List.cons.injEq])
instance : DatumX (List a) := ⟨fun xs => by show PyData.plain (.list (xs.map Py.toD)) = true; simp only [PyData.plain]; exact plainX xs, fun xs ys => by show PyData.eqv (.list (xs.map Py.toD)) (.list (ys.map Py.toD)) = _; simp only [PyData.eqv]; exact eqvX xs ys⟩
theorem T4.sm {p q : T4 a b c d} : p = q ↔ p.a = q.a ∧ p.b = q.b ∧ p.c = q.c ∧ p.d = q.d := by
  cases p; cases q
  simp
instance : DatumX (T4 a b c d) := ⟨fun p => by show PyData.plain (.tuple [_, _, _, _]) = true; simp only [PyData.plain, PyData.plainAll, DatumX.plain, Bool.and_self], fun p q => by
  show PyData.eqv (.tuple [_, _, _, _]) (.tuple [_, _, _, _]) = _
  simp only [PyData.eqv, PyData.eqvAll]
  rw [DatumX.eqv, DatumX.eqv, DatumX.eqv, DatumX.eqv, Bool.and_true, ← Bool.decide_and, ← Bool.decide_and, ← Bool.decide_and]
  exact decide_eq_decide.mpr T4.sm.symm⟩
end
def dep {a : Type} [Py a] (x : a) : Nat := (Py.toD x).depth
section
variable {X : Cx} (a : Type) [Py a] [DecidableEq a] [DatumX a]
def rEqX : R2 := fun x y H Q => ∃ p q : a, R H x p ∧ R H y q ∧ min (dep p) (dep q) ≤ 60 ∧ Q (.bl (decide (p = q))) H
def rNeX : R2 := fun x y H Q => ∃ p q : a, R H x p ∧ R H y q ∧ min (dep p) (dep q) ≤ 60 ∧ Q (.bl (decide (p ≠ q))) H
theorem op_eqX (hu : X.A.units + 64 < cLine) (hK : X.K = K0 := by rfl) : OpR X (compareOp .Eq) (rEqX a) := by
  subst hK
  intro pins s σ H x y v u Q I rx ry h
  obtain ⟨p, q, hp, hq, hd, k⟩ := h
  obtain ⟨as, ra⟩ := Dp.reads I _ _ _ (Rep.dp _ _ hp) rx
  obtain ⟨bs, rb⟩ := Dp.reads I _ _ _ (Rep.dp _ _ hq) ry
  have hd' : min (Py.toD p).depth (Py.toD q).depth ≤ 60 := hd
  exact PySem.SeqAt.eq_plain ra rb (DatumX.plain p) (DatumX.plain q) (by omega) (by rw [DatumX.eqv p q]; exact ⟨.bl _, H, I, rfl, k⟩)
theorem op_neX (hu : X.A.units + 64 < cLine) (hK : X.K = K0 := by rfl) : OpR X (compareOp .NotEq) (rNeX a) := by
  subst hK
  intro pins s σ H x y v u Q I rx ry h
  obtain ⟨p, q, hp, hq, hd, k⟩ := h
  obtain ⟨as, ra⟩ := Dp.reads I _ _ _ (Rep.dp _ _ hp) rx
  obtain ⟨bs, rb⟩ := Dp.reads I _ _ _ (Rep.dp _ _ hq) ry
  have hd' : min (Py.toD p).depth (Py.toD q).depth ≤ 60 := hd
  exact PySem.SeqAt.ne_plain ra rb (DatumX.plain p) (DatumX.plain q) (by omega) (by rw [DatumX.eqv p q, ← decide_not]; exact ⟨.bl _, H, I, rfl, k⟩)
end
/-! ### a tuple of things of one kind, of any length -/
structure Tp (a : Type) where
  l : List a
instance {a : Type} [Py a] : Py (Tp a) := ⟨fun t => .tuple (t.l.map Py.toD)⟩
section
variable {a : Type} [Py a] {F : Hp} {v : V}
theorem R.tp_ {x : Tp a} (h : R F v x) : ∃ p vs, v = .ref p ∧ TupAt F p vs ∧ RL F vs x.l := by
  have h' : Rep F v (.tuple (x.l.map Py.toD)) := h
  cases h' with
  | tup ha hs => exact ⟨_, _, rfl, ha, hs⟩
theorem R.tp2 {q : a × a} (h : R F v q) : R F v (Tp.mk [q.1, q.2]) := h
theorem R.tp3 {q : T3 a a a} (h : R F v q) : R F v (Tp.mk [q.a, q.b, q.c]) := h
theorem R.tp1 {w : Str} (h : R F v (Sm.nam w)) : R F v (Tp.mk [w]) := h
end
end PG

set_option Elab.async false
set_option linter.all false
set_option maxRecDepth 100000
set_option maxHeartbeats 4000000
namespace PG
open PySem PySem.Spec PyProof.Rows L2
open PySem.W (T3 T4 Datum DatumOrd Holds HoldAll EachIs)
variable {K0 : PySem.W.Frag} [KF K0]
/-! ### dict(a list of pairs), the keys tuples -/
def mergeT (kvs more : List (List Key × V)) : List (List Key × V) := more.foldl (fun m q => putK m q.1 q.2) kvs
theorem mergeT_kt {H : Hp} {kvs : List (List Key × V)} {xs : List (List Key × Addr × Value)} (r : KT H kvs xs) : ∀ {m : List (List Key × V)} {ms : List (List Key × Addr × Value)}, KT H m ms →
    KT H (mergeT m kvs) (storedAllH ms xs) := by
  induction r with
  | nil => intro m ms h; exact h
  | @cons p q ps qs h t ih =>
    intro m ms hm
    obtain ⟨e, hb, rv⟩ := h
    have := ih (KT.put hm q.1 (b := q.2.1) (by rw [← e]; exact hb) rv)
    unfold mergeT storedAllH at *
    rw [List.foldl_cons, List.foldl_cons, e]
    exact this
def PairT (K : PySem.W.Frag) (H : Hp) (p : Addr × Addr) (q : List Key × V) : Prop := SqT K H p.1 [.ref p.2, q.2] ∧ H p.2 = some (.tup (q.1.map kV))
theorem kt_at {H : Hp} {kvs : List (List Key × V)} {xs : List (List Key × Addr × Value)} (r : KT H kvs xs) : ∀ x ∈ xs, H x.2.1 = some (.tup (x.1.map kV)) := by
  induction r with
  | nil => exact fun x hx => nomatch hx
  | cons h _ ih => intro x hx; rcases List.mem_cons.mp hx with rfl | hx; · rw [← h.1]; exact h.2.1
                   · exact ih x hx
theorem ne_of_none {H : Hp} {b c : Addr} {o : HO} (e : H c = some o) (n : H b = none) : c ≠ b := fun z => by rw [z, n] at e; exact nomatch e
section
variable {X : Cx}
theorem tripT {pins : List (Addr × Obj)} {σ : L2.St} {H : Hp} {s : Shared} (I : Inv X pins σ H s) {ps : List (Addr × Addr)} {kvs : List (List Key × V)} (h : Paired (PairT X.K H) ps kvs) :
    ∃ xs : List (List Key × Addr × Value), KT H kvs xs ∧ xs.length = ps.length ∧ ∀ (j : Nat) q, xs[j]? = some q → ∃ b, ps[j]? = some b ∧ b.2 = q.2.1 ∧ IsTup s.heap b.1 #[.ref q.2.1, q.2.2] := by
  induction h with
  | nil => exact ⟨[], .nil, rfl, fun j q e => by simp at e⟩
  | @cons p kv ps' kvs' h t ih =>
    obtain ⟨xs, r, hl, hx⟩ := ih
    obtain ⟨h1, h2⟩ := h
    obtain ⟨its, rv, ht, _⟩ := I.tuple h1
    obtain ⟨u, y, ei, ru, ry⟩ := vals2 rv
    subst ei
    cases ru
    refine ⟨(kv.1, p.2, y) :: xs, .cons ⟨rfl, h2, ry⟩ r, by simp [hl], fun j q e => ?_⟩
    cases j with
    | zero =>
      have e' : (kv.1, p.2, y) = q := Option.some.inj e
      subst e'
      exact ⟨p, rfl, rfl, ht⟩
    | succ j => exact (hx j q (by simpa using e)).imp fun b z => ⟨by simpa using z.1, z.2⟩
theorem refs_pT : ∀ {ps : List (Addr × Addr)} {us : List Value}, Vals (ps.map fun p => V.ref p.1) us → us = ps.map fun p => Value.ref p.1
  | [], us, r => by rw [List.map_nil] at r; cases r; rfl
  | p :: ps, us, r => by
    rw [List.map_cons] at r
    cases r with
    | cons h t => cases h; rw [List.map_cons, ← refs_pT t]
theorem call_dictT (hcalm : X.calm = true) (hu : X.A.units + 64 < cLine) : CallR X (.type "dict") (fun xs H Q => ∃ (a : Addr) (ps : List (Addr × Addr)) (kvs : List (List Key × V)), xs = [.ref a] ∧
    SqL X.K H a (ps.map fun p => V.ref p.1) ∧ Paired (PairT X.K H) ps kvs ∧ ∀ p, H p = none → Q (.ref p) (upd H p (.dT (mergeT [] kvs)))) := by
  intro pins s σ H zs us Q I r q
  obtain ⟨a, ps, kvs, ez, hq, hp, q⟩ := q
  subst ez
  obtain ⟨u, eu, rx⟩ := vals1 r
  subst eu
  cases rx
  obtain ⟨its, rv, pl, hz⟩ := I.list hq
  have ei := refs_pT rv
  subst ei
  obtain ⟨xs, rel, hl, hx⟩ := tripT I hp
  obtain ⟨o, n, ho, hc, hd, hdat⟩ := pl
  have hz' : ps.length ≤ sizeLine := by simpa using hz
  have hkey : ∀ x ∈ xs, (tupleKind (mixKind X.prog X.w)).is s.heap x.1 x.2.1 := fun x hxm => key_of I.hok (kt_at rel x hxm)
  have hps : ∀ (j : Nat) (k v : Value), (xs.map fun x => (Value.ref x.2.1, x.2.2))[j]? = some (k, v) → ∃ q, xs[j]? = some q ∧ k = .ref q.2.1 ∧ v = q.2.2 := fun j k v e => by
    rw [List.getElem?_map] at e
    cases hq' : xs[j]? with
    | none => rw [hq'] at e; exact nomatch e
    | some q' => rw [hq'] at e; cases e; exact ⟨q', rfl, rfl, rfl⟩
  refine call_dict_pairsH (knd := tupleKind (mixKind X.prog X.w)) (ps := xs)
    (PairArg.list a _ (fun j => ((ps[j]?).map (·.1)).getD 0) (xs.map fun x => (Value.ref x.2.1, x.2.2))) (I.ok.hd hcalm) (show X.A.units + 1 + 1 < cLine by omega)
    ⟨⟨o, n, ho, hc, hd, hdat⟩, ⟨by simp [hl], fun j k v e => ?_⟩⟩ ⟨by simp, fun i k v e => ?_⟩ (fun h' hk x hxm => ?_) (by simpa [hl] using hz') fun h' tk hd' hk => ?_
  · obtain ⟨q', e1, rfl, rfl⟩ := hps j k v e
    obtain ⟨b, e2, _, ht⟩ := hx j q' e1
    have e3 : ((ps[j]?).map (·.1)).getD 0 = b.1 := by rw [e2]; rfl
    show _ ∧ PairAt s.heap (((ps[j]?).map (·.1)).getD 0) _ _
    rw [e3]
    exact ⟨by show _ = some (Value.ref (((ps[j]?).map (·.1)).getD 0)); rw [e3]; simp [e2], .inl ht⟩
  · obtain ⟨q', e1, rfl, rfl⟩ := hps i k v e
    exact ⟨q'.1, q'.2.1, e1, rfl⟩
  · obtain ⟨o', its', n', h1, h2⟩ := hkey x hxm
    exact ⟨o', its', n', hk _ _ (Nat.ne_of_lt (Heap.lt_size h1)) (fun z => nomatch z) h1, h2⟩
  · have hm : (s.heap.objs.size == sysModules) = false := beq_eq_false_iff_ne.mpr (Nat.ne_of_gt I.big)
    have hlen : (mergeT [] kvs).length ≤ sizeLine := by
      have h1 := Paired.length (mergeT_kt rel (m := []) (ms := []) .nil)
      have h2 := storedAllH_length xs ([] : List (List Key × Addr × Value))
      rw [List.length_nil, Nat.zero_add] at h2
      rw [h1]
      exact Nat.le_trans h2 (by rw [hl]; exact hz')
    obtain ⟨q', es, ep, g1, g2, g3, g4, _, g5⟩ := hd'
    refine ⟨.ref s.heap.objs.size, upd H s.heap.objs.size (.dT (mergeT [] kvs)), I.laid (t' := tk) (fun b o' e => hk b o' (fun z => nomatch z) e) (Nat.le_refl _) ⟨hlen, hm, _, (mergeT_kt rel .nil).keeps fun c ys ec => ?_, q', es, ep, g1, g2, g3, g4, g5⟩,
      rfl, q _ (I.hok.fresh (Nat.le_refl _))⟩
    rw [upd_ne (ne_of_none ec (I.hok.fresh (Nat.le_refl _)))]
    exact ec
end
section
variable {β : Type} [Py β] {F H : Hp}
def mergeDT (xs : List ((Int × Int) × β)) : List ((Int × Int) × β) := xs.foldl (fun m p => dPut m p.1 p.2) []
theorem mergeT_rd {kvs : List (List Key × V)} {xs : List ((Int × Int) × β)} (hs : RD F kvs xs) : ∀ {m : List (List Key × V)} {ms : List ((Int × Int) × β)}, RD F m ms → RD F (mergeT m kvs) (xs.foldl (fun m p => dPut m p.1 p.2) ms) := by
  induction hs with
  | nil => intro m ms h; exact h
  | @cons k v y kvs xs hv _ ih =>
    intro m ms h
    exact ih (h.put k hv)
theorem pairsT_of_rl {K : PySem.W.Frag} (s : Same F H) : ∀ {vs : List V} {xs : List ((Int × Int) × β)}, RL F vs xs → ∃ (ps : List (Addr × Addr)) (kvs : List (List Key × V)),
    vs = (ps.map fun p => V.ref p.1) ∧ Paired (PairT K H) ps kvs ∧ RD F kvs xs
  | _, [], h => ⟨[], [], RL.nil_ h, .nil, .nil⟩
  | _, x :: xs, h => by
    obtain ⟨w, ws, rfl, h1, h2⟩ := RL.cons_ h
    obtain ⟨ps, kvs, e, hp, hr⟩ := pairsT_of_rl (K := K) s h2
    obtain ⟨p, v1, v2, rfl, hp1, h3, h4⟩ := R.t2_ h1
    obtain ⟨b, w1, w2, rfl, hb, h5, h6⟩ := R.t2_ h3
    rw [R.int_ h5, R.int_ h6] at hb
    exact ⟨(p, b) :: ps, ([.inl x.1.1, .inl x.1.2], v2) :: kvs, by rw [e]; rfl, .cons ⟨SqT.of (s _ _ hp1), s _ _ hb⟩ hp, .cons (k := x.1) h4 hr⟩
end
/-! ### max and min of a list -/
def mxI : List Int → Option Int
  | [] => none
  | x :: xs => match mxI xs with
    | none => some x
    | some m => some (if m < x then x else m)
def mnI : List Int → Option Int
  | [] => none
  | x :: xs => match mnI xs with
    | none => some x
    | some m => some (if x < m then x else m)
theorem mxI_none : ∀ {xs : List Int}, mxI xs = none → xs = []
  | [], _ => rfl
  | x :: xs, h => by
    unfold mxI at h
    cases e : mxI xs <;> rw [e] at h <;> exact nomatch h
theorem mnI_none : ∀ {xs : List Int}, mnI xs = none → xs = []
  | [], _ => rfl
  | x :: xs, h => by
    unfold mnI at h
    cases e : mnI xs <;> rw [e] at h <;> exact nomatch h
theorem mxI_is : ∀ {xs : List Int} {m : Int}, mxI xs = some m → m ∈ xs ∧ ∀ y ∈ xs, y ≤ m
  | [], _, h => nomatch h
  | x :: xs, m, h => by
    unfold mxI at h
    cases e : mxI xs with
    | none =>
      rw [e] at h
      cases h
      rw [mxI_none e]
      exact ⟨List.mem_cons_self, fun y hy => by rw [List.mem_singleton.mp hy]; exact Int.le_refl _⟩
    | some n =>
      rw [e] at h
      obtain ⟨h1, h2⟩ := mxI_is e
      have h : (if n < x then x else n) = m := Option.some.inj h
      by_cases z : n < x
      · rw [if_pos z] at h
        subst h
        refine ⟨List.mem_cons_self, fun y hy => ?_⟩
        rcases List.mem_cons.mp hy with hy | hy
        · omega
        · have := h2 y hy; omega
      · rw [if_neg z] at h
        subst h
        refine ⟨List.mem_cons_of_mem _ h1, fun y hy => ?_⟩
        rcases List.mem_cons.mp hy with hy | hy
        · omega
        · exact h2 y hy
theorem mnI_is : ∀ {xs : List Int} {m : Int}, mnI xs = some m → m ∈ xs ∧ ∀ y ∈ xs, m ≤ y
  | [], _, h => nomatch h
  | x :: xs, m, h => by
    unfold mnI at h
    cases e : mnI xs with
    | none =>
      rw [e] at h
      cases h
      rw [mnI_none e]
      exact ⟨List.mem_cons_self, fun y hy => by rw [List.mem_singleton.mp hy]; exact Int.le_refl _⟩
    | some n =>
      rw [e] at h
      obtain ⟨h1, h2⟩ := mnI_is e
      have h : (if x < n then x else n) = m := Option.some.inj h
      by_cases z : x < n
      · rw [if_pos z] at h
        subst h
        refine ⟨List.mem_cons_self, fun y hy => ?_⟩
        rcases List.mem_cons.mp hy with hy | hy
        · omega
        · have := h2 y hy; omega
      · rw [if_neg z] at h
        subst h
        refine ⟨List.mem_cons_of_mem _ h1, fun y hy => ?_⟩
        rcases List.mem_cons.mp hy with hy | hy
        · omega
        · exact h2 y hy
theorem mxI_uq {xs : List Int} {m n : Int} (h : mxI xs = some m) (h1 : n ∈ xs) (h2 : ∀ y ∈ xs, y ≤ n) : m = n := by
  have a := mxI_is h
  have b := a.2 n h1
  have c := h2 m a.1
  omega
theorem mnI_uq {xs : List Int} {m n : Int} (h : mnI xs = some m) (h1 : n ∈ xs) (h2 : ∀ y ∈ xs, n ≤ y) : m = n := by
  have a := mnI_is h
  have b := a.2 n h1
  have c := h2 m a.1
  omega
section
variable {X : Cx} {K : PySem.W.Frag}
theorem cr_maxK (hc : X.calm = true) (h : X.K = K) : CallR X (.builtin "max") (rMax K) := by rw [← h]; exact cr_max hc
theorem cr_minK (hc : X.calm = true) (h : X.K = K) : CallR X (.builtin "min") (rMin K) := by rw [← h]; exact cr_min hc
end
end PG

set_option Elab.async false
set_option linter.all false
set_option maxRecDepth 100000
set_option maxHeartbeats 4000000
namespace PG
open PySem PySem.Spec PyProof.Rows L2
open PySem.W (T3 T4 Datum DatumOrd Holds HoldAll EachIs)
variable {K0 : PySem.W.Frag} [KF K0]
/-! ### an exception that was caught and is kept: tracked from then on -/
def excAt (cls : Value) (d : Option Addr) (a : Addr) : Heap → Prop := fun h => ∃ o vs, h.get? a = some o ∧ Zc cls d o ∧ o.data = .fields vs
def excO (cls : Value) (d : Option Addr) (a : Addr) : HO := .ext (excAt cls d a)
section
variable {X : Cx} {pins : List (Addr × Obj)} {σ : L2.St} {H : Hp} {s : Shared}
theorem adopt {a : Addr} {cls : Value} {d : Option Addr} (I : L2.Inv X pins σ H s) (ha : H a = none) (hp : excAt cls d a s.heap) (h0 : X.s_0.heap.get? a = none) (nL : a ≠ X.env.locals) (np : ∀ p ∈ X.pn ++ pins, p.1 ≠ a) :
    L2.Inv X pins σ (upd H a (excO cls d a)) s := by
  obtain ⟨o, vs, ho, hz, hd⟩ := id hp
  have keep : ∀ {b : Addr} {u : HO}, H b = some u → upd H a (excO cls d a) b = some u := fun {b u} q => (upd_ne (ne_of_none q ha)).trans q
  have bare : ∀ {b : Addr}, b ≠ a → H b = none → upd H a (excO cls d a) b = none := fun {b} z q => (upd_ne z).trans q
  refine ⟨I.ok, I.os, I.bare, ⟨I.base.keep, I.base.slot, fun b u q n hx => bare (fun z => ?_) (I.base.free b u q n hx), I.base.there, fun b xs q => keep (I.base.tups b xs q), fun b u v q => keep (I.base.frzs b u v q), fun b ps q => ?_⟩, I.loc, I.cell, bare (Ne.symm nL) I.free, fun y k e => bare (fun z => ?_) (I.freeC y k e), fun p hq => ?_, ?_, I.len⟩
  · rw [z, h0] at q; exact nomatch q
  · obtain ⟨more, r⟩ := I.base.tbls b ps q
    exact ⟨more, keep r⟩
  · obtain ⟨v, w, hw, hv⟩ := I.cell y k e
    rw [z, ho] at hw
    cases hw
    rw [hd] at hv
    exact nomatch hv
  · obtain ⟨q1, q2, q3⟩ := I.pin p hq
    exact ⟨q1, bare (np p hq) q2, q3⟩
  · exact L2.HOk.laidN I.hok (fun _ _ q => q) ha ⟨hp, ⟨o, ho⟩, fun g1 g2 x k => x.imp fun o' y => y.imp fun vs' z => ⟨k _ z.1, z.2⟩⟩
end
/-- what the clause 'except x as n', whose suite keeps the exception, wishes -/
def wKeep (K : PySem.W.Frag) (c : Value) (i : Nat) (ts : Addr → TS) (out : WX) (D : Ends) : WX := fun cls d σ H =>
  ∃ b, PySem.W.exmOne K cls c = some b ∧ (b = true → ∀ a, H a = none → ts a { nx := fun σ' H' => D.nx (σ'.set i none) (upd H' a (excO cls d a)), rt := fun _ _ => False, bk := fun _ _ => False, ct := fun _ _ => False } (σ.set i (some (.ref a))) H) ∧ (b = false → out cls d σ H)
section
variable {X : Cx} {x n : Str} {c : Value} {i : Nat} {body suite : List Stmt} {b1 : Stmt} {np q1 q2 : Pos} {tb : WX → TS} {ts : Addr → TS} {out : WX}
theorem ps_try_keep (hs : X.stack = X.env :: X.outer) (hf : X.env.frame = some X.env.locals) (hex : X.ex = []) (hN : X.N.Nodup) (hi : X.N[i]? = some n) (hl : X.env.kindOf n = some .local) (hc : Names X x c) (tk : Takes X out)
    (hb : ∀ (W : WX) (pn : List (Addr × Obj)) (xe : Value → Shared → Prop), Takes (X.tr pn xe) W → PassesOwn (model X.prog X.w) X.A X.env xe → PSs (X.tr pn xe) body (tb W))
    (hsu : ∀ (a : Addr) (o : Obj) (pn : List (Addr × Obj)), PSs (X.suite a ((a, o) :: pn)) (b1 :: suite) (ts a)) :
    PS X (.Try body [.ExceptHandler (some (.Name x np)) (some n) (b1 :: suite) q1] [] [] q2) (fun D σ H => tb (wKeep X.K c i ts out D) D σ H) := by
  refine ⟨fun pins s σ H D I wish => wpAny_Try_except ?_⟩
  have ok := I.ok
  have hfr : X.A.frames = some (X.env :: X.outer) := ok.frames.trans (by rw [hs])
  have run := (hb (wKeep X.K c i ts out D) (X.pn ++ pins) (fun e g1 => wpAny (model X.prog X.w) X.A (noteFrame e X.env) (fun _ g2 => wpAny (model X.prog X.w) X.A (setFlight e none)
    (fun _ g3 => wpAny (model X.prog X.w) X.A (handleBy e X.env [.ExceptHandler (some (.Name x np)) (some n) (b1 :: suite) q1]) (SP X pins D) X.xe g3) X.xe g2) X.xe g1)
    (fun u g ⟨a, B, sI, ps, τ, G, cls, d, eu, J0, nb, up, sky, na, eos, ag, b, hb1, yes, no⟩ => by
      subst eu
      have J : L2.Inv X pins τ G sI := J0.ofTry ok
      show wpAny (model X.prog X.w) X.A (noteFrame (.ref a) X.env) _ _ _
      refine Sky.land Zc.steady hfr hf (show Sky B (X.env :: X.outer) a (Zc cls d) X.env.locals g.heap by rw [← hs]; exact sky) fun k1 fl1 up1 => ?_
      have J1 : L2.Inv X pins τ G { g with heap := k1 } := J.landed nb fl1.1 (up.trans up1) eos ag
      obtain ⟨o1, vs1, ho1, hz1, hd1⟩ := fl1.there
      have off : a ∉ frs (X.env :: X.outer) := fun hm => by
        obtain ⟨_, o', eo, hnf⟩ := fl1.2.2.1.mem hm
        rw [ho1] at eo
        cases eo
        exact hnf _ hd1
      have nL : a ≠ X.env.locals := fun z => off (List.mem_filterMap.mpr ⟨X.env, List.mem_cons_self, by rw [hf, z]⟩)
      have nF : a ∉ X.fs := fun hm => by
        obtain ⟨e, he, q⟩ := List.mem_filterMap.mp hm
        exact off (List.mem_filterMap.mpr ⟨e, List.mem_cons_of_mem _ he, q⟩)
      have young : ∀ o, sI.heap.get? a ≠ some o := fun o q => by
        have z := nb a o q (by rw [hs]; exact off)
        rw [fl1.2.1] at z
        exact nomatch z
      have h0 : X.s_0.heap.get? a = none := by
        cases q : X.s_0.heap.get? a with
        | none => rfl
        | some o =>
          obtain ⟨o', z⟩ := J.base.there a o q (by rw [hex]; exact fun z => nomatch z)
          exact (young _ z).elim
      have offp : ∀ p ∈ X.pn ++ pins, p.1 ≠ a := fun p hp z => young p.2 (by rw [← z]; exact (J.pin p hp).1)
      have S1 := J1.suite ho1 hd1 na nL nF
      refine wpAny_handleBy_cons (codeAny_handlers_test ?_) (fun q => nomatch q)
      have look : PySem.W.Looks (model X.prog X.w) k1 (typeOf (.ref a)) cls := fun _ _ _ _ k q => wpAny_typeOf_ref (k _ _ ho1) (by rw [hz1.1]; exact q)
      have match_ := PySem.W.exm_one (M := model X.prog X.w) J1.kIn look hb1
      have named : ∀ {Q : Value → Shared → Prop} {E : Value → Shared → Prop}, Q c { g with heap := k1 } → wpAny (model X.prog X.w) (X.A.mark (some (.ref a))) (eval (.Name x np) X.env) Q E { g with heap := k1 } := fun {Q E} q => by
        obtain ⟨hg, hdbg, hm | ⟨hm, hv, hnn⟩⟩ := hc
        · exact ld_glob (X := X.suite a ((a, o1) :: (X.pn ++ pins))) S1 hg hm q hdbg
        · exact ld_blt (X := X.suite a ((a, o1) :: (X.pn ++ pins))) S1 hg hm hv q hnn hdbg
      refine named (match_.here ?_)
      cases b with
      | true =>
        refine codeAny_handlers_suite_as (HandSPX.lands_againZ fl1 fun k2 fl2 up2 => ?_)
        have J2 : L2.Inv X pins τ G { g with heap := k2 } := J.landed nb fl2.1 ((up.trans up1).trans up2) eos ag
        obtain ⟨o2, vs2, ho2, hz2, hd2⟩ := fl2.there
        refine store_ok (X := X.suite a ((a, o2) :: (X.pn ++ pins))) (v := .ref a) (J2.suite ho2 hd2 na nL nF) hN hi (.inl hl) rfl (fun g5 S5 => ?_) (.inr hl)
        refine wpAny_mono ((hsu a o2 (X.pn ++ pins)).run [] g5 _ G _ S5 (yes rfl a na)) (fun f g6 hsp => ?_) (fun _ _ z => z.elim)
        cases f with
        | next =>
          obtain ⟨τ6, G6, S6, q6⟩ := hsp
          refine gone_ok (X := X.suite a ((a, o2) :: (X.pn ++ pins))) S6 hN hi hl fun g7 S7 => ?_
          obtain ⟨hget, hn7, _⟩ := S7.pin (a, o2) (List.mem_append_left _ List.mem_cons_self)
          exact ⟨_, _, adopt (S7.unsuite ok) hn7 ⟨o2, vs2, hget, hz2, hd2⟩ h0 nL offp, q6⟩
        | brk => obtain ⟨_, _, _, q6⟩ := hsp; exact q6.elim
        | cont => obtain ⟨_, _, _, q6⟩ := hsp; exact q6.elim
        | ret u => obtain ⟨_, _, _, _, _, q6⟩ := hsp; exact q6.elim
      | false =>
        refine wpAny_handleBy_nil ?_
        obtain ⟨_, _, _, o3, vs3, T, oT, ts3, he, hz, hd, h1, hr⟩ := id fl1
        unfold PySem.passOn
        refine wpAny_bind (wpAny_field he hd h1 ?_)
        rw [if_neg (by simp : ¬ ((Value.ref T == Value.none) = true))]
        have up_ : wpAny (model X.prog X.w) X.A (setFlight (.ref a) X.env.frame) (fun _ g4 => wpAny (model X.prog X.w) X.A (throw (.ref a) : Sem Flow) (SP X pins D) X.xe g4) X.xe { g with heap := k1 } := by
          rw [hf]
          exact HandSPX.setFlight_upZ fl1 fun k2 fl2 up2 => wpAny_throw (tk _ _ ⟨a, B, sI, pins, τ, G, cls, d, rfl, J, nb, (up.trans up1).trans up2, .inr (.inr (by rw [hs]; exact fl2)), na, eos, ag, no rfl⟩)
        first
          | exact wpAny_bind up_
          | exact wpAny_bind (wpAny_pure (wpAny_bind up_)))
    PassesOwn.looking).run [] s σ H D (I.toTry _) wish
  refine wpAny_mono run (fun f g hsp => ?_) (fun _ _ z => z)
  cases f with
  | next => obtain ⟨τ, G, J, q⟩ := hsp; exact wpAny_execs_nil ⟨τ, G, J.ofTry ok, q⟩
  | brk => obtain ⟨τ, G, J, q⟩ := hsp; exact ⟨τ, G, J.ofTry ok, q⟩
  | cont => obtain ⟨τ, G, J, q⟩ := hsp; exact ⟨τ, G, J.ofTry ok, q⟩
  | ret u => obtain ⟨v, τ, G, J, r, q⟩ := hsp; exact ⟨v, τ, G, J.ofTry ok, r, q⟩
end
/-! ### isinstance of what was caught -/
section
variable {X : Cx}
theorem inst_of {a D : Addr} {h : Heap} (x : excAt (.ref D) none a h) : ∃ o, PySem.W.InstAt h a o D none := by
  obtain ⟨⟨oc, od, oda, osl⟩, vs, hg, ⟨h1, h2⟩, h3⟩ := x
  dsimp only at h1 h2 h3
  subst h1 h2 h3
  exact ⟨_, hg, rfl, rfl, trivial⟩
/-- whose class is t: what was caught, or a value of a built-in type -/
inductive KX (K : PySem.W.Frag) (H : Hp) : V → Value → Prop where
  | exc {a D : Addr} (e : H a = some (excO (.ref D) none a)) (c : ExcC K D) : KX K H (.ref a) (.ref D)
  | base {x : V} {t : Value} (h : TyX K H x t) : KX K H x t
theorem kx_of {pins : List (Addr × Obj)} {σ : L2.St} {H : Hp} {s : Shared} {x : V} {u t : Value} (I : L2.Inv X pins σ H s) (rx : RelV x u) (k : KX X.K H x t) : ∃ P : Heap → Prop, PySem.W.KitX X.K u t P ∧ P s.heap ∧ u ≠ .builtin "__main__.__loader__#opaque" := by
  cases k with
  | @exc a D e C =>
    cases (show u = Value.ref a from rx)
    obtain ⟨o, J⟩ := inst_of (show excAt (.ref D) none a s.heap from (I.hok a _ e).1)
    exact ⟨_, PySem.W.handS_kitx_exc C.hg C.hk C.hs C.hd C.ha C.hn C.ht C.hm, J, fun z => nomatch z⟩
  | base h => exact kit_of I rx h
def rIsU (K : PySem.W.Frag) : List V → Hp → VK → Prop := fun xs H Q => ∃ (x c : V) (t u : Value) (b : Bool), xs = [x, c] ∧ ClsV c u ∧ KX K H x t ∧ PySem.W.kitOne K t u = some b ∧ Q (.bl b) H
theorem isuK {K : PySem.W.Frag} (hK : X.K = K) : CallR X (.builtin "isinstance") (rIsU K) := by
  subst hK
  intro pins s σ H xs us Q I r ⟨x, c, t, u, b, ex, hc, k, e, q⟩
  subst ex
  obtain ⟨u1, u2, rfl, r1, r2⟩ := vals2 r
  cases hc.eq r2
  obtain ⟨P, Z, p, hx⟩ := kx_of I r1 k
  exact PySem.W.kia_one Z I.kIn p e hx fun tk => ⟨.bl b, H, I.tok tk, rfl, q⟩
def rIsUT (K : PySem.W.Frag) : List V → Hp → VK → Prop := fun xs H Q => ∃ (x : V) (tp : Addr) (cs : List V) (t : Value) (ws : List Value) (b : Bool), xs = [x, .ref tp] ∧ H tp = some (.tup cs) ∧ Paired ClsV cs ws ∧ KX K H x t ∧ PySem.W.kitAny K t ws = some b ∧ Q (.bl b) H
theorem isutK {K : PySem.W.Frag} (hK : X.K = K) : CallR X (.builtin "isinstance") (rIsUT K) := by
  subst hK
  intro pins s σ H xs us Q I r ⟨x, tp, cs, t, ws, b, ex, hT, hc, k, e, q⟩
  subst ex
  obtain ⟨u1, u2, rfl, r1, r2⟩ := vals2 r
  cases (show u2 = Value.ref tp from r2)
  obtain ⟨P, Z, p, hx⟩ := kx_of I r1 k
  obtain ⟨_, its, rv, ⟨oc, od, dt, sl⟩, h1, h2, n, h3⟩ := (show ObjOk X.prog X.w H s.heap tp (.tup cs) from I.hok tp _ hT)
  have e3 := ClsV.all hc rv
  subst e3
  dsimp only at h2 h3
  subst h2 h3
  exact PySem.W.kia_tup Z I.kIn p h1 e hx fun tk => ⟨.bl b, H, I.tok tk, rfl, q⟩
end
theorem kit_own {K : PySem.W.Frag} {t : Value} {C : Addr} {b : Bool} (hd : PySem.W.hasDictIn K C = true) (ht : PySem.W.typeIn K (.ref C) = some (.type "type")) (hs : PySem.W.subIn K t (.ref C) = some b) (ho : PySem.W.subIn K (.ref C) (.ref C) = some true) : PySem.W.kitOne K t (.ref C) = some b := by
  obtain ⟨cd, hc, _⟩ := PySem.W.any_some hd
  unfold PySem.W.kitOne PySem.W.kitCls
  by_cases z : (t == .ref C) = true
  · rw [if_pos z]
    have z := beq_iff_eq.mp z
    subst z
    exact ho.symm.trans hs
  · rw [if_neg z]
    show (if ((PySem.W.clsIn K C).isSome && PySem.W.typeIn K (.ref C) == some (.type "type")) = true then _ else _) = _
    rw [if_pos (by rw [hc, ht]; rfl)]
    exact hs
theorem kit_blt {K : PySem.W.Frag} {D : Addr} {T : String} {b : Bool} (hm : PySem.W.kitMeta T = true) (hs : PySem.W.subIn K (.ref D) (.type T) = some b) : PySem.W.kitOne K (.ref D) (.type T) = some b := by
  unfold PySem.W.kitOne PySem.W.kitCls
  rw [if_neg (by simp)]
  show (if PySem.W.kitMeta T = true then _ else _) = _
  rw [if_pos hm]
  exact hs
theorem any_no {K : PySem.W.Frag} {t c : Value} {cs : List Value} {r : Bool} (h : PySem.W.kitOne K t c = some false) (hr : PySem.W.kitAny K t cs = some r) : PySem.W.kitAny K t (c :: cs) = some r := kitAny_cons h (fun _ => hr) fun z => nomatch z
theorem any_yes {K : PySem.W.Frag} {t c : Value} {cs : List Value} (h : PySem.W.kitOne K t c = some true) : PySem.W.kitAny K t (c :: cs) = some true := kitAny_cons h (fun z => nomatch z) fun _ => rfl
/-! ### a call within a try -/
def tCallW (sp : Sp) (W : WX) (t : TA) : TE := fun σ H Q => t σ H fun vs H1 => sp vs H1 Q fun cls d H' => W cls d σ H'
theorem pe_callW {X : Cx} {k : Nat} {f : Addr} {fd : FuncData} {ps : List Str} {sp : Sp} {W : WX} {x : Str} {p pos : Pos} {e : Expr} {es : List Expr} {t : TA} (F : FnOk X.prog X.w X.K X.mg X.base (L2.CX X.prog X.w) k f fd ps sp) (hr : Room k X.A) (hg : Gl X x) (hm : X.mg x = some (.ref f)) (hk : PySem.W.keepIn X.K (.ref f) = true) (hb : Binds X.K fd ps [])
    (tk : Takes X W) (ha : PA X (e :: es) t) (hdb : (x == ("__debug__" : Str)) = false := by decide) (he : starEach (e :: es) X.env = (false, eval e X.env) :: starEach es X.env := by rfl) (hpl : (backTo pos (starEach es X.env)).any (·.1) = false := by rfl) :
    PE X (.Call (.Name x p) (e :: es) [] pos) (tCallW sp W t) := by
  refine ⟨fun pins s σ H Q I h => wpAny_Call_Name_kw (ld_glob I hg hm ?_ hdb)⟩
  refine PySem.W.callWith_K (h₀ := X.base) I.ok.mod.kin hk (thn (ha.run pos pins s σ H _ I h) fun us g ⟨vs, G, J, r, q⟩ => ⟨J.kIn, ?_⟩) he hpl
  have hl : us.length = ps.length := by rw [← r.length]; exact F.len _ _ _ _ q
  refine wpAny_call (codeAny_mono (F.run X.A X.stack g G ⟨us, []⟩ us vs Q (fun cls d H' => W cls d σ H') hr J.env0 (by have := hb g us J.kIn (by simpa using hl); simpa using this) r q) fun res g' hq => ?_)
  cases res with
  | error z => exact tk _ _ (XE.of_call J (fun _ _ _ h => h) hq)
  | ok fl =>
    cases fl with
    | ret u => exact J.after hq
    | next => exact hq.elim
    | brk => exact hq.elim
    | cont => exact hq.elim
/-- try: m, except one of those of L: k1, else k0 -/
def tryK {a : Type} (L : List String) (m : M Unit) (k0 : M a) (k1 : String → M a) : M a := match m with
  | .ok _ => k0
  | .error .bad => bad
  | .error (.exc n) => if n ∈ L then k1 n else bad
theorem wp_tryK {b : Type} {L : List String} {m : M Unit} {k0 : M b} {k1 : String → M b} {Q : b → Prop} {E : String → Prop} (h : wp (tryK L m k0 k1) Q E) : wp m (fun _ => wp k0 Q E) fun n => n ∈ L ∧ wp (k1 n) Q E := by
  cases m with
  | ok x => exact h
  | error e =>
    cases e with
    | bad => exact h
    | exc n =>
      by_cases z : n ∈ L
      · have e : tryK L (.error (.exc n)) k0 k1 = k1 n := if_pos z
        rw [e] at h
        exact ⟨z, h⟩
      · have e : tryK L (.error (.exc n)) k0 k1 = bad := if_neg z
        rw [e] at h
        exact h.elim
theorem wp_okE {a : Type} {x : a} {Q : a → Prop} {E : String → Prop} (h : wp (.ok x : M a) Q E) : Q x := h
theorem Ow.exc {Z : Ent} {F H H1 : Hp} {cs : List (Addr × HO)} (O : Ow Z F cs H) (k : Kp [] H H1) : Ow Z F cs H1 where
  g := {
    f := O.g.f
    s := fun b o e => k.k b o (fun z => nomatch z) (O.g.s b o e)
    k := fun b o hb e => k.k b o (fun z => nomatch z) (O.g.k b o hb e)
    t := fun b h => k.t b (O.g.t b h)
    n := O.g.n
    u := fun b xs e => by
      cases q : H b with
      | none =>
        left
        cases z : Z.H b with
        | none => rfl
        | some o => exact (O.g.t b (by rw [z]; exact fun w => nomatch w) q).elim
      | some o =>
        have := k.k b o (fun z => nomatch z) q
        rw [e] at this
        cases this
        exact O.g.u b xs q }
  cf := O.cf
  ch := fun c hc => k.k _ _ (fun z => nomatch z) (O.ch c hc)
  nd := O.nd
  ca := O.ca
  nt := O.nt
theorem mem1 {n a : String} (h : n ∈ [a]) : n = a := List.mem_singleton.mp h
theorem mem2 {n a b : String} (h : n ∈ [a, b]) : n = a ∨ n = b := by simpa using h
/-! ### lists of truths: count, index -/
theorem RL.bools {H : Hp} : ∀ {vs : List V} {xs : List Bool}, RL H vs xs → vs = xs.map V.bl
  | _, [], h => RL.nil_ h
  | _, x :: xs, h => by
    obtain ⟨w, ws, rfl, h1, h2⟩ := RL.cons_ h
    rw [R.bl_ h1, RL.bools h2]
    rfl
def cntB (k : Bool) : List Bool → Int
  | [] => 0
  | y :: r => (if y = k then 1 else 0) + cntB k r
theorem cnt_in (k : Bool) : ∀ bs : List Bool, PySem.Spec.countIn (.bool k) (bs.map PyData.bool) = cntB k bs
  | [] => rfl
  | b :: bs => by
    show (if same (PyData.bool b) (PyData.bool k) = true then (1 : Int) else 0) + PySem.Spec.countIn _ _ = _
    rw [cnt_in k bs]
    cases b <;> cases k <;> rfl
theorem bools_vals : ∀ {bs : List Bool} {its : List Value}, Vals (bs.map V.bl) its → its = bs.map Value.bool
  | [], its, r => by rw [List.map_nil] at r; cases r; rfl
  | b :: bs, its, r => by
    rw [List.map_cons] at r
    cases r with
    | cons h t => cases h; rw [List.map_cons, ← bools_vals t]
theorem reads_bools {hp : Heap} : ∀ bs : List Bool, ReadsAll hp (bs.map Value.bool) (bs.map PyData.bool) []
  | [] => .nil
  | b :: bs => .cons (as := []) (bs := []) (.bool b) (reads_bools bs)
def rCntB (K : PySem.W.Frag) : V → List V → Hp → VK → Prop := fun x xs H Q => ∃ (a : Addr) (bs : List Bool) (k : Bool), x = .ref a ∧ xs = [.bl k] ∧ SqL K H a (bs.map V.bl) ∧ Q (.int (cntB k bs)) H
theorem countBK {X : Cx} {K : PySem.W.Frag} (hK : X.K = K) : MtR X "list.count" (rCntB K) := by
  subst hK
  intro pins s σ H x xs v us Q I rx r ⟨a, bs, k, ex, exs, hs, q⟩
  subst ex exs
  cases rx
  obtain ⟨u, rfl, ru⟩ := vals1 r
  cases ru
  obtain ⟨its, rv, pl, _⟩ := I.list hs
  cases bools_vals rv
  refine count_list_bools (hp := s.heap) (xs := bs.map PyData.bool) pl.isList (reads_bools bs) (List.all_eq_true.mpr fun y hy => ?_) ?_
  · obtain ⟨b, _, rfl⟩ := List.mem_map.mp hy
    rfl
  · rw [cnt_in]
    exact ⟨.int (cntB k bs), H, I.tok _, ⟨_, rfl⟩, q⟩
def ixB (xs : List Bool) (y : Bool) : M Int := if y ∈ xs then .ok ((xs.findIdx (· == y) : Nat) : Int) else bad
theorem wp_ixB {a : Type} {Q : a → Prop} {E : String → Prop} {xs : List Bool} {y : Bool} {k : Int → M a} (h : wp (ixB xs y >>= k) Q E) : ∃ j, xs.findIdx (· == y) = j ∧ xs[j]? = some y ∧ (∀ (m : Nat) z, m < j → xs[m]? = some z → z ≠ y) ∧ wp (k (j : Int)) Q E := by
  unfold ixB at h
  by_cases hm : y ∈ xs
  · rw [if_pos hm] at h
    have hlt : xs.findIdx (· == y) < xs.length := List.findIdx_lt_length_of_exists ⟨y, hm, by simp⟩
    refine ⟨_, rfl, ?_, fun m z hmj hz e => ?_, h⟩
    · rw [List.getElem?_eq_getElem hlt]
      have := List.findIdx_getElem (w := hlt)
      rw [eq_of_beq this]
    · have := List.not_of_lt_findIdx hmj
      obtain ⟨hl, hz⟩ := List.getElem?_eq_some_iff.mp hz
      rw [hz, e] at this
      simp at this
  · rw [if_neg hm] at h; exact h.elim
theorem all_flat_bl : ∀ xs : List Bool, (xs.map V.bl).all flatV = true
  | [] => rfl
  | x :: xs => by rw [List.map_cons, List.all_cons, all_flat_bl xs]; rfl
theorem bl_noeq {xs : List Bool} {y : Bool} {j : Nat} (h : ∀ (m : Nat) z, m < j → xs[m]? = some z → z ≠ y) : ∀ (m : Nat) (z' : V), m < j → (xs.map V.bl)[m]? = some z' → eqV z' (.bl y) = false := fun m z' hm hz => by
  rw [List.getElem?_map] at hz
  cases e : xs[m]? with
  | none => rw [e] at hz; cases hz
  | some z =>
    rw [e] at hz
    have hz : V.bl z = z' := Option.some.inj hz
    subst hz
    have := h m z hm e
    revert this
    cases z <;> cases y <;> intro this <;> first | rfl | exact (this rfl).elim
theorem bl_at {xs : List Bool} {y : Bool} {j : Nat} (h : xs[j]? = some y) : (xs.map V.bl)[j]? = some (.bl y) := by rw [List.getElem?_map, h]; rfl
theorem bl_eq {y : Bool} : eqV (.bl y) (.bl y) = true := by cases y <;> rfl
/-- x in xs, of data that are no scalars -/
def inD {a : Type} [DecidableEq a] (x : a) (xs : List a) : Prop := x ∈ xs
instance {a : Type} [DecidableEq a] (x : a) (xs : List a) : Decidable (inD x xs) := @List.instDecidableMemOfLawfulBEq a instBEqOfDecidableEq _ x xs
theorem iteDx {c A B : Prop} {i : Decidable c} (h1 : c → A) (h2 : ¬ c → B) : if @decide c i = true then A else B := @iteD c A B i h1 h2
theorem iteNx {c A B : Prop} {i : Decidable c} (h1 : c → B) (h2 : ¬ c → A) : if (!@decide c i) = true then A else B := @iteN c A B i h1 h2
theorem sl43 (a b c d : V) : ¬ (HT.sIx [a, b, c, d].length 0 none = 0 ∧ HT.sIx [a, b, c, d].length [a, b, c, d].length (some (3 : Int)) = [a, b, c, d].length) := fun h => absurd h.2 (by show ¬ (HT.sIx 4 4 (some (3 : Int)) = 4); decide)
theorem dgetD_S {β : Type} [Py β] {F H : Hp} {a : Addr} {kvs : List (Key × V)} {i : Str} {xs : List (Str × β)} {z : V} {y : β} (e : Rd H a (.dK kvs)) (hr : RD F kvs xs) (hz : R F z y) : ∃ o, DGet H a (.str i) o ∧ R F (o.getD z) ((dGet xs i).getD y) := by
  refine ⟨valV kvs (.inr i), dgk (k := .inr i) e, ?_⟩
  rcases hr.get i with ⟨h1, h2⟩ | ⟨u, v, h1, h2, h3⟩
  · rw [h1, show valV kvs (.inr i) = none from h2]; exact hz
  · rw [h1, show valV kvs (.inr i) = some v from h2]; exact h3
end PG

set_option Elab.async false
set_option linter.all false
set_option maxRecDepth 100000
set_option maxHeartbeats 4000000
namespace PG
open PySem PySem.Spec PyProof.Rows L2
open PySem.W (T3 T4 Datum DatumOrd Holds HoldAll EachIs)
variable {K0 : PySem.W.Frag} [KF K0]
/-! ### a list of lists that are all ours: the outer cell and the inner ones, any number of them, behind the other cells -/
abbrev LCV := Addr × List V
def lcV (c : LCV) : Addr × HO := (c.1, .lst c.2)
def llC (p : Addr) (ps : List LCV) : List (Addr × HO) := (p, .lst (ps.map fun c => V.ref c.1)) :: ps.map lcV
/-- the inner lists stand for these -/
inductive LLR {a : Type} [Py a] (F : Hp) : List LCV → List (List a) → Prop
  | nil : LLR F [] []
  | cons {c : LCV} {xs : List a} {ps : List LCV} {p : List (List a)} : RL F c.2 xs → LLR F ps p → LLR F (c :: ps) (xs :: p)
section
variable {a : Type} [Py a] {F F' : Hp}
theorem LLR.mono {ps : List LCV} {p : List (List a)} (h : LLR F ps p) (s : Same F F') : LLR F' ps p := by
  induction h with
  | nil => exact .nil
  | cons h _ ih => exact .cons (h.mono s) ih
theorem LLR.len {ps : List LCV} {p : List (List a)} (h : LLR F ps p) : ps.length = p.length := by
  induction h with
  | nil => rfl
  | cons _ _ ih => rw [List.length_cons, List.length_cons, ih]
theorem LLR.got {ps : List LCV} {p : List (List a)} (h : LLR F ps p) : ∀ {j : Nat} {xs : List a}, p[j]? = some xs → ∃ c, ps[j]? = some c ∧ RL F c.2 xs := by
  induction h with
  | nil => intro j xs e; simp at e
  | @cons c ys ps p h _ ih =>
    intro j xs e
    cases j with
    | zero =>
      have e : ys = xs := Option.some.inj e
      subst e
      exact ⟨c, rfl, h⟩
    | succ j => exact ih e
theorem LLR.set {ps : List LCV} {p : List (List a)} (h : LLR F ps p) {w : List V} {xs : List a} (hw : RL F w xs) (q : Addr) : ∀ j : Nat, LLR F (ps.set j (q, w)) (p.set j xs) := by
  induction h with
  | nil => intro j; exact .nil
  | cons h hs ih =>
    intro j
    cases j with
    | zero => exact .cons hw hs
    | succ j => exact .cons h (ih j)
theorem LLR.snoc {ps : List LCV} {p : List (List a)} (h : LLR F ps p) {w : List V} {xs : List a} (hw : RL F w xs) (q : Addr) : LLR F (ps ++ [(q, w)]) (p ++ [xs]) := by
  induction h with
  | nil => exact .cons hw .nil
  | cons h _ ih => exact .cons h ih
end
section
variable {Z : Ent} {F H : Hp} {S : List (Addr × HO)} {p : Addr} {ps : List LCV} {c : LCV} {j : Nat}
theorem ref_set (hj : ps[j]? = some c) (w : List V) : ((ps.set j (c.1, w)).map fun c => V.ref c.1) = ps.map fun c => V.ref c.1 := by
  refine List.ext_getElem? fun i => ?_
  rw [List.getElem?_map, List.getElem?_map, List.getElem?_set]
  by_cases h : j = i
  · subst h
    rw [if_pos rfl, hj]
    rw [if_pos (List.getElem?_eq_some_iff.mp hj).1]
    rfl
  · rw [if_neg h]
theorem llC_at (hj : ps[j]? = some c) : (S ++ llC p ps)[S.length + 1 + j]? = some (c.1, .lst c.2) := by
  rw [List.getElem?_append_right (by omega)]
  show (llC p ps)[S.length + 1 + j - S.length]? = _
  rw [show S.length + 1 + j - S.length = j + 1 by omega]
  show (ps.map lcV)[j]? = _
  rw [List.getElem?_map, hj]
  rfl
theorem llC_top : (S ++ llC p ps)[S.length]? = some (p, .lst (ps.map fun c => V.ref c.1)) := by
  rw [List.getElem?_append_right (Nat.le_refl _), Nat.sub_self]
  rfl
theorem Ow.llAt (O : Ow Z F (S ++ llC p ps) H) (hj : ps[j]? = some c) : H c.1 = some (.lst c.2) := O.at _ (llC_at hj)
theorem Ow.llTop (O : Ow Z F (S ++ llC p ps) H) : H p = some (.lst (ps.map fun c => V.ref c.1)) := O.at _ llC_top
/-- one of the inner lists becomes w -/
theorem Ow.llSet (O : Ow Z F (S ++ llC p ps) H) (hj : ps[j]? = some c) (w : List V) : Ow Z F (S ++ llC p (ps.set j (c.1, w))) (upd H c.1 (.lst w)) := by
  have z := O.set (S.length + 1 + j) (.lst w) (llC_at hj)
  have e : (S ++ llC p ps).set (S.length + 1 + j) (c.1, .lst w) = S ++ llC p (ps.set j (c.1, w)) := by
    rw [List.set_append_right _ _ (by omega), show S.length + 1 + j - S.length = j + 1 by omega]
    unfold llC
    rw [ref_set hj w, List.set_cons_succ, List.map_set]
    rfl
  rw [e] at z
  exact z
/-- a new inner list goes behind -/
theorem Ow.llPush {q : Addr} {w : List V} (O : Ow Z F ((q, .lst w) :: (S ++ llC p ps)) H) : Ow Z F (S ++ llC p (ps ++ [(q, w)])) (upd H p (.lst ((ps.map fun c => V.ref c.1) ++ [V.ref q]))) := by
  have z := O.set (S.length + 1) (.lst ((ps.map fun c => V.ref c.1) ++ [V.ref q])) (show ((q, HO.lst w) :: (S ++ llC p ps))[S.length + 1]? = some (p, _) from llC_top)
  refine z.perm ?_
  have e : ((q, HO.lst w) :: (S ++ llC p ps)).set (S.length + 1) (p, .lst ((ps.map fun c => V.ref c.1) ++ [V.ref q])) = (q, HO.lst w) :: (S ++ ((p, .lst ((ps.map fun c => V.ref c.1) ++ [V.ref q])) :: ps.map lcV)) := by
    rw [List.set_cons_succ, List.set_append_right _ _ (Nat.le_refl _), Nat.sub_self]
    rfl
  rw [e]
  unfold llC
  rw [List.map_append, List.map_append]
  show ((q, HO.lst w) :: (S ++ ((p, HO.lst ((ps.map fun c => V.ref c.1) ++ [V.ref q])) :: ps.map lcV))).Perm (S ++ ((p, HO.lst ((ps.map fun c => V.ref c.1) ++ [V.ref q])) :: (ps.map lcV ++ [(q, HO.lst w)])))
  have e2 : S ++ ((p, HO.lst ((ps.map fun c => V.ref c.1) ++ [V.ref q])) :: (ps.map lcV ++ [(q, HO.lst w)])) = (S ++ ((p, HO.lst ((ps.map fun c => V.ref c.1) ++ [V.ref q])) :: ps.map lcV)) ++ [(q, HO.lst w)] := by
    rw [List.append_assoc, List.cons_append]
  rw [e2]
  exact (List.perm_append_singleton _ _).symm
/-- an empty one: a new outer list -/
theorem Ow.llNew (O : Ow Z F ((p, .lst []) :: S) H) : Ow Z F (S ++ llC p []) H := O.perm (List.perm_append_singleton _ _).symm
theorem Ow.frzM {A B : List (Addr × HO)} {b : Addr} {o : HO} (O : Ow Z F (A ++ (b, o) :: B) H) (hz : Z.H b = none) : ∃ F', Ow Z F' (A ++ B) H ∧ Same F F' ∧ F' b = some o := by
  have e : (A ++ (b, o) :: B)[A.length]? = some (b, o) := by rw [List.getElem?_append_right (Nat.le_refl _), Nat.sub_self]; rfl
  obtain ⟨F', O', s, h⟩ := O.frzE A.length e hz
  rw [List.eraseIdx_append_of_length_le (Nat.le_refl _), Nat.sub_self] at O'
  exact ⟨F', O', s, h⟩
theorem Ow.frzAll {a : Type} [Py a] : ∀ {ps : List LCV} {F : Hp} {A : List (Addr × HO)} {xs : List (List a)}, Ow Z F (A ++ ps.map lcV) H → (∀ c ∈ ps, Z.H c.1 = none) → LLR F ps xs →
    ∃ F', Ow Z F' A H ∧ Same F F' ∧ RL F' (ps.map fun c => V.ref c.1) xs
  | [], F, A, xs, O, _, r => by
    cases r
    rw [List.map_nil, List.append_nil] at O
    exact ⟨F, O, Same.refl _, RL.nil⟩
  | c :: ps, F, A, xs, O, hz, r => by
    cases r with
    | @cons _ x _ q h1 h2 =>
      obtain ⟨F1, O1, s1, g1⟩ := Ow.frzM (A := A) (B := ps.map lcV) (b := c.1) (o := .lst c.2) O (hz c List.mem_cons_self)
      obtain ⟨F2, O2, s2, r2⟩ := Ow.frzAll O1 (fun d hd => hz d (List.mem_cons_of_mem _ hd)) (h2.mono s1)
      exact ⟨F2, O2, s1.trans s2, RL.cons (R.lst (s2 _ _ g1) ((h1.mono s1).mono s2)) r2⟩
/-- all of it is read alone from now on -/
theorem Ow.llFrz {a : Type} [Py a] {xs : List (List a)} (O : Ow Z F (S ++ llC p ps) H) (hp : Z.H p = none) (hz : ∀ c ∈ ps, Z.H c.1 = none) (r : LLR F ps xs) : ∃ F', Ow Z F' S H ∧ Same F F' ∧ R F' (.ref p) xs := by
  obtain ⟨F1, O1, s1, g1⟩ := Ow.frzM (A := S) (B := ps.map lcV) (b := p) (o := .lst (ps.map fun c => V.ref c.1)) O hp
  obtain ⟨F2, O2, s2, r2⟩ := Ow.frzAll O1 hz (r.mono s1)
  exact ⟨F2, O2, s1.trans s2, R.lst (s2 _ _ g1) r2⟩
end
section
variable {a : Type} [Py a] {F : Hp}
theorem LLR.atI {ps : List LCV} {p : List (List a)} (h : LLR F ps p) {i : Int} {y : List a} (e : L2.atI p i = some y) :
    ∃ j c, L2.atI (ps.map fun c => V.ref c.1) i = some (V.ref c.1) ∧ ps[j]? = some c ∧ RL F c.2 y ∧ ixN p.length i = some j := by
  unfold L2.atI at e
  cases hx : ixN p.length i with
  | none => rw [hx] at e; exact nomatch e
  | some j =>
    rw [hx] at e
    have e : p[j]? = some y := e
    obtain ⟨c, hc, hr⟩ := h.got e
    refine ⟨j, c, ?_, hc, hr, rfl⟩
    unfold L2.atI
    rw [List.length_map, h.len, hx]
    show (ps.map fun c => V.ref c.1)[j]? = _
    rw [List.getElem?_map, hc]
    rfl
theorem zs_set {H : Hp} {ps : List LCV} {c : LCV} {j : Nat} (h : ∀ d ∈ ps, H d.1 = none) (hj : ps[j]? = some c) (w : List V) : ∀ d ∈ ps.set j (c.1, w), H d.1 = none := fun d hd => by
  rcases List.mem_or_eq_of_mem_set hd with hd | hd
  · exact h d hd
  · rw [hd]; exact h c (List.mem_of_getElem? hj)
theorem zs_snoc {H : Hp} {ps : List LCV} {q : Addr} {w : List V} (h : ∀ d ∈ ps, H d.1 = none) (hq : H q = none) : ∀ d ∈ ps ++ [(q, w)], H d.1 = none := fun d hd => by
  rcases List.mem_append.mp hd with hd | hd
  · exact h d hd
  · rw [List.mem_singleton.mp hd]; exact hq
end
/-! ### a list so many times -/
def repL {a : Type} (k : Int) (xs : List a) : List a := (List.replicate k.toNat xs).flatten
theorem RL.rep {a : Type} [Py a] {H : Hp} {vs : List V} {xs : List a} (h : RL H vs xs) (k : Int) : RL H (repL k vs) (repL k xs) := by
  unfold repL
  induction k.toNat with
  | zero => exact RL.nil
  | succ n ih =>
    rw [List.replicate_succ, List.replicate_succ, List.flatten_cons, List.flatten_cons]
    exact RL.app h ih
def CRep (n : Nat) (k : Int) : Prop := -(2 ^ 63) ≤ k ∧ k < 2 ^ 63 ∧ n * k.toNat < 16777216
instance (n : Nat) (k : Int) : Decidable (CRep n k) := by unfold CRep; infer_instance
theorem R.tpN {a : Type} [Py a] {F : Hp} {p : Addr} {vs : List V} {xs : List a} (h : F p = some (.tup vs)) (r : RL F vs xs) : R F (.ref p) (Tp.mk xs) := by
  show Rep F (.ref p) (.tuple (xs.map Py.toD))
  exact .tup (.inl h) r
/-! ### what is walked, K told outright (for comprehensions within one another) -/
section
variable {X : Cx} {K : PySem.W.Frag} {tg : Expr}
theorem piListK (h : X.K = K) {l : Expr} {tl : TE} (hl : PE X l tl) : PI X tg l (iList K tl) := by rw [← h]; exact pi_list hl
theorem piTupK (h : X.K = K) {l : Expr} {tl : TE} (hl : PE X l tl) : PI X tg l (iTup K tl) := by rw [← h]; exact pi_tup hl
theorem piEnumK (h : X.K = K) {e : Expr} {ta : TA} (hp : PI X tg e (iEnum X.K ta)) : PI X tg e (iEnum K ta) := by rw [← h]; exact hp
theorem piZipK (h : X.K = K) {e : Expr} {ta : TA} (hp : PI X tg e (iZip X.K ta)) : PI X tg e (iZip K ta) := by rw [← h]; exact hp
end
end PG

set_option Elab.async false
set_option linter.all false
set_option maxRecDepth 100000
set_option maxHeartbeats 4000000
namespace PG
open PySem PySem.Spec PyProof.Rows L2
open PySem.W (T3 T4 Datum DatumOrd Holds HoldAll EachIs)
variable {K0 : PySem.W.Frag} [KF K0]
/-! ### one of two kinds -/
inductive Un (a b : Type) where
  | l (x : a)
  | r (y : b)
  deriving DecidableEq
instance {a b : Type} [Py a] [Py b] : Py (Un a b) := ⟨fun
  | .l x => Py.toD x
  | .r y => Py.toD y⟩
section
variable {a b : Type} [Py a] [Py b] {F : Hp} {v : V}
theorem R.un_l {x : a} (h : R F v x) : R F v (Un.l x : Un a b) := h
theorem R.un_r {y : b} (h : R F v y) : R F v (Un.r y : Un a b) := h
end
instance {a b : Type} [Py a] [Py b] [DecidableEq a] [DecidableEq b] [DatumX (a × b)] : DatumX (Un (a × b) Str) := ⟨fun
  | .l x => DatumX.plain x
  | .r y => by show PyData.plain (.str y) = true; simp only [PyData.plain], fun
  | .l x, .l y => by
    show PyData.eqv (Py.toD x) (Py.toD y) = _
    rw [DatumX.eqv x y]
    exact decide_eq_decide.mpr (by rw [Un.l.injEq])
  | .l x, .r y => by
    show PyData.eqv (.tuple [_, _]) (.str y) = _
    simp [PyData.eqv]
  | .r x, .l y => by
    show PyData.eqv (.str x) (.tuple [_, _]) = _
    simp [PyData.eqv]
  | .r x, .r y => by
    show PyData.eqv (.str x) (.str y) = _
    simp only [PyData.eqv]
    rw [PySem.W.beq_decide]
    exact decide_eq_decide.mpr (by rw [Un.r.injEq])⟩
/-! ### is None -/
class NN (a : Type) [Py a] : Prop where
  nn : ∀ x : a, Py.toD x ≠ .none
instance : NN Int := ⟨fun _ h => nomatch h⟩
instance : NN Bool := ⟨fun _ h => nomatch h⟩
instance : NN Str := ⟨fun _ h => nomatch h⟩
instance : NN Sm := ⟨fun x h => by cases x <;> exact nomatch (show PyData.tuple _ = .none from h)⟩
section
variable {a b c d : Type} [Py a] [Py b] [Py c] [Py d]
instance : NN (List a) := ⟨fun _ h => nomatch (show PyData.list _ = .none from h)⟩
instance : NN (a × b) := ⟨fun _ h => nomatch (show PyData.tuple _ = .none from h)⟩
instance : NN (T3 a b c) := ⟨fun _ h => nomatch (show PyData.tuple _ = .none from h)⟩
instance : NN (T4 a b c d) := ⟨fun _ h => nomatch (show PyData.tuple _ = .none from h)⟩
instance : NN (Tp a) := ⟨fun _ h => nomatch (show PyData.tuple _ = .none from h)⟩
theorem rep_non {F : Hp} {x : PyData} (h : Rep F .non x) : x = .none := by cases h; rfl
theorem isN_opt [NN a] {F : Hp} {v : V} {o : Option a} (h : R F v o) : decide (v = .non) = o.isNone := by
  cases o with
  | none =>
    rw [R.non_ h]
    rfl
  | some x =>
    have h : Rep F v (Py.toD x) := h
    refine decide_eq_false fun e => ?_
    rw [e] at h
    exact NN.nn x (rep_non h)
end
theorem dNon_t : decide (V.non = V.non) = true := decide_eq_true rfl
theorem dNon_f {p : Addr} : decide (V.ref p = V.non) = false := decide_eq_false fun h => nomatch h
/-! ### lists: insert, extend, all -/
def insL {a : Type} (xs : List a) (i : Int) (y : a) : List a := xs.take i.toNat ++ [y] ++ xs.drop i.toNat
theorem RL.ins {a : Type} [Py a] {F : Hp} {vs : List V} {xs : List a} (h : RL F vs xs) (i : Int) {v : V} {y : a} (hy : R F v y) : RL F (insL vs i v) (insL xs i y) := RL.app (RL.app (h.take _) (RL.cons hy RL.nil)) (h.drop _)
def CIns (n : Nat) (i : Int) : Prop := n < 16777216 ∧ 0 ≤ i ∧ i < 2 ^ 63
instance (n : Nat) (i : Int) : Decidable (CIns n i) := by unfold CIns; infer_instance
instance (i j : Int) : Decidable (CPow i j) := by unfold CPow; infer_instance
section
variable {X : Cx} {K : PySem.W.Frag}
theorem cr_allK (hc : X.calm = true) (h : X.K = K) : CallR X (.builtin "all") (rAll K) := by rw [← h]; exact cr_all hc
theorem cr_anyK (hc : X.calm = true) (h : X.K = K) : CallR X (.builtin "any") (rAny K) := by rw [← h]; exact cr_any hc
/-- len of what is read -/
def rLenS (K : PySem.W.Frag) : List V → Hp → VK → Prop := fun vs H Q => ∃ (a : Addr) (xs : List V), vs = [V.ref a] ∧ SqL K H a xs ∧ Q (.int xs.length) H
theorem call_lenS (h : X.K = K) : CallR X (.builtin "len") (rLenS K) := fun pins s σ H xs us Q I r hq => by
  obtain ⟨a, ys, rfl, hs, q⟩ := hq
  subst h
  exact call_len pins s σ H _ us Q I r ⟨.ref a, ys.length, rfl, .inl ⟨ys, hs, rfl⟩, q⟩
end
/-! ### try whose suite binds a name: what follows is handed on as the suite's result -/
def tryF {a : Type} (L : List String) (m : M (Unit → M a)) (k1 : String → M a) : M a := match m with
  | .ok f => f ()
  | .error .bad => bad
  | .error (.exc n) => if n ∈ L then k1 n else bad
theorem wp_tryF {b : Type} {L : List String} {m : M (Unit → M b)} {k1 : String → M b} {Q : b → Prop} {E : String → Prop} (h : wp (tryF L m k1) Q E) : wp m (fun f => wp (f ()) Q E) fun n => n ∈ L ∧ wp (k1 n) Q E := by
  cases m with
  | ok x => exact h
  | error e =>
    cases e with
    | bad => exact h
    | exc n =>
      by_cases z : n ∈ L
      · have e : tryF L (.error (.exc n)) k1 = k1 n := if_pos z
        rw [e] at h
        exact ⟨z, h⟩
      · have e : tryF L (.error (.exc n)) k1 = bad := if_neg z
        rw [e] at h
        exact h.elim
/-! ### xs[::-1]; a, b, c = a list of three -/
section
variable {X : Cx} {K : PySem.W.Frag}
theorem pe_revLK (h : X.K = K) {e : Expr} {te : TE} {k : Nat} {p1 p2 p3 pos : Pos} (he : PE X e te) : PE X (.Subscript e (.Slice none none (some (.UnaryOp .USub (.Constant (.int 1) k p1) p2)) p3) pos) (tRevL K te) := by rw [← h]; exact pe_revL he
end
def two3 {a : Type} (xs : List a) : M (a × a × a) := match xs with
  | [x, y, z] => .ok (x, y, z)
  | _ => bad
theorem wp_two3 {a b : Type} {Q : a → Prop} {E : String → Prop} {xs : List b} {k : b × b × b → M a} (h : wp (two3 xs >>= k) Q E) : ∃ x y z, xs = [x, y, z] ∧ wp (k (x, y, z)) Q E := by
  match xs, h with
  | [x, y, z], h => exact ⟨x, y, z, rfl, h⟩
  | [], h => exact h.elim
  | [_], h => exact h.elim
  | [_, _], h => exact h.elim
  | _ :: _ :: _ :: _ :: _, h => exact h.elim
section
variable {X : Cx} {K : PySem.W.Frag}
theorem bmK (h : X.K = K) {c : Expr} {T : String} {r : V → List V → Hp → VK → Prop} {to : TE} {t : TA} (hp : PE X c (tBM X.K T r to t)) : PE X c (tBM K T r to t) := by rw [← h]; exact hp
theorem bm0K (h : X.K = K) {c : Expr} {T : String} {r : V → List V → Hp → VK → Prop} {to : TE} (hp : PE X c (tBM0 X.K T r to)) : PE X c (tBM0 K T r to) := by rw [← h]; exact hp
end
end PG

set_option Elab.async false
set_option linter.all false
set_option maxRecDepth 100000
set_option maxHeartbeats 4000000
namespace PG
open PySem PySem.Spec PyProof.Rows L2
open PySem.W (T3 T4 Datum DatumOrd Holds HoldAll EachIs)
variable {K0 : PySem.W.Frag} [KF K0]
/-! ### lists of our lists: handed back, lent -/
section
variable {Z : Ent} {F F0 H H0 : Hp} {S cs cs0 : List (Addr × HO)} {p : Addr} {ps : List LCV}
theorem llC_nt : ∀ c ∈ llC p ps, noTup c.2 = true := fun c hc => by
  rcases List.mem_cons.mp hc with e | hc
  · rw [e]; rfl
  · obtain ⟨d, _, e⟩ := List.mem_map.mp hc
    rw [← e]; rfl
theorem Ow.llOut (O : Ow Z F (S ++ llC p ps) H) (hp : Z.H p = none) (hz : ∀ c ∈ ps, Z.H c.1 = none) :
    (∀ c ∈ llC p ps, Z.H c.1 = none) ∧ (∀ c ∈ llC p ps, F c.1 = none ∧ H c.1 = some c.2) ∧ ((llC p ps).map (·.1)).Nodup := by
  refine ⟨fun c hc => ?_, fun c hc => ⟨O.cf c (List.mem_append_right _ hc), O.ch c (List.mem_append_right _ hc)⟩, ?_⟩
  · rcases List.mem_cons.mp hc with e | hc
    · rw [e]; exact hp
    · obtain ⟨d, hd, e⟩ := List.mem_map.mp hc
      rw [← e]; exact hz d hd
  · have := O.nd
    rw [List.map_append] at this
    exact (List.nodup_append.mp this).2.1
theorem Ow.llGot (O0 : Ow Z F0 cs0 H0) (O : Ow Z F cs H) (hk : cs.map (·.1) = cs0.map (·.1)) (hn : ∀ c ∈ llC p ps, H0 c.1 = none) (hf : ∀ c ∈ llC p ps, F c.1 = none ∧ H c.1 = some c.2) (nd : ((llC p ps).map (·.1)).Nodup) :
    Ow Z F (cs ++ llC p ps) H where
  g := O.g
  cf := fun c hc => by
    rcases List.mem_append.mp hc with hc | hc
    · exact O.cf c hc
    · exact (hf c hc).1
  ch := fun c hc => by
    rcases List.mem_append.mp hc with hc | hc
    · exact O.ch c hc
    · exact (hf c hc).2
  nd := by
    rw [List.map_append]
    refine List.nodup_append.mpr ⟨O.nd, nd, fun x hx y hy e => ?_⟩
    obtain ⟨d, hd, e2⟩ := List.mem_map.mp hy
    rw [hk] at hx
    obtain ⟨c0, hc0, e3⟩ := List.mem_map.mp hx
    have h1 := O0.ch c0 hc0
    rw [e3, e, ← e2, hn d hd] at h1
    exact nomatch h1
  ca := fun c hc => by
    rcases List.mem_append.mp hc with hc | hc
    · exact O.ca c hc
    · exact .inr (O0.was (hn c hc))
  nt := fun c hc => by
    rcases List.mem_append.mp hc with hc | hc
    · exact O.nt c hc
    · exact llC_nt c hc
theorem Ow.llWas (O0 : Ow Z F0 cs0 H0) (hn : ∀ c ∈ llC p ps, H0 c.1 = none) : Z.H p = none ∧ ∀ c ∈ ps, Z.H c.1 = none :=
  ⟨O0.was (hn (p, _) List.mem_cons_self), fun c hc => O0.was (hn (lcV c) (List.mem_cons_of_mem _ (List.mem_map.mpr ⟨c, hc, rfl⟩)))⟩
theorem inA_ll : ∀ b ∈ (llC p ps).map (·.1), ∃ o, (b, o) ∈ S ++ llC p ps := fun b hb => by
  obtain ⟨c, hc, e⟩ := List.mem_map.mp hb
  exact ⟨c.2, List.mem_append_right _ (by rw [← e]; exact hc)⟩
theorem inA_app {as bs : List Addr} (h1 : ∀ b ∈ as, ∃ o, (b, o) ∈ cs) (h2 : ∀ b ∈ bs, ∃ o, (b, o) ∈ cs) : ∀ b ∈ as ++ bs, ∃ o, (b, o) ∈ cs := fun b hb => by
  rcases List.mem_append.mp hb with hb | hb
  · exact h1 b hb
  · exact h2 b hb
theorem LLR.of_at {a : Type} [Py a] : ∀ {ps : List LCV} {xs : List (List a)}, LLR F ps xs → (∀ c ∈ ps, F c.1 = some (.lst c.2)) → RL F (ps.map fun c => V.ref c.1) xs
  | [], xs, h, _ => by cases h; exact RL.nil
  | c :: ps, xs, h, hat => by
    cases h with
    | cons h1 h2 => exact RL.cons (R.lst (hat c List.mem_cons_self) h1) (LLR.of_at h2 fun d hd => hat d (List.mem_cons_of_mem _ hd))
theorem Ow.llLend {a : Type} [Py a] {as : List Addr} {xs : List (List a)} (O : Ow Z F (S ++ llC p ps) H) (hs : Same F (lendF as F H)) (hin : ∀ c ∈ llC p ps, c.1 ∈ as) (r : LLR F ps xs) : R (lendF as F H) (.ref p) xs := by
  have at_ : ∀ c ∈ llC p ps, lendF as F H c.1 = some c.2 := fun c hc => (lendF_at (hin c hc)).trans (O.ch c (List.mem_append_right _ hc))
  exact R.lst (at_ (p, _) List.mem_cons_self) ((r.mono hs).of_at fun c hc => at_ (lcV c) (List.mem_cons_of_mem _ (List.mem_map.mpr ⟨c, hc, rfl⟩)))
end
/-! ### rows that are never reached -/
def tNever : TS := fun _ _ _ => False
def eNever : TE := fun _ _ _ => False
def uNever : TT := fun _ _ _ => False
theorem psNever {X : Cx} {st : Stmt} : PS X st tNever := ⟨fun _ _ _ _ _ _ h => h.elim⟩
theorem peNever {X : Cx} {e : Expr} : PE X e eNever := ⟨fun _ _ _ _ _ _ h => h.elim⟩
theorem ptNever {X : Cx} {e : Expr} : PT X e uNever := ⟨fun _ _ _ _ _ _ h => h.elim⟩
theorem pwNever {X : Cx} {e : Expr} : PW X e uNever := ⟨fun _ _ _ _ _ _ _ h => h.elim⟩
/-! ### lists in which nothing is None -/
def some1 {a : Type} (xs : List (Option a)) : Option (List a) := xs.mapM id
def some2 {a : Type} (xs : List (List (Option a))) : Option (List (List a)) := xs.mapM some1
section
variable {a : Type} [Py a] {F : Hp} {v : V}
theorem mapM_cons_some {b c : Type} {f : b → Option c} {x : b} {xs : List b} {ys : List c} (h : (x :: xs).mapM f = some ys) : ∃ y zs, f x = some y ∧ xs.mapM f = some zs ∧ ys = y :: zs := by
  rw [List.mapM_cons] at h
  cases e : f x with
  | none => rw [e] at h; exact nomatch h
  | some y =>
    rw [e] at h
    cases e2 : xs.mapM f with
    | none =>
      have h : ((xs.mapM f) >>= fun bs => pure (y :: bs)) = some ys := h
      rw [e2] at h; exact nomatch h
    | some zs =>
      have h : ((xs.mapM f) >>= fun bs => pure (y :: bs)) = some ys := h
      rw [e2] at h
      exact ⟨y, zs, rfl, rfl, (Option.some.inj h).symm⟩
theorem mapM_nil_some {b c : Type} {f : b → Option c} {ys : List c} (h : ([] : List b).mapM f = some ys) : ys = [] := (Option.some.inj h).symm
theorem RL.some1 : ∀ {xs : List (Option a)} {vs : List V} {ys : List a}, RL F vs xs → xs.mapM id = some ys → RL F vs ys
  | [], vs, ys, h, e => by
    rw [mapM_nil_some e, RL.nil_ h]
    exact RL.nil
  | x :: xs, vs, ys, h, e => by
    obtain ⟨w, ws, rfl, h1, h2⟩ := RL.cons_ h
    obtain ⟨y, zs, e1, e2, e3⟩ := mapM_cons_some e
    rw [e3]
    have e1 : x = some y := e1
    rw [e1] at h1
    exact RL.cons (R.jst_ h1) (RL.some1 h2 e2)
theorem R.some1 {xs : List (Option a)} {ys : List a} (h : R F v xs) (e : PG.some1 xs = some ys) : R F v ys := by
  obtain ⟨p, vs, rfl, hp, hr⟩ := R.lst_ h
  exact R.lst hp (RL.some1 hr e)
theorem RL.some2 : ∀ {xs : List (List (Option a))} {vs : List V} {ys : List (List a)}, RL F vs xs → xs.mapM PG.some1 = some ys → RL F vs ys
  | [], vs, ys, h, e => by
    rw [mapM_nil_some e, RL.nil_ h]
    exact RL.nil
  | x :: xs, vs, ys, h, e => by
    obtain ⟨w, ws, rfl, h1, h2⟩ := RL.cons_ h
    obtain ⟨y, zs, e1, e2, e3⟩ := mapM_cons_some e
    rw [e3]
    exact RL.cons (R.some1 h1 e1) (RL.some2 h2 e2)
theorem R.some2 {xs : List (List (Option a))} {ys : List (List a)} (h : R F v xs) (e : PG.some2 xs = some ys) : R F v ys := by
  obtain ⟨p, vs, rfl, hp, hr⟩ := R.lst_ h
  exact R.lst hp (RL.some2 hr e)
end
/-! ### products one factor of which is small -/
def CMulX (i j : Int) : Prop := CMul i j ∨ CMulW i j
instance (i j : Int) : Decidable (CMulX i j) := by unfold CMulX CMul CMulW; infer_instance
theorem op_mulX {X : Cx} : OpR X (binaryOp .Mult) (rI CMulX fun i j => .int (i * j)) := opI fun _ _ _ _ _ _ _ hc q => mul_int q (by
  rcases hc with h | h
  · exact h.ok
  · exact h.ok)
end PG

set_option Elab.async false
set_option linter.all false
set_option maxRecDepth 100000
set_option maxHeartbeats 4000000
namespace PG
open PySem PySem.Spec PyProof.Rows L2
open PySem.W (T3 T4 Datum DatumOrd Holds HoldAll EachIs)
variable {K0 : PySem.W.Frag} [KF K0]
/-! ### an except clause whose suite asks of the exception: it is tracked within the suite -/
section
variable {X : Cx} {pins pn pn' : List (Addr × Obj)} {σ : L2.St} {H : Hp} {s : Shared} {a : Addr} {q : Addr × Obj}
theorem lessPin (I : L2.Inv (X.suite a (q :: pn)) pn' σ H s) (ok : X.Ok) : L2.Inv (X.suite a pn) pn' σ H s :=
  ⟨ok.suite _ _, I.os, I.bare, I.base, I.loc, I.cell, I.free, I.freeC, fun p hp => I.pin p (List.mem_cons_of_mem _ hp), I.hok, I.len⟩
theorem unsuite0 (I : L2.Inv (X.suite a (X.pn ++ pins)) [] σ H s) (ok : X.Ok) : L2.Inv X pins σ H s :=
  ⟨ok, I.os, I.bare, I.base, I.loc, I.cell, I.free, I.freeC, fun p hp => I.pin p (List.mem_append_left _ hp), I.hok, I.len⟩
end
/-- what such a clause wishes -/
def wTell (K : PySem.W.Frag) (c : Value) (i : Nat) (ts : Addr → TS) (out : WX) (D : Ends) : WX := fun cls d σ H =>
  ∃ b, PySem.W.exmOne K cls c = some b ∧ (b = true → ∀ a, H a = none → ts a { nx := fun σ' H' => D.nx (σ'.set i none) H', rt := fun _ _ => False, bk := fun _ _ => False, ct := fun _ _ => False } (σ.set i (some (.ref a))) (upd H a (excO cls d a))) ∧ (b = false → out cls d σ H)
section
variable {X : Cx} {x n : Str} {c : Value} {i : Nat} {body suite : List Stmt} {b1 : Stmt} {np q1 q2 : Pos} {tb : WX → TS} {ts : Addr → TS} {out : WX}
theorem ps_try_tell (hs : X.stack = X.env :: X.outer) (hf : X.env.frame = some X.env.locals) (hex : X.ex = []) (hN : X.N.Nodup) (hi : X.N[i]? = some n) (hl : X.env.kindOf n = some .local) (hc : Names X x c) (tk : Takes X out)
    (hb : ∀ (W : WX) (pn : List (Addr × Obj)) (xe : Value → Shared → Prop), Takes (X.tr pn xe) W → PassesOwn (model X.prog X.w) X.A X.env xe → PSs (X.tr pn xe) body (tb W))
    (hsu : ∀ (a : Addr) (pn : List (Addr × Obj)), PSs (X.suite a pn) (b1 :: suite) (ts a)) :
    PS X (.Try body [.ExceptHandler (some (.Name x np)) (some n) (b1 :: suite) q1] [] [] q2) (fun D σ H => tb (wTell X.K c i ts out D) D σ H) := by
  refine ⟨fun pins s σ H D I wish => wpAny_Try_except ?_⟩
  have ok := I.ok
  have hfr : X.A.frames = some (X.env :: X.outer) := ok.frames.trans (by rw [hs])
  have run := (hb (wTell X.K c i ts out D) (X.pn ++ pins) (fun e g1 => wpAny (model X.prog X.w) X.A (noteFrame e X.env) (fun _ g2 => wpAny (model X.prog X.w) X.A (setFlight e none)
    (fun _ g3 => wpAny (model X.prog X.w) X.A (handleBy e X.env [.ExceptHandler (some (.Name x np)) (some n) (b1 :: suite) q1]) (SP X pins D) X.xe g3) X.xe g2) X.xe g1)
    (fun u g ⟨a, B, sI, ps, τ, G, cls, d, eu, J0, nb, up, sky, na, eos, ag, b, hb1, yes, no⟩ => by
      subst eu
      have J : L2.Inv X pins τ G sI := J0.ofTry ok
      show wpAny (model X.prog X.w) X.A (noteFrame (.ref a) X.env) _ _ _
      refine Sky.land Zc.steady hfr hf (show Sky B (X.env :: X.outer) a (Zc cls d) X.env.locals g.heap by rw [← hs]; exact sky) fun k1 fl1 up1 => ?_
      have J1 : L2.Inv X pins τ G { g with heap := k1 } := J.landed nb fl1.1 (up.trans up1) eos ag
      obtain ⟨o1, vs1, ho1, hz1, hd1⟩ := fl1.there
      have off : a ∉ frs (X.env :: X.outer) := fun hm => by
        obtain ⟨_, o', eo, hnf⟩ := fl1.2.2.1.mem hm
        rw [ho1] at eo
        cases eo
        exact hnf _ hd1
      have nL : a ≠ X.env.locals := fun z => off (List.mem_filterMap.mpr ⟨X.env, List.mem_cons_self, by rw [hf, z]⟩)
      have nF : a ∉ X.fs := fun hm => by
        obtain ⟨e, he, q⟩ := List.mem_filterMap.mp hm
        exact off (List.mem_filterMap.mpr ⟨e, List.mem_cons_of_mem _ he, q⟩)
      have young : ∀ o, sI.heap.get? a ≠ some o := fun o q => by
        have z := nb a o q (by rw [hs]; exact off)
        rw [fl1.2.1] at z
        exact nomatch z
      have h0 : X.s_0.heap.get? a = none := by
        cases q : X.s_0.heap.get? a with
        | none => rfl
        | some o =>
          obtain ⟨o', z⟩ := J.base.there a o q (by rw [hex]; exact fun z => nomatch z)
          exact (young _ z).elim
      have offp : ∀ p ∈ X.pn ++ pins, p.1 ≠ a := fun p hp z => young p.2 (by rw [← z]; exact (J.pin p hp).1)
      have S1 := J1.suite ho1 hd1 na nL nF
      refine wpAny_handleBy_cons (codeAny_handlers_test ?_) (fun q => nomatch q)
      have look : PySem.W.Looks (model X.prog X.w) k1 (typeOf (.ref a)) cls := fun _ _ _ _ k q => wpAny_typeOf_ref (k _ _ ho1) (by rw [hz1.1]; exact q)
      have match_ := PySem.W.exm_one (M := model X.prog X.w) J1.kIn look hb1
      have named : ∀ {Q : Value → Shared → Prop} {E : Value → Shared → Prop}, Q c { g with heap := k1 } → wpAny (model X.prog X.w) (X.A.mark (some (.ref a))) (eval (.Name x np) X.env) Q E { g with heap := k1 } := fun {Q E} q => by
        obtain ⟨hg, hdbg, hm | ⟨hm, hv, hnn⟩⟩ := hc
        · exact ld_glob (X := X.suite a ((a, o1) :: (X.pn ++ pins))) S1 hg hm q hdbg
        · exact ld_blt (X := X.suite a ((a, o1) :: (X.pn ++ pins))) S1 hg hm hv q hnn hdbg
      refine named (match_.here ?_)
      cases b with
      | true =>
        refine codeAny_handlers_suite_as (HandSPX.lands_againZ fl1 fun k2 fl2 up2 => ?_)
        have J2 : L2.Inv X pins τ G { g with heap := k2 } := J.landed nb fl2.1 ((up.trans up1).trans up2) eos ag
        obtain ⟨o2, vs2, ho2, hz2, hd2⟩ := fl2.there
        refine store_ok (X := X.suite a ((a, o2) :: (X.pn ++ pins))) (v := .ref a) (J2.suite ho2 hd2 na nL nF) hN hi (.inl hl) rfl (fun g5 S5 => ?_) (.inr hl)
        obtain ⟨hget5, _⟩ := S5.pin (a, o2) (List.mem_append_left _ List.mem_cons_self)
        have A5 := adopt (X := X.suite a (X.pn ++ pins)) (lessPin S5 ok) na ⟨o2, vs2, hget5, hz2, hd2⟩ h0 nL (fun p hp => offp p (by rw [List.append_nil] at hp; exact hp))
        refine wpAny_mono ((hsu a (X.pn ++ pins)).run [] g5 _ _ _ A5 (yes rfl a na)) (fun f g6 hsp => ?_) (fun _ _ z => z.elim)
        cases f with
        | next =>
          obtain ⟨τ6, G6, S6, q6⟩ := hsp
          exact gone_ok (X := X.suite a (X.pn ++ pins)) S6 hN hi hl fun g7 S7 => ⟨_, _, unsuite0 S7 ok, q6⟩
        | brk => obtain ⟨_, _, _, q6⟩ := hsp; exact q6.elim
        | cont => obtain ⟨_, _, _, q6⟩ := hsp; exact q6.elim
        | ret u => obtain ⟨_, _, _, _, _, q6⟩ := hsp; exact q6.elim
      | false =>
        refine wpAny_handleBy_nil ?_
        obtain ⟨_, _, _, o3, vs3, T, oT, ts3, he, hz, hd, h1, hr⟩ := id fl1
        unfold PySem.passOn
        refine wpAny_bind (wpAny_field he hd h1 ?_)
        rw [if_neg (by simp : ¬ ((Value.ref T == Value.none) = true))]
        have up_ : wpAny (model X.prog X.w) X.A (setFlight (.ref a) X.env.frame) (fun _ g4 => wpAny (model X.prog X.w) X.A (throw (.ref a) : Sem Flow) (SP X pins D) X.xe g4) X.xe { g with heap := k1 } := by
          rw [hf]
          exact HandSPX.setFlight_upZ fl1 fun k2 fl2 up2 => wpAny_throw (tk _ _ ⟨a, B, sI, pins, τ, G, cls, d, rfl, J, nb, (up.trans up1).trans up2, .inr (.inr (by rw [hs]; exact fl2)), na, eos, ag, no rfl⟩)
        first
          | exact wpAny_bind up_
          | exact wpAny_bind (wpAny_pure (wpAny_bind up_)))
    PassesOwn.looking).run [] s σ H D (I.toTry _) wish
  refine wpAny_mono run (fun f g hsp => ?_) (fun _ _ z => z)
  cases f with
  | next => obtain ⟨τ, G, J, q⟩ := hsp; exact wpAny_execs_nil ⟨τ, G, J.ofTry ok, q⟩
  | brk => obtain ⟨τ, G, J, q⟩ := hsp; exact ⟨τ, G, J.ofTry ok, q⟩
  | cont => obtain ⟨τ, G, J, q⟩ := hsp; exact ⟨τ, G, J.ofTry ok, q⟩
  | ret u => obtain ⟨v, τ, G, J, r, q⟩ := hsp; exact ⟨v, τ, G, J.ofTry ok, r, q⟩
end
end PG

set_option Elab.async false
set_option linter.all false
set_option maxRecDepth 100000
set_option maxHeartbeats 4000000
namespace PG
open PySem PySem.Spec PyProof.Rows L2
open PySem.W (T3 T4 Datum DatumOrd Holds HoldAll EachIs)
variable {K0 : PySem.W.Frag} [KF K0]
/-! ### xs.remove(y) of a list of data, y in it -/
/-- where y stands in xs -/
def ixL {a : Type} [DecidableEq a] (xs : List a) (y : a) : Nat := xs.idxOf y
def remL {a : Type} [DecidableEq a] (xs : List a) (y : a) : List a := xs.take (ixL xs y) ++ xs.drop (ixL xs y + 1)
section
variable {a : Type} [Py a] [DecidableEq a] [Datum a] [IsD a]
theorem RL.rem {F : Hp} {vs : List V} {xs : List a} (h : RL F vs xs) (y : a) : RL F (vs.take (ixL xs y) ++ vs.drop (ixL xs y + 1)) (remL xs y) := RL.app (h.take _) (h.drop _)
omit [Py a] [IsD a] in
theorem place_of : ∀ {xs : List a} {y : a}, y ∈ xs → SeqAt.dataPlace (xs.map Datum.toD) (Datum.toD y) = some (xs.idxOf y)
  | [], _, h => nomatch h
  | x :: xs, y, h => by
    unfold SeqAt.dataPlace
    rw [List.map_cons, List.findIdx?_cons, Datum.eqv, List.idxOf_cons]
    by_cases c : x = y
    · rw [if_pos (decide_eq_true c)]
      rw [show (x == y) = true from by rw [c]; exact beq_self_eq_true y]
      rfl
    · rw [if_neg (fun z => c (of_decide_eq_true z))]
      rw [show (x == y) = false from beq_eq_false_iff_ne.mpr c]
      have hm : y ∈ xs := by
        rcases List.mem_cons.mp h with e | e
        · exact (c e.symm).elim
        · exact e
      have ih := place_of hm
      unfold SeqAt.dataPlace at ih
      rw [ih]
      rfl
end
def rRemT (a : Type) [Py a] [DecidableEq a] : V → List V → Hp → VK → Prop := fun x xs H Q => ∃ (l : Addr) (vs : List V) (ys : List a) (y : V) (p : a), x = .ref l ∧ xs = [y] ∧ H l = some (.lst vs) ∧ RL H vs ys ∧ R H y p ∧ p ∈ ys ∧ Q .non (upd H l (.lst (vs.take (ixL ys p) ++ vs.drop (ixL ys p + 1))))
section
variable {X : Cx} (a : Type) [Py a] [DecidableEq a] [Datum a] [IsD a]
theorem mt_removeT (hu : X.A.units + 64 < cLine) (hd : Datum.depth a ≤ 60 := by decide) (hK : X.K = K0 := by rfl) : MtR X "list.remove" (rRemT a) := by
  subst hK
  intro pins s σ H x xs v us Q I rx rxs h
  obtain ⟨l, vs, ys, y, p, rfl, rfl, hH, hl, hp, hm, q⟩ := h
  cases rx
  obtain ⟨u, rfl, ru⟩ := rxs.one
  obtain ⟨z, its, n, r, hlen, e⟩ := I.lstM hH
  obtain ⟨as, rs⟩ := hl.holds I r
  obtain ⟨bs, rx⟩ := hp.holds I ru
  refine SeqAt.remove_list_data (vs := its.toArray) ⟨_, e, rfl, n, rfl⟩ (by simpa using rs) rx (PySem.W.plainAll_map ys) (Datum.plain p) (PySem.W.room_items (PySem.W.depthAll_map ys) (by omega)) (place_of hm) (by rw [List.size_toArray]; omega) ?_
  refine ⟨.non, _, I.lset (its' := its.take (ixL ys p) ++ its.drop (ixL ys p + 1)) hH e ?_ ((r.take _).append (r.drop _)) ?_, rfl, q⟩
  · show its.toArray.eraseIdxIfInBounds (ixL ys p) = _
    rw [List.eraseIdxIfInBounds_toArray, List.eraseIdx_eq_take_drop_succ]
  · rw [List.length_append, List.length_take, List.length_drop]
    omega
end
/-! ### a list seen as one of options -/
theorem RL.somes {a : Type} [Py a] {F : Hp} : ∀ {xs : List a} {vs : List V}, RL F vs xs → RL F vs (xs.map some)
  | [], vs, h => by
    rw [RL.nil_ h]
    exact RL.nil
  | x :: xs, vs, h => by
    obtain ⟨w, ws, rfl, h1, h2⟩ := RL.cons_ h
    exact RL.cons (R.jst h1) (RL.somes h2)
/-! ### range(hi, lo, -1) -/
def rangeD (hi lo : Int) : List Int := (List.range (hi - lo).toNat).map fun (i : Nat) => hi + (i : Int) * (-(1 : Int))
theorem rangeD_len {hi lo : Int} : (rangeD hi lo).length = (hi - lo).toNat := by
  unfold rangeD
  rw [List.length_map, List.length_range]
theorem rangeD_get {hi lo : Int} {i : Nat} (h : i < (hi - lo).toNat) : (rangeD hi lo).drop i = (hi + (i : Int) * (-(1 : Int))) :: (rangeD hi lo).drop (i + 1) := by
  apply drop_at
  unfold rangeD
  rw [List.getElem?_map, List.getElem?_range h]
  rfl
theorem rangeD_end {hi lo : Int} : (rangeD hi lo).drop (hi - lo).toNat = [] := List.drop_eq_nil_of_le (by rw [rangeD_len]; exact Nat.le_refl _)
end PG

set_option Elab.async false
set_option linter.all false
set_option maxRecDepth 100000
set_option maxHeartbeats 4000000
namespace PG
open PySem PySem.Spec PyProof.Rows L2
open PySem.W (T3 T4 Datum DatumOrd Holds HoldAll EachIs)
variable {K0 : PySem.W.Frag} [KF K0]
/-! ### for k in d, keys pairs of whole numbers -/
theorem rd_got {κ K' β : Type} [DK κ K'] [Py β] {F : Hp} {kvs : List (K' × V)} {xs : List (κ × β)} (h : RD F kvs xs) : ∀ {i : Nat} {k : K'} {v : V}, kvs[i]? = some (k, v) → ∃ (y : κ) (b : β), xs[i]? = some (y, b) ∧ k = DK.kk y := by
  induction h with
  | nil =>
    intro i k v e
    simp at e
  | @cons k0 v0 y0 kvs xs h t ih =>
    intro i k v e
    cases i with
    | zero =>
      have e := Option.some.inj e
      injection e with e1 e2
      exact ⟨k0, y0, rfl, e1.symm⟩
    | succ i => exact ih (i := i) (by simpa using e)
theorem keys_at {κ β : Type} {xs : List (κ × β)} {i : Nat} {y : κ} {b : β} (e : xs[i]? = some (y, b)) : (List.map (fun x => x.1) xs)[i]? = some y := by rw [List.getElem?_map, e]; rfl
theorem one_tup {H : Hp} {q : Addr} {xs : List V} (h : H q = some (.tup xs)) : ∀ b ∈ [q], ∃ xs, H b = some (.tup xs) := fun b hb => by rw [List.mem_singleton.mp hb]; exact ⟨_, h⟩
theorem key_R {F H : Hp} {q : Addr} {k : List Key} {y : Int × Int} (e : k = DK.kk y) (h : H q = some (.tup (k.map kV))) (hb : ∀ b ∈ [q], F b = H b) : R F (.ref q) y := by
  rw [e] at h
  have h2 : F q = some (.tup [.int y.1, .int y.2]) := (hb q (List.mem_singleton.mpr rfl)).trans h
  exact R.t2 h2 R.int R.int
theorem rd_klen {κ K' β : Type} [DK κ K'] [Py β] {F : Hp} {kvs : List (K' × V)} {xs : List (κ × β)} (h : RD F kvs xs) : kvs.length = (List.map (fun x => x.1) xs).length := by rw [List.length_map]; exact h.len
theorem drop_endK {a b : Type} {ys : List a} {xs : List b} (h : ys.length = xs.length) : xs.drop ys.length = [] := List.drop_eq_nil_of_le (by omega)
/-! ### the state told anew behind a name's binding (else Lean's unifier walks through all bindings again) -/
def gNameN (i : Nat) : TG := fun v σ H Q => ∃ σ' : L2.St, σ' = σ.set i (some v) ∧ Q σ' H
theorem gNameN_eq (i : Nat) : gNameN i = gName i := by
  funext v σ H Q
  exact propext ⟨fun ⟨_, e, q⟩ => by subst e; exact q, fun q => ⟨_, rfl, q⟩⟩
theorem ps_toN {X : Cx} {st : Stmt} {te : TE} {i : Nat} (h : PS X st (tAsg te (gName i))) : PS X st (tAsg te (gNameN i)) := by
  rw [gNameN_eq]
  exact h
theorem to_dec {p : Prop} (i j : Decidable p) : @decide p i = @decide p j := by cases i <;> cases j <;> first | rfl | contradiction
/-! ### tuple(xs) of two, t[:2] of three -/
def twoL {a : Type} : List a → Option (a × a)
  | [x, y] => some (x, y)
  | _ => none
theorem RL.tw {a : Type} [Py a] {F : Hp} {vs : List V} {xs : List a} {y : a × a} (h : RL F vs xs) (e : twoL xs = some y) : ∃ v w, vs = [v, w] ∧ R F v y.1 ∧ R F w y.2 := by
  match xs, e with
  | [x1, x2], e =>
    have e := Option.some.inj e
    subst e
    obtain ⟨v, ws, rfl, h1, h2⟩ := RL.cons_ h
    obtain ⟨w, ws, rfl, h3, h4⟩ := RL.cons_ h2
    have := RL.nil_ h4
    subst this
    exact ⟨v, w, rfl, h1, h3⟩
theorem sl32 (a b c : V) : ¬ (HT.sIx [a, b, c].length 0 none = 0 ∧ HT.sIx [a, b, c].length [a, b, c].length (some (2 : Int)) = [a, b, c].length) := fun h => absurd h.2 (by show ¬ (2 : Nat) = 3; decide)
/-! ### d.get(k) -/
section
variable {β : Type} {H : Hp} {a b : Addr}
theorem dgo_T {kvs : List (List Key × V)} {i j : Int} (e : Rd H a (.dT kvs)) (eb : H b = some (.tup [.int i, .int j])) : DGet H a (.ref b) (valV kvs (DK.kk (i, j))) := dgt (k := [.inl i, .inl j]) e eb
theorem dgo_I {kvs : List (Key × V)} {i : Int} (e : Rd H a (.dK kvs)) : DGet H a (.int i) (valV kvs (DK.kk i)) := dgk (k := .inl i) e
theorem dgo_S {kvs : List (Key × V)} {i : Str} (e : Rd H a (.dK kvs)) : DGet H a (.str i) (valV kvs (DK.kk i)) := dgk (k := .inr i) e
end
theorem dget1 {κ K' β : Type} [DK κ K'] [DecidableEq κ] [DecidableEq K'] [Py β] {F : Hp} {kvs : List (K' × V)} {xs : List (κ × β)} (h : RD F kvs xs) (k : κ) : ∃ v, (valV kvs (DK.kk k)).getD .non = v ∧ R F v (dGet xs k) := by
  rcases h.get k with ⟨a, b⟩ | ⟨y, v, a, b, c⟩
  · rw [a, b]; exact ⟨_, rfl, R.non⟩
  · rw [a, b]; exact ⟨_, rfl, R.jst c⟩
theorem dget1J {κ K' β : Type} [DK κ K'] [DecidableEq κ] [DecidableEq K'] [Py β] {F : Hp} {kvs : List (K' × V)} {xs : List (κ × Option β)} (h : RD F kvs xs) (k : κ) : ∃ v, (valV kvs (DK.kk k)).getD .non = v ∧ R F v ((dGet xs k).join) := by
  rcases h.get k with ⟨a, b⟩ | ⟨y, v, a, b, c⟩
  · rw [a, b]; exact ⟨_, rfl, R.non⟩
  · rw [a, b]; exact ⟨_, rfl, c⟩
/-! ### t[::-1] of a pair -/
section
variable {prog : Program} {w : World} {A : Around} {E : Value → Shared → Prop} {s : Shared}
theorem pair_back {t sl : Addr} {u1 u2 vs : Value} {Q : Value → Shared → Prop} (ht : IsTup s.heap t #[u1, u2]) (hs : s.heap.IsSliceOf sl .none .none vs) (ps : IsPart vs (some (-1)))
    (h : Q (.ref s.heap.objs.size) { s with heap := s.heap.push { cls := .type "tuple", data := .seq #[u2, u1] } }) : wpAny (model prog w) A (getItem (.ref t) (.ref sl)) Q E s := by
  obtain ⟨os, hos, hcs, hds⟩ := id hs
  have hTs : s.TypeIs (.ref sl) "slice" := ⟨os, hos, hcs⟩
  unfold getItem
  try with_reducible refine wpAny_holding ?_
  first | refine wpAny_bind (wpAny_pure ?_) | skip
  refine wpAny_bind (wpAny_sequenceKey ht.typeIs (by decide) ?_)
  refine wpAny_bind (wpAny_callSpecial?_slot (name := Str.ofString "__getitem__") ht.typeIs PyProof.Rows.slot_tuple_getitem
    (wpAny_call_entry PyProof.Rows.slot_tuple_getitem ht.typeIs PyProof.Rows.entry_tuple_getitem ?_ (PyProof.Rows.args_tuple_getitem _ _)))
  show wpAny _ _ (Builtin.Tuple.tupleItemsOf (.ref t) >>= _) _ _ s
  refine wpAny_bind (tupleItemsOf_ ht ?_)
  refine wpAny_bind (wpAny_typeOf hTs ?_)
  rw [if_pos (by decide)]
  have hp : ∀ {A : Around} {Q : Option Int → Shared → Prop} {s : Shared}, Q (some (-1)) s → wpAny (model prog w) A (Builtin.Slice.slicePartIndex vs) Q E s := by
    intro A Q s hq
    cases ps with
    | int i t => exact slicePart_int hq
  have key : ∀ {A : Around} {Q : Int × Int × Nat → Shared → Prop}, Q (1, -1, 2) s → wpAny (model prog w) A (Builtin.Slice.sliceApplied (.ref sl) (pure (2 : Int))) Q E s := by
    intro A Q hq
    unfold Builtin.Slice.sliceApplied Builtin.Slice.sliceFields
    refine wpAny_bind (wpAny_bind (wpAny_field hos hds (x := .none) rfl (wpAny_bind (wpAny_field hos hds (x := .none) rfl (wpAny_bind (wpAny_field hos hds (x := vs) rfl (wpAny_pure ?_)))))))
    refine wpAny_bind (hp ?_)
    show wpAny _ _ (if ((-1 : Int) == 0) = true then _ else _) _ _ s
    rw [if_neg (by decide)]
    refine wpAny_bind (slicePart_none (wpAny_bind (slicePart_none (wpAny_bind (wpAny_pure ?_)))))
    exact wpAny_pure hq
  refine wpAny_bind (key ?_)
  show wpAny _ _ (if (((1 : Int) == 0 && (-1 : Int) == 1 && (2 : Nat) == 2) = true) then _ else _) _ _ s
  rw [if_neg (by decide)]
  first
    | exact wpAny_bind (m := Builtin.Tuple.tupleExact _) (wpAny_newObj_type (wpAny_pure ⟨_, rfl, wpAny_pure h⟩) (by show (2 : Nat) ≤ sizeLine; decide))
    | exact wpAny_bind (m := Builtin.Tuple.tupleExact _) (wpAny_newObj_type (wpAny_bind (wpAny_pure (wpAny_pure ⟨_, rfl, wpAny_pure h⟩))) (by show (2 : Nat) ≤ sizeLine; decide))
    | exact wpAny_bind (wpAny_bind (m := Builtin.Tuple.tupleExact _) (wpAny_newObj_type (wpAny_pure (wpAny_pure ⟨_, rfl, wpAny_pure h⟩)) (by show (2 : Nat) ≤ sizeLine; decide)))
end
def tRevT2 (K : PySem.W.Frag) (te : TE) : TE := fun σ H Q => te σ H fun x H1 => ∃ a v1 v2, x = .ref a ∧ SqT K H1 a [v1, v2] ∧ ∀ p, H1 p = none → Q (.ref p) (upd H1 p (.tup [v2, v1]))
theorem pe_revT2 {X : Cx} {K : PySem.W.Frag} (hK : X.K = K) {e : Expr} {te : TE} {k : Nat} {p1 p2 p3 pos : Pos} (he : PE X e te) : PE X (.Subscript e (.Slice none none (some (.UnaryOp .USub (.Constant (.int 1) k p1) p2)) p3) pos) (tRevT2 K te) := by
  subst hK
  constructor
  intro pins s σ H Q I hw
  refine Subscript_ (thn (he.run pins s σ H _ I hw) ?_)
  rintro v s1 ⟨x, H1, I1, r1, a, v1, v2, rfl, hx, q⟩
  cases r1
  have hst : PO X (some (.UnaryOp .USub (.Constant (.int 1) k p1) p2)) (tPart (tUn (rU fun i => .int (-i)) (tC (.int 1)))) := po_some (pe_un un_neg pe_int)
  refine wpAny_Slice (thn (po_none.run pins s1 σ H1 (fun o H2 => o = none ∧ H2 = H1) I1 ⟨rfl, rfl⟩) ?_)
  rintro vl s2 ⟨l, H2, I2, pl, rfl, rfl⟩
  refine thn (po_none.run pins s2 σ H2 (fun o H3 => o = none ∧ H3 = H2) I2 ⟨rfl, rfl⟩) ?_
  rintro vu s3 ⟨u, H3, I3, pu, rfl, rfl⟩
  refine thn (hst.run pins s3 σ H3 (fun o H4 => o = some (-1) ∧ H4 = H3) I3 ⟨1, rfl, -1, rfl, rfl, rfl⟩) ?_
  rintro vs s4 ⟨o, H4, I4, ps, rfl, rfl⟩
  cases pl
  cases pu
  have I5 : Inv X pins σ H4 { s4 with heap := s4.heap.push { cls := .type "slice", data := .fields #[.none, .none, vs] } } := I4.kept (t' := s4.toks) fun b ob q => Heap.get?_push_of_some _ q
  obtain ⟨its, r, ht, hz⟩ := I5.tuple hx
  obtain ⟨w1, w2, rfl, m1, m2⟩ : ∃ w1 w2, its = [w1, w2] ∧ RelV v1 w1 ∧ RelV v2 w2 := by
    cases r with
    | cons a b =>
      cases b with
      | cons c d =>
        cases d
        exact ⟨_, _, rfl, a, c⟩
  show wpAny (model X.prog X.w) X.A (subscriptTail e (.Slice none none (some (.UnaryOp .USub (.Constant (.int 1) k p1) p2)) p3) (.ref a) (.ref s4.heap.objs.size)) (EP X pins σ Q) X.xe { s4 with heap := s4.heap.push { cls := .type "slice", data := .fields #[.none, .none, vs] } }
  refine tail_any (ops := [.ref a, .ref s4.heap.objs.size]) ht.typeIs (PyProof.Rows.slot_tuple_getitem.lookup) ?_ (by with_unfolding_all rfl)
  refine pair_back ht (Heap.IsSliceOf.new _ .none .none vs) ps ?_
  refine ⟨.ref _, _, I5.laid (t' := s4.toks) (o := .tup [v2, v1]) (fun b ob q => Heap.get?_push_of_some _ q) (Nat.le_refl _) ?_, rfl, q _ (I5.hok.fresh (Nat.le_refl _))⟩
  exact ⟨by show (2 : Nat) ≤ sizeLine; decide, _, .cons m2 (.cons m1 .nil), IsTup.new _ _⟩
/-! ### reversed(xs) -/
theorem lc_rev {K : PySem.W.Frag} {a : Addr} {xs : List V} {g : TG} {tt : TT} {te : TE} {vs : List Nat} {σ : L2.St} {H1 : Hp} {D : Addr} {Qd : Hp → Prop} (Pv : Nat → Hp → Prop) (h0 : Pv 0 (upd H1 D (.lst []))) (hl : ∀ i H, i ≤ xs.length → Pv i H → SqL K H a xs)
    (hs : ∀ i x H, xs.reverse[i]? = some x → Pv i H → g x (wipe σ vs) H fun σ2 H2 => wipe σ2 vs = wipe σ vs ∧ tt σ2 H2 fun b H3 =>
      if b = true then te σ2 H3 fun y H4 => ∃ acc, H4 D = some (.lst acc) ∧ acc.length < sizeLine ∧ Pv (i + 1) (upd H4 D (.lst (acc ++ [y]))) else Pv (i + 1) H3) (hd : ∀ H, Pv xs.length H → Qd H) :
    ∃ W : Nat → Nat → Hp → Prop, (∃ m, W 0 m (upd H1 D (.lst []))) ∧ ∀ i m H, W i m H →
      ((Itv K a xs.length).stop i H ∧ Qd H) ∨ ((Itv K a xs.length).go i H ∧ ∃ Nx : Hp → Prop, (∀ H', Nx H' → ∃ m', m' < m ∧ W (i + 1) m' H') ∧ ∀ x H', (Itv K a xs.length).yld i H x H' → g x (wipe σ vs) H' fun σ2 H2 => wipe σ2 vs = wipe σ vs ∧ tt σ2 H2 fun b H3 =>
        if b = true then te σ2 H3 fun y H4 => ∃ acc, H4 D = some (.lst acc) ∧ acc.length < sizeLine ∧ Nx (upd H4 D (.lst (acc ++ [y]))) else Nx H3) :=
  lc_it walk_rev Pv h0 hl (fun i x H H' hi p y => by obtain ⟨rfl, e⟩ := y; exact hs i x _ (by rw [List.getElem?_reverse hi]; exact e) p) hd
theorem piRevK {X : Cx} {K : PySem.W.Frag} {tg e : Expr} {ta : TA} (h : X.K = K) (hp : PI X tg e (iRev X.K ta)) : PI X tg e (iRev K ta) := by rw [← h]; exact hp
theorem rev_len {a : Type} [Py a] {F : Hp} {vs : List V} {xs : List a} (h : RL F vs xs) : vs.length = xs.reverse.length := by rw [List.length_reverse]; exact h.len
theorem atI_ix {a : Type} {xs : List a} {i : Int} {x : a} (e : L2.atI xs i = some x) : ∃ n, ixN xs.length i = some n ∧ xs[n]? = some x := by
  unfold L2.atI at e
  cases h : ixN xs.length i with
  | none => rw [h] at e; exact nomatch e
  | some n => rw [h] at e; exact ⟨n, rfl, e⟩
/-! ### rows that stand alone: a list of pairs of a branch and a list of its own, one of which is changed -/
def SepP (Z F : Hp) (ws : List V) : Prop := ∃ qs : List (Addr × V × Addr × List V), ws = qs.map (fun q => V.ref q.1) ∧
  (∀ q ∈ qs, F q.1 = some (.tup [q.2.1, .ref q.2.2.1]) ∧ F q.2.2.1 = some (.lst q.2.2.2) ∧ Z q.2.2.1 = none) ∧ (qs.map fun q => q.2.2.1).Nodup
def SepA (Z F : Hp) (p : Addr) : Prop := ∃ ws, F p = some (.lst ws) ∧ SepP Z F ws
theorem SepP.nil {Z F : Hp} : SepP Z F [] := ⟨[], rfl, fun _ h => (nomatch h), List.nodup_nil⟩
theorem SepP.mono {Z F F' : Hp} {ws : List V} (h : SepP Z F ws) (S : Same F F') : SepP Z F' ws := by
  obtain ⟨qs, e, k, nd⟩ := h
  exact ⟨qs, e, fun q hq => ⟨S _ _ (k q hq).1, S _ _ (k q hq).2.1, (k q hq).2.2⟩, nd⟩
theorem SepA.mono {Z F F' : Hp} {p : Addr} (h : SepA Z F p) (S : Same F F') : SepA Z F' p := by
  obtain ⟨ws, e, k⟩ := h
  exact ⟨ws, S _ _ e, k.mono S⟩
theorem SepP.snoc {Z F F' : Hp} {ws us : List V} {q r : Addr} {b : V} (h : SepP Z F ws) (S : Same F F') (hf : F r = none) (hz : Z r = none) (ht : F' q = some (.tup [b, .ref r])) (hr : F' r = some (.lst us)) : SepP Z F' (ws ++ [.ref q]) := by
  obtain ⟨qs, e, k, nd⟩ := h
  refine ⟨qs ++ [(q, b, r, us)], by rw [e, List.map_append]; rfl, fun x hx => ?_, ?_⟩
  · rcases List.mem_append.mp hx with hx | hx
    · exact ⟨S _ _ (k x hx).1, S _ _ (k x hx).2.1, (k x hx).2.2⟩
    · rw [List.mem_singleton.mp hx]; exact ⟨ht, hr, hz⟩
  · rw [List.map_append, List.nodup_append]
    refine ⟨nd, by simp, fun x hx y hy z => ?_⟩
    obtain ⟨w, hw, rfl⟩ := List.mem_map.mp hx
    have hy : y = r := by simpa using hy
    have := (k w hw).2.1
    rw [z, hy, hf] at this
    exact nomatch this
theorem RL.pt {a : Type} [Py a] {F : Hp} : ∀ {ws : List V} {xs : List a}, ws.length = xs.length → (∀ (m : Nat) (w : V) (x : a), ws[m]? = some w → xs[m]? = some x → R F w x) → RL F ws xs
  | [], [], _, _ => RL.nil
  | [], _ :: _, e, _ => by simp at e
  | _ :: _, [], e, _ => by simp at e
  | w :: ws, x :: xs, e, h => RL.cons (h 0 w x rfl rfl) (RL.pt (by simpa using e) fun m w x a b => h (m + 1) w x a b)
theorem sep_put {Z : Ent} {F H : Hp} (O : Ow Z F [] H) (P0 : Same Z.F Z.H) {pa q r : Addr} {b : V} {ws us : List V} {xs : List ((Int × Int) × List Int)} {row : List Int} {y : Int × Int} {n j : Nat} {v : Int}
    (hS : SepA Z.H F pa) (hpa : F pa = some (.lst ws)) (hl : RL F ws xs) (e : ws[n]? = some (.ref q)) (hq : F q = some (.tup [b, .ref r])) (hr : F r = some (.lst us)) (hb : R F b y) (hus : RL F us row) :
    ∃ F', Ow Z F' [] (upd H r (.lst (us.set j (.int v)))) ∧ Same Z.F F' ∧ R F' (.ref pa) (xs.set n (y, row.set j v)) := by
  obtain ⟨ws', e1, qs, e2, k, nd⟩ := hS
  rw [hpa] at e1
  have e1 : ws = ws' := by injection e1 with e1; injection e1
  subst e1
  have at_ : ∀ {m : Nat} {w : V}, ws[m]? = some w → ∃ x, qs[m]? = some x ∧ w = .ref x.1 := fun {m w} h => by
    rw [e2, List.getElem?_map] at h
    cases h2 : qs[m]? with
    | none => rw [h2] at h; exact nomatch h
    | some x => rw [h2] at h; exact ⟨x, rfl, (Option.some.inj h).symm⟩
  obtain ⟨x0, hx0, ex0⟩ := at_ e
  have kx := k x0 (List.mem_of_getElem? hx0)
  have eq0 : q = x0.1 := by injection ex0
  subst eq0
  rw [hq] at kx
  have two : ∀ {b b' : V} {r r' : Addr}, (some (HO.tup [b, .ref r]) : Option HO) = some (.tup [b', .ref r']) → r = r' := fun h => by
    injection h with h
    injection h with h
    injection h with _ h
    injection h with h
    injection h
  have er : r = x0.2.2.1 := two kx.1
  have hz : Z.H r = none := by rw [er]; exact kx.2.2
  have hzf : Z.F r = none := by
    cases h : Z.F r with
    | none => rfl
    | some o => rw [P0 _ _ h] at hz; exact nomatch hz
  have hus' := RL.ints hus
  refine ⟨upd F r (.lst (us.set j (.int v))), ⟨⟨fun c u h => ?_, Same.upd2 O.g.s, fun c u hc h => ?_, fun c h => ?_, fun c h => ?_, fun c z h => ?_⟩, fun _ h => (nomatch h), fun _ h => (nomatch h), List.nodup_nil, fun _ h => (nomatch h), fun _ h => nomatch h⟩, fun c u h => ?_, ?_⟩
  · rw [upd_ne (fun z => by subst z; rw [hzf] at h; exact nomatch h)]
    exact O.g.f _ _ h
  · rw [upd_ne (fun z => by subst z; rw [hz] at h; exact nomatch h)]
    exact O.g.k _ _ hc h
  · by_cases z : c = r
    · subst z; rw [upd_same]; exact fun z => nomatch z
    · rw [upd_ne z]; exact O.g.t _ h
  · rw [upd_ne (fun z => by subst z; exact h hz)]
    exact O.g.n _ h
  · by_cases w : c = r
    · subst w; rw [upd_same] at h; exact nomatch h
    · rw [upd_ne w] at h; exact O.g.u _ _ h
  · rw [upd_ne (fun z => by subst z; rw [hzf] at h; exact nomatch h)]
    exact O.g.f _ _ h
  · have tp : ∀ (c : Addr) (z : List V), F c = some (.tup z) → upd F r (.lst (us.set j (.int v))) c = some (.tup z) := fun c z h => by
      rw [upd_ne (fun w => by subst w; rw [hr] at h; exact nomatch h)]
      exact h
    have hpr : pa ≠ r := fun z => by
      subst z
      rw [hpa] at hr
      have hr : ws = us := by injection hr with hr; injection hr
      rw [hr, hus', List.getElem?_map] at e
      cases h2 : row[n]? with
      | none => rw [h2] at e; exact nomatch e
      | some x => rw [h2] at e; exact nomatch e
    refine R.lst (by rw [upd_ne hpr]; exact hpa) (RL.pt (by rw [List.length_set]; exact hl.len) fun m w x h1 h2 => ?_)
    by_cases c : n = m
    · subst c
      have hn : n < xs.length := by
        rw [← hl.len]
        exact (List.getElem?_eq_some_iff.mp h1).1
      rw [List.getElem?_set_self hn] at h2
      rw [e] at h1
      cases h1
      cases h2
      refine R.t2 (tp _ _ hq) (NoL.mv _ _ tp _ _ hb) ?_
      refine R.lst upd_same ?_
      rw [hus']
      have := RL.of_ints (H := upd F r (.lst (us.set j (.int v)))) (xs := row.set j v)
      rw [List.map_set] at this
      rw [hus'] at this
      exact this
    · rw [List.getElem?_set_ne c] at h2
      obtain ⟨w', hw', rw'⟩ := hl.get h2
      rw [h1] at hw'
      cases hw'
      obtain ⟨q1, b1, v1, e3, hq1, hb1, hv1⟩ := R.t2_ rw'
      subst e3
      obtain ⟨r1, us1, e4, hr1, hu1⟩ := R.lst_ hv1
      subst e4
      obtain ⟨x1, hx1, ex1⟩ := at_ h1
      have k1 := k x1 (List.mem_of_getElem? hx1)
      have eq1 : q1 = x1.1 := by injection ex1
      subst eq1
      rw [hq1] at k1
      have er1 : r1 = x1.2.2.1 := two k1.1
      have hne : r1 ≠ r := fun z => by
        have g1 : (qs.map fun q => q.2.2.1)[n]? = some r := by rw [List.getElem?_map, hx0, er]; rfl
        have g2 : (qs.map fun q => q.2.2.1)[m]? = some r := by rw [List.getElem?_map, hx1, ← z, er1]; rfl
        exact c (nd_ix nd g1 g2)
      refine R.t2 (tp _ _ hq1) (NoL.mv _ _ tp _ _ hb1) (R.lst (by rw [upd_ne hne]; exact hr1) ?_)
      rw [RL.ints hu1]
      exact RL.of_ints
/-! ### d.setdefault(k, z), d.get(k, z) -/
def dSetd {κ β : Type} [DecidableEq κ] (xs : List (κ × β)) (k : κ) (z : β) : List (κ × β) := match dGet xs k with
  | some _ => xs
  | none => dPut xs k z
def setdD {κ β : Type} [DecidableEq κ] (xs : List (κ × β)) (k : κ) (z : β) : M (β × List (κ × β)) := if xs.length < 16777216 then .ok ((dGet xs k).getD z, dSetd xs k z) else bad
theorem wp_setdD {κ β a : Type} [DecidableEq κ] {Q : a → Prop} {E : String → Prop} {xs : List (κ × β)} {j : κ} {y : β} {k : β × List (κ × β) → M a} (h : wp (setdD xs j y >>= k) Q E) : xs.length < sizeLine ∧ wp (k ((dGet xs j).getD y, dSetd xs j y)) Q E := by
  unfold setdD at h
  by_cases hl : xs.length < 16777216
  · rw [if_pos hl] at h
    exact ⟨lt_line hl, h⟩
  · rw [if_neg hl] at h
    exact h.elim
section
variable {κ K' β : Type} [DK κ K'] [DecidableEq κ] [DecidableEq K'] [Py β] {F : Hp} {kvs : List (K' × V)} {xs : List (κ × β)}
theorem setd_ok (h : RD F kvs xs) (k : κ) {vz : V} {z : β} (hz : R F vz z) : ∃ v' kvs', RD F kvs' (dSetd xs k z) ∧ R F v' ((dGet xs k).getD z) ∧ (valV kvs (DK.kk k) = none → v' = vz ∧ kvs' = putK kvs (DK.kk k) vz) ∧ (∀ u, valV kvs (DK.kk k) = some u → v' = u ∧ kvs' = kvs) := by
  unfold dSetd
  rcases h.get k with ⟨a, b⟩ | ⟨y, v, a, b, c⟩
  · rw [a, b]; exact ⟨vz, _, h.put k hz, hz, fun _ => ⟨rfl, rfl⟩, fun u e => nomatch e⟩
  · rw [a, b]; exact ⟨v, kvs, h, c, fun e => (nomatch e), fun u e => ⟨Option.some.inj e, rfl⟩⟩
theorem dgetD_any (h : RD F kvs xs) (k : κ) {vz : V} {z : β} (hz : R F vz z) : ∃ v, (valV kvs (DK.kk k)).getD vz = v ∧ R F v ((dGet xs k).getD z) := by
  rcases h.get k with ⟨a, b⟩ | ⟨y, v, a, b, c⟩
  · rw [a, b]; exact ⟨_, rfl, hz⟩
  · rw [a, b]; exact ⟨_, rfl, c⟩
end
def tDSetdX (td ty tx : TE) : TE := fun σ H Q => td σ H fun x H1 => ∃ a, x = .ref a ∧ L2.IsD H1 a ∧ ty σ H1 fun y H2 => tx σ H2 fun z H3 => ∃ (kvs : List (Key × V)) (k : Key) (v' : V) (kvs' : List (Key × V)), H3 a = some (.dK kvs) ∧ y = kV k ∧ kvs.length < sizeLine ∧
  (valV kvs k = none → v' = z ∧ kvs' = putK kvs k z) ∧ (∀ u, valV kvs k = some u → v' = u ∧ kvs' = kvs) ∧ Q v' (upd H3 a (.dK kvs'))
theorem pe_dsetdX {X : Cx} {o e f : Expr} {td ty tx : TE} {apos cpos : Pos} (ho : PE X o td) (he : PE X e ty) (hf : PE X f tx) (m : M2 X o "setdefault" apos e f cpos) : PE X (.Call (.Attribute o "setdefault" apos) [e, f] [] cpos) (tDSetdX td ty tx) := by
  refine ⟨fun pins s σ H Q I h => ?_⟩
  refine wpAny_Call_method m.base m.few m.line PySem.F.plainAttrs_dict PySem.F.slot_dict_setdefault PySem.F.type_dict_setdefault (thn (ho.run pins s σ H _ I h) fun u s1 ⟨x, H1, I1, rx, a, ex, d, q1⟩ => ?_)
  subst ex
  obtain rfl : u = Value.ref a := rx
  obtain ⟨t1, t2, _⟩ := isD_at I1 d
  refine ⟨t1, t2, ?_⟩
  rw [m.trees]
  refine Calls.callWith_builtin rfl (Calls.evalArgs_plain (Calls.spliced_cons (thn (he.run pins s1 σ H1 _ I1 q1) fun iv s2 ⟨y, H2, I2, ry, q2⟩ =>
    Calls.spliced_cons (thn (hf.run pins s2 σ H2 _ I2 q2) fun fv s3 ⟨z, H3, I3, rz, kvs, k, v', kvs', ea, ey, hl, q3, q4, q5⟩ => Calls.spliced_nil ?_))))
  subst ey
  refine d_setd I3 ea ry rz hl (fun v hv w' s4 I4 rw' => ?_) fun hn w' s4 I4 rw' => ?_
  · obtain ⟨e1, e2⟩ := q4 v hv
    rw [e1, e2] at q5
    have eH : upd H3 a (.dK kvs) = H3 := by
      funext b
      by_cases c : b = a
      · subst c; rw [upd_same, ea]
      · rw [upd_ne c]
    rw [eH] at q5
    exact ⟨v, _, I4, rw', q5⟩
  · obtain ⟨e1, e2⟩ := q3 hn
    rw [e1, e2] at q5
    exact ⟨z, _, I4, rw', q5⟩
/-! ### an option of a whole number is told of any heap -/
theorem R.oi_mv {F F' : Hp} {v : V} {x : Option Int} (h : R F v x) : R F' v x := by
  cases x with
  | none => rw [R.non_ h]; exact R.non
  | some i => rw [R.int_ (R.jst_ h)]; exact R.jst R.int
instance : NoL (Option Int) := ⟨fun _ _ _ _ _ h => R.oi_mv h⟩
end PG

set_option Elab.async false
set_option linter.all false
set_option maxRecDepth 100000
set_option maxHeartbeats 4000000
namespace PG
open PySem PySem.Spec PyProof.Rows L2
open PySem.W (T3 T4 Datum DatumOrd Holds HoldAll EachIs)
variable {K0 : PySem.W.Frag} [KF K0]
/-! ### classes: their defs as they stand, as callers use them -/
structure DfM (K : PySem.W.Frag) (C : Addr) (m qual : Str) (st : Stmt) (ps : List Str) : Prop where
  ex : ∃ f fd, Fun K m qual st f fd ∧ Meth K C m f ∧ Binds K fd ps []
structure CaM (P : Program) (w : World) (K : PySem.W.Frag) (mg : Str → Option Value) (base : Heap) (C : Addr) (m : Str) (k : Nat) (ps : List Str) (sp : Sp) : Prop where
  ex : ∃ f fd, FnOk P w K mg base (L2.CX P w) k f fd ps sp ∧ Meth K C m f ∧ True ∧ Binds K fd ps []
structure DfI (K : PySem.W.Frag) (C : Addr) (qual : Str) (st : Stmt) (ps : List Str) : Prop where
  ex : ∃ f fd, Fun K "__init__" qual st f fd ∧ Mk K C f ∧ Binds K fd ps []
structure CaI (P : Program) (w : World) (K : PySem.W.Frag) (mg : Str → Option Value) (base : Heap) (C : Addr) (k : Nat) (ps : List Str) (sp : Sp) : Prop where
  ex : ∃ f fd, FnOk P w K mg base (L2.CX P w) k f fd ps sp ∧ Mk K C f ∧ True ∧ Binds K fd ps []
section
variable {P : Program} {w : World} {K : PySem.W.Frag} {mg : Str → Option Value} {base : Heap} {C : Addr}
theorem CaM.mk' {m qual : Str} {st : Stmt} {N ps : List Str} {k : Nat} {sp : Sp} (D : DfM K C m qual st ps) (S : FnScope N ps (defScope st)) (len : ∀ vs H Q E, sp vs H Q E → vs.length = ps.length)
    (hbody : ∀ (qual' : Str) (f : Addr) (cdv : Value) (A : Around) (outer : List Env) (s : Shared) (H : Hp) (vs : List V) (Q : VK) (E : XK), Room k (A.deeper (envOfC qual (defScope st) s.heap.objs.size f cdv)) → sp vs H Q E →
      ∃ t, PSs (cxOf (L2.CX P w) P w K mg base N qual (defScope st) f cdv A outer s H E) (defBody st) t ∧ t { nx := fun _ H' => Q .non H', rt := Q } (start N vs) H) : CaM P w K mg base C m (k + 1) ps sp := by
  obtain ⟨f, fd, F, m, b⟩ := D.ex
  exact ⟨f, fd, F.okX S len fun cdv A outer s H vs Q E hr h => hbody qual f cdv A outer s H vs Q E hr h, m, trivial, b⟩
theorem CaI.mk' {qual : Str} {st : Stmt} {N ps : List Str} {k : Nat} {sp : Sp} (D : DfI K C qual st ps) (S : FnScope N ps (defScope st)) (len : ∀ vs H Q E, sp vs H Q E → vs.length = ps.length)
    (hbody : ∀ (qual' : Str) (f : Addr) (cdv : Value) (A : Around) (outer : List Env) (s : Shared) (H : Hp) (vs : List V) (Q : VK) (E : XK), Room k (A.deeper (envOfC qual (defScope st) s.heap.objs.size f cdv)) → sp vs H Q E →
      ∃ t, PSs (cxOf (L2.CX P w) P w K mg base N qual (defScope st) f cdv A outer s H E) (defBody st) t ∧ t { nx := fun _ H' => Q .non H', rt := Q } (start N vs) H) : CaI P w K mg base C (k + 1) ps sp := by
  obtain ⟨f, fd, F, m, b⟩ := D.ex
  exact ⟨f, fd, F.okX S len fun cdv A outer s H vs Q E hr h => hbody qual f cdv A outer s H vs Q E hr h, m, trivial, b⟩
end
/-! ### calls of methods, and a class made, within a try -/
section
variable {X : Cx} {k : Nat} {f C : Addr} {fd : FuncData} {ps : List Str} {sp : Sp} {W : WX} {x m : Str} {p apos pos : Pos} {o e : Expr} {es : List Expr} {ta : TE} {t : TA}
def tMethW (C : Addr) (m : Str) (sp : Sp) (W : WX) (ta : TE) (t : TA) : TE := fun σ H Q => ta σ H fun x H1 => ∃ a dx fs, x = .ref a ∧ H1 a = some (.ins C dx fs) ∧ fs.lookup m = none ∧
  t σ H1 fun vs H2 => sp (x :: (vs ++ [])) H2 Q fun cls d H' => W cls d σ H'
theorem pe_methW {pl : Sem Bool} (he : PE X o ta) (c : Cls X.K C) (hm : Meth X.K C m f) (F : FnOk X.prog X.w X.K X.mg X.base (L2.CX X.prog X.w) k f fd ps sp) (hr : Room k X.A) (hb : Binds X.K fd ps []) (tk : Takes X W) (ha : PA X (e :: es) t)
    (hst : starEach (e :: es) X.env = (false, eval e X.env) :: starEach es X.env := by rfl) (hpl : (backTo pos (starEach es X.env)).any (·.1) = false := by rfl)
    (ht : eval (.Call (.Attribute o m apos) (e :: es) [] pos) X.env = (do
      let ov ← eval o X.env
      standAt apos.atName
      let (f, first) ← holding [ov] (getMethod ov m pl)
      callWith pos f first (backTo pos (starEach (e :: es) X.env)) (backToKw pos (keywordEach [] X.env))) := by rfl) :
    PE X (.Call (.Attribute o m apos) (e :: es) [] pos) (tMethW C m sp W ta t) := by
  refine ⟨fun pins s σ H Q I h => ?_⟩
  refine PySem.W.methodCall_KW (pl := pl) (thn (he.run pins s σ H _ I h) fun u s1 ⟨x, H1, I1, rx, a, dx, fs, ex, ea, l, q⟩ => ?_) ht
  subst ex
  obtain rfl : u = Value.ref a := rx
  refine getmeth_ok I1 ea c hm l ?_
  refine PySem.W.callWith_K (first := [.ref a]) (h₀ := X.base) I1.ok.mod.kin hm.kp (thn (ha.run pos pins s1 σ H1 _ I1 q) fun us g ⟨vs, G, J, r, q2⟩ => ⟨J.kIn, ?_⟩) hst hpl
  have r2 : Vals (V.ref a :: (vs ++ [])) (Value.ref a :: us) := by
    rw [List.append_nil]; exact .cons rfl r
  have hl : (Value.ref a :: us).length = ps.length := by rw [← r2.length]; exact F.len _ _ _ _ q2
  refine wpAny_call (codeAny_mono (F.run X.A X.stack g G ⟨Value.ref a :: us, []⟩ (Value.ref a :: us) (V.ref a :: (vs ++ [])) Q (fun cls d H' => W cls d σ H') hr J.env0 (by have := hb g (Value.ref a :: us) J.kIn (by simpa using hl); simpa using this) r2 q2) fun res g' hq => ?_)
  cases res with
  | error z => exact tk _ _ (XE.of_call J (fun _ _ _ h => h) hq)
  | ok fl =>
    cases fl with
    | ret u => exact J.after hq
    | next => exact hq.elim
    | brk => exact hq.elim
    | cont => exact hq.elim
def tMakeW (C : Addr) (sp : Sp) (W : WX) (t : TA) : TE := fun σ H Q => t σ H fun vs H1 => ∀ x dx, H1 x = none → H1 dx = none → dx ≠ x →
  sp (.ref x :: (vs ++ [])) (upd (upd H1 dx (.own x)) x (.ins C dx [])) (fun v H2 => v = .non ∧ Q (.ref x) H2) fun cls d H' => W cls d σ H'
theorem pe_makeW (M : Mk X.K C f) (F : FnOk X.prog X.w X.K X.mg X.base (L2.CX X.prog X.w) k f fd ps sp) (hr : Room (k + 1) X.A) (hg : Gl X x) (hm : X.mg x = some (.ref C)) (hb : Binds X.K fd ps []) (tk : Takes X W)
    (ha : PA X (e :: es) t) (hdb : (x == ("__debug__" : Str)) = false := by decide) (he : starEach (e :: es) X.env = (false, eval e X.env) :: starEach es X.env := by rfl) (hpl : (backTo pos (starEach es X.env)).any (·.1) = false := by rfl) :
    PE X (.Call (.Name x p) (e :: es) [] pos) (tMakeW C sp W t) := by
  refine ⟨fun pins s σ H Q I h => wpAny_Call_Name_kw (ld_glob I hg hm ?_ hdb)⟩
  refine PySem.W.callWith_K (h₀ := X.base) I.ok.mod.kin M.kp (thn (ha.run pos pins s σ H _ I h) fun us s1 ⟨vs, H1, I1, r, h⟩ => ⟨I1.kIn, ?_⟩) he hpl
  have hq := h (s1.heap.objs.size + 1) s1.heap.objs.size (I1.hok.fresh (Nat.le_succ _)) (I1.hok.fresh (Nat.le_refl _)) (Nat.ne_of_lt (Nat.lt_succ_self _))
  have I2 := Inv.made (C := C) I1
  have r2 : Vals (V.ref (s1.heap.objs.size + 1) :: (vs ++ [])) (Value.ref (s1.heap.objs.size + 1) :: us) := by
    rw [List.append_nil]; exact .cons rfl r
  have hl : (Value.ref (s1.heap.objs.size + 1) :: us).length = ps.length := by
    have e := r2.length
    rw [F.len _ _ _ _ hq] at e
    exact e.symm
  refine wpAny_call (make_map (f := f) I1.kIn M.makes M.init (beq_iff_eq.mp M.fn) (codeAny_mono (F.run _ X.stack _ _ ⟨Value.ref (s1.heap.objs.size + 1) :: us, []⟩ (Value.ref (s1.heap.objs.size + 1) :: us) _ _ (fun cls d H' => W cls d σ H') (hr.make C us [])
    (I2.env0.make C us []) (by have := hb _ (Value.ref (s1.heap.objs.size + 1) :: us) I2.kIn (by simpa using hl); simpa using this) r2 hq) fun r s' hq' => ?_))
  cases r with
  | error e => exact tk _ _ (XE.of_call I2 (fun _ _ _ h => h) hq')
  | ok fl =>
    cases fl with
    | ret u =>
      obtain ⟨v, H', I3, rv, ev, q3⟩ := I2.after hq'
      subst ev
      exact ⟨rv, ⟨V.ref (s1.heap.objs.size + 1), H', I3, rfl, q3⟩⟩
    | next => exact False.elim hq'
    | brk => exact False.elim hq'
    | cont => exact False.elim hq'
end
/-! ### cells handed on: some that stay as they are, some that change -/
section
variable {Z : Ent} {F F' H H' : Hp} {cs ds : List (Addr × HO)} {as : List Addr} {p a q : Addr} {o o' : HO}
inductive Pk (cs : List (Addr × HO)) : List Nat → List (Addr × HO) → Prop
  | nil : Pk cs [] []
  | cons {i : Nat} {is : List Nat} {d : Addr × HO} {ds : List (Addr × HO)} : cs[i]? = some d → Pk cs is ds → Pk cs (i :: is) (d :: ds)
theorem Pk.mem {is : List Nat} : ∀ {is : List Nat} {ds : List (Addr × HO)}, Pk cs is ds → ∀ d ∈ ds, d ∈ cs ∧ ∃ i ∈ is, cs[i]? = some d
  | _, _, .nil, d, h => nomatch h
  | _, _, .cons e r, d, h => by
    rcases List.mem_cons.mp h with rfl | h
    · exact ⟨List.mem_of_getElem? e, _, List.mem_cons_self, e⟩
    · obtain ⟨h1, i, h2, h3⟩ := Pk.mem (is := []) r d h
      exact ⟨h1, i, List.mem_cons_of_mem _ h2, h3⟩
theorem Pk.nodup (nd : (cs.map (·.1)).Nodup) : ∀ {is : List Nat} {ds : List (Addr × HO)}, Pk cs is ds → is.Nodup → (ds.map (·.1)).Nodup
  | _, _, .nil, _ => List.nodup_nil
  | _, _, .cons (i := i) (d := d) e r, n => by
    have n := List.nodup_cons.mp n
    rw [List.map_cons, List.nodup_cons]
    refine ⟨fun hm => ?_, Pk.nodup nd r n.2⟩
    obtain ⟨c, hc, ec⟩ := List.mem_map.mp hm
    obtain ⟨_, j, hj, ej⟩ := Pk.mem (is := []) r c hc
    have h1 : (cs.map (·.1))[i]? = some d.1 := by rw [List.getElem?_map, e]; rfl
    have h2 : (cs.map (·.1))[j]? = some d.1 := by rw [List.getElem?_map, ej, ← ec]; rfl
    exact n.1 (nd_ix nd h1 h2 ▸ hj)
theorem Ow.preIx (O : Ow Z F cs H) (is : List Nat) (h : Pk cs is ds) (n : is.Nodup := by decide) : Pre F ds H where
  s := O.g.s
  cf := fun c hc => O.cf c (h.mem (is := []) c hc).1
  ch := fun c hc => O.ch c (h.mem (is := []) c hc).1
  nd := h.nodup O.nd n
  nt := fun c hc => O.nt c (h.mem (is := []) c hc).1
/-- cells of the entry that stand as they stood -/
theorem Gr.less {bs : List Addr} (g : Gr as F H F' H') (h : ∀ b ∈ as, b ∈ bs ∨ ∃ o, H b = some o ∧ H' b = some o) : Gr bs F H F' H' where
  f := g.f
  s := g.s
  k := fun b o hb e => by
    by_cases z : b ∈ as
    · rcases h b z with w | ⟨o', e1, e2⟩
      · exact (hb w).elim
      · rw [e] at e1
        rw [e2, Option.some.inj e1]
    · exact g.k b o z e
  t := g.t
  n := g.n
  u := g.u
theorem Kp.less {bs : List Addr} {H1 : Hp} (k : Kp as H H1) (h : ∀ b ∈ as, b ∈ bs ∨ ∃ o, H b = some o ∧ H1 b = some o) : Kp bs H H1 where
  k := fun b o hb e => by
    by_cases z : b ∈ as
    · rcases h b z with w | ⟨o', e1, e2⟩
      · exact (hb w).elim
      · rw [e] at e1
        rw [e2, Option.some.inj e1]
    · exact k.k b o z e
  t := k.t
theorem less_nil {bs : List Addr} {H1 : Hp} : ∀ b ∈ ([] : List Addr), b ∈ bs ∨ ∃ o, H b = some o ∧ H1 b = some o := fun _ h => nomatch h
theorem less_same {bs : List Addr} {H1 : Hp} (e1 : H a = some o) (e2 : H1 a = some o) (h : ∀ b ∈ as, b ∈ bs ∨ ∃ o, H b = some o ∧ H1 b = some o) : ∀ b ∈ a :: as, b ∈ bs ∨ ∃ o, H b = some o ∧ H1 b = some o := fun b hb => by
  rcases List.mem_cons.mp hb with rfl | hb
  · exact .inr ⟨o, e1, e2⟩
  · exact h b hb
theorem less_in {bs : List Addr} {H1 : Hp} (e : a ∈ bs) (h : ∀ b ∈ as, b ∈ bs ∨ ∃ o, H b = some o ∧ H1 b = some o) : ∀ b ∈ a :: as, b ∈ bs ∨ ∃ o, H b = some o ∧ H1 b = some o := fun b hb => by
  rcases List.mem_cons.mp hb with rfl | hb
  · exact .inl e
  · exact h b hb
theorem nd_set : ∀ {l : List Addr} {i : Nat} {p : Addr}, l.Nodup → i < l.length → p ∉ l → (l.set i p).Nodup
  | [], _, _, _, h, _ => absurd h (Nat.not_lt_zero _)
  | x :: l, 0, p, nd, _, hm => List.nodup_cons.mpr ⟨fun h => hm (List.mem_cons_of_mem _ h), (List.nodup_cons.mp nd).2⟩
  | x :: l, i + 1, p, nd, h, hm => by
    have n := List.nodup_cons.mp nd
    refine List.nodup_cons.mpr ⟨fun hx => ?_, nd_set n.2 (Nat.lt_of_succ_lt_succ h) fun w => hm (List.mem_cons_of_mem _ w)⟩
    rcases List.mem_or_eq_of_mem_set hx with w | w
    · exact n.1 w
    · exact hm (by rw [← w]; exact List.mem_cons_self)
/-- a cell of ours at another state, told by its place: the cells that a call may have changed -/
structure OwC (Z : Ent) (F : Hp) (cs : List (Addr × HO)) (as : List Addr) (H : Hp) : Prop where
  g : Gr Z.as Z.F Z.H F H
  cf : ∀ c ∈ cs, F c.1 = none
  ch : ∀ c ∈ cs, c.1 ∉ as → H c.1 = some c.2
  nd : (cs.map (·.1)).Nodup
  ca : ∀ c ∈ cs, c.1 ∈ Z.as ∨ Z.H c.1 = none
  nt : ∀ c ∈ cs, noTup c.2 = true
theorem Ow.callC (O : Ow Z F cs H) (g : Gr as F H F' H') (hin : ∀ b ∈ as, ∃ o, (b, o) ∈ cs) : OwC Z F' cs as H' where
  g := O.g.then g fun b hb => by
    obtain ⟨o, hc⟩ := hin b hb
    exact O.ca _ hc
  cf := fun c hc => g.none (O.ch c hc) (O.nt c hc) (O.cf c hc)
  ch := fun c hc hn => g.k _ _ hn (O.ch c hc)
  nd := O.nd
  ca := O.ca
  nt := O.nt
theorem OwC.set (O : OwC Z F cs (a :: as) H) (i : Nat) (e : cs[i]? = some (a, o)) (h' : H a = some o') (hn : noTup o' = true := by rfl) : OwC Z F (cs.set i (a, o')) as H := by
  have m := List.mem_of_getElem? e
  refine ⟨O.g, fun c hc => ?_, fun c hc hx => ?_, by rw [map_set_fst e]; exact O.nd, fun c hc => ?_, fun c hc => ?_⟩
  · rcases nd_other O.nd e hc with rfl | ⟨h1, _⟩
    · exact O.cf (a, o) m
    · exact O.cf c h1
  · rcases nd_other O.nd e hc with rfl | ⟨h1, h2⟩
    · exact h'
    · exact O.ch c h1 fun z => (List.mem_cons.mp z).elim h2 hx
  · rcases nd_other O.nd e hc with rfl | ⟨h1, _⟩
    · exact O.ca (a, o) m
    · exact O.ca c h1
  · rcases nd_other O.nd e hc with rfl | ⟨h1, _⟩
    · exact hn
    · exact O.nt c h1
theorem OwC.later (O : OwC Z F cs (a :: as) H) : OwC Z F cs (as ++ [a]) H := ⟨O.g, O.cf, fun c hc hn => O.ch c hc fun z => hn (by
  rcases List.mem_cons.mp z with w | w
  · rw [w]; simp
  · exact List.mem_append_left _ w), O.nd, O.ca, O.nt⟩
/-- the cell at i is gone: another one stands in its place -/
theorem OwC.repl (O : OwC Z F cs [a] H) (i : Nat) (e : cs[i]? = some (a, o)) (hm : p = a ∨ p ∉ cs.map (·.1)) (hz : p ∈ Z.as ∨ Z.H p = none) (hf : F p = none) (h : H p = some o') (ht : noTup o' = true := by rfl) : OwC Z F (cs.set i (p, o')) [] H := by
  have nd2 : ((cs.set i (p, o')).map (·.1)).Nodup := by
    rw [List.map_set]
    rcases hm with rfl | hm
    · have : (cs.map (·.1)).set i p = cs.map (·.1) := by
        rw [← List.map_set (f := (·.1)) (a := (p, o))]
        exact map_set_fst e
      rw [this]
      exact O.nd
    · obtain ⟨hl, _⟩ := List.getElem?_eq_some_iff.mp e
      exact nd_set O.nd (by rw [List.length_map]; exact hl) hm
  have oth : ∀ c ∈ cs.set i (p, o'), c = (p, o') ∨ (c ∈ cs ∧ c.1 ≠ a) := fun c hc => by
    obtain ⟨j, hj⟩ := List.mem_iff_getElem?.mp hc
    by_cases hij : i = j
    · subst hij
      obtain ⟨hl, _⟩ := List.getElem?_eq_some_iff.mp e
      rw [List.getElem?_set_self hl] at hj
      exact .inl (Option.some.inj hj).symm
    · rw [List.getElem?_set_ne hij] at hj
      refine .inr ⟨List.mem_of_getElem? hj, fun z => hij ?_⟩
      have h1 : (cs.map (·.1))[i]? = some a := by rw [List.getElem?_map, e]; rfl
      have h2 : (cs.map (·.1))[j]? = some a := by rw [List.getElem?_map, hj, ← z]; rfl
      exact nd_ix O.nd h1 h2
  refine ⟨O.g, fun c hc => ?_, fun c hc hx => ?_, nd2, fun c hc => ?_, fun c hc => ?_⟩
  · rcases oth c hc with rfl | ⟨h1, _⟩
    · exact hf
    · exact O.cf c h1
  · rcases oth c hc with rfl | ⟨h1, h2⟩
    · exact h
    · exact O.ch c h1 fun z => (List.mem_cons.mp z).elim h2 (fun z => nomatch z)
  · rcases oth c hc with rfl | ⟨h1, _⟩
    · exact hz
    · exact O.ca c h1
  · rcases oth c hc with rfl | ⟨h1, _⟩
    · exact ht
    · exact O.nt c h1
theorem Ow.repl (O : Ow Z F cs H) (i : Nat) (e : cs[i]? = some (a, o)) (hm : p ∉ cs.map (·.1)) (hz : Z.H p = none) (hf : F p = none) (h : H p = some o') (ht : noTup o' = true := by rfl) : Ow Z F (cs.set i (p, o')) H := by
  have O1 : OwC Z F cs [a] H := ⟨O.g, O.cf, fun c hc _ => O.ch c hc, O.nd, O.ca, O.nt⟩
  have O2 := O1.repl i e (.inr hm) (.inr hz) hf h ht
  exact ⟨O2.g, O2.cf, fun c hc => O2.ch c hc (fun h => nomatch h), O2.nd, O2.ca, O2.nt⟩
theorem Ow.freshX (O : Ow Z F cs H) (i : Nat) (e : cs[i]? = some (a, o)) (h : p = a ∨ H p = none) : p = a ∨ p ∉ cs.map (·.1) := h.imp id fun h => O.fresh h
theorem Ow.wasX (O : Ow Z F cs H) (i : Nat) (e : cs[i]? = some (a, o)) (h : p = a ∨ H p = none) : p ∈ Z.as ∨ Z.H p = none := by
  rcases h with rfl | h
  · exact O.ca _ (List.mem_of_getElem? e)
  · exact .inr (O.was h)
theorem orx {q a a0 : Addr} {H ZH : Hp} (h1 : q = a ∨ H q = none) (h2 : a = a0 ∨ ZH a = none) (h3 : H q = none → ZH q = none) : q = a0 ∨ ZH q = none := by
  rcases h1 with rfl | h1
  · exact h2
  · exact .inr (h3 h1)
theorem nmem_set {q : Addr} {l : List Addr} {i : Nat} (h2 : p ∉ l) (h1 : p ≠ q) : p ∉ l.set i q := fun h => by
  rcases List.mem_or_eq_of_mem_set h with w | w
  · exact h2 w
  · exact h1 w
theorem OwC.done (O : OwC Z F cs [] H) : Ow Z F cs H := ⟨O.g, O.cf, fun c hc => O.ch c hc (fun h => nomatch h), O.nd, O.ca, O.nt⟩
/-- a store whose outcome is told otherwise -/
theorem Ow.setE (O : Ow Z F cs H) (i : Nat) {o1 o2 : HO} (he : o1 = o2) (e : cs[i]? = some (a, o)) (hn : noTup o2 = true := by rfl) : Ow Z F (cs.set i (a, o2)) (upd H a o1) := by
  subst he
  exact O.set i o1 e hn
theorem nmemC {b : Addr} {l : List Addr} (h1 : p ≠ b) (h2 : p ∉ l) : p ∉ b :: l := fun h => (List.mem_cons.mp h).elim h1 h2
/-- a new object, as yet without fields -/
theorem Ow.made {x dx C : Addr} (O : Ow Z F cs H) (nx : H x = none) (ndx : H dx = none) (ne : dx ≠ x) : ∃ F', Ow Z F' ((x, .ins C dx []) :: cs) (upd (upd H dx (.own x)) x (.ins C dx [])) ∧ Same F F' := by
  refine ⟨_, (O.put (o := .own x) ndx).new (o := .ins C dx []) (by rw [upd_ne ne.symm]; exact nx), O.putS ndx⟩
theorem Ow.setIns {x dx C : Addr} {fs fs' : List (Str × V)} (O : Ow Z F cs H) (i : Nat) (e : cs[i]? = some (x, .ins C dx fs)) (he : fs' = fs' := by rfl) : Ow Z F (cs.set i (x, .ins C dx fs')) (upd H x (.ins C dx fs')) := O.set i _ e rfl
end
theorem pe_fldK {X : Cx} {K : PySem.W.Frag} {e : Expr} {f : Str} {pos : Pos} {ta : TE} (h : X.K = K) (he : PE X e ta) (hb : attributeBase e f X.env (eval e X.env) = eval e X.env) : PE X (.Attribute e f pos) (tFld K ta f) := by
  rw [← h]; exact pe_fld he hb
/-! ### few fields -/
theorem putF_nil {f : Str} {v : V} : putF f v [] = [(f, v)] := rfl
theorem putF_eq {f : Str} {v x : V} {r : List (Str × V)} : putF f v ((f, x) :: r) = (f, v) :: r := if_pos rfl
theorem putF_ne {f g : Str} {v x : V} {r : List (Str × V)} (h : ¬ g = f) : putF f v ((g, x) :: r) = (g, x) :: putF f v r := if_neg h
theorem lk_eq {f : Str} {x : V} {r : List (Str × V)} : ((f, x) :: r).lookup f = some x := by
  show (match f == f with | true => some x | false => r.lookup f) = some x
  rw [show (f == f) = true from beq_self_eq_true f]
theorem lk_ne {f g : Str} {x : V} {r : List (Str × V)} (h : ¬ f = g) : ((g, x) :: r).lookup f = r.lookup f := by
  show (match f == g with | true => some x | false => r.lookup f) = _
  rw [show (f == g) = false from beq_eq_false_iff_ne.mpr h]
theorem few0 : ([] : List (Str × V)).length ≤ 0 := Nat.le_refl _
theorem fewS {f : Str} {v : V} {n : Nat} : ∀ {fs : List (Str × V)}, fs.length ≤ n → (putF f v fs).length ≤ n + 1
  | [], _ => Nat.succ_le_succ (Nat.zero_le _)
  | (g, u) :: fs, h => by
    show (if g = f then (g, v) :: fs else (g, u) :: putF f v fs).length ≤ n + 1
    by_cases c : g = f
    · rw [if_pos c]; exact Nat.le_succ_of_le h
    · rw [if_neg c]
      cases n with
      | zero => exact absurd h (Nat.not_succ_le_zero _)
      | succ n => exact Nat.succ_le_succ (fewS (Nat.le_of_succ_le_succ h))
theorem few_lt {fs : List (Str × V)} {n : Nat} (h : fs.length ≤ n) (hn : n < 1000 := by decide) : fs.length < 1000 := Nat.lt_of_le_of_lt h hn
/-! ### d.pop(k, z), d a dict of ours whose keys are pairs of whole numbers -/
def dDrop {κ β : Type} [DecidableEq κ] (xs : List (κ × β)) (k : κ) : List (κ × β) := xs.filter fun p => decide (p.1 ≠ k)
section
variable {κ K' β : Type} [DK κ K'] [DecidableEq κ] [DecidableEq K'] [Py β] {F : Hp}
theorem RD.drop : ∀ {kvs : List (K' × V)} {xs : List (κ × β)}, RD F kvs xs → ∀ k : κ, RD F (dropK kvs (DK.kk k)) (dDrop xs k) := by
  intro kvs xs h k
  induction h with
  | nil => exact RD.nil
  | @cons j v y kvs xs h hs ih =>
    unfold dropK dDrop at ih ⊢
    rw [List.filter_cons, List.filter_cons]
    by_cases c : j = k
    · have c1 : ¬ decide ((DK.kk j : K') ≠ DK.kk k) = true := by simp [c]
      have c2 : ¬ decide (j ≠ k) = true := by simp [c]
      rw [if_neg c1, if_neg c2]
      exact ih
    · have c1 : decide ((DK.kk j : K') ≠ DK.kk k) = true := decide_eq_true fun z => c (DK.inj j k z)
      have c2 : decide (j ≠ k) = true := decide_eq_true c
      rw [if_pos c1, if_pos c2]
      exact .cons h ih
end
theorem dropK_id {κ : Type} [DecidableEq κ] {kvs : List (κ × V)} {k : κ} (h : valV kvs k = none) : dropK kvs k = kvs := by
  unfold dropK
  refine List.filter_eq_self.mpr fun p hp => decide_eq_true fun e => ?_
  unfold valV at h
  rw [Option.map_eq_none_iff, List.find?_eq_none] at h
  exact h p hp (decide_eq_true e)
theorem dpop_ok {H : Hp} {a b : Addr} {kvs : List (List Key × V)} {i j : Int} {d : V} {Q : VK} (ha : H a = some (.dT kvs)) (hb : H b = some (.tup [.int i, .int j])) (q : ∀ v, Q v (upd H a (.dT (dropK kvs (DK.kk (i, j)))))) : L2.DX.rPopT (.ref a) [.ref b, d] H Q := by
  refine ⟨a, kvs, [.inl i, .inl j], b, d, rfl, rfl, ha, hb, fun v _ => q v, fun h => ?_⟩
  have := q d
  have e : upd H a (.dT (dropK kvs (DK.kk (i, j)))) = H := by
    funext c
    by_cases z : c = a
    · subst z
      rw [upd_same, ha]
      exact congrArg (fun x => some (HO.dT x)) (dropK_id h)
    · rw [upd_ne z]
  rw [e] at this
  exact this
/-! ### a pair and one number more -/
theorem catT_ok {K : PySem.W.Frag} {H : Hp} {a b : Addr} {v1 v2 v3 : V} {Q : VK} (ha : SqT K H a [v1, v2]) (hb : SqT K H b [v3]) (q : ∀ p, H p = none → Q (.ref p) (upd H p (.tup [v1, v2, v3]))) : rCatT K (.ref a) (.ref b) H Q :=
  ⟨a, b, _, _, rfl, rfl, ha, hb, (fun z => nomatch z), by show (3 : Nat) ≤ sizeLine; decide, (fun z => nomatch z), fun _ => q⟩
theorem op_catTK {X : Cx} {K : PySem.W.Frag} (h : X.K = K) : OpR X (binaryOp .Add) (rCatT K) := by rw [← h]; exact op_catT
/-! ### sorted(t), t a tuple -/
section
open PySem.Calls PyProof.V PySem.W
variable {prog : Program} {w : World} {A : Around} {E : Value → Shared → Prop} {s : Shared} {l : Addr} {vs : List Value}
theorem collect_tup {o : Obj} {n : Nat} {Q : List Value → Shared → Prop} (ho : s.heap.get? l = some o) (hc : o.cls = .type "tuple") (hd : o.data = .seq vs.toArray n)
    (h : Q vs { s with heap := (s.heap.push (seqObj "list" #[] 0)).update s.heap.objs.size (Obj.mapSeq (· ++ vs.toArray)) }) (hsz : vs.length ≤ sizeLine) :
    wpAny (model prog w) A (collect (.ref l)) Q E s := by
  unfold collect
  refine wpAny_bind (wpAny_runValue (codeAny_builtin entry_proto_collect' ?_))
  show wpAny _ _ (do again (.builtin "list.__iadd__" ⟨[← newList [], .ref l], []⟩)) _ _ s
  refine wpAny_bind (wpAny_newList (wpAny_pure ⟨Code.quiet_builtin _ (by decide +kernel), codeAny_builtin entry_list_iadd' ?_⟩) (Nat.zero_le _))
  show wpAny _ _ (Builtin.List.listExtendWith (.ref s.heap.objs.size) (.ref l) (.ref s.heap.objs.size)) _ _ { s with heap := s.heap.push (seqObj "list" #[] 0) }
  unfold Builtin.List.listExtendWith
  have ho' : (s.heap.push (seqObj "list" #[] 0)).get? l = some o := Heap.get?_push_of_some _ ho
  refine wpAny_bind (wpAny_typeOf (T := "tuple") ⟨o, ho', hc⟩ ?_)
  have ht : (Value.type "tuple" == Value.type "tuple") = true := by rfl
  rw [if_pos (by rw [ht]; simp)]
  refine wpAny_bind (listItems_at ho' hd ?_)
  refine wpAny_bind (listItems_at (xs := #[]) (n := 0) (Heap.get?_push_size _ rfl) rfl ?_)
  rw [if_neg (by simp)]
  refine wpAny_bind (listUpdate_at (xs := #[]) (n := 0) (Heap.get?_push_size _ rfl) rfl ?_ (Nat.zero_le _) (by show (#[] ++ vs.toArray).size ≤ sizeLine + 1; simp only [Array.size_append, List.size_toArray, List.length_nil]; omega))
  refine wpAny_pure ?_
  show wpAny (model prog w) A (do
      let o ← load s.heap.objs.size
      match o.data with
      | .seq xs _ => pure xs.toList
      | _ => unsupported "internal:collect") Q E { s with heap := (s.heap.push (seqObj "list" #[] 0)).update s.heap.objs.size (Obj.mapSeq (· ++ vs.toArray)) }
  refine wpAny_bind (wpAny_load (get?_update_seq (Heap.get?_push_size _ rfl) _) ?_)
  show wpAny _ _ (pure ((#[] : Array Value) ++ vs.toArray).toList) Q E _
  rw [show ((#[] : Array Value) ++ vs.toArray).toList = vs by simp]
  exact wpAny_pure h
theorem sortedT_of_sort {o : Obj} {n : Nat} {Q : Value → Shared → Prop} (ho : s.heap.get? l = some o) (hc : o.cls = .type "tuple") (hd : o.data = .seq vs.toArray n) (hL : vs.length ≤ sizeLine)
    (body : ∀ E' : Value → Shared → Prop, wpAny (model prog w) A.in1.in1 (Builtin.«list.sort» ⟨[.ref (s.heap.objs.size + 1)], []⟩) (fun f s' => f = .done (.ret .none) ∧ Q (.ref (s.heap.objs.size + 1)) s') E' { s with heap := copyHeap s.heap vs }) :
    wpAny (model prog w) A (call (.builtin "sorted") [.ref l] []) Q E s := by
  refine call_function_entry_kw kind_sorted plain_sorted entry_sorted (args_sorted1 _) ?_
  unfold Builtin.«sorted»
  refine wpAny_bind (m := checkCount "sorted" 1 1 _) (wpAny_pure ?_)
  refine wpAny_bind (collect_tup ho hc hd ?_ hL)
  refine wpAny_bind (wpAny_newList ?_ hL)
  have hsz : ((s.heap.push (seqObj "list" #[] 0)).update s.heap.objs.size (Obj.mapSeq (· ++ vs.toArray))).objs.size = s.heap.objs.size + 1 := by
    rw [Heap.size_update, size_push']
  show wpAny _ _ _ _ _ { s with heap := copyHeap s.heap vs }
  rw [hsz]
  refine wpAny_bind (wpAny_holding (wpAny_call_entry_kw slot_list_sort ⟨_, copyHeap_at s.heap vs, rfl⟩ entry_list_sort ?body (args_list_sort _)))
  case body =>
    show wpAny (model prog w) A.in1.in1 (Builtin.«list.sort» ⟨[.ref (s.heap.objs.size + 1)], []⟩) _ _ _
    refine wpAny_mono (body _) (fun f s' hf => ?_) fun _ _ e => e
    obtain ⟨rfl, hq⟩ := hf
    exact ⟨_, rfl, wpAny_pure ⟨_, rfl, hq⟩⟩
theorem sortedT_data {β : Type} {bs : List β} {enc : β → PyData} {R : Value → β → Prop} {o : Obj} {n : Nat} {Q : Value → Shared → Prop} (ho : s.heap.get? l = some o) (hc : o.cls = .type "tuple") (hd : o.data = .seq vs.toArray n) (e : EachIs R vs bs) (er : EachIs (fun v b => ∃ as, Reads s.heap v (enc b) as) vs bs) (hal : AllAlike (bs.map enc)) (hk : Sortable (bs.map enc)) (hL : bs.length ≤ sizeLine)
    (hu : ∀ b, b ∈ bs → A.units + 2 + (enc b).depth < cLine) (h : ∀ out, out.length = bs.length → EachIs R out (bs.mergeSort (dataLe false enc)) → Q (.ref (s.heap.objs.size + 1)) { s with heap := sortedAll s.heap vs (List.toArray out) }) :
    wpAny (model prog w) A (call (.builtin "sorted") [.ref l] []) Q E s := by
  have er' : EachIs (fun v b => ∃ as, Reads (sortingHeap (copyHeap s.heap vs) (s.heap.objs.size + 1) vs) v (enc b) as) vs bs := er.mono fun _ _ ⟨as, r⟩ => ⟨as, PyProof.Rows.Reads.keeps (fun _ _ => sorting_copy_old) r⟩
  have hL2 : vs.length ≤ sizeLine := by rw [e.length]; exact hL
  refine sortedT_of_sort ho hc hd hL2 fun E' => list_sort_vals (s := { s with heap := copyHeap s.heap vs }) (copyHeap_at s.heap vs) (SortsAt.data (s := { s with heap := sortingHeap (copyHeap s.heap vs) (s.heap.objs.size + 1) vs }) (each_map (R := fun v d => ∃ as, Reads (sortingHeap (copyHeap s.heap vs) (s.heap.objs.size + 1) vs) v d as) enc er') hal hk (bound_map hu)) hL2 ⟨rfl, ?_⟩
  exact h _ (by rw [sortVals_length false rfl]; exact e.length) (sortVals_data false e er' hal)
end
section
variable {X : Cx} (a : Type) [Py a] [DecidableEq a] [DatumOrd a] [IsD a]
def rSortedTT : List V → Hp → VK → Prop := fun vs H Q => ∃ (l : Addr) (ws : List V) (xs : List a), vs = [.ref l] ∧ H l = some (.tup ws) ∧ RL H ws xs ∧ ∀ (p : Addr), H p = none → Q (.ref p) (upd H p (.lst (sortV ws xs)))
theorem cr_sortedTT [SortB a] (hu : X.A.units + 128 < cLine) (hd : Datum.depth a ≤ 100 := by decide) (hK : X.K = K0 := by rfl) : CallR X (.builtin "sorted") (rSortedTT a) := by
  subst hK
  intro pins s σ H vs us Q I r h
  obtain ⟨l, ws, xs, rfl, hl, hx, k⟩ := h
  obtain ⟨its, rv, ⟨o, e1, e2, n, e3⟩, hz⟩ := I.tuple (SqT.of (K := X.K) hl)
  rw [Vals.ref1 r]
  have hlen : ws.length = xs.length := hx.len
  have hE := each_pairs hx rv
  refine sortedT_data (bs := ws.zip xs) (enc := fun p => Datum.toD p.2) e1 e2 e3 hE (each_imp (fun u p hp => hp.2.holds I hp.1) hE) (PySem.W.AllAlike.of fun p q => DatumOrd.alike p.2 q.2) ?_ (by rw [List.length_zip, ← hlen, Nat.min_self]; exact hz) (fun p _ => ?_) fun out ho he => ?_
  · rcases SortB.ok (a := a) with q | q
    · exact PySem.W.Sortable.tuples fun p => q p.2
    · exact PySem.W.Sortable.others fun p => q p.2
  · have := Datum.depth_le p.2
    omega
  · rw [dataLe_T (fun p : V × a => p.2)] at he
    obtain ⟨q1, q2⟩ := pairs_vals he
    obtain ⟨ep, he'⟩ := PyProof.Rows.sortedAll_at s.heap its out.toArray
    refine ⟨.ref _, upd H (s.heap.objs.size + 1) (.lst _), I.laid (t' := s.toks) (fun _ _ => PyProof.Rows.sortedAll_old) (Nat.le_succ _) ⟨?_, out, ep, q1, he'⟩, rfl, k _ (I.hok.fresh (Nat.le_succ _))⟩
    rw [List.length_map, List.length_mergeSort, List.length_zip, ← hlen, Nat.min_self]
    exact hz
end
/-! ### an item of a tuple of two at a place found at run time -/
theorem ix2 {i : Int} (h : 0 ≤ i ∧ i < 2) : i = 0 ∨ i = 1 := by omega
theorem ix3 {i : Int} (h : 0 ≤ i ∧ i < 3) : i = 0 ∨ i = 1 ∨ i = 2 := by omega
/-- a name that a loop's turns bind, read behind the loop -/
def LK {a : Type} [Py a] (H : Hp) (t : Option V) (x : Option a) : Prop := match x with
  | none => True
  | some y => ∃ v, t = some v ∧ R H v y
theorem mem3 {n a b c : String} (h : n ∈ [a, b, c]) : n = a ∨ n = b ∨ n = c := by simpa using h
theorem mem4 {n a b c d : String} (h : n ∈ [a, b, c, d]) : n = a ∨ n = b ∨ n = c ∨ n = d := by simpa using h
/-- a list of just five -/
def two5 {a : Type} (xs : List a) : M (a × a × a × a × a) := match xs with
  | [x, y, z, u, v] => .ok (x, y, z, u, v)
  | _ => bad
theorem wp_two5 {a b : Type} {Q : a → Prop} {E : String → Prop} {xs : List b} {k : b × b × b × b × b → M a} (h : wp (two5 xs >>= k) Q E) : ∃ x y z u v, xs = [x, y, z, u, v] ∧ wp (k (x, y, z, u, v)) Q E := by
  match xs, h with
  | [x, y, z, u, v], h => exact ⟨x, y, z, u, v, rfl, h⟩
  | [], h => exact h.elim
  | [_], h => exact h.elim
  | [_, _], h => exact h.elim
  | [_, _, _], h => exact h.elim
  | [_, _, _, _], h => exact h.elim
  | _ :: _ :: _ :: _ :: _ :: _ :: _, h => exact h.elim
end PG
namespace PG
open PySem PySem.Spec PyProof.Rows L2
open PySem.W (T3 T4 Datum DatumOrd)
/-! ### len(set(xs)), xs a list of pairs of whole numbers -/
def setL {a : Type} [DecidableEq a] (xs : List a) : List a := xs.foldr (fun x acc => if x ∈ acc then acc else x :: acc) []
theorem setL_mem {a : Type} [DecidableEq a] {x : a} : ∀ {xs : List a}, x ∈ setL xs ↔ x ∈ xs
  | [] => Iff.rfl
  | y :: ys => by
    show x ∈ (if y ∈ setL ys then setL ys else y :: setL ys) ↔ _
    by_cases c : y ∈ setL ys
    · rw [if_pos c, setL_mem, List.mem_cons]
      exact ⟨.inr, fun h => h.elim (fun e => by rw [e]; exact setL_mem.mp c) id⟩
    · rw [if_neg c, List.mem_cons, List.mem_cons, setL_mem]
theorem setL_nd {a : Type} [DecidableEq a] : ∀ xs : List a, (setL xs).Nodup
  | [] => List.nodup_nil
  | y :: ys => by
    show (if y ∈ setL ys then setL ys else y :: setL ys).Nodup
    by_cases c : y ∈ setL ys
    · rw [if_pos c]; exact setL_nd ys
    · rw [if_neg c]; exact List.nodup_cons.mpr ⟨c, setL_nd ys⟩
theorem nd_le {a : Type} [DecidableEq a] : ∀ {l m : List a}, l.Nodup → (∀ x ∈ l, x ∈ m) → l.length ≤ m.length
  | [], _, _, _ => Nat.zero_le _
  | x :: l, m, nd, h => by
    have hx := h x List.mem_cons_self
    obtain ⟨n1, n2⟩ := List.nodup_cons.mp nd
    have := nd_le (l := l) (m := m.erase x) n2 fun y hy => (List.mem_erase_of_ne fun e => n1 (by rw [← e]; exact hy)).mpr (h y (List.mem_cons_of_mem _ hy))
    rw [List.length_erase_of_mem hx] at this
    have hp := List.length_pos_of_mem hx
    rw [List.length_cons]
    omega
section
variable {K0 : PySem.W.Frag} [KF K0]
theorem rl_pairs {F : Hp} : ∀ {vs : List V} {xs : List (Int × Int)}, RL F vs xs → ∃ ks : List (Addr × List Int), vs = ks.map (fun p => V.ref p.1) ∧ ks.map (·.2) = xs.map (fun x => [x.1, x.2]) ∧ ∀ p ∈ ks, F p.1 = some (.tup (p.2.map V.int))
  | _, [], h => ⟨[], RL.nil_ h, rfl, fun _ h => absurd h List.not_mem_nil⟩
  | _, x :: xs, h => by
    obtain ⟨w, ws, rfl, h1, h2⟩ := RL.cons_ h
    obtain ⟨ks, e1, e2, e3⟩ := rl_pairs h2
    obtain ⟨p, v1, v2, rfl, hp, r1, r2⟩ := R.t2_ h1
    obtain rfl := R.int_ r1
    obtain rfl := R.int_ r2
    exact ⟨(p, [x.1, x.2]) :: ks, by rw [e1]; rfl, by rw [List.map_cons, List.map_cons, e2], fun q hq => (List.mem_cons.mp hq).elim (fun e => by rw [e]; exact hp) (e3 q)⟩
end
def tLenSetP (K : PySem.W.Frag) (ta : TE) : TE := fun σ H Q => ta σ H fun x H1 => ∃ (l : Addr) (ks : List (Addr × List Int)) (xs : List (Int × Int)), x = V.ref l ∧ SqL K H1 l (ks.map fun p => V.ref p.1) ∧ (∀ p ∈ ks, SqT K H1 p.1 (p.2.map V.int)) ∧ ks.map (·.2) = xs.map (fun x => [x.1, x.2]) ∧ xs.length < 64 ∧ Q (.int ((setL xs).length : Nat)) H1
theorem pe_lenSetP {X : Cx} {a : Expr} {ta : TE} {p p2 q pos : Pos} (hu : X.A.units + 64 < cLine) (hc : X.calm = true) (hg : Gl X "len") (hm : X.mg "len" = none) (hg2 : Gl X "set") (hm2 : X.mg "set" = none) (ha : PE X a ta)
    (na : starEach [a] X.env = (false, eval a X.env) :: starEach [] X.env := by rfl) : PE X (.Call (.Name "len" p) [.Call (.Name "set" p2) [a] [] q] [] pos) (tLenSetP X.K ta) := by
  refine ⟨fun pins s σ H Q I h => ?_⟩
  refine Call_ (ld_blt I hg hm PySem.boot_len ?_)
  refine PyProof.Rows.callWith_builtin1 (PyProof.Rows.args_cons ?_ rfl) rfl rfl
  refine Call_ (ld_blt I hg2 hm2 PyProof.Rows.boot_set ?_)
  refine PyProof.Rows.callWith_type1 (PyProof.Rows.args_cons (thn (ha.run pins s σ H _ I h) fun v s1 ⟨x, H1, I1, r1, q1⟩ => PyProof.Rows.args_nil ?_) na) na rfl
  obtain ⟨l, ks, xs, rfl, hq, hk, hx, hf, q1⟩ := q1
  cases r1
  obtain ⟨its, rv, pl, hz⟩ := I1.list hq
  have hf : ks.length < 64 := by have := congrArg List.length hx; rw [List.length_map, List.length_map] at this; omega
  refine call_set_tups (P := X.prog) (w := X.w) ks (I1.ok.hd hc) pl.isList (by simpa using refs_of_vals rv) (fun p hp => I1.isT (hk p hp)) hf (by omega) fun h' tk L es ep t R g k => ?_
  refine PyProof.Rows.args_nil ?_
  have I2 : Inv X pins σ H1 { s1 with heap := h', toks := tk } := I1.kept fun b o e => k b o e
  obtain ⟨o, ho, hex, hd⟩ := R.ob
  have hs : es.size = L.length := SetTR.size (s := { s1 with heap := h', toks := tk }) R
  have hfit : t.fits es.size = true := SetTR.fits (s := { s1 with heap := h', toks := tk }) R
  have few := R.few
  have m1 : ∀ x ∈ L.map (·.2), x ∈ (setL xs).map (fun x => [x.1, x.2]) := fun x hm => by
    obtain ⟨p, hp, e⟩ := List.mem_map.mp hm
    have : x ∈ ks.map (·.2) := List.mem_map.mpr ⟨p, List.mem_of_mem_take (g.sub p hp), e⟩
    rw [hx] at this
    obtain ⟨y, hy, ey⟩ := List.mem_map.mp this
    exact List.mem_map.mpr ⟨y, setL_mem.mpr hy, ey⟩
  have m2 : ∀ x ∈ (setL xs).map (fun x => [x.1, x.2]), x ∈ L.map (·.2) := fun x hm => by
    obtain ⟨y, hy, ey⟩ := List.mem_map.mp hm
    have : x ∈ ks.map (·.2) := by rw [hx]; exact List.mem_map.mpr ⟨y, setL_mem.mp hy, ey⟩
    obtain ⟨p, hp, e⟩ := List.mem_map.mp this
    rw [← e]
    exact g.all p (by rw [List.take_length]; exact hp)
  have nd2 : ((setL xs).map (fun x : Int × Int => [x.1, x.2])).Nodup := by
    rw [List.nodup_iff_pairwise_ne, List.pairwise_map]
    refine (List.nodup_iff_pairwise_ne.mp (setL_nd xs)).imp fun {x y} h e => h ?_
    injection e with e1 e2
    injection e2 with e2 _
    exact Prod.ext e1 e2
  have hD : Q (.int (L.length : Nat)) H1 := by
    have a1 := nd_le R.nd m1
    have a2 := nd_le nd2 m2
    rw [List.length_map, List.length_map] at a1 a2
    have : L.length = (setL xs).length := by omega
    rw [this]
    exact q1
  exact call_len_set ho hex hd hfit (by rw [hs]; omega) ⟨.int L.length, H1, I2.tok _, ⟨_, by rw [hs]⟩, hD⟩
end PG

set_option Elab.async false
set_option linter.all false
set_option maxRecDepth 100000
set_option maxHeartbeats 4000000
namespace PG
open PySem PySem.Spec PyProof.Rows L2
open PySem.W (T3 T4 Datum DatumOrd Holds HoldAll EachIs)
variable {K0 : PySem.W.Frag} [KF K0]
/-! ### calls within an except clause's suite: defs that let nothing out -/
theorem takes_no {X : Cx} : Takes X (fun _ _ _ _ => False) := fun _ _ ⟨_, _, _, _, _, _, _, _, _, _, _, _, _, _, _, _, w⟩ => w.elim
def noX : XK := fun _ _ _ => False
def coolA (A : Around) : Around := { A with handled := none }
structure FnS (P : Program) (w : World) (K : PySem.W.Frag) (mg : Str → Option Value) (base : Heap) (k : Nat) (f : Addr) (fd : FuncData) (ps : List Str) (sp : Sp) : Prop where
  len : ∀ vs H Q E, sp vs H Q E → vs.length = ps.length
  run : ∀ (a : Addr) (A : Around) (outer : List Env) (s : Shared) (H : Hp) (args : Args) (us : List Value) (vs : List V) (Q : VK), A.handled = some (.ref a) → Room k (coolA A) → Env0 P w K mg base A outer s H → BindsTo s fd args (ps.zip us) → Vals vs us → sp vs H Q noX →
    codeAny (model P w) A (.call (.ref f) args) (CR (L2.CX P w) outer P w H s Q noX) s
structure CaS (P : Program) (w : World) (K : PySem.W.Frag) (mg : Str → Option Value) (base : Heap) (x : Str) (k : Nat) (ps : List Str) (sp : Sp) : Prop where
  ex : ∃ f fd, FnS P w K mg base k f fd ps sp ∧ mg x = some (.ref f) ∧ PySem.W.keepIn K (.ref f) = true ∧ Binds K fd ps []
theorem room_un {k : Nat} {A : Around} {h : Option Value} (r : Room k A) : Room k (coolA (A.mark h)) := ⟨rfl, r.dp, r.un⟩
section
variable {P : Program} {w : World} {K : PySem.W.Frag} {mg : Str → Option Value} {base : Heap}
theorem mark_deep {A : Around} {env : Env} {a : Addr} (hh : A.handled = some (.ref a)) : ((coolA A).deeper env).mark (some (.ref a)) = A.deeper env := by
  cases A
  cases hh
  rfl
theorem CaS.mk' {x qual : Str} {st : Stmt} {N ps : List Str} {k : Nat} {sp : Sp} (D : Df K mg x qual st ps) (S : FnScope N ps (defScope st)) (len : ∀ vs H Q E, sp vs H Q E → vs.length = ps.length)
    (hbody : ∀ (qual' : Str) (f : Addr) (cdv : Value) (A : Around) (outer : List Env) (s : Shared) (H : Hp) (vs : List V) (Q : VK) (E : XK), Room k (A.deeper (envOfC qual (defScope st) s.heap.objs.size f cdv)) → sp vs H Q E →
      ∀ a : Addr, ∃ t, PSs ((cxOf (L2.CX P w) P w K mg base N qual (defScope st) f cdv A outer s H E).suite a []) (defBody st) t ∧ t { nx := fun _ H' => Q .non H', rt := Q } (start N vs) H) : CaS P w K mg base x (k + 1) ps sp := by
  obtain ⟨f, fd, F, m, b⟩ := D.ex
  refine ⟨f, fd, ⟨len, ?_⟩, m, F.kp, b⟩
  obtain ⟨oc, od, kV, doc, pm, an, cdv, ct, osl, rfl, lk, hcd⟩ := F.ex
  intro a A outer s H args us vs Q hh hr e0 hb r hsp
  have held : ∀ b o, base.get? b = some o → s.heap.get? b = some o := fun b o e => (e0.bs b o e).1
  have e1 : Env0 P w K mg base (coolA A) outer s H := ⟨e0.frames, e0.mod, e0.bs, e0.bsz, e0.funs, e0.frf, e0.hok, e0.bare⟩
  refine codeAny_call_function hr.depth (e0.mod.kin.keeps held _ _ lk) rfl S.co S.gen rfl (PySem.W.codeRec_of (e0.mod.kin.keeps held) hcd) (hb _ _ _ _ ?_)
  refine wpAny_newFunctionEnv_cells S.kind (fun y hy => ?_) fun env he s1 z => ?_
  · rcases S.par y.1 (List.of_mem_zip hy).1 with q | q
    · exact .inl q
    · exact .inr ⟨q, PySem.W.cellsFrom_some _ _ _ (.inl q)⟩
  subst he
  refine ⟨(e0.mod.nolimit.keeps held).keeps z.toInCall.keep, codeAny_func ?_⟩
  obtain ⟨t, ht, hq⟩ := hbody qual f cdv (coolA A) outer s H vs Q noX (hr.deeper _) hsp a
  have I0 := inv_start (CX := L2.CX P w) (E := noX) S hr.hd e1 (len _ _ _ _ hsp) r z
  have I1 : L2.Inv ((cxOf (L2.CX P w) P w K mg base N qual (defScope st) f cdv (coolA A) outer s H noX).suite a []) [] (start N vs) H s1 :=
    ⟨I0.ok.suite _ _, I0.os, I0.bare, I0.base, I0.loc, I0.cell, I0.free, I0.freeC, (fun p hp => nomatch hp), I0.hok, I0.len⟩
  have go := ht.run [] s1 (start N vs) H _ I1 hq
  rw [← mark_deep hh]
  refine wpAny_mono go (fun fl s' hs => ?_) (fun _ _ h => h.elim)
  cases fl with
  | next =>
    obtain ⟨σ', H', J, q⟩ := hs
    exact ⟨V.non, H', J.os, J.bare, J.base, J.hok, rfl, q⟩
  | ret u =>
    obtain ⟨v, σ', H', J, rv, q⟩ := hs
    exact ⟨v, H', J.os, J.bare, J.base, J.hok, rv, q⟩
  | brk =>
    obtain ⟨_, _, _, q⟩ := hs
    exact q.elim
  | cont =>
    obtain ⟨_, _, _, q⟩ := hs
    exact q.elim
end
theorem pe_callS {X : Cx} {a : Addr} {k : Nat} {f : Addr} {fd : FuncData} {ps : List Str} {sp : Sp} {x : Str} {p pos : Pos} {e : Expr} {es : List Expr} {t : TA} (F : FnS X.prog X.w X.K X.mg X.base k f fd ps sp) (hh : X.A.handled = some (.ref a)) (hr : Room k (coolA X.A)) (hg : Gl X x) (hm : X.mg x = some (.ref f)) (hk : PySem.W.keepIn X.K (.ref f) = true) (hb : Binds X.K fd ps [])
    (ha : PA X (e :: es) t) (hdb : (x == ("__debug__" : Str)) = false := by decide) (he : starEach (e :: es) X.env = (false, eval e X.env) :: starEach es X.env := by rfl) (hpl : (backTo pos (starEach es X.env)).any (·.1) = false := by rfl) :
    PE X (.Call (.Name x p) (e :: es) [] pos) (tCallW sp (fun _ _ _ _ => False) t) := by
  refine ⟨fun pins s σ H Q I h => wpAny_Call_Name_kw (ld_glob I hg hm ?_ hdb)⟩
  refine PySem.W.callWith_K (h₀ := X.base) I.ok.mod.kin hk (thn (ha.run pos pins s σ H _ I h) fun us g ⟨vs, G, J, r, q⟩ => ⟨J.kIn, ?_⟩) he hpl
  have hl : us.length = ps.length := by rw [← r.length]; exact F.len _ _ _ _ q
  refine wpAny_call (codeAny_mono (F.run a X.A X.stack g G ⟨us, []⟩ us vs Q hh hr J.env0 (by have := hb g us J.kIn (by simpa using hl); simpa using this) r q) fun res g' hq => ?_)
  cases res with
  | error z =>
    obtain ⟨_, _, _, _, _, _, _, _, _, _, _, _, h⟩ := hq
    exact h.elim
  | ok fl =>
    cases fl with
    | ret u => exact J.after hq
    | next => exact hq.elim
    | brk => exact hq.elim
    | cont => exact hq.elim
/-! ### == of data in which whole numbers and truths are mixed -/
class DatumP (a : Type) [Py a] : Prop where
  plain : ∀ x : a, (Py.toD x).plain = true
instance : DatumP (Un Int Bool) := ⟨fun
  | .l x => by show PyData.plain (.int x) = true; simp only [PyData.plain]
  | .r y => by show PyData.plain (.bool y) = true; simp only [PyData.plain]⟩
theorem plainP {a : Type} [Py a] [DatumP a] : ∀ xs : List a, PyData.plainAll (xs.map Py.toD) = true
  | [] => rfl
  | x :: xs => by rw [List.map_cons, PyData.plainAll, DatumP.plain x, plainP xs]; rfl
instance {a : Type} [Py a] [DatumP a] : DatumP (List a) := ⟨fun xs => by
  show PyData.plain (.list (xs.map Py.toD)) = true
  simp only [PyData.plain]
  exact plainP xs⟩
def eqvP {a : Type} [Py a] (x y : a) : Bool := PyData.eqv (Py.toD x) (Py.toD y)
theorem eqvP_refl {a : Type} [Py a] [DatumP a] (x : a) : eqvP x x = true := SeqAt.eqv_refl_plain _ (DatumP.plain x)
theorem dep_ub (x : List (Un Int Bool)) : dep x ≤ 60 := by
  have h : ∀ xs : List (Un Int Bool), PyData.depthAll (xs.map Py.toD) ≤ 1 := fun xs => by
    induction xs with
    | nil => exact Nat.zero_le _
    | cons y ys ih =>
      rw [List.map_cons, PyData.depthAll]
      cases y <;> exact Nat.max_le.mpr ⟨by first | exact Nat.le_refl _ | exact Nat.zero_le _ | decide, ih⟩
  show PyData.depth (.list (x.map Py.toD)) ≤ 60
  rw [PyData.depth]
  have := h x
  omega
section
variable {X : Cx} (a : Type) [Py a] [DatumP a]
def rEqP : R2 := fun x y H Q => ∃ p q : a, R H x p ∧ R H y q ∧ min (dep p) (dep q) ≤ 60 ∧ Q (.bl (decide (eqvP p q = true))) H
def rNeP : R2 := fun x y H Q => ∃ p q : a, R H x p ∧ R H y q ∧ min (dep p) (dep q) ≤ 60 ∧ Q (.bl (decide (¬ eqvP p q = true))) H
theorem op_eqP (hu : X.A.units + 64 < cLine) (hK : X.K = K0 := by rfl) : OpR X (compareOp .Eq) (rEqP a) := by
  subst hK
  intro pins s σ H x y v u Q I rx ry h
  obtain ⟨p, q, hp, hq, hd, k⟩ := h
  obtain ⟨as, ra⟩ := Dp.reads I _ _ _ (Rep.dp _ _ hp) rx
  obtain ⟨bs, rb⟩ := Dp.reads I _ _ _ (Rep.dp _ _ hq) ry
  have hd' : min (Py.toD p).depth (Py.toD q).depth ≤ 60 := hd
  rw [Bool.decide_eq_true] at k
  exact PySem.SeqAt.eq_plain ra rb (DatumP.plain p) (DatumP.plain q) (by omega) ⟨.bl _, H, I, rfl, k⟩
theorem op_neP (hu : X.A.units + 64 < cLine) (hK : X.K = K0 := by rfl) : OpR X (compareOp .NotEq) (rNeP a) := by
  subst hK
  intro pins s σ H x y v u Q I rx ry h
  obtain ⟨p, q, hp, hq, hd, k⟩ := h
  obtain ⟨as, ra⟩ := Dp.reads I _ _ _ (Rep.dp _ _ hp) rx
  obtain ⟨bs, rb⟩ := Dp.reads I _ _ _ (Rep.dp _ _ hq) ry
  have hd' : min (Py.toD p).depth (Py.toD q).depth ≤ 60 := hd
  rw [show decide (¬ eqvP p q = true) = !eqvP p q by cases eqvP p q <;> rfl] at k
  exact PySem.SeqAt.ne_plain ra rb (DatumP.plain p) (DatumP.plain q) (by omega) ⟨.bl _, H, I, rfl, k⟩
end
end PG

set_option Elab.async false
set_option linter.all false
set_option maxRecDepth 100000
set_option maxHeartbeats 4000000
namespace PG
open PySem PySem.Spec PyProof.Rows L2
open PySem.W (T3 T4 Datum DatumOrd Holds HoldAll EachIs)
variable {K0 : PySem.W.Frag} [KF K0]
/-! ### texts, sign by sign -/
def sg (c : Nat) : Str := ⟨#[c]⟩
def sgL (s : Str) : List Str := s.cps.toList.map sg
theorem sg_inj {c d : Nat} (h : sg c = sg d) : c = d := by
  have h : (#[c] : Array Nat) = #[d] := congrArg Str.cps h
  have h := congrArg Array.toList h
  exact (List.cons.inj h).1
theorem sgL_len (s : Str) : (sgL s).length = s.cps.size := by unfold sgL; rw [List.length_map, Array.length_toList]
theorem sgL_has {s : Str} {i c : Nat} (h : s.cps[i]? = some c) : (sgL s)[i]? = some (sg c) := by
  unfold sgL
  rw [List.getElem?_map, Array.getElem?_toList, h]
  rfl
theorem sgL_end (s : Str) : List.drop s.cps.size (sgL s) = [] := List.drop_eq_nil_of_le (by rw [sgL_len]; exact Nat.le_refl _)
theorem mem_sgL {s : Str} {c : Nat} : sg c ∈ sgL s ↔ c ∈ s.cps.toList := by
  unfold sgL
  rw [List.mem_map]
  exact ⟨fun ⟨d, h, e⟩ => sg_inj e ▸ h, fun h => ⟨c, h, rfl⟩⟩
theorem atI_sgL {s : Str} {i : Int} {y : Str} (h : L2.atI (sgL s) i = some y) : ∃ c, L2.atI s.cps.toList i = some c ∧ y = sg c := by
  unfold L2.atI at h ⊢
  unfold sgL at h
  rw [List.length_map] at h
  cases e : ixN s.cps.toList.length i with
  | none => rw [e] at h; exact nomatch h
  | some j =>
    rw [e] at h
    have h : (s.cps.toList.map sg)[j]? = some y := h
    rw [List.getElem?_map] at h
    cases e2 : s.cps.toList[j]? with
    | none => rw [e2] at h; exact nomatch h
    | some c => rw [e2] at h; exact ⟨c, e2, (Option.some.inj h).symm⟩
theorem comp_lenS {z : Str} {w : List V} {i : Nat} (la : w.length ≤ i) (hi : i < z.cps.size) (c : (sgL z).length < 16777216) : w.length < sizeLine := by
  rw [sgL_len] at c
  have := sizeLine_eq
  omega
theorem Rl.strs {H : Hp} : ∀ ys : List Str, RL H (ys.map V.str) ys
  | [] => RL.nil
  | _ :: ys => RL.cons R.str (Rl.strs ys)
theorem Rl.strs_ {H : Hp} : ∀ {ys : List Str} {ws : List V}, RL H ws ys → ws = ys.map V.str
  | [], _, h => RL.nil_ h
  | y :: ys, ws, h => by
    obtain ⟨w, us, rfl, h1, h2⟩ := RL.cons_ h
    rw [R.str_ h1, Rl.strs_ h2]
    rfl
section
variable {X : Cx}
/-- one sign in a text -/
def rInS : R2 := fun x y H Q => ∃ s z : Str, x = .str s ∧ y = .str z ∧ (∃ c, s = sg c) ∧ Q (.bl (decide (s ∈ sgL z))) H
def rNiS : R2 := fun x y H Q => ∃ s z : Str, x = .str s ∧ y = .str z ∧ (∃ c, s = sg c) ∧ Q (.bl (decide (s ∉ sgL z))) H
theorem op_inS : OpR X (compareOp .In) rInS := by
  intro pins s σ H x y v u Q I rx ry h
  obtain ⟨a, z, rfl, rfl, ⟨c, rfl⟩, k⟩ := h
  refine op_in_sign pins s σ H _ _ v u Q I rx ry ⟨c, z, rfl, rfl, ?_⟩
  rw [show decide (c ∈ z.cps.toList) = decide (sg c ∈ sgL z) from decide_eq_decide.mpr mem_sgL.symm]
  exact k
theorem op_niS : OpR X (compareOp .NotIn) rNiS := by
  intro pins s σ H x y v u Q I rx ry h
  obtain ⟨a, z, rfl, rfl, ⟨c, rfl⟩, k⟩ := h
  refine op_notIn_sign pins s σ H _ _ v u Q I rx ry ⟨c, z, rfl, rfl, ?_⟩
  rw [show decide (c ∈ z.cps.toList) = decide (sg c ∈ sgL z) from decide_eq_decide.mpr mem_sgL.symm, ← decide_not]
  exact k
/-- text[i] -/
def rIxG : R2 := fun x y H Q => ∃ (z : Str) (i : Int) (a : Str), x = .str z ∧ y = .int i ∧ z.length ≤ sizeLine ∧ atI (sgL z) i = some a ∧ Q (.str a) H
theorem ix_sg : IxR X rIxG := by
  intro value slice pins s σ H x y v u Q I rx ry h hs
  obtain ⟨z, i, a, rfl, rfl, hz, e, k⟩ := h
  obtain ⟨c, e2, rfl⟩ := atI_sgL e
  exact ix_str value slice pins s σ H _ _ v u Q I rx ry ⟨z, i, c, rfl, rfl, hz, e2, k⟩ hs
/-- text * n -/
def CRepS (s : Str) (n : Int) : Prop := s.length ≤ 4000 ∧ -1 ≤ n ∧ n ≤ 4000
instance (s : Str) (n : Int) : Decidable (CRepS s n) := by unfold CRepS; infer_instance
def rMulS : R2 := fun x y H Q => ∃ (z : Str) (i : Int), x = .str z ∧ y = .int i ∧ CRepS z i ∧ Q (.str (Txt.mul z i)) H
theorem op_mulS : OpR X (binaryOp .Mult) rMulS := by
  intro pins s σ H x y v u Q I rx ry h
  obtain ⟨z, i, rfl, rfl, ⟨h1, h2, h3⟩, k⟩ := h
  obtain ⟨t, rfl⟩ := rx
  obtain ⟨t', rfl⟩ := ry
  exact SB.mul (mulOk_of 4000 4000 h1 h3 (by omega) (by decide) (by decide)) fun t' k' => ⟨.str _, H, I.tok _, ⟨_, rfl⟩, k⟩
end
/-- a call of a def that keeps two promises: one or the other -/
def tCall2 (sp sp' : Sp) (t : TA) : TE := fun σ H Q => t σ H fun vs H1 => sp vs H1 Q (fun _ _ _ => False) ∨ sp' vs H1 Q (fun _ _ _ => False)
theorem pe_call2 {X : Cx} {k k' : Nat} {f f' : Addr} {fd fd' : FuncData} {ps : List Str} {sp sp' : Sp} {x : Str} {p pos : Pos} {e : Expr} {es : List Expr} {t : TA} (F : FnOk X.prog X.w X.K X.mg X.base (L2.CX X.prog X.w) k f fd ps sp) (F' : FnOk X.prog X.w X.K X.mg X.base (L2.CX X.prog X.w) k' f' fd' ps sp') (hr : Room k X.A) (hr' : Room k' X.A) (hg : Gl X x) (hm : X.mg x = some (.ref f)) (hm' : X.mg x = some (.ref f')) (hk : PySem.W.keepIn X.K (.ref f) = true) (hb : Binds X.K fd ps []) (hb' : Binds X.K fd' ps [])
    (ha : PA X (e :: es) t) (hdb : (x == ("__debug__" : Str)) = false := by decide) (he : starEach (e :: es) X.env = (false, eval e X.env) :: starEach es X.env := by rfl) (hpl : (backTo pos (starEach es X.env)).any (·.1) = false := by rfl) :
    PE X (.Call (.Name x p) (e :: es) [] pos) (tCall2 sp sp' t) := by
  have ef : f' = f := by
    rw [hm] at hm'
    injection hm' with h
    injection h with h
    exact h.symm
  subst ef
  refine ⟨fun pins s σ H Q I h => wpAny_Call_Name_kw (ld_glob I hg hm ?_ hdb)⟩
  refine PySem.W.callWith_K (h₀ := X.base) I.ok.mod.kin hk (thn (ha.run pos pins s σ H _ I h) fun us g ⟨vs, G, J, r, q⟩ => ⟨J.kIn, ?_⟩) he hpl
  rcases q with q | q
  · have hl : us.length = ps.length := by rw [← r.length]; exact F.len _ _ _ _ q
    refine wpAny_call (codeAny_mono (F.run X.A X.stack g G ⟨us, []⟩ us vs Q _ hr J.env0 (by have := hb g us J.kIn (by simpa using hl); simpa using this) r q) fun res g' hq => ?_)
    cases res with
    | error z =>
      obtain ⟨_, _, _, _, _, _, _, _, _, _, _, _, h⟩ := hq
      exact h.elim
    | ok fl =>
      cases fl with
      | ret u => exact J.after hq
      | next => exact hq.elim
      | brk => exact hq.elim
      | cont => exact hq.elim
  · have hl : us.length = ps.length := by rw [← r.length]; exact F'.len _ _ _ _ q
    refine wpAny_call (codeAny_mono (F'.run X.A X.stack g G ⟨us, []⟩ us vs Q _ hr' J.env0 (by have := hb' g us J.kIn (by simpa using hl); simpa using this) r q) fun res g' hq => ?_)
    cases res with
    | error z =>
      obtain ⟨_, _, _, _, _, _, _, _, _, _, _, _, h⟩ := hq
      exact h.elim
    | ok fl =>
      cases fl with
      | ret u => exact J.after hq
      | next => exact hq.elim
      | brk => exact hq.elim
      | cont => exact hq.elim
/-- int(flag) -/
def b01 (b : Bool) : Int := if b then 1 else 0
end PG

set_option Elab.async false
set_option linter.all false
set_option maxRecDepth 100000
set_option maxHeartbeats 4000000
/-! Plain mathematics over the monad M: no program in sight. -/
namespace PG
open PySem L2
open PySem.W (T3 T4 Datum DatumOrd)
section
variable {a b s i : Type}
theorem ok_b (x : a) (k : a → M b) : (Except.ok x >>= k) = k x := rfl
theorem okP_b (x : a) (k : a → M b) : ((Except.ok x : M a) >>= k) = k x := rfl
theorem ret_b (x : a) (k : a → M b) : (ret x >>= k) = k x := rfl
theorem chk_ok {c : Prop} [Decidable c] (h : c) : chk c = .ok () := by unfold chk; rw [if_pos h]
theorem chk_b {c : Prop} [Decidable c] (h : c) (k : Unit → M b) : (chk c >>= k) = k () := by rw [chk_ok h]; rfl
theorem opt_b {o : Option a} {x : a} (h : o = some x) (k : a → M b) : (opt o >>= k) = k x := by rw [h]; rfl
theorem bind_ok {m : M a} {x : a} (h : m = .ok x) (k : a → M b) : (m >>= k) = k x := by rw [h]; rfl
theorem appL_ok {xs : List a} {y : a} (h : xs.length < 16777216) : appL xs y = .ok (xs ++ [y]) := by unfold appL; rw [if_pos h]
theorem ixN_nat {n : Nat} {j : Int} (h0 : 0 ≤ j) (h : j < n) : ixN n j = some j.toNat := by unfold ixN; rw [if_pos h0, if_pos h]
theorem atI_of {xs : List a} {j : Int} {x : a} (h0 : 0 ≤ j) (h : xs[j.toNat]? = some x) : L2.atI xs j = some x := by
  have hl := (List.getElem?_eq_some_iff.mp h).1
  unfold L2.atI
  rw [ixN_nat h0 (by omega)]
  exact h
theorem atI_some {xs : List a} {j : Int} (h0 : 0 ≤ j) (h : j < xs.length) : ∃ x, L2.atI xs j = some x ∧ xs[j.toNat]? = some x := by
  have hl : j.toNat < xs.length := by omega
  exact ⟨xs[j.toNat], atI_of h0 (List.getElem?_eq_getElem hl), List.getElem?_eq_getElem hl⟩
theorem setI_ok {xs : List a} {j : Int} {y : a} (h0 : 0 ≤ j) (h : j < xs.length) : setI xs j y = .ok (xs.set j.toNat y) := by unfold setI; rw [ixN_nat h0 h]
theorem popI_ok {xs : List a} {j : Int} {y : a} (h0 : 0 ≤ j) (h : xs[j.toNat]? = some y) (hl : xs.length < 16777216) : popI xs j = .ok (y, xs.eraseIdx j.toNat) := by
  have h1 := (List.getElem?_eq_some_iff.mp h).1
  unfold popI
  rw [if_pos hl, ixN_nat h0 (by omega)]
  show (match xs[j.toNat]? with
    | some y => (Except.ok (y, xs.eraseIdx j.toNat) : M _)
    | none => bad) = _
  rw [h]
/-- loops by an invariant over the items gone through -/
theorem loopN_inv {f : i → s → M s} (P : List i → s → Prop) : ∀ {xs pre : List i} {x : s}, P pre x → (∀ pre y ys x, xs ++ [] = xs → P pre x → (∃ q, q ++ y :: ys = pre ++ y :: ys) → ∃ x', f y x = .ok x' ∧ P (pre ++ [y]) x') → ∃ x', loopN f xs x = .ok x' ∧ P (pre ++ xs) x' := by
  intro xs
  induction xs with
  | nil => intro pre x h _; exact ⟨x, rfl, by rw [List.append_nil]; exact h⟩
  | cons y ys ih =>
    intro pre x h hs
    obtain ⟨x1, e1, h1⟩ := hs pre y ys x (List.append_nil _) h ⟨pre, rfl⟩
    obtain ⟨x2, e2, h2⟩ := ih (pre := pre ++ [y]) h1 fun pre y ys x _ hp hq => hs pre y ys x (List.append_nil _) hp hq
    refine ⟨x2, ?_, by rw [List.append_assoc] at h2; exact h2⟩
    show (f y x >>= fun x' => loopN f ys x') = _
    rw [e1]
    exact e2
/-- .. with what is known of the items -/
theorem loopN_run {f : i → s → M s} {all : List i} (P : List i → s → Prop) {x : s} (h : P [] x) (hs : ∀ pre y post x, all = pre ++ y :: post → P pre x → ∃ x', f y x = .ok x' ∧ P (pre ++ [y]) x') : ∃ x', loopN f all x = .ok x' ∧ P all x' := by
  have go : ∀ (xs pre : List i) (x : s), all = pre ++ xs → P pre x → ∃ x', loopN f xs x = .ok x' ∧ P (pre ++ xs) x' := by
    intro xs
    induction xs with
    | nil => intro pre x _ h; exact ⟨x, rfl, by rw [List.append_nil]; exact h⟩
    | cons y ys ih =>
      intro pre x e h
      obtain ⟨x1, e1, h1⟩ := hs pre y ys x e h
      obtain ⟨x2, e2, h2⟩ := ih (pre ++ [y]) x1 (by rw [List.append_assoc]; exact e) h1
      refine ⟨x2, ?_, by rw [List.append_assoc] at h2; exact h2⟩
      show (f y x >>= fun x' => loopN f ys x') = _
      rw [e1]
      exact e2
  exact go all [] x rfl h
/-- a loop that goes on at each item -/
theorem loopM_run {r : Type} {f : i → s → M (Fl s r)} {all : List i} (P : List i → s → Prop) {x : s} (h : P [] x) (hs : ∀ pre y post x, all = pre ++ y :: post → P pre x → ∃ x', f y x = .ok (.nx x') ∧ P (pre ++ [y]) x') : ∃ x', loopM f all x = .ok (.nx x') ∧ P all x' := by
  have go : ∀ (xs pre : List i) (x : s), all = pre ++ xs → P pre x → ∃ x', loopM f xs x = .ok (.nx x') ∧ P (pre ++ xs) x' := by
    intro xs
    induction xs with
    | nil => intro pre x _ h; exact ⟨x, rfl, by rw [List.append_nil]; exact h⟩
    | cons y ys ih =>
      intro pre x e h
      obtain ⟨x1, e1, h1⟩ := hs pre y ys x e h
      obtain ⟨x2, e2, h2⟩ := ih (pre ++ [y]) x1 (by rw [List.append_assoc]; exact e) h1
      refine ⟨x2, ?_, by rw [List.append_assoc] at h2; exact h2⟩
      show (f y x >>= fun q => match q with
        | .nx x' => loopM f ys x'
        | .rt z => .ok (.rt z)) = _
      rw [e1]
      exact e2
  exact go all [] x rfl h
/-- .. that has no state -/
theorem loopM_all {r : Type} {f : i → Unit → M (Fl Unit r)} {all : List i} (hs : ∀ y ∈ all, f y () = .ok (.nx ())) : loopM f all () = .ok (.nx ()) := by
  obtain ⟨x, e, _⟩ := loopM_run (f := f) (all := all) (fun _ _ => True) (x := ()) trivial fun pre y post x e _ => ⟨(), by cases x; exact hs y (by rw [e]; simp), trivial⟩
  exact e
theorem compX_run {c : Type} {f : i → s → M (Option c × s)} {all : List i} (P : List i → List c → s → Prop) {x : s} (h : P [] [] x)
    (hs : ∀ pre y post acc x, all = pre ++ y :: post → P pre acc x → ∃ o x', f y x = .ok (o, x') ∧ P (pre ++ [y]) (match o with
      | some z => acc ++ [z]
      | none => acc) x') : ∃ acc x', compX f all [] x = .ok (acc, x') ∧ P all acc x' := by
  have go : ∀ (xs pre : List i) (acc : List c) (x : s), all = pre ++ xs → P pre acc x → ∃ acc' x', compX f xs acc x = .ok (acc', x') ∧ P (pre ++ xs) acc' x' := by
    intro xs
    induction xs with
    | nil => intro pre acc x _ h; exact ⟨acc, x, rfl, by rw [List.append_nil]; exact h⟩
    | cons y ys ih =>
      intro pre acc x e h
      obtain ⟨o, x1, e1, h1⟩ := hs pre y ys acc x e h
      obtain ⟨acc2, x2, e2, h2⟩ := ih (pre ++ [y]) _ x1 (by rw [List.append_assoc]; exact e) h1
      refine ⟨acc2, x2, ?_, by rw [List.append_assoc] at h2; exact h2⟩
      show (nox (f y x) >>= fun p => compX f ys (match p.1 with
        | some z => acc ++ [z]
        | none => acc) p.2) = _
      rw [e1]
      exact e2
  exact go all [] [] x rfl h
theorem compS_run {c : Type} {f : i → s → M (Option c × s)} {all : List i} (hl : all.length < 16777216) (P : List i → List c → s → Prop) {x : s} (h : P [] [] x)
    (hs : ∀ pre y post acc x, all = pre ++ y :: post → P pre acc x → ∃ o x', f y x = .ok (o, x') ∧ P (pre ++ [y]) (match o with
      | some z => acc ++ [z]
      | none => acc) x') : ∃ acc x', compS f all x = .ok (acc, x') ∧ P all acc x' := by
  unfold compS
  rw [chk_b hl]
  exact compX_run P h hs
/-- a plain map with a test -/
theorem compS_pure {c : Type} {f : i → Unit → M (Option c × Unit)} {all : List i} (g : i → Option c) (hl : all.length < 16777216) (hs : ∀ y ∈ all, f y () = .ok (g y, ())) : compS f all () = .ok (all.filterMap g, ()) := by
  obtain ⟨acc, x, e, h⟩ := compS_run (f := f) (all := all) hl (fun pre acc _ => acc = pre.filterMap g) (x := ()) rfl fun pre y post acc x e h => by
    refine ⟨g y, (), by cases x; exact hs y (by rw [e]; simp), ?_⟩
    rw [h, List.filterMap_append]
    cases e2 : g y with
    | none => simp [e2]
    | some z => simp [e2]
  rw [e, h]
end

/-! ### sorted lists -/
section
variable {a : Type}
/-- two sorted lists of the same things are one -/
theorem perm_sorted_eq {le : a → a → Bool} (anti : ∀ x y, le x y = true → le y x = true → x = y) : ∀ {xs ys : List a}, xs.Perm ys → xs.Pairwise (fun x y => le x y = true) → ys.Pairwise (fun x y => le x y = true) → xs = ys := by
  intro xs
  induction xs with
  | nil => intro ys h _ _; exact (List.nil_perm.mp h).symm
  | cons x xs ih =>
    intro ys h hx hy
    cases ys with
    | nil => exact absurd h.length_eq (by simp)
    | cons y ys =>
      rw [List.pairwise_cons] at hx hy
      have e : x = y := by
        have m1 : x ∈ y :: ys := h.mem_iff.mp List.mem_cons_self
        have m2 : y ∈ x :: xs := h.mem_iff.mpr List.mem_cons_self
        rcases List.mem_cons.mp m1 with r | r
        · exact r
        · rcases List.mem_cons.mp m2 with q | q
          · exact q.symm
          · exact anti x y (hx.1 y q) (hy.1 x r)
      subst e
      rw [ih (List.Perm.cons_inv h) hx.2 hy.2]
class LeOk (a : Type) [DecidableEq a] [DatumOrd a] : Prop where
  tr : ∀ x y z : a, leT x y = true → leT y z = true → leT x z = true
  tot : ∀ x y : a, (leT x y || leT y x) = true
  anti : ∀ x y : a, leT x y = true → leT y x = true → x = y
theorem leT_int (x y : Int) : leT x y = decide (x ≤ y) := by
  show (!decide (y < x)) = decide (x ≤ y)
  by_cases h : y < x
  · have : ¬ x ≤ y := by omega
    simp [h, this]
  · have : x ≤ y := by omega
    simp [h, this]
instance : LeOk Int where
  tr x y z h1 h2 := by
    rw [leT_int, decide_eq_true_eq] at h1 h2 ⊢
    omega
  tot x y := by
    rw [leT_int, leT_int, Bool.or_eq_true, decide_eq_true_eq, decide_eq_true_eq]
    omega
  anti x y h1 h2 := by
    rw [leT_int, decide_eq_true_eq] at h1 h2
    omega
theorem leT_p (x y : Int × Int) : leT x y = decide (x.1 < y.1 ∨ (x.1 = y.1 ∧ x.2 ≤ y.2)) := by
  show (!(if y.1 = x.1 then decide (y.2 < x.2) else decide (y.1 < x.1))) = _
  by_cases h : y.1 = x.1
  · rw [if_pos h]
    by_cases h2 : y.2 < x.2
    · have : ¬ (x.1 < y.1 ∨ (x.1 = y.1 ∧ x.2 ≤ y.2)) := by omega
      simp [h2, this]
    · have : (x.1 < y.1 ∨ (x.1 = y.1 ∧ x.2 ≤ y.2)) := by omega
      simp [h2, this]
  · rw [if_neg h]
    by_cases h2 : y.1 < x.1
    · have : ¬ (x.1 < y.1 ∨ (x.1 = y.1 ∧ x.2 ≤ y.2)) := by omega
      simp [h2, this]
    · have : (x.1 < y.1 ∨ (x.1 = y.1 ∧ x.2 ≤ y.2)) := by omega
      simp [h2, this]
instance : LeOk (Int × Int) where
  tr x y z h1 h2 := by
    rw [leT_p, decide_eq_true_eq] at h1 h2 ⊢
    omega
  tot x y := by
    rw [leT_p, leT_p, Bool.or_eq_true, decide_eq_true_eq, decide_eq_true_eq]
    omega
  anti x y h1 h2 := by
    rw [leT_p, decide_eq_true_eq] at h1 h2
    exact Prod.ext (by omega) (by omega)
theorem leT_3 (x y : T3 Int Int Int) : leT x y = decide (x.a < y.a ∨ (x.a = y.a ∧ (x.b < y.b ∨ (x.b = y.b ∧ x.c ≤ y.c)))) := by
  show (!DatumOrd.lt y x) = _
  have e : DatumOrd.lt y x = decide (y.a < x.a ∨ (y.a = x.a ∧ (y.b < x.b ∨ (y.b = x.b ∧ y.c < x.c)))) := by
    rw [Bool.eq_iff_iff, decide_eq_true_eq]
    show (if y.a = x.a then (if y.b = x.b then decide (y.c < x.c) else decide (y.b < x.b)) else decide (y.a < x.a)) = true ↔ _
    by_cases h : y.a = x.a
    · rw [if_pos h]
      by_cases h2 : y.b = x.b
      · rw [if_pos h2, decide_eq_true_eq]; omega
      · rw [if_neg h2, decide_eq_true_eq]; omega
    · rw [if_neg h, decide_eq_true_eq]; omega
  rw [e, Bool.eq_iff_iff, Bool.not_eq_true', decide_eq_false_iff_not, decide_eq_true_eq]
  omega
instance : LeOk (T3 Int Int Int) where
  tr x y z h1 h2 := by
    rw [leT_3, decide_eq_true_eq] at h1 h2 ⊢
    omega
  tot x y := by
    rw [leT_3, leT_3, Bool.or_eq_true, decide_eq_true_eq, decide_eq_true_eq]
    omega
  anti x y h1 h2 := by
    rw [leT_3, decide_eq_true_eq] at h1 h2
    exact PySem.W.T3.same (by omega) (by omega) (by omega)
variable [DecidableEq a] [DatumOrd a] [LeOk a]
theorem sortT_perm (xs : List a) : (sortT xs).Perm xs := List.mergeSort_perm xs _
theorem sortT_sorted (xs : List a) : (sortT xs).Pairwise (fun x y => leT x y = true) := List.pairwise_mergeSort (fun x y z => LeOk.tr x y z) (fun x y => LeOk.tot x y) xs
theorem sortT_eq {xs ys : List a} (h : xs.Perm ys) : sortT xs = sortT ys :=
  perm_sorted_eq LeOk.anti ((sortT_perm xs).trans (h.trans (sortT_perm ys).symm)) (sortT_sorted xs) (sortT_sorted ys)
theorem sortT_id {xs : List a} (h : xs.Pairwise (fun x y => leT x y = true)) : sortT xs = xs := perm_sorted_eq LeOk.anti (sortT_perm xs) (sortT_sorted xs) h
theorem sortT_idem (xs : List a) : sortT (sortT xs) = sortT xs := sortT_id (sortT_sorted xs)
theorem sortT_len (xs : List a) : (sortT xs).length = xs.length := (sortT_perm xs).length_eq
theorem sortT_mem {xs : List a} {x : a} : x ∈ sortT xs ↔ x ∈ xs := (sortT_perm xs).mem_iff
end
/-! ### numbers -/
theorem cdivW {i j : Int} (h : 0 < j) (h2 : j ≤ 10 ^ 40) : CDivW i j := by
  have h3 : j.natAbs ≤ 10 ^ 40 := by omega
  exact wide_div (b := 200) h (Nat.lt_of_le_of_lt h3 (by decide)) (by decide) (by decide)
theorem cmulW {i j : Int} (h1 : i.natAbs < 2 ^ 100000) (h2 : j.natAbs < 2 ^ 100000) : CMulW i j := wide_mul h1 h2 (by decide) (by decide) (by decide)

theorem erase_perm {a : Type} : ∀ {l : List a} {j : Nat} (h : j < l.length), (l[j] :: l.eraseIdx j).Perm l
  | x :: l, 0, _ => List.Perm.refl _
  | x :: l, j + 1, h => by
    have h' : j < l.length := by simpa using h
    show (l[j] :: x :: l.eraseIdx j).Perm (x :: l)
    exact (List.Perm.swap _ _ _).trans (List.Perm.cons _ (erase_perm h'))

/-! ### trees -/
abbrev Tie := T3 Int Int Int
abbrev Tr := List Int × List Tie
def tieOf (p q c : Int) : Tie := if p ≤ q then ⟨p, q, c⟩ else ⟨q, p, c⟩
/-- place by place, each new one tied to one that is there -/
inductive Grown : List Int → List Tie → Prop
  | one (p : Int) : Grown [p] []
  | more {ps : List Int} {ts : List Tie} (q p c : Int) : Grown ps ts → q ∈ ps → p ∉ ps → Grown (ps ++ [p]) (ts ++ [tieOf p q c])
theorem tieOf_lt {p q c : Int} (h : p ≠ q) : (tieOf p q c).a < (tieOf p q c).b ∧ ((tieOf p q c).a = p ∧ (tieOf p q c).b = q ∨ (tieOf p q c).a = q ∧ (tieOf p q c).b = p) ∧ (tieOf p q c).c = c := by
  unfold tieOf
  by_cases h1 : p ≤ q
  · rw [if_pos h1]; exact ⟨by show p < q; omega, .inl ⟨rfl, rfl⟩, rfl⟩
  · rw [if_neg h1]; exact ⟨by show q < p; omega, .inr ⟨rfl, rfl⟩, rfl⟩
theorem Grown.in {ps : List Int} {ts : List Tie} (g : Grown ps ts) : ∀ t ∈ ts, t.a ∈ ps ∧ t.b ∈ ps ∧ t.a < t.b := by
  induction g with
  | one p => intro t h; cases h
  | @more ps ts q p c g hq hp ih =>
    intro t h
    rcases List.mem_append.mp h with h | h
    · obtain ⟨h1, h2, h3⟩ := ih t h
      exact ⟨List.mem_append_left _ h1, List.mem_append_left _ h2, h3⟩
    · have e := List.mem_singleton.mp h
      subst e
      have hpq : p ≠ q := fun e => hp (e ▸ hq)
      obtain ⟨l, hab, _⟩ := tieOf_lt (c := c) hpq
      have mp : p ∈ ps ++ [p] := by simp
      have mq : q ∈ ps ++ [p] := List.mem_append_left _ hq
      rcases hab with ⟨h1, h2⟩ | ⟨h1, h2⟩
      · exact ⟨by rw [h1]; exact mp, by rw [h2]; exact mq, l⟩
      · exact ⟨by rw [h1]; exact mq, by rw [h2]; exact mp, l⟩
theorem Grown.len {ps : List Int} {ts : List Tie} (g : Grown ps ts) : ps.length = ts.length + 1 := by
  induction g with
  | one p => rfl
  | more q p c g hq hp ih => rw [List.length_append, List.length_append, ih]; rfl
theorem Grown.nd {ps : List Int} {ts : List Tie} (g : Grown ps ts) : ps.Nodup := by
  induction g with
  | one p => simp
  | more q p c g hq hp ih => exact List.nodup_append.mpr ⟨ih, by simp, fun x hx y hy e => by rw [List.mem_singleton.mp hy] at e; exact hp (e ▸ hx)⟩
/-- a tree: its worths, its ties sorted -/
structure TreeOk (t : Tr) : Prop where
  ex : ∃ ps ts, Grown ps ts ∧ ps.Perm (rangeL 0 (t.1.length : Int)) ∧ t.2 = sortT ts
theorem TreeOk.pos {t : Tr} (h : TreeOk t) : 1 ≤ t.1.length := by
  obtain ⟨ps, ts, g, p, e⟩ := h.ex
  have h1 := p.length_eq
  rw [rangeL_length] at h1
  have := g.len
  omega
theorem TreeOk.len {t : Tr} (h : TreeOk t) : t.1.length = t.2.length + 1 := by
  obtain ⟨ps, ts, g, p, e⟩ := h.ex
  have h1 := p.length_eq
  rw [rangeL_length] at h1
  have := g.len
  rw [e, sortT_len]
  omega
theorem rangeL_mem' {lo hi x : Int} : x ∈ rangeL lo hi ↔ lo ≤ x ∧ x < hi := by
  unfold rangeL
  rw [List.mem_map]
  constructor
  · rintro ⟨j, hj, rfl⟩
    have := List.mem_range.mp hj
    omega
  · rintro ⟨h1, h2⟩
    exact ⟨(x - lo).toNat, List.mem_range.mpr (by omega), by omega⟩
theorem TreeOk.tie {t : Tr} (h : TreeOk t) : ∀ x ∈ t.2, 0 ≤ x.a ∧ x.a < x.b ∧ x.b < (t.1.length : Int) := by
  obtain ⟨ps, ts, g, p, e⟩ := h.ex
  intro x hx
  rw [e, sortT_mem] at hx
  obtain ⟨h1, h2, h3⟩ := g.in x hx
  have a1 := rangeL_mem'.mp (p.mem_iff.mp h1)
  have a2 := rangeL_mem'.mp (p.mem_iff.mp h2)
  exact ⟨a1.1, h3, a2.2⟩
theorem TreeOk.sorted {t : Tr} (h : TreeOk t) : sortT t.2 = t.2 := by
  obtain ⟨ps, ts, g, p, e⟩ := h.ex
  rw [e, sortT_idem]
theorem sort2 (x y : Int) : sortT [x, y] = if x ≤ y then [x, y] else [y, x] := by
  by_cases h : x ≤ y
  · rw [if_pos h]
    exact sortT_id (by simp [leT_int, h])
  · rw [if_neg h]
    have e : sortT [x, y] = sortT [y, x] := sortT_eq (List.Perm.swap _ _ _)
    rw [e]
    exact sortT_id (by simp [leT_int]; omega)

theorem fm_congr {a b : Type} {f g : a → Option b} : ∀ {l : List a}, (∀ x ∈ l, f x = g x) → l.filterMap f = l.filterMap g
  | [], _ => rfl
  | x :: l, h => by
    have h1 := h x List.mem_cons_self
    have h2 := fm_congr (l := l) fun y hy => h y (List.mem_cons_of_mem _ hy)
    rw [List.filterMap_cons, List.filterMap_cons, h1, h2]
end PG

set_option Elab.async false
set_option linter.all false
set_option maxRecDepth 100000
namespace G
open PySem PySem.Spec PyProof.Rows L2 PG
open PySem.W (T3 T4 Datum DatumOrd)
def top (i : Nat) : Stmt := PySem.Challenge.pw_everyseat_k49_trees_written_and_read.main.body.getD i (.Pass ⟨0, 0, 0, 0⟩)
structure Nb {K : PySem.W.Frag} [KF K] (mg : Str → Option Value) : Prop where
  b_bool : mg "bool" = none
  b_int : mg "int" = none
  b_isinstance : mg "isinstance" = none
  b_len : mg "len" = none
  b_list : mg "list" = none
  b_max : mg "max" = none
  b_min : mg "min" = none
  b_range : mg "range" = none
  b_sorted : mg "sorted" = none
  b_str : mg "str" = none
  b_tuple : mg "tuple" = none
  c_FIGURES : ∃ u, mg "FIGURES" = some u ∧ RelV (.str ("0123456789" : Str)) u
section
variable {P : Program} {w : World} {K : PySem.W.Frag} {mg : Str → Option Value} {base : Heap} [KF K]
abbrev s_tied_places : Stmt := top 5
theorem sc_tied_places : FnScope ["many", "ties", "found", "a", "b", "length", "near", "place"] ["many", "ties"] (defScope s_tied_places) := ⟨rfl, rfl, rfl, by decide +kernel, rfl, by decide +kernel, by decide +kernel⟩
def addAt (fs : List (List Int)) (a b : Int) : M (List (List Int)) := match ixN fs.length a with
  | some j => (match fs[j]? with
    | some x => appL x b >>= fun y => .ok (fs.set j y)
    | none => bad)
  | none => bad
def m_tied_places (x_many : Int) (x_ties : List (T3 Int Int Int)) : M (List (List Int)) :=
  chk (okR x_many) >>= fun _ =>
  loopN (fun (t : T3 Int Int Int) (fs : List (List Int)) => addAt fs t.a t.b >>= fun f1 => addAt f1 t.b t.a) (sortT x_ties) (List.replicate x_many.toNat []) >>= fun fs =>
  .ok (fs.map sortT)
theorem wp_addAt {b : Type} {Q : b → Prop} {E : String → Prop} {fs : List (List Int)} {a y : Int} {k : List (List Int) → M b} (h : wp (addAt fs a y >>= k) Q E) :
    ∃ j x, ixN fs.length a = some j ∧ fs[j]? = some x ∧ x.length < sizeLine ∧ wp (k (fs.set j (x ++ [y]))) Q E := by
  unfold addAt at h
  cases e : ixN fs.length a with
  | none => rw [e] at h; exact h.elim
  | some j =>
    rw [e] at h
    have h : wp ((match fs[j]? with
      | some x => appL x y >>= fun y => .ok (fs.set j y)
      | none => bad) >>= k) Q E := h
    cases e2 : fs[j]? with
    | none => rw [e2] at h; exact h.elim
    | some x =>
      rw [e2] at h
      have h : wp ((appL x y >>= fun y => .ok (fs.set j y)) >>= k) Q E := h
      rw [wp_bind] at h
      obtain ⟨c, h⟩ := wp_appL h
      exact ⟨j, x, rfl, e2, c, h⟩
/-- all lists are new -/
def sp_tied_places_own (mg : Str → Option Value) : Sp := fun vs H Q E => ∃ (F : Hp) (x_many : Int) (v_ties : V) (x_ties : List (T3 Int Int Int)), vs = [.int x_many, v_ties] ∧ Pre F [] H ∧ R F v_ties x_ties ∧
  wp (m_tied_places x_many x_ties) (fun r => ∀ (F' H' : Hp) (p : Addr) (ps : List LC), Gr [] F H F' H' → OwnLL H F' H' p ps → ps.map (·.2) = r → Q (.ref p) H')
  (fun n => ∀ (C : Addr) (H' : Hp), mg (Str.ofString n) = some (.ref C) → Kp [] H H' → E (.ref C) none H')
def sp_tied_places (mg : Str → Option Value) : Sp := fun vs H Q E => ∃ (F : Hp) (x_many : Int) (v_ties : V) (x_ties : (List (T3 Int Int Int))), vs = [.int x_many, v_ties] ∧ Pre F [] H ∧ R (a := (List (T3 Int Int Int))) F v_ties x_ties ∧
  wp (m_tied_places x_many x_ties) (fun r => ∀ (F' H' : Hp), Gr [] F H F' H' → ∀ (p : Addr) (w : List V), H p = none → F' p = none → H' p = some (.lst w) → RL (a := (List Int)) F' w r → Q (.ref p) H')
  (fun n => ∀ (C : Addr) (H' : Hp), mg (Str.ofString n) = some (.ref C) → Kp [] H H' → E (.ref C) none H')
theorem lc_set {ps : List LC} {j : Nat} {c : LC} {y : List Int} (h : ps[j]? = some c) : (ps.set j (c.1, y)).map (·.1) = ps.map (·.1) ∧ (ps.set j (c.1, y)).map (·.2) = (ps.map (·.2)).set j y := by
  refine ⟨?_, by rw [List.map_set]⟩
  rw [List.map_set]
  refine List.ext_getElem? fun k => ?_
  by_cases hk : j = k
  · subst hk
    have hl := (List.getElem?_eq_some_iff.mp h).1
    rw [List.getElem?_set_self (by simpa using hl), List.getElem?_map, h]
    rfl
  · rw [List.getElem?_set_ne hk]
/-- one append -/
theorem tp_app {Z : Ent} {F H : Hp} {D : Addr} {o : HO} {rest : List (Addr × HO)} {ps : List LC} (O : Ow Z F ((D, o) :: ps.map lcell) H) {j : Nat} {c : LC} (h : ps[j]? = some c) (y : Int) :
    Ow Z F ((D, o) :: (ps.set j (c.1, c.2 ++ [y])).map lcell) (upd H c.1 (.lst (c.2.map V.int ++ [V.int y]))) ∧ H c.1 = some (.lst (c.2.map V.int)) := by
  have e : ((D, o) :: ps.map lcell)[j + 1]? = some (c.1, .lst (c.2.map V.int)) := by
    rw [List.getElem?_cons_succ, List.getElem?_map, h]
    rfl
  refine ⟨?_, O.at (j + 1) e⟩
  have q := O.set (j + 1) (.lst (c.2.map V.int ++ [V.int y])) e
  have e2 : ((D, o) :: ps.map lcell).set (j + 1) (c.1, .lst (c.2.map V.int ++ [V.int y])) = (D, o) :: (ps.set j (c.1, c.2 ++ [y])).map lcell := by
    rw [List.set_cons_succ, List.map_set]
    unfold lcell
    rw [List.map_append]
    rfl
  rw [e2] at q
  exact q
theorem tp_at {ps : List LC} {j : Nat} {x : List Int} (h : (ps.map (·.2))[j]? = some x) : ∃ c, ps[j]? = some c ∧ c.2 = x := by
  rw [List.getElem?_map] at h
  cases e : ps[j]? with
  | none => rw [e] at h; cases h
  | some c => rw [e] at h; exact ⟨c, rfl, Option.some.inj h⟩
theorem tp_ix {ps : List LC} {a : Int} {j : Nat} {c : LC} (e : ixN (ps.map (·.2)).length a = some j) (h : ps[j]? = some c) : atI (lrefs ps) a = some (.ref c.1) := by
  unfold atI lrefs
  rw [List.length_map] at e ⊢
  rw [e]
  show (lrefs ps)[j]? = _
  rw [List.getElem?_map, h]
  rfl
set_option maxHeartbeats 4000000 in
theorem ok_tied_places_own (nb : Nb mg) (D : Df K mg "tied_places" "tied_places" s_tied_places ["many", "ties"]) : Ca P w K mg base "tied_places" 1 ["many", "ties"] (sp_tied_places_own mg) := by
  refine Ca.mk' D sc_tied_places (fun vs H Q E h => ?_) (fun q_ f_ cdv A outer s H vs Q E hr h => ?_)
  · obtain ⟨F, _, _, _, rfl, _⟩ := h
    rfl
  · obtain ⟨F, x_many, v_ties, x_ties, rfl, P0, f_ties, hk⟩ := h
    have nd := sc_tied_places.nd
    have hu128 := hu128_of hr
    have O := P0.start
    refine ⟨_, pss_cons (ps_setLc (i := 2) (own := [("place", 7)]) (g := _) (tt := _) rfl nd rfl rfl (sw_true rfl rfl rfl (by decide +kernel)) (pi_range1 rfl nb.b_range (pa_cons (pv 0) pa_nil))
        (blkOk_by (own := [("place", 7)]) (N := ["many", "ties", "found", "a", "b", "length", "near", "place"]) (sc := defScope s_tied_places) (by decide +kernel)) (fun _ _ _ _ _ => (pg_name (i := 7) nd rfl (Or.inl rfl))) (fun _ _ _ _ _ => pts_nil) (fun _ _ _ _ _ => pe_lst pa_nil))
      (pss_cons (ps_for (passes_of rfl) rfl (pi_list (pe_callB (cr_sortedT (T3 Int Int Int) hu128) (by rfl) nb.b_sorted (by decide +kernel) (pa_cons (pv 1) pa_nil)))
        (pg_tup rfl (pgs_cons (pg_name (i := 3) nd rfl (Or.inl rfl)) (pgs_cons (pg_name (i := 4) nd rfl (Or.inl rfl)) (pgs_cons (pg_name (i := 5) nd rfl (Or.inl rfl)) pgs_nil))))
        (pss_cons (ps_expr (pe_bm PySem.F.plainAttrs_list PySem.F.slot_list_append PySem.F.type_list_append mt_append (pe_ix ix_list (pv 2) (pv 3) (fun _ _ => rfl)) (pa_cons (pv 4) pa_nil)))
          (pss_one (ps_expr (pe_bm PySem.F.plainAttrs_list PySem.F.slot_list_append PySem.F.type_list_append mt_append (pe_ix ix_list (pv 2) (pv 4) (fun _ _ => rfl)) (pa_cons (pv 3) pa_nil))))))
      (pss_one (ps_ret (pe_lc (own := [("near", 6)]) (g := _) (tt := _) rfl nd (pi_list (pv 2))
        (blkOk_by (own := [("near", 6)]) (N := ["many", "ties", "found", "a", "b", "length", "near", "place"]) (sc := defScope s_tied_places) (by decide +kernel)) (fun _ _ _ _ _ => (pg_name (i := 6) nd rfl (Or.inl rfl))) (fun _ _ _ _ _ => pts_nil)
        (fun _ _ _ _ _ => pe_callB (cr_sortedT Int hu128) (by rfl) nb.b_sorted (by decide +kernel) (pa_cons (pv 6) pa_nil)))))), ?_⟩
    obtain ⟨c1, hk⟩ := wp_chk hk
    obtain ⟨L, hL, hLs, hLd⟩ := loopN_L hk
    refine ⟨_, rfl, _, rfl, c1.lo, c1.hi, fun D hD => ?_⟩
    refine lc_range (lo := 0) (n := x_many.toNat) (fun i H => ∃ ps : List LC, Ow _ F ((D, .lst (lrefs ps)) :: ps.map lcell) H ∧ ps.map (·.2) = List.replicate i []) ⟨[], O.new hD, rfl⟩ ?_ ?_
    · rintro i H1 hi ⟨ps, O1, e1⟩
      refine ⟨rfl, (by show 0 ≤ sizeLine; decide), fun q hq => ?_⟩
      have O2 := O1.new (o := .lst []) hq
      have hlen : ps.length = i := by
        have := congrArg List.length e1
        simpa using this
      have b := c1.2
      refine ⟨_, O2.at 1 rfl, lt_line (by rw [List.length_map]; omega), ps ++ [(q, [])], ?_, by rw [List.map_append, e1, List.replicate_succ']; rfl⟩
      have O3 := O2.set 1 (.lst ((lrefs ps) ++ [V.ref q])) rfl
      have ea : lrefs (ps ++ [(q, [])]) = lrefs ps ++ [V.ref q] := List.map_append
      rw [ea, List.map_append]
      refine O3.perm ?_
      show ((q, HO.lst []) :: (D, _) :: ps.map lcell).Perm ((D, _) :: (ps.map lcell ++ [(q, HO.lst [])]))
      refine (List.Perm.swap _ _ _).trans (List.Perm.cons _ ?_)
      exact (List.perm_append_comm (l₁ := [(q, HO.lst [])]) (l₂ := ps.map lcell))
    · rintro H1 ⟨ps, O1, e1⟩
      obtain ⟨p1, w1, e2, h2, hl2⟩ := R.lst_ f_ties
      cases e2
      refine ⟨_, rfl, _, _, _, rfl, O1.s _ _ h2, RL.mono hl2 O1.s, fun p3 hp3 => ?_⟩
      obtain ⟨F4, O4, S4, h4⟩ := O1.putE hp3 (.lst (sortV w1 x_ties))
      have hl4 := (RL.sorted hl2).mono S4
      refine ⟨_, rfl, ⟨_, SqLF O4.s h4⟩, ?_⟩
      rw [← e1] at hL
      refine for_list (K := K) (xs := sortV w1 x_ties) (fun i σ H => ∃ (ps' : List LC) (t3 t4 t5 : Option V), σ = [some (V.int x_many), some (V.ref p1), some (V.ref D), t3, t4, t5, none, none] ∧ Ow _ F4 ((D, .lst (lrefs ps')) :: ps'.map lcell) H ∧ ps'.length = x_many.toNat ∧ L (List.drop i (sortT x_ties)) (ps'.map fun (c : LC) => c.2))
        ⟨ps, none, none, none, rfl, O4, (by have := congrArg List.length e1; simpa using this), hL⟩ (fun i_ σ_ H_ _ hp_ => ?_) ?_ ?_
      · obtain ⟨_, _, _, _, _, hO_, _⟩ := hp_
        exact SqLF hO_.s h4
      · rintro i x σ H5 hi ⟨ps', t3, t4, t5, rfl, O5, hl5, hL5⟩
        obtain ⟨y, ey, hy⟩ := RL.got hl4 hi
        rw [drop_at ey] at hL5
        have hk := hLs _ _ _ hL5
        obtain ⟨p6, v1, v2, v3, e6, h6, r1, r2, r3⟩ := R.t3_ hy
        cases e6
        obtain rfl := R.int_ r1
        obtain rfl := R.int_ r2
        obtain rfl := R.int_ r3
        obtain ⟨j, x, ej, ex, cl, hk⟩ := wp_addAt hk
        have hk := wp_bind (k := fun r => Except.ok r) |>.mpr hk
        obtain ⟨j2, x2, ej2, ex2, cl2, hk⟩ := wp_addAt hk
        obtain ⟨c, hc, rfl⟩ := tp_at ex
        obtain ⟨O6, hq6⟩ := tp_app (rest := []) O5 hc y.b
        obtain ⟨l1, l2⟩ := lc_set (y := c.2 ++ [y.b]) hc
        rw [← l2] at ex2 ej2
        obtain ⟨c', hc', rfl⟩ := tp_at ex2
        obtain ⟨O7, hq7⟩ := tp_app (rest := []) O6 hc' y.a
        obtain ⟨l3, l4⟩ := lc_set (y := c'.2 ++ [y.a]) hc'
        have eD : lrefs (ps'.set j (c.1, c.2 ++ [y.b])) = lrefs ps' := by
          have := congrArg (List.map V.ref) l1
          rw [List.map_map, List.map_map] at this
          exact this
        have eD2 : lrefs ((ps'.set j (c.1, c.2 ++ [y.b])).set j2 (c'.1, c'.2 ++ [y.a])) = lrefs (ps'.set j (c.1, c.2 ++ [y.b])) := by
          have := congrArg (List.map V.ref) l3
          rw [List.map_map, List.map_map] at this
          exact this
        have i2 : atI (lrefs ps') y.b = some (.ref c'.1) := by
          rw [← eD]
          exact tp_ix ej2 hc'
        refine ⟨_, _, rfl, SqTF O5.s h6, rfl, _, _, rfl, _, _, rfl, _, _, rfl, rfl, _, rfl, _, rfl, _, _, _, _, rfl, rfl, SqL.of (O5.at 0 rfl), tp_ix ej hc, .inl ⟨rfl, _, SqL.of hq6⟩, _, rfl, _, _, _, rfl, rfl, hq6, by rw [List.length_map]; exact cl, ?_⟩
        refine ⟨_, rfl, _, rfl, _, _, _, _, rfl, rfl, SqL.of (O6.at 0 rfl), i2, .inl ⟨rfl, _, SqL.of hq7⟩, _, rfl, _, _, _, rfl, rfl, hq7, by rw [List.length_map]; exact cl2, ?_⟩
        refine ⟨_, _, _, _, rfl, by rw [eD2, eD]; exact O7, by rw [List.length_set, List.length_set]; exact hl5, ?_⟩
        rw [l4, l2]
        exact hk
      · rintro σ H5 ⟨ps', t3, t4, t5, rfl, O5, hl5, hL5⟩
        rw [drop_end hl4.len] at hL5
        have hk := hLd _ hL5
        refine ⟨_, rfl, _, rfl, ⟨_, SqL.of (O5.at 0 rfl)⟩, fun D2 hD2 => ?_⟩
        have b1 := c1.2
        refine lc_list (K := K) (xs := lrefs ps') (fun i H => ∃ qs : List LC, Ow _ F4 ((D2, .lst (lrefs qs)) :: (qs.map lcell ++ ((D, .lst (lrefs ps')) :: ps'.map lcell))) H ∧ qs.map (·.2) = ((ps'.map (·.2)).take i).map sortT)
          ⟨[], O5.new hD2, by simp⟩ (fun i_ H_ _ hp_ => ?_) ?_ ?_
        · obtain ⟨qs, hO_, _⟩ := hp_
          exact SqL.of (hO_.ch (D, _) (List.mem_cons_of_mem _ (List.mem_append_right _ List.mem_cons_self)))
        · rintro i x H6 hi ⟨qs, O6, e6⟩
          obtain ⟨c, hc, rfl⟩ : ∃ c, ps'[i]? = some c ∧ x = V.ref c.1 := by
            have hi : (ps'.map fun (c : LC) => V.ref c.1)[i]? = some x := hi
            rw [List.getElem?_map] at hi
            cases e : ps'[i]? with
            | none => rw [e] at hi; cases hi
            | some c => rw [e] at hi; exact ⟨c, rfl, (Option.some.inj hi).symm⟩
          have hm : lcell c ∈ ps'.map lcell := List.mem_map.mpr ⟨c, List.mem_of_getElem? hc, rfl⟩
          have hq := O6.ch (lcell c) (List.mem_cons_of_mem _ (List.mem_append_right _ (List.mem_cons_of_mem _ hm)))
          have hil := (List.getElem?_eq_some_iff.mp hc).1
          have hql : qs.length ≤ i := by
            have := congrArg List.length e6
            simp at this
            omega
          have es : sortV (c.2.map V.int) c.2 = (sortT c.2).map V.int := (RL.sorted (H := F) RL.of_ints).ints
          refine ⟨rfl, _, rfl, _, _, c.2, rfl, hq, RL.of_ints, fun p hp => ?_⟩
          have O7 := O6.new (o := .lst (sortV (c.2.map V.int) c.2)) hp
          refine ⟨_, O7.at 1 rfl, lt_line (by rw [List.length_map]; omega), qs ++ [(p, sortT c.2)], ?_, ?_⟩
          · have O8 := O7.set 1 (.lst (lrefs qs ++ [V.ref p])) rfl
            have ea : lrefs (qs ++ [(p, sortT c.2)]) = lrefs qs ++ [V.ref p] := List.map_append
            rw [ea, List.map_append]
            refine O8.perm ?_
            rw [es]
            show ((p, HO.lst _) :: (D2, _) :: (qs.map lcell ++ _)).Perm ((D2, _) :: (qs.map lcell ++ [(p, HO.lst _)] ++ _))
            refine (List.Perm.swap _ _ _).trans (List.Perm.cons _ ?_)
            rw [List.append_assoc]
            exact List.perm_middle.symm
          · rw [List.map_append, e6]
            have e7 : (ps'.map (·.2))[i]? = some c.2 := by rw [List.getElem?_map, hc]; rfl
            rw [List.take_succ, e7, List.map_append]
            rfl
        · rintro H6 ⟨qs, O6, e6⟩
          have el : (lrefs ps').length = (ps'.map (·.2)).length := by rw [List.length_map, List.length_map]
          rw [el, List.take_length] at e6
          have hsub : ∀ c ∈ qs, lcell c ∈ (D2, HO.lst (lrefs qs)) :: (qs.map lcell ++ ((D, .lst (lrefs ps')) :: ps'.map lcell)) := fun c hc => List.mem_cons_of_mem _ (List.mem_append_left _ (List.mem_map.mpr ⟨c, hc, rfl⟩))
          have nas : ∀ b : Addr, ¬ b ∈ ([] : List Addr) := fun b h => nomatch h
          refine hk F4 H6 D2 qs O6.g ⟨O5.was hD2, O6.cf _ List.mem_cons_self, O6.ch _ List.mem_cons_self, fun c hc => (O6.ca _ (hsub c hc)).resolve_left (nas _), fun c hc => O6.cf _ (hsub c hc), fun c hc => O6.ch _ (hsub c hc), ?_⟩ e6
          have n := O6.nd
          rw [List.map_cons, List.map_append, List.nodup_cons, List.nodup_append] at n
          rw [List.nodup_cons]
          have em : (qs.map lcell).map (·.1) = qs.map (·.1) := by
            rw [List.map_map]
            rfl
          rw [em] at n
          exact ⟨fun h => n.1 (List.mem_append_left _ h), n.2.1⟩
theorem ok_tied_places (nb : Nb mg) (D : Df K mg "tied_places" "tied_places" s_tied_places ["many", "ties"]) : Ca P w K mg base "tied_places" 1 ["many", "ties"] (sp_tied_places mg) := by
  refine FnOk.impC (ok_tied_places_own nb D) fun vs H Q E h => ?_
  obtain ⟨F, x_many, v_ties, x_ties, rfl, P0, f_ties, hk⟩ := h
  refine ⟨F, x_many, v_ties, x_ties, rfl, P0, f_ties, wp_mono hk fun r k F' H' p ps g L e => ?_⟩
  obtain ⟨F2, g2, n2, rl⟩ := L.frz g
  rw [e] at rl
  exact k F2 H' g2 p _ L.pn n2 L.ph rl

abbrev s_come_to : Stmt := top 6
theorem sc_come_to : FnScope ["near", "place", "found", "at", "other"] ["near", "place"] (defScope s_come_to) := ⟨rfl, rfl, rfl, by decide +kernel, rfl, by decide +kernel, by decide +kernel⟩
def m_come_to (x_near : (List (List Int))) (x_place : Int) : M ((List Int)) :=
whL (r := Unit) (fun (st17 : Int × (List Int)) =>
if st17.1 < (st17.2.length : Int) then (
opt (atI st17.2 st17.1) >>= fun y25 =>
opt (atI x_near y25) >>= fun y35 =>
loopN (fun (y45 : Int) (st56 : (List Int)) =>
if y45 ∉ st56 then (
appL st56 y45 >>= fun _ =>
.ok (st56 ++ [y45]))
else (
.ok st56)) y35 st17.2 >>= fun st72 =>
.ok (.go ((st17.1 + (1 : Int)), st72)))
else (
.ok (.stop (st17.1, st17.2)))) 1000000 ((0 : Int), [x_place]) >>= fun f89 => match f89 with
| .rt _ => bad
| .nx st82 =>
.ok st82.2
def sp_come_to (mg : Str → Option Value) : Sp := fun vs H Q E => ∃ (F : Hp) (v_near : V) (x_near : (List (List Int))) (x_place : Int), vs = [v_near, V.int x_place] ∧ Pre F [] H ∧ R (a := (List (List Int))) F v_near x_near ∧
  wp (m_come_to x_near x_place) (fun r => ∀ (F' H' : Hp), Gr [] F H F' H' → ∀ (p : Addr) (w : (List V)), H p = none → F' p = none → H' p = some (.lst w) → RL (a := Int) F' w r → Q (.ref p) H')
  (fun n => ∀ (C : Addr) (H' : Hp), mg (Str.ofString n) = some (.ref C) → Kp [] H H' → E (.ref C) none H')
set_option maxHeartbeats 20000000 in
theorem ok_come_to (nb : Nb mg) (D : Df K mg "come_to" "come_to" s_come_to ["near", "place"]) : Ca P w K mg base "come_to" 1 ["near", "place"] (sp_come_to mg) := by
  refine Ca.mk' D sc_come_to (fun vs H Q E h => ?_) (fun q_ f_ cdv A outer s H vs Q E hr h => ?_)
  · obtain ⟨F, _, _, _, rfl, _⟩ := h
    rfl
  · obtain ⟨F, v_near, x_near, x_place, rfl, P0, f_near, hk⟩ := h
    have nd := sc_come_to.nd
    have hu64 := hr.units
    have hu128 := hu128_of hr
    have O := P0.start
    refine ⟨_, (pss_cons (ps_toN (ps_set (i := 2) nd rfl (Or.inl rfl) (pe_lst (pa_cons (pv 1) pa_nil))))
  (pss_cons (ps_toN (ps_set (i := 3) nd rfl (Or.inl rfl) pe_int))
  (pss_cons (ps_while (passes_of rfl) (pt_cmpR op_lt (pv 3) (pe_callB call_lenT (by rfl) nb.b_len PySem.boot_len (pa_cons (pv 2) pa_nil)) (nomark _)) (pss_cons (ps_for (passes_of rfl) rfl (piListK (K := K) rfl (pe_ix (ixListK (K := K) rfl) (pv 0) (pe_ix (ixListK (K := K) rfl) (pv 2) (pv 3) (fun _ _ => rfl)) (fun _ _ => rfl))) (pg_name (i := 4) nd rfl (Or.inl rfl)) (pss_one (ps_if (pt_cmpR (op_ninT Int hu64) (pv 4) (pv 2) rfl) (pss_one (ps_expr (bmK (K := K) rfl (pe_bm PySem.F.plainAttrs_list PySem.F.slot_list_append PySem.F.type_list_append mt_append (pv 2) (pa_cons (pv 4) pa_nil))))) pss_nil)))
  (pss_one (ps_aug (i := 3) nd rfl (Or.inl rfl) pe_int ip_add))))
  (pss_one (ps_ret (pv 2)))))), ?_⟩
    refine ⟨_, rfl, (by show 1 ≤ sizeLine; decide), fun p2 hp3 => ?_⟩
    have hl5 : RL (a := Int) F ([V.int x_place]) ([x_place]) := RL.cons R.int RL.nil
    have z6 := O.was hp3
    have O4 := O.new (o := .lst ([V.int x_place])) hp3
    obtain ⟨L7, X8, hL9, hLs10, hLd11⟩ := whL_L hk
    refine ⟨[some v_near, some (V.int x_place), some (V.ref p2), none, none], rfl, [some v_near, some (V.int x_place), some (V.ref p2), some (V.int (0 : Int)), none], rfl, ?_⟩
    refine while_P (fun n σ H_ => ∃ (F_ : Hp) (st : Int × (List Int)) (w_0 : (List V)) (t_0 : Option V), σ = [some v_near, some (V.int x_place), some (V.ref p2), some (V.int st.1), t_0] ∧ Same F F_ ∧ Ow (⟨[], F, H⟩ : Ent) F_ [(p2, .lst w_0)] H_ ∧ RL (a := Int) F_ w_0 st.2 ∧ L7 n st) (fun σ H_ => ∃ (F_ : Hp) (st : Int × (List Int)) (w_0 : (List V)) (t_0 : Option V), σ = [some v_near, some (V.int x_place), some (V.ref p2), some (V.int st.1), t_0] ∧ Same F F_ ∧ Ow (⟨[], F, H⟩ : Ent) F_ [(p2, .lst w_0)] H_ ∧ RL (a := Int) F_ w_0 st.2 ∧ X8 st) 1000000 ⟨F, ((0 : Int), [x_place]), [V.int x_place], none, rfl, Same.refl _, O4, hl5, hL9⟩ ?_ ?_
    rotate_left
    · rintro hex12 m13 sg14 H15 ⟨F22, st17, w19, t21, rfl, S16, O23, hl20, hL18⟩
      have f_near := f_near.mono S16
      have hk := hLs10 _ _ hL18
      refine ⟨_, rfl, _, rfl, _, _, _, rfl, (.inl (O23.at 0 rfl)), hl20.len, _, _, rfl, rfl, _, rfl, ?_⟩
      refine iteD (fun q24 => ?_) (fun q24 => ?_)
      · have hk := wp_if hk q24
        obtain ⟨y25, e26, hk⟩ := wp_opt hk
        obtain ⟨w27, e28, r29⟩ := hl20.atI e26
        obtain rfl := R.int_ r29
        obtain ⟨p30, w31, e32, h33, hl34⟩ := R.lst_ f_near
        cases e32
        obtain ⟨y35, e36, hk⟩ := wp_opt hk
        obtain ⟨w37, e38, r39⟩ := hl34.atI e36
        obtain ⟨p40, w41, e42, h43, hl44⟩ := R.lst_ r39
        cases e42
        obtain ⟨L46, hL47, hLs48, hLd49⟩ := loopN_L hk
        refine ⟨_, (fun _ _ h_ => h_), _, rfl, _, rfl, _, rfl, _, _, _, _, rfl, rfl, (SqL.of (O23.at 0 rfl)), e28, _, _, _, _, rfl, rfl, (SqLF O23.s h33), e38, _, rfl, ⟨_, (SqLF O23.s h43)⟩, ?_⟩
        refine for_list (K := K) (xs := w41) (fun i σ H_ => ∃ (F_ : Hp) (st : (List Int)) (w_0 : (List V)) (t_0 : Option V), σ = [some (V.ref p30), some (V.int x_place), some (V.ref p2), some (V.int st17.1), t_0] ∧ Same F22 F_ ∧ Ow _ F_ [(p2, .lst w_0)] H_ ∧ RL (a := Int) F_ w_0 st ∧ L46 (List.drop i y35) st) ⟨F22, st17.2, w19, t21, rfl, Same.refl _, O23, hl20, hL47⟩ (fun i_ σ_ H_ _ hp_ => ?_) ?_ ?_
        · obtain ⟨_, _, _, _, _, hS_, hO_, _⟩ := hp_
          exact SqLF hO_.s (hS_ _ _ h43)
        · rintro i50 x51 sg52 H53 hi54 ⟨F60, st56, w57, t59, rfl, S55, O61, hl58, hL47⟩
          have hl44 := hl44.mono S55
          obtain ⟨y45, e62, r63⟩ := RL.got hl44 hi54
          rw [drop_at e62] at hL47
          have hk := hLs48 _ _ _ hL47
          obtain rfl := R.int_ r63
          refine ⟨_, rfl, _, rfl, _, _, _, _, R.int, rfl, (.inl (O61.at 0 rfl)), (RL.mono (hl58) O61.s), _, rfl, ?_⟩
          refine iteD (fun q64 => ?_) (fun q64 => ?_)
          · have hk := wp_if hk q64
            obtain ⟨c65, hk⟩ := wp_appL hk
            refine ⟨_, rfl, (.inl ⟨rfl, _, SqL.of (O61.at 0 rfl)⟩), _, rfl, _, _, _, rfl, rfl, (O61.at 0 rfl), (by rw [hl58.len]; exact c65), ?_⟩
            have O67 := O61.set 0 (.lst (w57 ++ [V.int y45])) rfl
            have hl68 : RL (a := Int) F60 (w57 ++ [V.int y45]) (st56 ++ [y45]) := RL.snoc hl58 R.int
            exact ⟨F60, (st56 ++ [y45]), (w57 ++ [V.int y45]), some (V.int y45), rfl, S55, O67, hl68, hk⟩
          · have hk := wp_el hk q64
            exact ⟨F60, st56, w57, some (V.int y45), rfl, S55, O61, hl58, hk⟩
        rintro sg69 H70 ⟨F77, st72, w74, t76, rfl, S71, O78, hl75, hL73⟩
        rw [drop_end hl44.len] at hL73
        have hk := hLd49 _ hL73
        have S16 := S16.trans S71
        refine ⟨_, rfl, _, _, rfl, rfl, ?_⟩
        obtain ⟨m_, hm_, hk⟩ := hk
        exact ⟨m_, hm_, F77, ((st17.1 + (1 : Int)), st72), w74, t76, rfl, S16, O78, hl75, hk⟩
      · have hk := wp_el hk q24
        exact hex12 _ _ ⟨F22, (st17.1, st17.2), w19, t21, rfl, S16, O23, hl20, hk⟩
    rintro sg79 H80 ⟨F87, st82, w84, t86, rfl, S81, O88, hl85, hL83⟩
    have hk := hLd11 _ hL83
    refine ⟨_, rfl, ?_⟩
    exact hk _ _  O88.g  _ _ z6 (O88.cf _ (List.mem_of_getElem? (i := 0) rfl)) (O88.at 0 rfl) hl85
abbrev s_tree_of : Stmt := top 7
theorem sc_tree_of : FnScope ["worths", "ties", "many", "pairs", "a", "b", "length"] ["worths", "ties"] (defScope s_tree_of) := ⟨rfl, rfl, rfl, by decide +kernel, rfl, by decide +kernel, by decide +kernel⟩
def m_tree_of (x_worths : (List Int)) (x_ties : (List (T3 Int Int Int))) : M (((List Int) × (List (T3 Int Int Int)))) :=
compS (fun (y11 : (T3 Int Int Int)) (st28 : Unit) =>
.ok (some (y11.a, y11.b), ())) x_ties () >>= fun q61 =>
if (q61.1.length : Int) ≠ ((x_worths.length : Int) - (1 : Int)) then (
raise "NoTree")
else (
compS (fun (y78 : (Int × Int)) (st95 : Unit) =>
if (0 : Int) ≤ y78.1 then (
if y78.1 < y78.2 then (
if y78.2 < (x_worths.length : Int) then (
.ok (none, ()))
else (
.ok (some (y78.1, y78.2), ())))
else (
.ok (some (y78.1, y78.2), ())))
else (
.ok (some (y78.1, y78.2), ()))) q61.1 () >>= fun q143 =>
if q143.1 ≠ ([] : List (Int × Int)) then (
raise "NoTree")
else (
m_tied_places (x_worths.length : Int) x_ties >>= fun r158 =>
m_come_to r158 (0 : Int) >>= fun r177 =>
if (r177.length : Int) < (x_worths.length : Int) then (
raise "NoTree")
else (
.ok (x_worths, (sortT x_ties)))))
def sp_tree_of (mg : Str → Option Value) : Sp := fun vs H Q E => ∃ (F : Hp) (v_worths : V) (x_worths : (List Int)) (v_ties : V) (x_ties : (List (T3 Int Int Int))), vs = [v_worths, v_ties] ∧ Pre F [] H ∧ R (a := (List Int)) F v_worths x_worths ∧ R (a := (List (T3 Int Int Int))) F v_ties x_ties ∧
  wp (m_tree_of x_worths x_ties) (fun r => ∀ (F' H' : Hp), Gr [] F H F' H' → ∀ (p : Addr) (q0 : Addr) (v0 : (List V)) (q1 : Addr) (v1 : (List V)), H q0 = none → F' q0 = none → H' q0 = some (.lst v0) → RL (a := Int) F' v0 r.1 → H q1 = none → F' q1 = none → H' q1 = some (.lst v1) → RL (a := (T3 Int Int Int)) F' v1 r.2 → q0 ≠ q1 → F' p = some (.tup [.ref q0, .ref q1]) → Q (.ref p) H')
  (fun n => ∀ (C : Addr) (H' : Hp), mg (Str.ofString n) = some (.ref C) → Kp [] H H' → E (.ref C) none H')
set_option maxHeartbeats 20000000 in
theorem ok_tree_of (nb : Nb mg) (C_come_to : Ca P w K mg base "come_to" 1 ["near", "place"] (sp_come_to mg)) (C_tied_places : Ca P w K mg base "tied_places" 1 ["many", "ties"] (sp_tied_places mg)) (E_NoTree : ∃ C, Xc K mg "NoTree" C) (D : Df K mg "tree_of" "tree_of" s_tree_of ["worths", "ties"]) : Ca P w K mg base "tree_of" 2 ["worths", "ties"] (sp_tree_of mg) := by
  obtain ⟨fa_come_to, fd_come_to, G_come_to, M_come_to, K_come_to, B_come_to⟩ := C_come_to.ex
  obtain ⟨fa_tied_places, fd_tied_places, G_tied_places, M_tied_places, K_tied_places, B_tied_places⟩ := C_tied_places.ex
  obtain ⟨XC_NoTree, X_NoTree⟩ := E_NoTree
  refine Ca.mk' D sc_tree_of (fun vs H Q E h => ?_) (fun q_ f_ cdv A outer s H vs Q E hr h => ?_)
  · obtain ⟨F, _, _, _, _, rfl, _⟩ := h
    rfl
  · obtain ⟨F, v_worths, x_worths, v_ties, x_ties, rfl, P0, f_worths, f_ties, hk⟩ := h
    have nd := sc_tree_of.nd
    have hu64 := hr.units
    have hu128 := hu128_of hr
    have O := P0.start
    refine ⟨_, (pss_cons (ps_toN (ps_set (i := 2) nd rfl (Or.inr rfl) (pe_callB call_lenT (by rfl) nb.b_len PySem.boot_len (pa_cons (pv 0) pa_nil))))
  (pss_cons (ps_toN (ps_setLc (i := 3) (own := [("a", 4), ("b", 5), ("length", 6)]) (g := gTup K 3 (gCons (gName 4) (gCons (gName 5) (gCons (gName 6) (gNil))))) (tt := _) rfl nd rfl rfl (sw_true rfl rfl rfl (by decide +kernel)) (piListK (K := K) rfl (pv 1)) (blkOk_by (own := [("a", 4), ("b", 5), ("length", 6)]) (N := ["worths", "ties", "many", "pairs", "a", "b", "length"]) (sc := defScope s_tree_of) (by decide +kernel)) (fun _ _ _ _ _ => (pg_tup rfl (pgs_cons (pg_name (i := 4) nd rfl (Or.inl rfl)) (pgs_cons (pg_name (i := 5) nd rfl (Or.inl rfl)) (pgs_cons (pg_name (i := 6) nd rfl (Or.inl rfl)) pgs_nil))))) (fun _ _ _ _ _ => pts_nil) (fun _ _ _ _ _ => (pe_tup (pa_cons (pv 4) (pa_cons (pv 5) pa_nil))))))
  (pss_cons (ps_if (PW.pt (pw_or (pt_cmpR (op_neT Int hu64) (pe_callB call_lenT (by rfl) nb.b_len PySem.boot_len (pa_cons (pv 3) pa_nil)) (pe_op op_sub (pv 2) pe_int) (nomark _)) (pw_or1 (pt_cmpR (op_neT (List (Int × Int)) hu64) (pe_lc (own := [("a", 4), ("b", 5)]) (g := gTup K 2 (gCons (gName 4) (gCons (gName 5) (gNil)))) (tt := _) rfl nd (piListK (K := K) rfl (pv 3)) (blkOk_by (own := [("a", 4), ("b", 5)]) (N := ["worths", "ties", "many", "pairs", "a", "b", "length"]) (sc := defScope s_tree_of) (by decide +kernel)) (fun _ _ _ _ _ => (pg_tup rfl (pgs_cons (pg_name (i := 4) nd rfl (Or.inl rfl)) (pgs_cons (pg_name (i := 5) nd rfl (Or.inl rfl)) pgs_nil)))) (fun _ _ _ _ _ => (pts_one (pt_not (pt_chain3 op_le op_lt op_lt pe_int (pv 4) (pv 5) (pv 2))))) (fun _ _ _ _ _ => (pe_tup (pa_cons (pv 4) (pa_cons (pv 5) pa_nil))))) (pe_lst pa_nil) (nomark _))))) (pss_one (ps_raise rfl (takes_of rfl rfl rfl rfl) (pmk_own PySem.F.excBase_ValueError X_NoTree.x X_NoTree.g X_NoTree.k (raises_own X_NoTree.b X_NoTree.t) rfl))) pss_nil)
  (pss_cons (ps_if (pt_cmpR op_lt (pe_callB call_lenT (by rfl) nb.b_len PySem.boot_len (pa_cons (pe_call G_come_to (hr.mono (by decide)) rfl M_come_to K_come_to B_come_to .nil (passes_call (takes_of rfl rfl rfl rfl) fun _ _ _ _ h => h) (pa_cons (pe_call G_tied_places (hr.mono (by decide)) rfl M_tied_places K_tied_places B_tied_places .nil (passes_call (takes_of rfl rfl rfl rfl) fun _ _ _ _ h => h) (pa_cons (pv 2) (pa_cons (pv 1) pa_nil))) (pa_cons pe_int pa_nil))) pa_nil)) (pv 2) (nomark _)) (pss_one (ps_raise rfl (takes_of rfl rfl rfl rfl) (pmk_own PySem.F.excBase_ValueError X_NoTree.x X_NoTree.g X_NoTree.k (raises_own X_NoTree.b X_NoTree.t) rfl))) pss_nil)
  (pss_one (ps_ret (pe_tup (pa_cons (pe_callTy (listOfK (K := K) rfl) (by rfl) nb.b_list (by decide +kernel) (pa_cons (pv 0) pa_nil)) (pa_cons (pe_callB (cr_sortedT (T3 Int Int Int) hu128) (by rfl) nb.b_sorted (by decide +kernel) (pa_cons (pv 1) pa_nil)) pa_nil))))))))), ?_⟩
    obtain ⟨p1, w2, e3, h4, hl5⟩ := R.lst_ f_worths
    cases e3
    obtain ⟨p6, w7, e8, h9, hl10⟩ := R.lst_ f_ties
    cases e8
    obtain ⟨c16, L12, hL13, hLs14, hLd15⟩ := compS_L hk
    refine ⟨_, rfl, _, _, _, rfl, (.inl (O.s _ _ h4)), hl5.len, [some (V.ref p1), some (V.ref p6), some (V.int (x_worths.length : Int)), none, none, none, none], rfl, _, rfl, _, rfl, ⟨_, (SqLF O.s h9)⟩, fun p17 hp18 => ?_⟩
    have z50 := O.was hp18
    refine lc_list (K := K) (xs := w7) (fun i H => ∃ (F_ : Hp) (st : Unit) (acc : List (Int × Int)) (wa : List V), Same F F_ ∧ Ow _ F_ [(p17, .lst wa)] H ∧ RL F_ wa acc ∧ wa.length ≤ i ∧ L12 (List.drop i x_ties) acc st) ⟨F, (), [], [], Same.refl _, O.new hp18, RL.nil, Nat.zero_le _, hL13⟩ (fun i_ H_ _ hp_ => ?_) ?_ ?_
    · obtain ⟨_, _, _, _, hS_, hO_, _⟩ := hp_
      exact SqLF hO_.s (hS_ _ _ h9)
    · rintro i19 x20 H21 hi22 ⟨F27, st28, acc24, wa25, S29, O31, hl30, la26, hL13⟩
      have hl10 := hl10.mono S29
      obtain ⟨y11, e32, r33⟩ := RL.got hl10 hi22
      rw [drop_at e32] at hL13
      have hk := hLs14 _ _ _ _ hL13
      obtain ⟨p34, v37, v38, v39, e35, h36, r40, r41, r42⟩ := R.t3_ r33
      cases e35
      obtain rfl := R.int_ r40
      obtain rfl := R.int_ r41
      obtain rfl := R.int_ r42
      refine ⟨_, _, rfl, (SqTF O31.s h36), rfl, _, _, rfl, _, _, rfl, _, _, rfl, rfl, rfl, ?_⟩
      refine ⟨_, rfl, _, rfl, (by show 2 ≤ sizeLine; decide), fun p43 hp44 => ?_⟩
      obtain ⟨F45, O46, S47, h48⟩ := O31.putE hp44 (.tup [V.int y11.a, V.int y11.b])
      have hl10 := hl10.mono S47
      have S29 := S29.trans S47
      have hl30 := hl30.mono S47
      have h49 : R (a := (Int × Int)) F45 (.ref p43) (y11.a, y11.b) := R.t2 h48 R.int R.int
      refine ⟨_, (O46.at 0 rfl), (comp_len la26 hi22 hl10.len c16), ?_⟩
      exact ⟨F45, (), acc24 ++ [(y11.a, y11.b)], wa25 ++ [V.ref p43], S29, O46.set 0 (.lst (wa25 ++ [V.ref p43])) rfl, RL.snoc hl30 h49, by rw [List.length_append]; exact Nat.succ_le_succ la26, hk⟩
    rintro H51 ⟨F52, st53, acc54, wa55, S56, O57, hl58, la59, hL60⟩
    rw [drop_end hl10.len] at hL60
    have hk := hLd15 _ _ hL60
    have f_worths := f_worths.mono S56
    have f_ties := f_ties.mono S56
    obtain ⟨F62, O63, S64, h65⟩ := O57.frzE 0 rfl z50
    have f_worths := f_worths.mono S64
    have f_ties := f_ties.mono S64
    have hl58 := hl58.mono S64
    have h66 := R.lst (a := (Int × Int)) h65 hl58
    obtain ⟨p67, w68, e69, h70, hl71⟩ := R.lst_ h66
    cases e69
    refine ⟨[some (V.ref p1), some (V.ref p6), some (V.int (x_worths.length : Int)), some (V.ref p17), none, none, none], rfl, _, rfl, _, _, _, rfl, (.inl (O63.s _ _ h70)), hl71.len, _, rfl, _, _, rfl, rfl, _, _, R.int, R.int, _, rfl, ?_⟩
    refine iteD (fun q72 => ?_) (fun q72 => ?_)
    · have hk := wp_if hk q72
      refine iteT ?_
      exact hk _ _ X_NoTree.g O63.kp
    · have hk := wp_el hk q72
      obtain ⟨p73, w74, e75, h76, hl77⟩ := R.lst_ h66
      cases e75
      obtain ⟨c83, L79, hL80, hLs81, hLd82⟩ := compS_L hk
      refine ⟨_, rfl, _, rfl, ⟨_, (SqLF O63.s h76)⟩, fun p84 hp85 => ?_⟩
      have z132 := O63.was hp85
      refine lc_list (K := K) (xs := w74) (fun i H => ∃ (F_ : Hp) (st : Unit) (acc : List (Int × Int)) (wa : List V), Same F62 F_ ∧ Ow _ F_ [(p84, .lst wa)] H ∧ RL F_ wa acc ∧ wa.length ≤ i ∧ L79 (List.drop i acc54) acc st) ⟨F62, (), [], [], Same.refl _, O63.new hp85, RL.nil, Nat.zero_le _, hL80⟩ (fun i_ H_ _ hp_ => ?_) ?_ ?_
      · obtain ⟨_, _, _, _, hS_, hO_, _⟩ := hp_
        exact SqLF hO_.s (hS_ _ _ h76)
      · rintro i86 x87 H88 hi89 ⟨F94, st95, acc91, wa92, S96, O98, hl97, la93, hL80⟩
        have hl77 := hl77.mono S96
        obtain ⟨y78, e99, r100⟩ := RL.got hl77 hi89
        rw [drop_at e99] at hL80
        have hk := hLs81 _ _ _ _ hL80
        obtain ⟨p101, v104, v105, e102, h103, r106, r107⟩ := R.t2_ r100
        cases e102
        obtain rfl := R.int_ r106
        obtain rfl := R.int_ r107
        refine ⟨_, _, rfl, (SqTF O98.s h103), rfl, _, _, rfl, _, _, rfl, rfl, rfl, _, rfl, _, _, rfl, rfl, _, rfl, ?_⟩
        refine iteD (fun q108 => ?_) (fun q108 => ?_)
        · have hk := wp_if hk q108
          refine ⟨_, rfl, _, _, rfl, rfl, _, rfl, ?_⟩
          refine iteD (fun q109 => ?_) (fun q109 => ?_)
          · have hk := wp_if hk q109
            refine ⟨_, rfl, _, _, rfl, rfl, _, rfl, ?_⟩
            refine iteN (fun q110 => ?_) (fun q110 => ?_)
            · have hk := wp_if hk q110
              exact ⟨F94, (), acc91, wa92, S96, O98, hl97, Nat.le_succ_of_le la93, hk⟩
            · have hk := wp_el hk q110
              refine ⟨_, rfl, _, rfl, (by show 2 ≤ sizeLine; decide), fun p111 hp112 => ?_⟩
              obtain ⟨F113, O114, S115, h116⟩ := O98.putE hp112 (.tup [V.int y78.1, V.int y78.2])
              have hl77 := hl77.mono S115
              have S96 := S96.trans S115
              have hl97 := hl97.mono S115
              have h117 : R (a := (Int × Int)) F113 (.ref p111) (y78.1, y78.2) := R.t2 h116 R.int R.int
              refine ⟨_, (O114.at 0 rfl), (comp_len la93 hi89 hl77.len c83), ?_⟩
              exact ⟨F113, (), acc91 ++ [(y78.1, y78.2)], wa92 ++ [V.ref p111], S96, O114.set 0 (.lst (wa92 ++ [V.ref p111])) rfl, RL.snoc hl97 h117, by rw [List.length_append]; exact Nat.succ_le_succ la93, hk⟩
          · have hk := wp_el hk q109
            refine ⟨_, rfl, ?_⟩
            refine iteNF ?_
            refine ⟨_, rfl, _, rfl, (by show 2 ≤ sizeLine; decide), fun p118 hp119 => ?_⟩
            obtain ⟨F120, O121, S122, h123⟩ := O98.putE hp119 (.tup [V.int y78.1, V.int y78.2])
            have hl77 := hl77.mono S122
            have S96 := S96.trans S122
            have hl97 := hl97.mono S122
            have h124 : R (a := (Int × Int)) F120 (.ref p118) (y78.1, y78.2) := R.t2 h123 R.int R.int
            refine ⟨_, (O121.at 0 rfl), (comp_len la93 hi89 hl77.len c83), ?_⟩
            exact ⟨F120, (), acc91 ++ [(y78.1, y78.2)], wa92 ++ [V.ref p118], S96, O121.set 0 (.lst (wa92 ++ [V.ref p118])) rfl, RL.snoc hl97 h124, by rw [List.length_append]; exact Nat.succ_le_succ la93, hk⟩
        · have hk := wp_el hk q108
          refine ⟨_, rfl, ?_⟩
          refine iteNF ?_
          refine ⟨_, rfl, _, rfl, (by show 2 ≤ sizeLine; decide), fun p125 hp126 => ?_⟩
          obtain ⟨F127, O128, S129, h130⟩ := O98.putE hp126 (.tup [V.int y78.1, V.int y78.2])
          have hl77 := hl77.mono S129
          have S96 := S96.trans S129
          have hl97 := hl97.mono S129
          have h131 : R (a := (Int × Int)) F127 (.ref p125) (y78.1, y78.2) := R.t2 h130 R.int R.int
          refine ⟨_, (O128.at 0 rfl), (comp_len la93 hi89 hl77.len c83), ?_⟩
          exact ⟨F127, (), acc91 ++ [(y78.1, y78.2)], wa92 ++ [V.ref p125], S96, O128.set 0 (.lst (wa92 ++ [V.ref p125])) rfl, RL.snoc hl97 h131, by rw [List.length_append]; exact Nat.succ_le_succ la93, hk⟩
      rintro H133 ⟨F134, st135, acc136, wa137, S138, O139, hl140, la141, hL142⟩
      rw [drop_end hl77.len] at hL142
      have hk := hLd82 _ _ hL142
      have f_worths := f_worths.mono S138
      have f_ties := f_ties.mono S138
      obtain ⟨F144, O145, S146, h147⟩ := O139.frzE 0 rfl z132
      have f_worths := f_worths.mono S146
      have f_ties := f_ties.mono S146
      have hl140 := hl140.mono S146
      have h148 := R.lst (a := (Int × Int)) h147 hl140
      refine ⟨(by show 0 ≤ sizeLine; decide), fun p149 hp150 => ?_⟩
      have hl156 : RL (a := (Int × Int)) F144 ([]) ([] : List (Int × Int)) := RL.nil
      obtain ⟨F151, O152, S153, h154⟩ := O145.putE hp150 (.lst ([]))
      have f_worths := f_worths.mono S153
      have f_ties := f_ties.mono S153
      have h148 := h148.mono S153
      have hl156 := hl156.mono S153
      have h155 := R.lst (a := (Int × Int)) h154 hl156
      refine ⟨_, _, (R.mono h148 O152.s), (R.mono h155 O152.s), _, rfl, ?_⟩
      refine iteD (fun q157 => ?_) (fun q157 => ?_)
      · have hk := wp_if hk q157
        exact hk _ _ X_NoTree.g O152.kp
      · have hk := wp_el hk q157
        refine ⟨_, rfl, _, rfl, _, _, _, _, rfl, O152.pre0, f_ties, wp_call hk (fun r158 er159 hk F160 H161 g162 p163 w164 hn165 hf166 h167 hl168 => ?_) (fun n hn C H1 hC kp => hn C H1 hC (O152.kp0 kp))⟩
        have O169 := O152.call0 g162
        have S_ := g162.f
        have f_worths := f_worths.mono S_
        have f_ties := f_ties.mono S_
        have O170 := O152.got O169 rfl hn165 hf166 h167
        have z171 := O152.was hn165
        obtain ⟨F172, O173, S174, h175⟩ := O170.frzE 0 rfl z171
        have f_worths := f_worths.mono S174
        have f_ties := f_ties.mono S174
        have hl168 := hl168.mono S174
        have h176 := R.lst (a := (List Int)) h175 hl168
        refine ⟨_, _, _, _, rfl, O173.pre0, h176, wp_call hk (fun r177 er178 hk F179 H180 g181 p182 w183 hn184 hf185 h186 hl187 => ?_) (fun n hn C H1 hC kp => hn C H1 hC (O173.kp0 kp))⟩
        have O188 := O173.call0 g181
        have S_ := g181.f
        have f_worths := f_worths.mono S_
        have f_ties := f_ties.mono S_
        have O189 := O173.got O188 rfl hn184 hf185 h186
        have z190 := O173.was hn184
        obtain ⟨F191, O192, S193, h194⟩ := O189.frzE 0 rfl z190
        have f_worths := f_worths.mono S193
        have f_ties := f_ties.mono S193
        have hl187 := hl187.mono S193
        have h195 := R.lst (a := Int) h194 hl187
        obtain ⟨p196, w197, e198, h199, hl200⟩ := R.lst_ h195
        cases e198
        refine ⟨_, _, _, rfl, (.inl (O192.s _ _ h199)), hl200.len, _, rfl, _, _, rfl, rfl, _, rfl, ?_⟩
        refine iteD (fun q201 => ?_) (fun q201 => ?_)
        · have hk := wp_if hk q201
          exact hk _ _ X_NoTree.g O192.kp
        · have hk := wp_el hk q201
          obtain ⟨p205, w206, e207, h208, hl209⟩ := R.lst_ f_worths
          cases e207
          refine ⟨_, rfl, _, _, rfl, (.inl (SqLF O192.s h208)), fun p210 hp211 => ?_⟩
          have hl213 : RL (a := Int) F191 w206 x_worths := hl209
          have z214 := O192.was hp211
          have O212 := O192.new (o := .lst w206) hp211
          obtain ⟨p215, w216, e217, h218, hl219⟩ := R.lst_ f_ties
          cases e217
          refine ⟨_, rfl, _, _, _, rfl, (O212.s _ _ h218), (RL.mono hl219 O212.s), fun p220 hp221 => ?_⟩
          have hl223 : RL (a := (T3 Int Int Int)) F191 (sortV w216 x_ties) (sortT x_ties) := (RL.sorted hl219)
          have z224 := O212.was hp221
          have O222 := O212.new (o := .lst (sortV w216 x_ties)) hp221
          refine ⟨(by show 2 ≤ sizeLine; decide), fun p225 hp226 => ?_⟩
          obtain ⟨F227, O228, S229, h230⟩ := O222.putE hp226 (.tup [V.ref p210, V.ref p220])
          have hl213 := hl213.mono S229
          have hl223 := hl223.mono S229
          exact hk _ _  O228.g  _ _ _ _ _ z214 (O228.cf _ (List.mem_of_getElem? (i := 1) rfl)) (O228.at 1 rfl) hl213 z224 (O228.cf _ (List.mem_of_getElem? (i := 0) rfl)) (O228.at 0 rfl) hl223 (O228.ne 1 0 (by decide) rfl rfl) h230
abbrev s_number_in : Stmt := top 10
theorem sc_number_in : FnScope ["word", "sign"] ["word"] (defScope s_number_in) := ⟨rfl, rfl, rfl, by decide +kernel, rfl, by decide +kernel, by decide +kernel⟩
def m_number_in (x_word : Str) : M (Int) :=
if x_word = ("" : Str) then (
raise "NoText")
else (
chk (x_word.length ≤ 16777216) >>= fun _ =>
opt (atI (sgL x_word) (0 : Int)) >>= fun y2 =>
if y2 = ("0" : Str) then (
if x_word ≠ ("0" : Str) then (
raise "NoText")
else (
compS (fun (y10 : Str) (st27 : Unit) =>
if y10 ∉ sgL ("0123456789" : Str) then (
.ok (some y10, ()))
else (
.ok (none, ()))) (sgL x_word) () >>= fun q46 =>
if q46.1 ≠ ([] : List Str) then (
raise "NoText")
else (
chk (x_word.length ≤ 640) >>= fun _ =>
opt (PySem.intText? x_word) >>= fun y62 =>
.ok y62)))
else (
compS (fun (y64 : Str) (st81 : Unit) =>
if y64 ∉ sgL ("0123456789" : Str) then (
.ok (some y64, ()))
else (
.ok (none, ()))) (sgL x_word) () >>= fun q100 =>
if q100.1 ≠ ([] : List Str) then (
raise "NoText")
else (
chk (x_word.length ≤ 640) >>= fun _ =>
opt (PySem.intText? x_word) >>= fun y116 =>
.ok y116)))
def sp_number_in (mg : Str → Option Value) : Sp := fun vs H Q E => ∃ (F : Hp) (x_word : Str), vs = [V.str x_word] ∧ Pre F [] H ∧
  wp (m_number_in x_word) (fun r => ∀ (F' H' : Hp), Gr [] F H F' H' → Q (V.int r) H')
  (fun n => ∀ (C : Addr) (H' : Hp), mg (Str.ofString n) = some (.ref C) → Kp [] H H' → E (.ref C) none H')
set_option maxHeartbeats 20000000 in
theorem ok_number_in (nb : Nb mg) (E_NoText : ∃ C, Xc K mg "NoText" C) (D : Df K mg "number_in" "number_in" s_number_in ["word"]) : Ca P w K mg base "number_in" 1 ["word"] (sp_number_in mg) := by
  obtain ⟨XC_NoText, X_NoText⟩ := E_NoText
  refine Ca.mk' D sc_number_in (fun vs H Q E h => ?_) (fun q_ f_ cdv A outer s H vs Q E hr h => ?_)
  · obtain ⟨F, _, rfl, _⟩ := h
    rfl
  · obtain ⟨F, x_word, rfl, P0, hk⟩ := h
    have nd := sc_number_in.nd
    have hu64 := hr.units
    have hu128 := hu128_of hr
    have O := P0.start
    refine ⟨_, (pss_cons (ps_if (PW.pt (pw_or (pt_cmpR (op_eqT Str hu64) (pv 0) pe_str (nomark _)) (pw_or (PW.pt (pw_and (pt_cmpR (op_eqT Str hu64) (pe_ix ix_sg (pv 0) pe_int (fun _ _ => rfl)) pe_str (nomark _)) (pw_and1 (pt_cmpR (op_neT Str hu64) (pv 0) pe_str (nomark _))))) (pw_or1 (pt_cmpR (op_neT (List Str) hu64) (pe_lc (own := [("sign", 1)]) (g := gName 1) (tt := _) rfl nd (pi_str (pv 0)) (blkOk_by (own := [("sign", 1)]) (N := ["word", "sign"]) (sc := defScope s_number_in) (by decide +kernel)) (fun _ _ _ _ _ => (pg_name (i := 1) nd rfl (Or.inl rfl))) (fun _ _ _ _ _ => (pts_one (pt_cmpR op_niS (pv 1) (C8.pe_gc (by rfl) nb.c_FIGURES) rfl))) (fun _ _ _ _ _ => (pv 1))) (pe_lst pa_nil) (nomark _)))))) (pss_one (ps_raise rfl (takes_of rfl rfl rfl rfl) (pmk_own PySem.F.excBase_ValueError X_NoText.x X_NoText.g X_NoText.k (raises_own X_NoText.b X_NoText.t) rfl))) pss_nil)
  (pss_one (ps_ret (pe_callTy call_int_str (by rfl) nb.b_int (by decide +kernel) (pa_cons (pv 0) pa_nil))))), ?_⟩
    refine ⟨_, rfl, _, _, R.str, R.str, _, rfl, ?_⟩
    refine iteD (fun q1 => ?_) (fun q1 => ?_)
    · have hk := wp_if hk q1
      refine iteT ?_
      exact hk _ _ X_NoText.g O.kp
    · have hk := wp_el hk q1
      obtain ⟨c7, hk⟩ := wp_chk hk
      obtain ⟨y2, e3, hk⟩ := wp_opt hk
      refine ⟨_, rfl, _, _, _, rfl, rfl, (by rw [sizeLine_eq]; exact c7), e3, _, _, R.str, R.str, _, rfl, ?_⟩
      refine iteD (fun q8 => ?_) (fun q8 => ?_)
      · have hk := wp_if hk q8
        refine ⟨_, rfl, _, _, R.str, R.str, _, rfl, ?_⟩
        refine iteD (fun q9 => ?_) (fun q9 => ?_)
        · have hk := wp_if hk q9
          refine iteT ?_
          exact hk _ _ X_NoText.g O.kp
        · have hk := wp_el hk q9
          obtain ⟨c15, L11, hL12, hLs13, hLd14⟩ := compS_L hk
          refine ⟨_, rfl, _, rfl, fun p16 hp17 => ?_⟩
          have z35 := O.was hp17
          refine lc_it (walk_str (z := x_word)) (fun i H => ∃ (F_ : Hp) (st : Unit) (acc : List Str) (wa : List V), Same F F_ ∧ Ow _ F_ [(p16, .lst wa)] H ∧ RL F_ wa acc ∧ wa.length ≤ i ∧ L11 (List.drop i (sgL x_word)) acc st) ⟨F, (), [], [], Same.refl _, O.new hp17, RL.nil, Nat.zero_le _, hL12⟩ (fun i_ H_ _ hp_ => trivial) ?_ ?_
          · rintro i18 _ H20 _ hi21 ⟨F26, st27, acc23, wa24, S28, O30, hl29, la25, hL12⟩ ⟨rfl, c31, hc32, rfl⟩
            rw [drop_at (sgL_has hc32)] at hL12
            have hk := hLs13 _ _ _ _ hL12
            obtain ⟨y10, he33⟩ : ∃ z_, z_ = sg c31 := ⟨_, rfl⟩
            try rw [← he33] at hk
            rw [show (⟨#[c31]⟩ : Str) = y10 from he33.symm]
            refine ⟨rfl, _, rfl, _, _, rfl, rfl, ⟨_, he33⟩, _, rfl, ?_⟩
            refine iteD (fun q34 => ?_) (fun q34 => ?_)
            · have hk := wp_if hk q34
              refine ⟨_, rfl, _, (O30.at 0 rfl), (comp_lenS (z := x_word) la25 hi21 c15), ?_⟩
              exact ⟨F26, (), acc23 ++ [y10], wa24 ++ [V.str y10], S28, O30.set 0 (.lst (wa24 ++ [V.str y10])) rfl, RL.snoc hl29 R.str, by rw [List.length_append]; exact Nat.succ_le_succ la25, hk⟩
            · have hk := wp_el hk q34
              exact ⟨F26, (), acc23, wa24, S28, O30, hl29, Nat.le_succ_of_le la25, hk⟩
          rintro H36 ⟨F37, st38, acc39, wa40, S41, O42, hl43, la44, hL45⟩
          rw [sgL_end] at hL45
          have hk := hLd14 _ _ hL45
          obtain ⟨F47, O48, S49, h50⟩ := O42.frzE 0 rfl z35
          have hl43 := hl43.mono S49
          have h51 := R.lst (a := Str) h50 hl43
          refine ⟨(by show 0 ≤ sizeLine; decide), fun p52 hp53 => ?_⟩
          have hl59 : RL (a := Str) F47 ([]) ([] : List Str) := RL.nil
          obtain ⟨F54, O55, S56, h57⟩ := O48.putE hp53 (.lst ([]))
          have h51 := h51.mono S56
          have hl59 := hl59.mono S56
          have h58 := R.lst (a := Str) h57 hl59
          refine ⟨_, _, (R.mono h51 O55.s), (R.mono h58 O55.s), _, rfl, ?_⟩
          refine iteD (fun q60 => ?_) (fun q60 => ?_)
          · have hk := wp_if hk q60
            exact hk _ _ X_NoText.g O55.kp
          · have hk := wp_el hk q60
            obtain ⟨c61, hk⟩ := wp_chk hk
            obtain ⟨y62, e63, hk⟩ := wp_opt hk
            refine ⟨_, rfl, _, _, rfl, e63, c61, ?_⟩
            exact hk _ _  O55.g 
      · have hk := wp_el hk q8
        refine iteF ?_
        obtain ⟨c69, L65, hL66, hLs67, hLd68⟩ := compS_L hk
        refine ⟨_, rfl, _, rfl, fun p70 hp71 => ?_⟩
        have z89 := O.was hp71
        refine lc_it (walk_str (z := x_word)) (fun i H => ∃ (F_ : Hp) (st : Unit) (acc : List Str) (wa : List V), Same F F_ ∧ Ow _ F_ [(p70, .lst wa)] H ∧ RL F_ wa acc ∧ wa.length ≤ i ∧ L65 (List.drop i (sgL x_word)) acc st) ⟨F, (), [], [], Same.refl _, O.new hp71, RL.nil, Nat.zero_le _, hL66⟩ (fun i_ H_ _ hp_ => trivial) ?_ ?_
        · rintro i72 _ H74 _ hi75 ⟨F80, st81, acc77, wa78, S82, O84, hl83, la79, hL66⟩ ⟨rfl, c85, hc86, rfl⟩
          rw [drop_at (sgL_has hc86)] at hL66
          have hk := hLs67 _ _ _ _ hL66
          obtain ⟨y64, he87⟩ : ∃ z_, z_ = sg c85 := ⟨_, rfl⟩
          try rw [← he87] at hk
          rw [show (⟨#[c85]⟩ : Str) = y64 from he87.symm]
          refine ⟨rfl, _, rfl, _, _, rfl, rfl, ⟨_, he87⟩, _, rfl, ?_⟩
          refine iteD (fun q88 => ?_) (fun q88 => ?_)
          · have hk := wp_if hk q88
            refine ⟨_, rfl, _, (O84.at 0 rfl), (comp_lenS (z := x_word) la79 hi75 c69), ?_⟩
            exact ⟨F80, (), acc77 ++ [y64], wa78 ++ [V.str y64], S82, O84.set 0 (.lst (wa78 ++ [V.str y64])) rfl, RL.snoc hl83 R.str, by rw [List.length_append]; exact Nat.succ_le_succ la79, hk⟩
          · have hk := wp_el hk q88
            exact ⟨F80, (), acc77, wa78, S82, O84, hl83, Nat.le_succ_of_le la79, hk⟩
        rintro H90 ⟨F91, st92, acc93, wa94, S95, O96, hl97, la98, hL99⟩
        rw [sgL_end] at hL99
        have hk := hLd68 _ _ hL99
        obtain ⟨F101, O102, S103, h104⟩ := O96.frzE 0 rfl z89
        have hl97 := hl97.mono S103
        have h105 := R.lst (a := Str) h104 hl97
        refine ⟨(by show 0 ≤ sizeLine; decide), fun p106 hp107 => ?_⟩
        have hl113 : RL (a := Str) F101 ([]) ([] : List Str) := RL.nil
        obtain ⟨F108, O109, S110, h111⟩ := O102.putE hp107 (.lst ([]))
        have h105 := h105.mono S110
        have hl113 := hl113.mono S110
        have h112 := R.lst (a := Str) h111 hl113
        refine ⟨_, _, (R.mono h105 O109.s), (R.mono h112 O109.s), _, rfl, ?_⟩
        refine iteD (fun q114 => ?_) (fun q114 => ?_)
        · have hk := wp_if hk q114
          exact hk _ _ X_NoText.g O109.kp
        · have hk := wp_el hk q114
          obtain ⟨c115, hk⟩ := wp_chk hk
          obtain ⟨y116, e117, hk⟩ := wp_opt hk
          refine ⟨_, rfl, _, _, rfl, e117, c115, ?_⟩
          exact hk _ _  O109.g 
abbrev s_whole_in : Stmt := top 11
theorem sc_whole_in : FnScope ["word"] ["word"] (defScope s_whole_in) := ⟨rfl, rfl, rfl, by decide +kernel, rfl, by decide +kernel, by decide +kernel⟩
def m_whole_in (x_word : Str) : M (Int) :=
chk (x_word.length ≤ 16777216) >>= fun _ =>
if (cutS x_word none (some (1 : Int))) = ("-" : Str) then (
if x_word = ("-0" : Str) then (
raise "NoText")
else (
chk (x_word.length ≤ 16777216) >>= fun _ =>
m_number_in (cutS x_word (some (1 : Int)) none) >>= fun r5 =>
.ok ((0 : Int) - r5)))
else (
m_number_in x_word >>= fun r11 =>
.ok r11)
def sp_whole_in (mg : Str → Option Value) : Sp := fun vs H Q E => ∃ (F : Hp) (x_word : Str), vs = [V.str x_word] ∧ Pre F [] H ∧
  wp (m_whole_in x_word) (fun r => ∀ (F' H' : Hp), Gr [] F H F' H' → Q (V.int r) H')
  (fun n => ∀ (C : Addr) (H' : Hp), mg (Str.ofString n) = some (.ref C) → Kp [] H H' → E (.ref C) none H')
set_option maxHeartbeats 20000000 in
theorem ok_whole_in (nb : Nb mg) (C_number_in : Ca P w K mg base "number_in" 1 ["word"] (sp_number_in mg)) (E_NoText : ∃ C, Xc K mg "NoText" C) (D : Df K mg "whole_in" "whole_in" s_whole_in ["word"]) : Ca P w K mg base "whole_in" 2 ["word"] (sp_whole_in mg) := by
  obtain ⟨fa_number_in, fd_number_in, G_number_in, M_number_in, K_number_in, B_number_in⟩ := C_number_in.ex
  obtain ⟨XC_NoText, X_NoText⟩ := E_NoText
  refine Ca.mk' D sc_whole_in (fun vs H Q E h => ?_) (fun q_ f_ cdv A outer s H vs Q E hr h => ?_)
  · obtain ⟨F, _, rfl, _⟩ := h
    rfl
  · obtain ⟨F, x_word, rfl, P0, hk⟩ := h
    have nd := sc_whole_in.nd
    have hu64 := hr.units
    have hu128 := hu128_of hr
    have O := P0.start
    refine ⟨_, (pss_cons (ps_if (pt_cmpR (op_eqT Str hu64) (pe_slice sl_str (pv 0) po_none (po_some pe_int)) pe_str (nomark _)) (pss_cons (ps_if (pt_cmpR (op_eqT Str hu64) (pv 0) pe_str (nomark _)) (pss_one (ps_raise rfl (takes_of rfl rfl rfl rfl) (pmk_own PySem.F.excBase_ValueError X_NoText.x X_NoText.g X_NoText.k (raises_own X_NoText.b X_NoText.t) rfl))) pss_nil)
  (pss_one (ps_ret (pe_op op_sub pe_int (pe_call G_number_in (hr.mono (by decide)) rfl M_number_in K_number_in B_number_in .nil (passes_call (takes_of rfl rfl rfl rfl) fun _ _ _ _ h => h) (pa_cons (pe_slice sl_str (pv 0) (po_some pe_int) po_none) pa_nil)))))) pss_nil)
  (pss_one (ps_ret (pe_call G_number_in (hr.mono (by decide)) rfl M_number_in K_number_in B_number_in .nil (passes_call (takes_of rfl rfl rfl rfl) fun _ _ _ _ h => h) (pa_cons (pv 0) pa_nil))))), ?_⟩
    obtain ⟨c1, hk⟩ := wp_chk hk
    refine ⟨_, rfl, _, rfl, _, rfl, (by rw [sizeLine_eq]; exact c1), _, _, R.str, R.str, _, rfl, ?_⟩
    refine iteD (fun q2 => ?_) (fun q2 => ?_)
    · have hk := wp_if hk q2
      refine ⟨_, rfl, _, _, R.str, R.str, _, rfl, ?_⟩
      refine iteD (fun q3 => ?_) (fun q3 => ?_)
      · have hk := wp_if hk q3
        exact hk _ _ X_NoText.g O.kp
      · have hk := wp_el hk q3
        obtain ⟨c4, hk⟩ := wp_chk hk
        refine ⟨_, rfl, _, rfl, _, rfl, (by rw [sizeLine_eq]; exact c4), _, _, rfl, O.pre0, wp_call hk (fun r5 er6 hk F7 H8 g9 => ?_) (fun n hn C H1 hC kp => hn C H1 hC (O.kp0 kp))⟩
        have O10 := O.call0 g9
        refine ⟨_, _, rfl, rfl, ?_⟩
        exact hk _ _  O10.g 
    · have hk := wp_el hk q2
      refine ⟨_, rfl, _, _, rfl, O.pre0, wp_call hk (fun r11 er12 hk F13 H14 g15 => ?_) (fun n hn C H1 hC kp => hn C H1 hC (O.kp0 kp))⟩
      have O16 := O.call0 g15
      exact hk _ _  O16.g 
abbrev s_show_tree : Stmt := top 12
theorem sc_show_tree : FnScope ["tree", "ties", "one", "other", "length", "worth"] ["tree"] (defScope s_show_tree) := ⟨rfl, rfl, rfl, by decide +kernel, rfl, by decide +kernel, by decide +kernel⟩
def m_show_tree (x_tree : ((List Int) × (List (T3 Int Int Int)))) : M (Str) :=
compS (fun (y13 : (T3 Int Int Int)) (st30 : Unit) =>
chk (Nat.log2 (Int.natAbs y13.a) < 1920) >>= fun _ =>
chk ((Str.ofString (toString y13.a)).length + ("-" : Str).length ≤ 16777216) >>= fun _ =>
chk (Nat.log2 (Int.natAbs y13.b) < 1920) >>= fun _ =>
chk (((Str.ofString (toString y13.a)) ++ ("-" : Str)).length + (Str.ofString (toString y13.b)).length ≤ 16777216) >>= fun _ =>
chk ((((Str.ofString (toString y13.a)) ++ ("-" : Str)) ++ (Str.ofString (toString y13.b))).length + (":" : Str).length ≤ 16777216) >>= fun _ =>
chk (Nat.log2 (Int.natAbs y13.c) < 1920) >>= fun _ =>
chk (((((Str.ofString (toString y13.a)) ++ ("-" : Str)) ++ (Str.ofString (toString y13.b))) ++ (":" : Str)).length + (Str.ofString (toString y13.c)).length ≤ 16777216) >>= fun _ =>
.ok (some (((((Str.ofString (toString y13.a)) ++ ("-" : Str)) ++ (Str.ofString (toString y13.b))) ++ (":" : Str)) ++ (Str.ofString (toString y13.c))), ())) x_tree.2 () >>= fun q63 =>
compS (fun (y74 : Int) (st91 : Unit) =>
chk (Nat.log2 (Int.natAbs y74) < 1920) >>= fun _ =>
.ok (some (Str.ofString (toString y74)), ())) x_tree.1 () >>= fun q109 =>
chk ((List.map (fun (s_ : Str) => s_.length) q109.1).sum + q109.1.length * (" " : Str).length ≤ 16777216) >>= fun _ =>
chk ((Txt.join (" " : Str) q109.1).length + ("\n" : Str).length ≤ 16777216) >>= fun _ =>
chk ((List.map (fun (s_ : Str) => s_.length) q63.1).sum + q63.1.length * (" " : Str).length ≤ 16777216) >>= fun _ =>
chk (((Txt.join (" " : Str) q109.1) ++ ("\n" : Str)).length + (Txt.join (" " : Str) q63.1).length ≤ 16777216) >>= fun _ =>
.ok (((Txt.join (" " : Str) q109.1) ++ ("\n" : Str)) ++ (Txt.join (" " : Str) q63.1))
def sp_show_tree (mg : Str → Option Value) : Sp := fun vs H Q E => ∃ (F : Hp) (v_tree : V) (x_tree : ((List Int) × (List (T3 Int Int Int)))), vs = [v_tree] ∧ Pre F [] H ∧ R (a := ((List Int) × (List (T3 Int Int Int)))) F v_tree x_tree ∧
  wp (m_show_tree x_tree) (fun r => ∀ (F' H' : Hp), Gr [] F H F' H' → Q (V.str r) H')
  (fun n => ∀ (C : Addr) (H' : Hp), mg (Str.ofString n) = some (.ref C) → Kp [] H H' → E (.ref C) none H')
set_option maxHeartbeats 20000000 in
theorem ok_show_tree (nb : Nb mg) (D : Df K mg "show_tree" "show_tree" s_show_tree ["tree"]) : Ca P w K mg base "show_tree" 1 ["tree"] (sp_show_tree mg) := by
  refine Ca.mk' D sc_show_tree (fun vs H Q E h => ?_) (fun q_ f_ cdv A outer s H vs Q E hr h => ?_)
  · obtain ⟨F, _, _, rfl, _⟩ := h
    rfl
  · obtain ⟨F, v_tree, x_tree, rfl, P0, f_tree, hk⟩ := h
    have nd := sc_show_tree.nd
    have hu64 := hr.units
    have hu128 := hu128_of hr
    have O := P0.start
    refine ⟨_, (pss_cons (ps_toN (ps_setLc (i := 1) (own := [("one", 2), ("other", 3), ("length", 4)]) (g := gTup K 3 (gCons (gName 2) (gCons (gName 3) (gCons (gName 4) (gNil))))) (tt := _) rfl nd rfl rfl (sw_true rfl rfl rfl (by decide +kernel)) (piListK (K := K) rfl (pe_ix (ixTupK (K := K) rfl) (pv 0) pe_int (fun _ _ => rfl))) (blkOk_by (own := [("one", 2), ("other", 3), ("length", 4)]) (N := ["tree", "ties", "one", "other", "length", "worth"]) (sc := defScope s_show_tree) (by decide +kernel)) (fun _ _ _ _ _ => (pg_tup rfl (pgs_cons (pg_name (i := 2) nd rfl (Or.inl rfl)) (pgs_cons (pg_name (i := 3) nd rfl (Or.inl rfl)) (pgs_cons (pg_name (i := 4) nd rfl (Or.inl rfl)) pgs_nil))))) (fun _ _ _ _ _ => pts_nil) (fun _ _ _ _ _ => (pe_op op_add_str (pe_op op_add_str (pe_op op_add_str (pe_op op_add_str (pe_callTy call_str_int (by rfl) nb.b_str (by decide +kernel) (pa_cons (pv 2) pa_nil)) pe_str) (pe_callTy call_str_int (by rfl) nb.b_str (by decide +kernel) (pa_cons (pv 3) pa_nil))) pe_str) (pe_callTy call_str_int (by rfl) nb.b_str (by decide +kernel) (pa_cons (pv 4) pa_nil))))))
  (pss_one (ps_ret (pe_op op_add_str (pe_op op_add_str (pe_join pe_str (pe_lc (own := [("worth", 5)]) (g := gName 5) (tt := _) rfl nd (piListK (K := K) rfl (pe_ix (ixTupK (K := K) rfl) (pv 0) pe_int (fun _ _ => rfl))) (blkOk_by (own := [("worth", 5)]) (N := ["tree", "ties", "one", "other", "length", "worth"]) (sc := defScope s_show_tree) (by decide +kernel)) (fun _ _ _ _ _ => (pg_name (i := 5) nd rfl (Or.inl rfl))) (fun _ _ _ _ _ => pts_nil) (fun _ _ _ _ _ => (pe_callTy call_str_int (by rfl) nb.b_str (by decide +kernel) (pa_cons (pv 5) pa_nil))))) pe_str) (pe_join pe_str (pv 1)))))), ?_⟩
    obtain ⟨p1, v4, v5, e2, h3, r6, r7⟩ := R.t2_ f_tree
    cases e2
    obtain ⟨p8, w9, e10, h11, hl12⟩ := R.lst_ r7
    cases e10
    obtain ⟨c18, L14, hL15, hLs16, hLd17⟩ := compS_L hk
    refine ⟨_, rfl, _, _, _, _, rfl, rfl, (SqTF O.s h3), rfl, _, rfl, ⟨_, (SqLF O.s h11)⟩, fun p19 hp20 => ?_⟩
    have z52 := O.was hp20
    refine lc_list (K := K) (xs := w9) (fun i H => ∃ (F_ : Hp) (st : Unit) (acc : List Str) (wa : List V), Same F F_ ∧ Ow _ F_ [(p19, .lst wa)] H ∧ RL F_ wa acc ∧ wa.length ≤ i ∧ L14 (List.drop i x_tree.2) acc st) ⟨F, (), [], [], Same.refl _, O.new hp20, RL.nil, Nat.zero_le _, hL15⟩ (fun i_ H_ _ hp_ => ?_) ?_ ?_
    · obtain ⟨_, _, _, _, hS_, hO_, _⟩ := hp_
      exact SqLF hO_.s (hS_ _ _ h11)
    · rintro i21 x22 H23 hi24 ⟨F29, st30, acc26, wa27, S31, O33, hl32, la28, hL15⟩
      have hl12 := hl12.mono S31
      obtain ⟨y13, e34, r35⟩ := RL.got hl12 hi24
      rw [drop_at e34] at hL15
      have hk := hLs16 _ _ _ _ hL15
      obtain ⟨p36, v39, v40, v41, e37, h38, r42, r43, r44⟩ := R.t3_ r35
      cases e37
      obtain rfl := R.int_ r42
      obtain rfl := R.int_ r43
      obtain rfl := R.int_ r44
      refine ⟨_, _, rfl, (SqTF O33.s h38), rfl, _, _, rfl, _, _, rfl, _, _, rfl, rfl, rfl, ?_⟩
      obtain ⟨c45, hk⟩ := wp_chk hk
      obtain ⟨c46, hk⟩ := wp_chk hk
      obtain ⟨c47, hk⟩ := wp_chk hk
      obtain ⟨c48, hk⟩ := wp_chk hk
      obtain ⟨c49, hk⟩ := wp_chk hk
      obtain ⟨c50, hk⟩ := wp_chk hk
      obtain ⟨c51, hk⟩ := wp_chk hk
      refine ⟨_, rfl, _, rfl, c45, _, _, rfl, rfl, (by rw [sizeLine_eq]; exact c46), _, rfl, _, rfl, c47, _, _, rfl, rfl, (by rw [sizeLine_eq]; exact c48), _, _, rfl, rfl, (by rw [sizeLine_eq]; exact c49), _, rfl, _, rfl, c50, _, _, rfl, rfl, (by rw [sizeLine_eq]; exact c51), _, (O33.at 0 rfl), (comp_len la28 hi24 hl12.len c18), ?_⟩
      exact ⟨F29, (), acc26 ++ [(((((Str.ofString (toString y13.a)) ++ ("-" : Str)) ++ (Str.ofString (toString y13.b))) ++ (":" : Str)) ++ (Str.ofString (toString y13.c)))], wa27 ++ [V.str (((((Str.ofString (toString y13.a)) ++ ("-" : Str)) ++ (Str.ofString (toString y13.b))) ++ (":" : Str)) ++ (Str.ofString (toString y13.c)))], S31, O33.set 0 (.lst (wa27 ++ [V.str (((((Str.ofString (toString y13.a)) ++ ("-" : Str)) ++ (Str.ofString (toString y13.b))) ++ (":" : Str)) ++ (Str.ofString (toString y13.c)))])) rfl, RL.snoc hl32 R.str, by rw [List.length_append]; exact Nat.succ_le_succ la28, hk⟩
    rintro H53 ⟨F54, st55, acc56, wa57, S58, O59, hl60, la61, hL62⟩
    rw [drop_end hl12.len] at hL62
    have hk := hLd17 _ _ hL62
    have h3 := S58 _ _ h3
    have r6 := r6.mono S58
    obtain ⟨F64, O65, S66, h67⟩ := O59.frzE 0 rfl z52
    have h3 := S66 _ _ h3
    have r6 := r6.mono S66
    have hl60 := hl60.mono S66
    have h68 := R.lst (a := Str) h67 hl60
    obtain ⟨p69, w70, e71, h72, hl73⟩ := R.lst_ r6
    cases e71
    obtain ⟨c79, L75, hL76, hLs77, hLd78⟩ := compS_L hk
    refine ⟨[some (V.ref p1), some (V.ref p19), none, none, none, none], rfl, ⟨_, rfl⟩, _, rfl, _, _, _, _, rfl, rfl, (SqTF O65.s h3), rfl, _, rfl, ⟨_, (SqLF O65.s h72)⟩, fun p80 hp81 => ?_⟩
    have z98 := O65.was hp81
    refine lc_list (K := K) (xs := w70) (fun i H => ∃ (F_ : Hp) (st : Unit) (acc : List Str) (wa : List V), Same F64 F_ ∧ Ow _ F_ [(p80, .lst wa)] H ∧ RL F_ wa acc ∧ wa.length ≤ i ∧ L75 (List.drop i x_tree.1) acc st) ⟨F64, (), [], [], Same.refl _, O65.new hp81, RL.nil, Nat.zero_le _, hL76⟩ (fun i_ H_ _ hp_ => ?_) ?_ ?_
    · obtain ⟨_, _, _, _, hS_, hO_, _⟩ := hp_
      exact SqLF hO_.s (hS_ _ _ h72)
    · rintro i82 x83 H84 hi85 ⟨F90, st91, acc87, wa88, S92, O94, hl93, la89, hL76⟩
      have hl73 := hl73.mono S92
      obtain ⟨y74, e95, r96⟩ := RL.got hl73 hi85
      rw [drop_at e95] at hL76
      have hk := hLs77 _ _ _ _ hL76
      obtain rfl := R.int_ r96
      refine ⟨rfl, ?_⟩
      obtain ⟨c97, hk⟩ := wp_chk hk
      refine ⟨_, rfl, _, rfl, c97, _, (O94.at 0 rfl), (comp_len la89 hi85 hl73.len c79), ?_⟩
      exact ⟨F90, (), acc87 ++ [(Str.ofString (toString y74))], wa88 ++ [V.str (Str.ofString (toString y74))], S92, O94.set 0 (.lst (wa88 ++ [V.str (Str.ofString (toString y74))])) rfl, RL.snoc hl93 R.str, by rw [List.length_append]; exact Nat.succ_le_succ la89, hk⟩
    rintro H99 ⟨F100, st101, acc102, wa103, S104, O105, hl106, la107, hL108⟩
    rw [drop_end hl73.len] at hL108
    have hk := hLd78 _ _ hL108
    have h68 := h68.mono S104
    obtain ⟨F110, O111, S112, h113⟩ := O105.frzE 0 rfl z98
    have h68 := h68.mono S112
    have hl106 := hl106.mono S112
    have h114 := R.lst (a := Str) h113 hl106
    obtain ⟨p115, w116, e117, h118, hl119⟩ := R.lst_ h114
    cases e117
    obtain ⟨c120, hk⟩ := wp_chk hk
    obtain ⟨c121, hk⟩ := wp_chk hk
    obtain ⟨p122, w123, e124, h125, hl126⟩ := R.lst_ h68
    cases e124
    obtain ⟨c127, hk⟩ := wp_chk hk
    obtain ⟨c128, hk⟩ := wp_chk hk
    refine ⟨_, _, acc102, rfl, rfl, (.inl (by rw [← Rl.strs_ hl119]; exact (SqLF O111.s h118))), c120, _, _, rfl, rfl, (by rw [sizeLine_eq]; exact c121), ⟨_, rfl⟩, _, rfl, _, _, acc56, rfl, rfl, (.inl (by rw [← Rl.strs_ hl126]; exact (SqLF O111.s h125))), c127, _, _, rfl, rfl, (by rw [sizeLine_eq]; exact c128), ?_⟩
    exact hk _ _  O111.g 
abbrev s_tie_in : Stmt := top 13
theorem sc_tie_in : FnScope ["word", "places", "mark", "length", "one", "line", "other"] ["word"] (defScope s_tie_in) := ⟨rfl, rfl, rfl, by decide +kernel, rfl, by decide +kernel, by decide +kernel⟩
def m_tie_in (x_word : Str) : M ((T3 Int Int Int)) :=
chk (x_word.length ≤ 16777216) >>= fun _ =>
chk (((T3.mk ((Txt.partition x_word (":" : Str)).1) ((Txt.partition x_word (":" : Str)).2.1) ((Txt.partition x_word (":" : Str)).2.2)).a).length ≤ 16777216) >>= fun _ =>
if ((T3.mk ((Txt.partition x_word (":" : Str)).1) ((Txt.partition x_word (":" : Str)).2.1) ((Txt.partition x_word (":" : Str)).2.2)).b) = ("" : Str) then (
raise "NoText")
else (
if ((T3.mk ((Txt.partition ((T3.mk ((Txt.partition x_word (":" : Str)).1) ((Txt.partition x_word (":" : Str)).2.1) ((Txt.partition x_word (":" : Str)).2.2)).a) ("-" : Str)).1) ((Txt.partition ((T3.mk ((Txt.partition x_word (":" : Str)).1) ((Txt.partition x_word (":" : Str)).2.1) ((Txt.partition x_word (":" : Str)).2.2)).a) ("-" : Str)).2.1) ((Txt.partition ((T3.mk ((Txt.partition x_word (":" : Str)).1) ((Txt.partition x_word (":" : Str)).2.1) ((Txt.partition x_word (":" : Str)).2.2)).a) ("-" : Str)).2.2)).b) = ("" : Str) then (
raise "NoText")
else (
m_number_in ((T3.mk ((Txt.partition ((T3.mk ((Txt.partition x_word (":" : Str)).1) ((Txt.partition x_word (":" : Str)).2.1) ((Txt.partition x_word (":" : Str)).2.2)).a) ("-" : Str)).1) ((Txt.partition ((T3.mk ((Txt.partition x_word (":" : Str)).1) ((Txt.partition x_word (":" : Str)).2.1) ((Txt.partition x_word (":" : Str)).2.2)).a) ("-" : Str)).2.1) ((Txt.partition ((T3.mk ((Txt.partition x_word (":" : Str)).1) ((Txt.partition x_word (":" : Str)).2.1) ((Txt.partition x_word (":" : Str)).2.2)).a) ("-" : Str)).2.2)).a) >>= fun r37 =>
m_number_in ((T3.mk ((Txt.partition ((T3.mk ((Txt.partition x_word (":" : Str)).1) ((Txt.partition x_word (":" : Str)).2.1) ((Txt.partition x_word (":" : Str)).2.2)).a) ("-" : Str)).1) ((Txt.partition ((T3.mk ((Txt.partition x_word (":" : Str)).1) ((Txt.partition x_word (":" : Str)).2.1) ((Txt.partition x_word (":" : Str)).2.2)).a) ("-" : Str)).2.1) ((Txt.partition ((T3.mk ((Txt.partition x_word (":" : Str)).1) ((Txt.partition x_word (":" : Str)).2.1) ((Txt.partition x_word (":" : Str)).2.2)).a) ("-" : Str)).2.2)).c) >>= fun r43 =>
m_whole_in ((T3.mk ((Txt.partition x_word (":" : Str)).1) ((Txt.partition x_word (":" : Str)).2.1) ((Txt.partition x_word (":" : Str)).2.2)).c) >>= fun r49 =>
.ok (T3.mk r37 r43 r49)))
def sp_tie_in (mg : Str → Option Value) : Sp := fun vs H Q E => ∃ (F : Hp) (x_word : Str), vs = [V.str x_word] ∧ Pre F [] H ∧
  wp (m_tie_in x_word) (fun r => ∀ (F' H' : Hp), Gr [] F H F' H' → ∀ v : V, R (a := (T3 Int Int Int)) F' v r → Q v H')
  (fun n => ∀ (C : Addr) (H' : Hp), mg (Str.ofString n) = some (.ref C) → Kp [] H H' → E (.ref C) none H')
set_option maxHeartbeats 20000000 in
theorem ok_tie_in (nb : Nb mg) (C_number_in : Ca P w K mg base "number_in" 1 ["word"] (sp_number_in mg)) (C_whole_in : Ca P w K mg base "whole_in" 2 ["word"] (sp_whole_in mg)) (E_NoText : ∃ C, Xc K mg "NoText" C) (D : Df K mg "tie_in" "tie_in" s_tie_in ["word"]) : Ca P w K mg base "tie_in" 3 ["word"] (sp_tie_in mg) := by
  obtain ⟨fa_number_in, fd_number_in, G_number_in, M_number_in, K_number_in, B_number_in⟩ := C_number_in.ex
  obtain ⟨fa_whole_in, fd_whole_in, G_whole_in, M_whole_in, K_whole_in, B_whole_in⟩ := C_whole_in.ex
  obtain ⟨XC_NoText, X_NoText⟩ := E_NoText
  refine Ca.mk' D sc_tie_in (fun vs H Q E h => ?_) (fun q_ f_ cdv A outer s H vs Q E hr h => ?_)
  · obtain ⟨F, _, rfl, _⟩ := h
    rfl
  · obtain ⟨F, x_word, rfl, P0, hk⟩ := h
    have nd := sc_tie_in.nd
    have hu64 := hr.units
    have hu128 := hu128_of hr
    have O := P0.start
    refine ⟨_, (pss_cons (ps_asg (pe_partition (pv 0) pe_str) (pg_tup rfl (pgs_cons (pg_name (i := 1) nd rfl (Or.inl rfl)) (pgs_cons (pg_name (i := 2) nd rfl (Or.inl rfl)) (pgs_cons (pg_name (i := 3) nd rfl (Or.inl rfl)) pgs_nil)))))
  (pss_cons (ps_asg (pe_partition (pv 1) pe_str) (pg_tup rfl (pgs_cons (pg_name (i := 4) nd rfl (Or.inl rfl)) (pgs_cons (pg_name (i := 5) nd rfl (Or.inl rfl)) (pgs_cons (pg_name (i := 6) nd rfl (Or.inl rfl)) pgs_nil)))))
  (pss_cons (ps_if (PW.pt (pw_or (pt_cmpR (op_eqT Str hu64) (pv 2) pe_str (nomark _)) (pw_or1 (pt_cmpR (op_eqT Str hu64) (pv 5) pe_str (nomark _))))) (pss_one (ps_raise rfl (takes_of rfl rfl rfl rfl) (pmk_own PySem.F.excBase_ValueError X_NoText.x X_NoText.g X_NoText.k (raises_own X_NoText.b X_NoText.t) rfl))) pss_nil)
  (pss_one (ps_ret (pe_tup (pa_cons (pe_call G_number_in (hr.mono (by decide)) rfl M_number_in K_number_in B_number_in .nil (passes_call (takes_of rfl rfl rfl rfl) fun _ _ _ _ h => h) (pa_cons (pv 4) pa_nil)) (pa_cons (pe_call G_number_in (hr.mono (by decide)) rfl M_number_in K_number_in B_number_in .nil (passes_call (takes_of rfl rfl rfl rfl) fun _ _ _ _ h => h) (pa_cons (pv 6) pa_nil)) (pa_cons (pe_call G_whole_in (hr.mono (by decide)) rfl M_whole_in K_whole_in B_whole_in .nil (passes_call (takes_of rfl rfl rfl rfl) fun _ _ _ _ h => h) (pa_cons (pv 3) pa_nil)) pa_nil))))))))), ?_⟩
    obtain ⟨c1, hk⟩ := wp_chk hk
    refine ⟨_, rfl, ⟨_, rfl⟩, _, _, rfl, rfl, (by decide +kernel), (by rw [sizeLine_eq]; exact c1), fun p2 hp3 => ?_⟩
    obtain ⟨F4, O5, S6, h7⟩ := O.putE hp3 (.tup [V.str ((Txt.partition x_word (":" : Str)).1), V.str ((Txt.partition x_word (":" : Str)).2.1), V.str ((Txt.partition x_word (":" : Str)).2.2)])
    have h8 : R (a := (T3 Str Str Str)) F4 (.ref p2) (T3.mk ((Txt.partition x_word (":" : Str)).1) ((Txt.partition x_word (":" : Str)).2.1) ((Txt.partition x_word (":" : Str)).2.2)) := R.t3 h7 R.str R.str R.str
    obtain ⟨p9, v12, v13, v14, e10, h11, r15, r16, r17⟩ := R.t3T_ h8
    cases e10
    obtain rfl := R.str_ r15
    obtain rfl := R.str_ r16
    obtain rfl := R.str_ r17
    obtain ⟨c18, hk⟩ := wp_chk hk
    refine ⟨_, _, rfl, (SqTK O5.s h11), rfl, _, _, rfl, _, _, rfl, _, _, rfl, rfl, _, rfl, ⟨_, rfl⟩, _, _, rfl, rfl, (by decide +kernel), (by rw [sizeLine_eq]; exact c18), fun p19 hp20 => ?_⟩
    obtain ⟨F21, O22, S23, h24⟩ := O5.putE hp20 (.tup [V.str ((Txt.partition ((T3.mk ((Txt.partition x_word (":" : Str)).1) ((Txt.partition x_word (":" : Str)).2.1) ((Txt.partition x_word (":" : Str)).2.2)).a) ("-" : Str)).1), V.str ((Txt.partition ((T3.mk ((Txt.partition x_word (":" : Str)).1) ((Txt.partition x_word (":" : Str)).2.1) ((Txt.partition x_word (":" : Str)).2.2)).a) ("-" : Str)).2.1), V.str ((Txt.partition ((T3.mk ((Txt.partition x_word (":" : Str)).1) ((Txt.partition x_word (":" : Str)).2.1) ((Txt.partition x_word (":" : Str)).2.2)).a) ("-" : Str)).2.2)])
    have h25 : R (a := (T3 Str Str Str)) F21 (.ref p19) (T3.mk ((Txt.partition ((T3.mk ((Txt.partition x_word (":" : Str)).1) ((Txt.partition x_word (":" : Str)).2.1) ((Txt.partition x_word (":" : Str)).2.2)).a) ("-" : Str)).1) ((Txt.partition ((T3.mk ((Txt.partition x_word (":" : Str)).1) ((Txt.partition x_word (":" : Str)).2.1) ((Txt.partition x_word (":" : Str)).2.2)).a) ("-" : Str)).2.1) ((Txt.partition ((T3.mk ((Txt.partition x_word (":" : Str)).1) ((Txt.partition x_word (":" : Str)).2.1) ((Txt.partition x_word (":" : Str)).2.2)).a) ("-" : Str)).2.2)) := R.t3 h24 R.str R.str R.str
    obtain ⟨p26, v29, v30, v31, e27, h28, r32, r33, r34⟩ := R.t3T_ h25
    cases e27
    obtain rfl := R.str_ r32
    obtain rfl := R.str_ r33
    obtain rfl := R.str_ r34
    refine ⟨_, _, rfl, (SqTK O22.s h28), rfl, _, _, rfl, _, _, rfl, _, _, rfl, rfl, _, rfl, _, _, R.str, R.str, _, rfl, ?_⟩
    refine iteD (fun q35 => ?_) (fun q35 => ?_)
    · have hk := wp_if hk q35
      refine iteT ?_
      exact hk _ _ X_NoText.g O22.kp
    · have hk := wp_el hk q35
      refine ⟨_, rfl, _, _, R.str, R.str, _, rfl, ?_⟩
      refine iteD (fun q36 => ?_) (fun q36 => ?_)
      · have hk := wp_if hk q36
        exact hk _ _ X_NoText.g O22.kp
      · have hk := wp_el hk q36
        refine ⟨_, rfl, _, _, rfl, O22.pre0, wp_call hk (fun r37 er38 hk F39 H40 g41 => ?_) (fun n hn C H1 hC kp => hn C H1 hC (O22.kp0 kp))⟩
        have O42 := O22.call0 g41
        refine ⟨_, rfl, _, _, rfl, O42.pre0, wp_call hk (fun r43 er44 hk F45 H46 g47 => ?_) (fun n hn C H1 hC kp => hn C H1 hC (O42.kp0 kp))⟩
        have O48 := O42.call0 g47
        refine ⟨_, rfl, _, _, rfl, O48.pre0, wp_call hk (fun r49 er50 hk F51 H52 g53 => ?_) (fun n hn C H1 hC kp => hn C H1 hC (O48.kp0 kp))⟩
        have O54 := O48.call0 g53
        refine ⟨(by show 3 ≤ sizeLine; decide), fun p55 hp56 => ?_⟩
        obtain ⟨F57, O58, S59, h60⟩ := O54.putE hp56 (.tup [V.int r37, V.int r43, V.int r49])
        have h61 : R (a := (T3 Int Int Int)) F57 (.ref p55) (T3.mk r37 r43 r49) := R.t3 h60 R.int R.int R.int
        exact hk _ _  O58.g  _ h61
abbrev s_read_tree : Stmt := top 14
theorem sc_read_tree : FnScope ["text", "rows", "worths", "ties", "word"] ["text"] (defScope s_read_tree) := ⟨rfl, rfl, rfl, by decide +kernel, rfl, by decide +kernel, by decide +kernel⟩
def m_read_tree (x_text : Str) : M (((List Int) × (List (T3 Int Int Int)))) :=
chk (x_text.length + 2 ≤ 16777216) >>= fun _ =>
if ((Txt.split x_text ("\n" : Str)).length : Int) ≠ (2 : Int) then (
raise "NoText")
else (
opt (atI (Txt.split x_text ("\n" : Str)) (0 : Int)) >>= fun y21 =>
chk (y21.length + 2 ≤ 16777216) >>= fun _ =>
compS (fun (y40 : Str) (st57 : Unit) =>
m_whole_in y40 >>= fun r63 =>
.ok (some r63, ())) (Txt.split y21 (" " : Str)) () >>= fun q80 =>
opt (atI (Txt.split x_text ("\n" : Str)) (1 : Int)) >>= fun y99 =>
if y99 ≠ ("" : Str) then (
opt (atI (Txt.split x_text ("\n" : Str)) (1 : Int)) >>= fun y110 =>
chk (y110.length + 2 ≤ 16777216) >>= fun _ =>
compS (fun (y129 : Str) (st146 : Unit) =>
m_tie_in y129 >>= fun r152 =>
.ok (some r152, ())) (Txt.split y110 (" " : Str)) () >>= fun q171 =>
if q171.1 ≠ (sortT q171.1) then (
raise "NoText")
else (
m_tree_of q80.1 q171.1 >>= fun r192 =>
.ok (r192.1, r192.2)))
else (
if ([] : List (T3 Int Int Int)) ≠ (sortT ([] : List (T3 Int Int Int))) then (
raise "NoText")
else (
m_tree_of q80.1 ([] : List (T3 Int Int Int)) >>= fun r234 =>
.ok (r234.1, r234.2))))
def sp_read_tree (mg : Str → Option Value) : Sp := fun vs H Q E => ∃ (F : Hp) (x_text : Str), vs = [V.str x_text] ∧ Pre F [] H ∧
  wp (m_read_tree x_text) (fun r => ∀ (F' H' : Hp), Gr [] F H F' H' → ∀ (p : Addr) (q0 : Addr) (v0 : (List V)) (q1 : Addr) (v1 : (List V)), H q0 = none → F' q0 = none → H' q0 = some (.lst v0) → RL (a := Int) F' v0 r.1 → H q1 = none → F' q1 = none → H' q1 = some (.lst v1) → RL (a := (T3 Int Int Int)) F' v1 r.2 → q0 ≠ q1 → F' p = some (.tup [.ref q0, .ref q1]) → Q (.ref p) H')
  (fun n => ∀ (C : Addr) (H' : Hp), mg (Str.ofString n) = some (.ref C) → Kp [] H H' → E (.ref C) none H')
set_option maxHeartbeats 20000000 in
theorem ok_read_tree (nb : Nb mg) (C_tie_in : Ca P w K mg base "tie_in" 3 ["word"] (sp_tie_in mg)) (C_tree_of : Ca P w K mg base "tree_of" 2 ["worths", "ties"] (sp_tree_of mg)) (C_whole_in : Ca P w K mg base "whole_in" 2 ["word"] (sp_whole_in mg)) (E_NoText : ∃ C, Xc K mg "NoText" C) (D : Df K mg "read_tree" "read_tree" s_read_tree ["text"]) : Ca P w K mg base "read_tree" 4 ["text"] (sp_read_tree mg) := by
  obtain ⟨fa_tie_in, fd_tie_in, G_tie_in, M_tie_in, K_tie_in, B_tie_in⟩ := C_tie_in.ex
  obtain ⟨fa_tree_of, fd_tree_of, G_tree_of, M_tree_of, K_tree_of, B_tree_of⟩ := C_tree_of.ex
  obtain ⟨fa_whole_in, fd_whole_in, G_whole_in, M_whole_in, K_whole_in, B_whole_in⟩ := C_whole_in.ex
  obtain ⟨XC_NoText, X_NoText⟩ := E_NoText
  refine Ca.mk' D sc_read_tree (fun vs H Q E h => ?_) (fun q_ f_ cdv A outer s H vs Q E hr h => ?_)
  · obtain ⟨F, _, rfl, _⟩ := h
    rfl
  · obtain ⟨F, x_text, rfl, P0, hk⟩ := h
    have nd := sc_read_tree.nd
    have hu64 := hr.units
    have hu128 := hu128_of hr
    have O := P0.start
    refine ⟨_, (pss_cons (ps_toN (ps_set (i := 1) nd rfl (Or.inl rfl) (pe_split (pv 0) pe_str)))
  (pss_cons (ps_if (pt_cmpR (op_neT Int hu64) (pe_callB call_lenT (by rfl) nb.b_len PySem.boot_len (pa_cons (pv 1) pa_nil)) pe_int (nomark _)) (pss_one (ps_raise rfl (takes_of rfl rfl rfl rfl) (pmk_own PySem.F.excBase_ValueError X_NoText.x X_NoText.g X_NoText.k (raises_own X_NoText.b X_NoText.t) rfl))) pss_nil)
  (pss_cons (ps_toN (ps_setLc (i := 2) (own := [("word", 4)]) (g := gName 4) (tt := _) rfl nd rfl rfl (sw_true rfl rfl rfl (by decide +kernel)) (piListK (K := K) rfl (pe_split (pe_ix (ixListK (K := K) rfl) (pv 1) pe_int (fun _ _ => rfl)) pe_str)) (blkOk_by (own := [("word", 4)]) (N := ["text", "rows", "worths", "ties", "word"]) (sc := defScope s_read_tree) (by decide +kernel)) (fun _ _ _ _ _ => (pg_name (i := 4) nd rfl (Or.inl rfl))) (fun _ _ _ _ _ => pts_nil) (fun _ _ _ _ _ => (pe_call G_whole_in (hr.mono (by decide)) rfl M_whole_in K_whole_in B_whole_in .nil passL (pa_cons (pv 4) pa_nil)))))
  (pss_cons (ps_toN (ps_set (i := 3) nd rfl (Or.inl rfl) (pe_lst pa_nil)))
  (pss_cons (ps_if (pt_cmpR (op_neT Str hu64) (pe_ix (ixListK (K := K) rfl) (pv 1) pe_int (fun _ _ => rfl)) pe_str (nomark _)) (pss_one (ps_toN (ps_setLc (i := 3) (own := [("word", 4)]) (g := gName 4) (tt := _) rfl nd rfl rfl (sw_true rfl rfl rfl (by decide +kernel)) (piListK (K := K) rfl (pe_split (pe_ix (ixListK (K := K) rfl) (pv 1) pe_int (fun _ _ => rfl)) pe_str)) (blkOk_by (own := [("word", 4)]) (N := ["text", "rows", "worths", "ties", "word"]) (sc := defScope s_read_tree) (by decide +kernel)) (fun _ _ _ _ _ => (pg_name (i := 4) nd rfl (Or.inl rfl))) (fun _ _ _ _ _ => pts_nil) (fun _ _ _ _ _ => (pe_call G_tie_in (hr.mono (by decide)) rfl M_tie_in K_tie_in B_tie_in .nil passL (pa_cons (pv 4) pa_nil)))))) pss_nil)
  (pss_cons (ps_if (pt_cmpR (op_neT (List (T3 Int Int Int)) hu64) (pv 3) (pe_callB (cr_sortedT (T3 Int Int Int) hu128) (by rfl) nb.b_sorted (by decide +kernel) (pa_cons (pv 3) pa_nil)) (nomark _)) (pss_one (ps_raise rfl (takes_of rfl rfl rfl rfl) (pmk_own PySem.F.excBase_ValueError X_NoText.x X_NoText.g X_NoText.k (raises_own X_NoText.b X_NoText.t) rfl))) pss_nil)
  (pss_one (ps_ret (pe_call G_tree_of (hr.mono (by decide)) rfl M_tree_of K_tree_of B_tree_of .nil (passes_call (takes_of rfl rfl rfl rfl) fun _ _ _ _ h => h) (pa_cons (pv 2) (pa_cons (pv 3) pa_nil))))))))))), ?_⟩
    obtain ⟨c1, hk⟩ := wp_chk hk
    refine ⟨_, rfl, ⟨_, rfl⟩, _, _, rfl, rfl, (by decide +kernel), (by rw [sizeLine_eq]; exact c1), fun p2 hp3 => ?_⟩
    have hl9 : RL (a := Str) F (List.map V.str (Txt.split x_text ("\n" : Str))) (Txt.split x_text ("\n" : Str)) := (Rl.strs _)
    obtain ⟨F4, O5, S6, h7⟩ := O.putE hp3 (.lst (List.map V.str (Txt.split x_text ("\n" : Str))))
    have hl9 := hl9.mono S6
    have h8 := R.lst (a := Str) h7 hl9
    obtain ⟨p10, w11, e12, h13, hl14⟩ := R.lst_ h8
    cases e12
    refine ⟨[some (V.str x_text), some (V.ref p2), none, none, none], rfl, _, rfl, _, _, _, rfl, (.inl (O5.s _ _ h13)), hl14.len, _, _, R.int, R.int, _, rfl, ?_⟩
    refine iteD (fun q15 => ?_) (fun q15 => ?_)
    · have hk := wp_if hk q15
      exact hk _ _ X_NoText.g O5.kp
    · have hk := wp_el hk q15
      obtain ⟨p16, w17, e18, h19, hl20⟩ := R.lst_ h8
      cases e18
      obtain ⟨y21, e22, hk⟩ := wp_opt hk
      obtain ⟨w23, e24, r25⟩ := hl20.atI e22
      obtain rfl := R.str_ r25
      obtain ⟨c26, hk⟩ := wp_chk hk
      refine ⟨_, rfl, _, _, _, _, rfl, rfl, (SqLF O5.s h19), e24, ⟨_, rfl⟩, _, _, rfl, rfl, (by decide +kernel), (by rw [sizeLine_eq]; exact c26), fun p27 hp28 => ?_⟩
      have hl34 : RL (a := Str) F4 (List.map V.str (Txt.split y21 (" " : Str))) (Txt.split y21 (" " : Str)) := (Rl.strs _)
      obtain ⟨F29, O30, S31, h32⟩ := O5.putE hp28 (.lst (List.map V.str (Txt.split y21 (" " : Str))))
      have h8 := h8.mono S31
      have hl34 := hl34.mono S31
      have h33 := R.lst (a := Str) h32 hl34
      obtain ⟨p35, w36, e37, h38, hl39⟩ := R.lst_ h33
      cases e37
      obtain ⟨c45, L41, hL42, hLs43, hLd44⟩ := compS_L hk
      refine ⟨_, rfl, ⟨_, (SqLF O30.s h38)⟩, fun p46 hp47 => ?_⟩
      have z69 := O30.was hp47
      refine lc_list (K := K) (xs := w36) (fun i H => ∃ (F_ : Hp) (st : Unit) (acc : List Int) (wa : List V), Same F29 F_ ∧ Ow _ F_ [(p46, .lst wa)] H ∧ RL F_ wa acc ∧ wa.length ≤ i ∧ L41 (List.drop i (Txt.split y21 (" " : Str))) acc st) ⟨F29, (), [], [], Same.refl _, O30.new hp47, RL.nil, Nat.zero_le _, hL42⟩ (fun i_ H_ _ hp_ => ?_) ?_ ?_
      · obtain ⟨_, _, _, _, hS_, hO_, _⟩ := hp_
        exact SqLF hO_.s (hS_ _ _ h38)
      · rintro i48 x49 H50 hi51 ⟨F56, st57, acc53, wa54, S58, O60, hl59, la55, hL42⟩
        have hl39 := hl39.mono S58
        obtain ⟨y40, e61, r62⟩ := RL.got hl39 hi51
        rw [drop_at e61] at hL42
        have hk := hLs43 _ _ _ _ hL42
        obtain rfl := R.str_ r62
        refine ⟨rfl, ?_⟩
        refine ⟨_, rfl, _, _, rfl, O60.pre0, wp_call hk (fun r63 er64 hk F65 H66 g67 => ?_) (fun n hn => hn.elim)⟩
        have O68 := O60.call0 g67
        have S_ := g67.f
        have hl39 := hl39.mono S_
        have S58 := S58.trans S_
        have hl59 := hl59.mono S_
        refine ⟨_, (O68.at 0 rfl), (comp_len la55 hi51 hl39.len c45), ?_⟩
        exact ⟨F65, (), acc53 ++ [r63], wa54 ++ [V.int r63], S58, O68.set 0 (.lst (wa54 ++ [V.int r63])) rfl, RL.snoc hl59 R.int, by rw [List.length_append]; exact Nat.succ_le_succ la55, hk⟩
      rintro H70 ⟨F71, st72, acc73, wa74, S75, O76, hl77, la78, hL79⟩
      rw [drop_end hl39.len] at hL79
      have hk := hLd44 _ _ hL79
      have h8 := h8.mono S75
      obtain ⟨F81, O82, S83, h84⟩ := O76.frzE 0 rfl z69
      have h8 := h8.mono S83
      have hl77 := hl77.mono S83
      have h85 := R.lst (a := Int) h84 hl77
      refine ⟨[some (V.str x_text), some (V.ref p2), some (V.ref p46), none, none], rfl, (by show 0 ≤ sizeLine; decide), fun p86 hp87 => ?_⟩
      have hl93 : RL (a := (T3 Int Int Int)) F81 ([]) ([] : List (T3 Int Int Int)) := RL.nil
      obtain ⟨F88, O89, S90, h91⟩ := O82.putE hp87 (.lst ([]))
      have h8 := h8.mono S90
      have h85 := h85.mono S90
      have hl93 := hl93.mono S90
      have h92 := R.lst (a := (T3 Int Int Int)) h91 hl93
      obtain ⟨p94, w95, e96, h97, hl98⟩ := R.lst_ h8
      cases e96
      obtain ⟨y99, e100, hk⟩ := wp_opt hk
      obtain ⟨w101, e102, r103⟩ := hl98.atI e100
      obtain rfl := R.str_ r103
      refine ⟨[some (V.str x_text), some (V.ref p2), some (V.ref p46), some (V.ref p86), none], rfl, _, rfl, _, _, _, _, rfl, rfl, (SqLF O89.s h97), e102, _, _, R.str, R.str, _, rfl, ?_⟩
      refine iteD (fun q104 => ?_) (fun q104 => ?_)
      · have hk := wp_if hk q104
        obtain ⟨p105, w106, e107, h108, hl109⟩ := R.lst_ h8
        cases e107
        obtain ⟨y110, e111, hk⟩ := wp_opt hk
        obtain ⟨w112, e113, r114⟩ := hl109.atI e111
        obtain rfl := R.str_ r114
        obtain ⟨c115, hk⟩ := wp_chk hk
        refine ⟨_, rfl, _, _, _, _, rfl, rfl, (SqLF O89.s h108), e113, ⟨_, rfl⟩, _, _, rfl, rfl, (by decide +kernel), (by rw [sizeLine_eq]; exact c115), fun p116 hp117 => ?_⟩
        have hl123 : RL (a := Str) F88 (List.map V.str (Txt.split y110 (" " : Str))) (Txt.split y110 (" " : Str)) := (Rl.strs _)
        obtain ⟨F118, O119, S120, h121⟩ := O89.putE hp117 (.lst (List.map V.str (Txt.split y110 (" " : Str))))
        have h85 := h85.mono S120
        have hl123 := hl123.mono S120
        have h122 := R.lst (a := Str) h121 hl123
        obtain ⟨p124, w125, e126, h127, hl128⟩ := R.lst_ h122
        cases e126
        obtain ⟨c134, L130, hL131, hLs132, hLd133⟩ := compS_L hk
        refine ⟨_, rfl, ⟨_, (SqLF O119.s h127)⟩, fun p135 hp136 => ?_⟩
        have z160 := O119.was hp136
        refine lc_list (K := K) (xs := w125) (fun i H => ∃ (F_ : Hp) (st : Unit) (acc : List (T3 Int Int Int)) (wa : List V), Same F118 F_ ∧ Ow _ F_ [(p135, .lst wa)] H ∧ RL F_ wa acc ∧ wa.length ≤ i ∧ L130 (List.drop i (Txt.split y110 (" " : Str))) acc st) ⟨F118, (), [], [], Same.refl _, O119.new hp136, RL.nil, Nat.zero_le _, hL131⟩ (fun i_ H_ _ hp_ => ?_) ?_ ?_
        · obtain ⟨_, _, _, _, hS_, hO_, _⟩ := hp_
          exact SqLF hO_.s (hS_ _ _ h127)
        · rintro i137 x138 H139 hi140 ⟨F145, st146, acc142, wa143, S147, O149, hl148, la144, hL131⟩
          have hl128 := hl128.mono S147
          obtain ⟨y129, e150, r151⟩ := RL.got hl128 hi140
          rw [drop_at e150] at hL131
          have hk := hLs132 _ _ _ _ hL131
          obtain rfl := R.str_ r151
          refine ⟨rfl, ?_⟩
          refine ⟨_, rfl, _, _, rfl, O149.pre0, wp_call hk (fun r152 er153 hk F154 H155 g156 v157 r158 => ?_) (fun n hn => hn.elim)⟩
          have O159 := O149.call0 g156
          have S_ := g156.f
          have hl128 := hl128.mono S_
          have S147 := S147.trans S_
          have hl148 := hl148.mono S_
          refine ⟨_, (O159.at 0 rfl), (comp_len la144 hi140 hl128.len c134), ?_⟩
          exact ⟨F154, (), acc142 ++ [r152], wa143 ++ [v157], S147, O159.set 0 (.lst (wa143 ++ [v157])) rfl, RL.snoc hl148 r158, by rw [List.length_append]; exact Nat.succ_le_succ la144, hk⟩
        rintro H161 ⟨F162, st163, acc164, wa165, S166, O167, hl168, la169, hL170⟩
        rw [drop_end hl128.len] at hL170
        have hk := hLd133 _ _ hL170
        have h85 := h85.mono S166
        obtain ⟨F172, O173, S174, h175⟩ := O167.frzE 0 rfl z160
        have h85 := h85.mono S174
        have hl168 := hl168.mono S174
        have h176 := R.lst (a := (T3 Int Int Int)) h175 hl168
        obtain ⟨p177, w178, e179, h180, hl181⟩ := R.lst_ h176
        cases e179
        refine ⟨[some (V.str x_text), some (V.ref p2), some (V.ref p46), some (V.ref p135), none], rfl, _, rfl, _, rfl, _, _, _, rfl, (O173.s _ _ h180), (RL.mono hl181 O173.s), fun p182 hp183 => ?_⟩
        have hl189 : RL (a := (T3 Int Int Int)) F172 (sortV w178 acc164) (sortT acc164) := (RL.sorted hl181)
        obtain ⟨F184, O185, S186, h187⟩ := O173.putE hp183 (.lst (sortV w178 acc164))
        have h85 := h85.mono S186
        have h176 := h176.mono S186
        have hl189 := hl189.mono S186
        have h188 := R.lst (a := (T3 Int Int Int)) h187 hl189
        refine ⟨_, _, (R.mono h176 O185.s), (R.mono h188 O185.s), _, rfl, ?_⟩
        refine iteD (fun q190 => ?_) (fun q190 => ?_)
        · have hk := wp_if hk q190
          exact hk _ _ X_NoText.g O185.kp
        · have hk := wp_el hk q190
          refine ⟨_, rfl, _, rfl, _, _, _, _, _, rfl, O185.pre0, h85, h176, wp_call hk (fun r192 er193 hk F194 H195 g196 p197 p198 w199 p204 w205 hn200 hf201 h202 hl203 hn206 hf207 h208 hl209 hne210 h211 => ?_) (fun n hn C H1 hC kp => hn C H1 hC (O185.kp0 kp))⟩
          have O212 := O185.call0 g196
          have z214 := O185.was hn206
          have O213 := O212.add' (O185.fresh hn206) z214 hf207 h208
          have z217 := O185.was hn200
          have O216 := O213.add' (nmem2 hne210 (O185.fresh hn200)) z217 hf201 h202
          exact hk _ _  O216.g  _ _ _ _ _ z217 (O216.cf _ (List.mem_of_getElem? (i := 0) rfl)) (O216.at 0 rfl) hl203 z214 (O216.cf _ (List.mem_of_getElem? (i := 1) rfl)) (O216.at 1 rfl) hl209 (O216.ne 0 1 (by decide) rfl rfl) h211
      · have hk := wp_el hk q104
        obtain ⟨p219, w220, e221, h222, hl223⟩ := R.lst_ h92
        cases e221
        refine ⟨_, rfl, _, rfl, _, _, _, rfl, (O89.s _ _ h222), (RL.mono hl223 O89.s), fun p224 hp225 => ?_⟩
        have hl231 : RL (a := (T3 Int Int Int)) F88 (sortV w220 ([] : List (T3 Int Int Int))) (sortT ([] : List (T3 Int Int Int))) := (RL.sorted hl223)
        obtain ⟨F226, O227, S228, h229⟩ := O89.putE hp225 (.lst (sortV w220 ([] : List (T3 Int Int Int))))
        have h85 := h85.mono S228
        have h92 := h92.mono S228
        have hl231 := hl231.mono S228
        have h230 := R.lst (a := (T3 Int Int Int)) h229 hl231
        refine ⟨_, _, (R.mono h92 O227.s), (R.mono h230 O227.s), _, rfl, ?_⟩
        refine iteD (fun q232 => ?_) (fun q232 => ?_)
        · have hk := wp_if hk q232
          exact hk _ _ X_NoText.g O227.kp
        · have hk := wp_el hk q232
          refine ⟨_, rfl, _, rfl, _, _, _, _, _, rfl, O227.pre0, h85, h92, wp_call hk (fun r234 er235 hk F236 H237 g238 p239 p240 w241 p246 w247 hn242 hf243 h244 hl245 hn248 hf249 h250 hl251 hne252 h253 => ?_) (fun n hn C H1 hC kp => hn C H1 hC (O227.kp0 kp))⟩
          have O254 := O227.call0 g238
          have z256 := O227.was hn248
          have O255 := O254.add' (O227.fresh hn248) z256 hf249 h250
          have z259 := O227.was hn242
          have O258 := O255.add' (nmem2 hne252 (O227.fresh hn242)) z259 hf243 h244
          exact hk _ _  O258.g  _ _ _ _ _ z259 (O258.cf _ (List.mem_of_getElem? (i := 0) rfl)) (O258.at 0 rfl) hl245 z256 (O258.cf _ (List.mem_of_getElem? (i := 1) rfl)) (O258.at 1 rfl) hl251 (O258.ne 0 1 (by decide) rfl rfl) h253
abbrev s_law_cell_at : Stmt := top 16
theorem sc_law_cell_at : FnScope ["script", "k"] ["script", "k"] (defScope s_law_cell_at) := ⟨rfl, rfl, rfl, by decide +kernel, rfl, by decide +kernel, by decide +kernel⟩
def m_law_cell_at (x_script : (List Int)) (x_k : Int) : M (Int) :=
if x_k < (x_script.length : Int) then (
opt (atI x_script x_k) >>= fun y2 =>
.ok y2)
else (
.ok (0 : Int))
def sp_law_cell_at (K : PySem.W.Frag) (mg : Str → Option Value) : Sp := fun vs H Q E => ∃ (F : Hp) (a_script : Addr) (x_script : (List Int)) (x_k : Int), vs = [.ref a_script, V.int x_k] ∧ Pre F [] H ∧ SqL K F a_script (x_script.map V.int) ∧
  wp (m_law_cell_at x_script x_k) (fun r => ∀ (F' H' : Hp), Gr [] F H F' H' → Q (V.int r) H')
  (fun n => ∀ (C : Addr) (H' : Hp), mg (Str.ofString n) = some (.ref C) → Kp [] H H' → E (.ref C) none H')
set_option maxHeartbeats 20000000 in
theorem ok_law_cell_at (nb : Nb mg) (D : Df K mg "_law_cell_at" "_law_cell_at" s_law_cell_at ["script", "k"]) : Ca P w K mg base "_law_cell_at" 1 ["script", "k"] (sp_law_cell_at K mg) := by
  refine Ca.mk' D sc_law_cell_at (fun vs H Q E h => ?_) (fun q_ f_ cdv A outer s H vs Q E hr h => ?_)
  · obtain ⟨F, _, _, _, rfl, _⟩ := h
    rfl
  · obtain ⟨F, a_script, x_script, x_k, rfl, P0, f_script, hk⟩ := h
    have nd := sc_law_cell_at.nd
    have hu64 := hr.units
    have hu128 := hu128_of hr
    have O := P0.start
    refine ⟨_, (pss_cons (ps_if (pt_cmpR op_lt (pv 1) (pe_callB (call_lenS (K := K) rfl) (by rfl) nb.b_len PySem.boot_len (pa_cons (pv 0) pa_nil)) (nomark _)) (pss_one (ps_ret (pe_ix (ixListK (K := K) rfl) (pv 0) (pv 1) (fun _ _ => rfl)))) pss_nil)
  (pss_one (ps_ret pe_int))), ?_⟩
    refine ⟨_, rfl, _, rfl, _, _, rfl, (O.s.seq f_script), ?_⟩
    rw [List.length_map]
    refine ⟨_, _, rfl, rfl, _, rfl, ?_⟩
    refine iteD (fun q1 => ?_) (fun q1 => ?_)
    · have hk := wp_if hk q1
      obtain ⟨y2, e3, hk⟩ := wp_opt hk
      obtain ⟨w4, e5, r6⟩ := (RL.of_ints (H := F)).atI e3
      obtain rfl := R.int_ r6
      refine ⟨_, rfl, _, rfl, _, _, _, _, rfl, rfl, (O.s.seq f_script), e5, ?_⟩
      exact hk _ _  O.g 
    · have hk := wp_el hk q1
      exact hk _ _  O.g 
abbrev s_law_digits : Stmt := top 17
theorem sc_law_digits : FnScope ["cell", "many", "top", "found", "rest", "k", "stir"] ["cell", "many", "top"] (defScope s_law_digits) := ⟨rfl, rfl, rfl, by decide +kernel, rfl, by decide +kernel, by decide +kernel⟩
def m_law_digits (x_cell : Int) (x_many : Int) (x_top : Int) : M ((List Int)) :=
chk (okR x_many) >>= fun _ =>
loopN (fun (y7 : Int) (st19 : Int × (List Int)) =>
chk (CMulX (977 : Int) y7) >>= fun _ =>
chk (CMulX ((x_cell + ((977 : Int) * y7)) + (1 : Int)) (48271 : Int)) >>= fun _ =>
chk (0 < (2147483647 : Int)) >>= fun _ =>
chk (CMulX ((((x_cell + ((977 : Int) * y7)) + (1 : Int)) * (48271 : Int)) % (2147483647 : Int)) ((((x_cell + ((977 : Int) * y7)) + (1 : Int)) * (48271 : Int)) % (2147483647 : Int))) >>= fun _ =>
chk (0 < (2147483629 : Int)) >>= fun _ =>
ret ((((((x_cell + ((977 : Int) * y7)) + (1 : Int)) * (48271 : Int)) % (2147483647 : Int)) * ((((x_cell + ((977 : Int) * y7)) + (1 : Int)) * (48271 : Int)) % (2147483647 : Int))) % (2147483629 : Int)) >>= fun n31 =>
chk (CMulX (40692 : Int) (y7 + (3 : Int))) >>= fun _ =>
chk (CMulX (n31 + ((40692 : Int) * (y7 + (3 : Int)))) (69621 : Int)) >>= fun _ =>
chk (0 < (2147483423 : Int)) >>= fun _ =>
chk (CDivW (((n31 + ((40692 : Int) * (y7 + (3 : Int)))) * (69621 : Int)) % (2147483423 : Int)) (8 : Int)) >>= fun _ =>
ret ((((n31 + ((40692 : Int) * (y7 + (3 : Int)))) * (69621 : Int)) % (2147483423 : Int)) / (8 : Int)) >>= fun n37 =>
if ((10 : Int) ^ Int.toNat (18 : Int)) ≤ x_cell then (
chk (0 < x_top) >>= fun _ =>
appL st19.2 (st19.1 % x_top) >>= fun _ =>
chk (CDivW st19.1 x_top) >>= fun _ =>
.ok ((st19.1 / x_top), (st19.2 ++ [(st19.1 % x_top)])))
else (
chk (0 < x_top) >>= fun _ =>
appL st19.2 (n37 % x_top) >>= fun _ =>
chk (CDivW st19.1 x_top) >>= fun _ =>
.ok ((st19.1 / x_top), (st19.2 ++ [(n37 % x_top)])))) (rangeL 0 x_many) (x_cell, ([] : List Int)) >>= fun st55 =>
.ok st55.2
def sp_law_digits (mg : Str → Option Value) : Sp := fun vs H Q E => ∃ (F : Hp) (x_cell : Int) (x_many : Int) (x_top : Int), vs = [V.int x_cell, V.int x_many, V.int x_top] ∧ Pre F [] H ∧
  wp (m_law_digits x_cell x_many x_top) (fun r => ∀ (F' H' : Hp), Gr [] F H F' H' → ∀ (p : Addr) (w : (List V)), H p = none → F' p = none → H' p = some (.lst w) → RL (a := Int) F' w r → Q (.ref p) H')
  (fun n => ∀ (C : Addr) (H' : Hp), mg (Str.ofString n) = some (.ref C) → Kp [] H H' → E (.ref C) none H')
set_option maxHeartbeats 20000000 in
theorem ok_law_digits (nb : Nb mg) (D : Df K mg "_law_digits" "_law_digits" s_law_digits ["cell", "many", "top"]) : Ca P w K mg base "_law_digits" 1 ["cell", "many", "top"] (sp_law_digits mg) := by
  refine Ca.mk' D sc_law_digits (fun vs H Q E h => ?_) (fun q_ f_ cdv A outer s H vs Q E hr h => ?_)
  · obtain ⟨F, _, _, _, rfl, _⟩ := h
    rfl
  · obtain ⟨F, x_cell, x_many, x_top, rfl, P0, hk⟩ := h
    have nd := sc_law_digits.nd
    have hu64 := hr.units
    have hu128 := hu128_of hr
    have O := P0.start
    refine ⟨_, (pss_cons (ps_toN (ps_set (i := 3) nd rfl (Or.inl rfl) (pe_lst pa_nil)))
  (pss_cons (ps_toN (ps_set (i := 4) nd rfl (Or.inl rfl) (pv 0)))
  (pss_cons (ps_for (passes_of rfl) rfl (pi_range1 rfl nb.b_range (pa_cons (pv 1) pa_nil)) (pg_name (i := 5) nd rfl (Or.inl rfl)) (pss_cons (ps_toN (ps_set (i := 6) nd rfl (Or.inl rfl) (pe_op op_mod (pe_op op_mulX (pe_op op_add (pe_op op_add (pv 0) (pe_op op_mulX pe_int (pv 5))) pe_int) pe_int) pe_int)))
  (pss_cons (ps_toN (ps_set (i := 6) nd rfl (Or.inl rfl) (pe_op op_mod (pe_op op_mulX (pv 6) (pv 6)) pe_int)))
  (pss_cons (ps_toN (ps_set (i := 6) nd rfl (Or.inl rfl) (pe_op op_fdivW (pe_op op_mod (pe_op op_mulX (pe_op op_add (pv 6) (pe_op op_mulX pe_int (pe_op op_add (pv 5) pe_int))) pe_int) pe_int) pe_int)))
  (pss_cons (ps_if (pt_cmpR op_ge (pv 0) (pe_op op_pow pe_int pe_int) (nomark _)) (pss_one (ps_toN (ps_set (i := 6) nd rfl (Or.inl rfl) (pv 4)))) pss_nil)
  (pss_cons (ps_expr (bmK (K := K) rfl (pe_bm PySem.F.plainAttrs_list PySem.F.slot_list_append PySem.F.type_list_append mt_append (pv 3) (pa_cons (pe_op op_mod (pv 6) (pv 2)) pa_nil))))
  (pss_one (ps_toN (ps_set (i := 4) nd rfl (Or.inl rfl) (pe_op op_fdivW (pv 4) (pv 2)))))))))))
  (pss_one (ps_ret (pv 3)))))), ?_⟩
    refine ⟨(by show 0 ≤ sizeLine; decide), fun p2 hp3 => ?_⟩
    have hl5 : RL (a := Int) F ([]) ([] : List Int) := RL.nil
    have z6 := O.was hp3
    have O4 := O.new (o := .lst ([])) hp3
    obtain ⟨c8, hk⟩ := wp_chk hk
    obtain ⟨L9, hL10, hLs11, hLd12⟩ := loopN_L hk
    refine ⟨[some (V.int x_cell), some (V.int x_many), some (V.int x_top), some (V.ref p2), none, none, none], rfl, _, rfl, [some (V.int x_cell), some (V.int x_many), some (V.int x_top), some (V.ref p2), some (V.int x_cell), none, none], rfl, _, rfl, _, rfl, c8.lo, c8.hi, ?_⟩
    refine for_range (lo := 0) (n := (x_many).toNat) (fun i σ H_ => ∃ (F_ : Hp) (st : Int × (List Int)) (w_0 : (List V)) (t_0 : Option V) (t_1 : Option V), σ = [some (V.int x_cell), some (V.int x_many), some (V.int x_top), some (V.ref p2), some (V.int st.1), t_0, t_1] ∧ Same F F_ ∧ Ow _ F_ [(p2, .lst w_0)] H_ ∧ RL (a := Int) F_ w_0 st.2 ∧ L9 (List.drop i (rangeL 0 x_many)) st) ⟨F, (x_cell, ([] : List Int)), [], none, none, rfl, Same.refl _, O4, hl5, hL10⟩ ?_ ?_
    · rintro i13 sg15 H16 hi17 ⟨F24, st19, w20, t22, t23, rfl, S18, O25, hl21, hL10⟩
      rw [rangeL_get0 hi17] at hL10
      have hk := hLs11 _ _ _ hL10
      obtain ⟨y7, he_⟩ : ∃ z_, z_ = 0 + (i13 : Int) := ⟨_, rfl⟩
      try rw [← he_] at hk
      rw [← he_]
      obtain ⟨c26, hk⟩ := wp_chk hk
      obtain ⟨c27, hk⟩ := wp_chk hk
      obtain ⟨c28, hk⟩ := wp_chk hk
      obtain ⟨c29, hk⟩ := wp_chk hk
      obtain ⟨c30, hk⟩ := wp_chk hk
      obtain ⟨n31, hn32, hk⟩ := wp_ret hk
      subst hn32
      obtain ⟨c33, hk⟩ := wp_chk hk
      obtain ⟨c34, hk⟩ := wp_chk hk
      obtain ⟨c35, hk⟩ := wp_chk hk
      obtain ⟨c36, hk⟩ := wp_chk hk
      obtain ⟨n37, hn38, hk⟩ := wp_ret hk
      subst hn38
      refine ⟨_, rfl, _, rfl, _, _, rfl, rfl, c26, _, _, rfl, rfl, _, _, rfl, rfl, _, _, rfl, rfl, c27, _, _, rfl, rfl, c28, [some (V.int x_cell), some (V.int x_many), some (V.int x_top), some (V.ref p2), some (V.int st19.1), some (V.int y7), some (V.int ((((x_cell + ((977 : Int) * y7)) + (1 : Int)) * (48271 : Int)) % (2147483647 : Int)))], rfl, _, rfl, _, rfl, _, _, rfl, rfl, c29, _, _, rfl, rfl, c30, [some (V.int x_cell), some (V.int x_many), some (V.int x_top), some (V.ref p2), some (V.int st19.1), some (V.int y7), some (V.int ((((((x_cell + ((977 : Int) * y7)) + (1 : Int)) * (48271 : Int)) % (2147483647 : Int)) * ((((x_cell + ((977 : Int) * y7)) + (1 : Int)) * (48271 : Int)) % (2147483647 : Int))) % (2147483629 : Int)))], rfl, _, rfl, _, rfl, _, _, rfl, rfl, _, _, rfl, rfl, c33, _, _, rfl, rfl, _, _, rfl, rfl, c34, _, _, rfl, rfl, c35, _, _, rfl, rfl, c36, [some (V.int x_cell), some (V.int x_many), some (V.int x_top), some (V.ref p2), some (V.int st19.1), some (V.int y7), some (V.int ((((((((((x_cell + ((977 : Int) * y7)) + (1 : Int)) * (48271 : Int)) % (2147483647 : Int)) * ((((x_cell + ((977 : Int) * y7)) + (1 : Int)) * (48271 : Int)) % (2147483647 : Int))) % (2147483629 : Int)) + ((40692 : Int) * (y7 + (3 : Int)))) * (69621 : Int)) % (2147483423 : Int)) / (8 : Int)))], rfl, _, rfl, _, _, rfl, rfl, (by decide), _, _, rfl, rfl, _, rfl, ?_⟩
      refine iteD (fun q39 => ?_) (fun q39 => ?_)
      · have hk := wp_if hk q39
        obtain ⟨c40, hk⟩ := wp_chk hk
        obtain ⟨c41, hk⟩ := wp_appL hk
        refine ⟨_, rfl, [some (V.int x_cell), some (V.int x_many), some (V.int x_top), some (V.ref p2), some (V.int st19.1), some (V.int y7), some (V.int st19.1)], rfl, _, rfl, (.inl ⟨rfl, _, SqL.of (O25.at 0 rfl)⟩), _, rfl, _, rfl, _, _, rfl, rfl, c40, _, _, _, rfl, rfl, (O25.at 0 rfl), (by rw [hl21.len]; exact c41), ?_⟩
        have O43 := O25.set 0 (.lst (w20 ++ [V.int (st19.1 % x_top)])) rfl
        have hl44 : RL (a := Int) F24 (w20 ++ [V.int (st19.1 % x_top)]) (st19.2 ++ [(st19.1 % x_top)]) := RL.snoc hl21 R.int
        obtain ⟨c45, hk⟩ := wp_chk hk
        refine ⟨_, rfl, _, rfl, _, _, rfl, rfl, c45, [some (V.int x_cell), some (V.int x_many), some (V.int x_top), some (V.ref p2), some (V.int (st19.1 / x_top)), some (V.int y7), some (V.int st19.1)], rfl, ?_⟩
        exact ⟨F24, ((st19.1 / x_top), (st19.2 ++ [(st19.1 % x_top)])), (w20 ++ [V.int (st19.1 % x_top)]), some (V.int y7), some (V.int st19.1), rfl, S18, O43, hl44, hk⟩
      · have hk := wp_el hk q39
        obtain ⟨c46, hk⟩ := wp_chk hk
        obtain ⟨c47, hk⟩ := wp_appL hk
        refine ⟨_, rfl, (.inl ⟨rfl, _, SqL.of (O25.at 0 rfl)⟩), _, rfl, _, rfl, _, _, rfl, rfl, c46, _, _, _, rfl, rfl, (O25.at 0 rfl), (by rw [hl21.len]; exact c47), ?_⟩
        have O49 := O25.set 0 (.lst (w20 ++ [V.int (((((((((((x_cell + ((977 : Int) * y7)) + (1 : Int)) * (48271 : Int)) % (2147483647 : Int)) * ((((x_cell + ((977 : Int) * y7)) + (1 : Int)) * (48271 : Int)) % (2147483647 : Int))) % (2147483629 : Int)) + ((40692 : Int) * (y7 + (3 : Int)))) * (69621 : Int)) % (2147483423 : Int)) / (8 : Int)) % x_top)])) rfl
        have hl50 : RL (a := Int) F24 (w20 ++ [V.int (((((((((((x_cell + ((977 : Int) * y7)) + (1 : Int)) * (48271 : Int)) % (2147483647 : Int)) * ((((x_cell + ((977 : Int) * y7)) + (1 : Int)) * (48271 : Int)) % (2147483647 : Int))) % (2147483629 : Int)) + ((40692 : Int) * (y7 + (3 : Int)))) * (69621 : Int)) % (2147483423 : Int)) / (8 : Int)) % x_top)]) (st19.2 ++ [(((((((((((x_cell + ((977 : Int) * y7)) + (1 : Int)) * (48271 : Int)) % (2147483647 : Int)) * ((((x_cell + ((977 : Int) * y7)) + (1 : Int)) * (48271 : Int)) % (2147483647 : Int))) % (2147483629 : Int)) + ((40692 : Int) * (y7 + (3 : Int)))) * (69621 : Int)) % (2147483423 : Int)) / (8 : Int)) % x_top)]) := RL.snoc hl21 R.int
        obtain ⟨c51, hk⟩ := wp_chk hk
        refine ⟨_, rfl, _, rfl, _, _, rfl, rfl, c51, [some (V.int x_cell), some (V.int x_many), some (V.int x_top), some (V.ref p2), some (V.int (st19.1 / x_top)), some (V.int y7), some (V.int ((((((((((x_cell + ((977 : Int) * y7)) + (1 : Int)) * (48271 : Int)) % (2147483647 : Int)) * ((((x_cell + ((977 : Int) * y7)) + (1 : Int)) * (48271 : Int)) % (2147483647 : Int))) % (2147483629 : Int)) + ((40692 : Int) * (y7 + (3 : Int)))) * (69621 : Int)) % (2147483423 : Int)) / (8 : Int)))], rfl, ?_⟩
        exact ⟨F24, ((st19.1 / x_top), (st19.2 ++ [(((((((((((x_cell + ((977 : Int) * y7)) + (1 : Int)) * (48271 : Int)) % (2147483647 : Int)) * ((((x_cell + ((977 : Int) * y7)) + (1 : Int)) * (48271 : Int)) % (2147483647 : Int))) % (2147483629 : Int)) + ((40692 : Int) * (y7 + (3 : Int)))) * (69621 : Int)) % (2147483423 : Int)) / (8 : Int)) % x_top)])), (w20 ++ [V.int (((((((((((x_cell + ((977 : Int) * y7)) + (1 : Int)) * (48271 : Int)) % (2147483647 : Int)) * ((((x_cell + ((977 : Int) * y7)) + (1 : Int)) * (48271 : Int)) % (2147483647 : Int))) % (2147483629 : Int)) + ((40692 : Int) * (y7 + (3 : Int)))) * (69621 : Int)) % (2147483423 : Int)) / (8 : Int)) % x_top)]), some (V.int y7), some (V.int ((((((((((x_cell + ((977 : Int) * y7)) + (1 : Int)) * (48271 : Int)) % (2147483647 : Int)) * ((((x_cell + ((977 : Int) * y7)) + (1 : Int)) * (48271 : Int)) % (2147483647 : Int))) % (2147483629 : Int)) + ((40692 : Int) * (y7 + (3 : Int)))) * (69621 : Int)) % (2147483423 : Int)) / (8 : Int))), rfl, S18, O49, hl50, hk⟩
    rintro sg52 H53 ⟨F61, st55, w57, t59, t60, rfl, S54, O62, hl58, hL56⟩
    rw [rangeL_end0] at hL56
    have hk := hLd12 _ hL56
    refine ⟨_, rfl, ?_⟩
    exact hk _ _  O62.g  _ _ z6 (O62.cf _ (List.mem_of_getElem? (i := 0) rfl)) (O62.at 0 rfl) hl58
abbrev s_law_alike_0 : Stmt := top 18
theorem sc_law_alike_0 : FnScope ["found", "due", "k"] ["found", "due"] (defScope s_law_alike_0) := ⟨rfl, rfl, rfl, by decide +kernel, rfl, by decide +kernel, by decide +kernel⟩
def m_law_alike_0 (x_found : Int) (x_due : Int) : M (Bool) :=
.ok (decide (x_found = x_due))
def sp_law_alike_0 (mg : Str → Option Value) : Sp := fun vs H Q E => ∃ (F : Hp) (x_found : Int) (x_due : Int), vs = [V.int x_found, V.int x_due] ∧ Pre F [] H ∧
  wp (m_law_alike_0 x_found x_due) (fun r => ∀ (F' H' : Hp), Gr [] F H F' H' → Q (V.bl r) H')
  (fun n => ∀ (C : Addr) (H' : Hp), mg (Str.ofString n) = some (.ref C) → Kp [] H H' → E (.ref C) none H')
set_option maxHeartbeats 20000000 in
theorem ok_law_alike_0 (nb : Nb mg) (D : Df K mg "_law_alike" "_law_alike" s_law_alike_0 ["found", "due"]) : Ca P w K mg base "_law_alike" 1 ["found", "due"] (sp_law_alike_0 mg) := by
  refine Ca.mk' D sc_law_alike_0 (fun vs H Q E h => ?_) (fun q_ f_ cdv A outer s H vs Q E hr h => ?_)
  · obtain ⟨F, _, _, rfl, _⟩ := h
    rfl
  · obtain ⟨F, x_found, x_due, rfl, P0, hk⟩ := h
    have nd := sc_law_alike_0.nd
    have hu64 := hr.units
    have hu128 := hu128_of hr
    have O := P0.start
    refine ⟨_, (pss_cons (ps_if (PW.pt (pw_or (pt_cmpR op_isN (pv 1) pe_non (nomark _)) (pw_or1 (pt_val (pe_callB (isiK (K := K) rfl) (by rfl) nb.b_isinstance (by decide +kernel) (pa_cons (pv 1) (pa_cons (pe_bltn (v := .ty "str") (by rfl) nb.b_str (by decide +kernel) rfl) pa_nil))))))) (pss_one psNever) pss_nil)
  (pss_cons (ps_if (pt_val (pe_callB (isutK (K := K) rfl) (by rfl) nb.b_isinstance (by decide +kernel) (pa_cons (pv 1) (pa_cons (pe_tup (pa_cons (pe_bltn (v := .ty "tuple") (by rfl) nb.b_tuple (by decide +kernel) rfl) (pa_cons (pe_bltn (v := .ty "list") (by rfl) nb.b_list (by decide +kernel) rfl) pa_nil))) pa_nil)))) (pss_cons psNever
  (pss_cons psNever
  (pss_one psNever))) pss_nil)
  (pss_one (ps_ret (pe_and (pe_callB (isiK (K := K) rfl) (by rfl) nb.b_isinstance (by decide +kernel) (pa_cons (pv 0) (pa_cons (pe_bltn (v := .ty "int") (by rfl) nb.b_int (by decide +kernel) rfl) pa_nil))) (pe_and (pe_not (pe_callB (isiK (K := K) rfl) (by rfl) nb.b_isinstance (by decide +kernel) (pa_cons (pv 0) (pa_cons (pe_bltn (v := .ty "bool") (by rfl) nb.b_bool (by decide +kernel) rfl) pa_nil)))) (pe_one (pe_cmpR (op_eqT Int hu64) (pv 0) (pv 1) (nomark _))))))))), ?_⟩
    refine ⟨_, rfl, rfl, _, rfl, ?_⟩
    rw [show decide (V.int x_due = V.non) = false from decide_eq_false fun h_ => nomatch h_]
    refine iteF ?_
    refine ⟨_, rfl, _, _, _, _, false, rfl, .ty _, (.base (.int _)), kit_ty (by decide +kernel), _, rfl, ?_⟩
    refine iteF ?_
    refine ⟨_, rfl, (by show 2 ≤ sizeLine; decide), fun p1 hp2 => ?_⟩
    obtain ⟨F3, O4, S5, h6⟩ := O.putE hp2 (.tup [V.ty "tuple", V.ty "list"])
    refine ⟨_, _, _, _, _, false, rfl, (O4.s _ _ h6), (.cons (.ty _) (.cons (.ty _) .nil)), (.base (.base (.int _))), (any_no (kit_ty (by decide +kernel)) (any_no (kit_ty (by decide +kernel)) kitAny_nil)), _, rfl, ?_⟩
    refine iteF ?_
    refine ⟨_, rfl, _, _, _, _, true, rfl, .ty _, (.base (.int _)), kit_ty (by decide +kernel), _, rfl, ?_⟩
    refine iteT ?_
    refine ⟨_, rfl, _, _, _, _, false, rfl, .ty _, (.base (.int _)), kit_ty (by decide +kernel), _, rfl, _, rfl, ?_⟩
    refine iteT ?_
    refine ⟨_, rfl, _, rfl, _, _, R.int, R.int, ?_⟩
    exact hk _ _  O4.g 
abbrev s_law_alike_1 : Stmt := top 18
theorem sc_law_alike_1 : FnScope ["found", "due", "k"] ["found", "due"] (defScope s_law_alike_1) := ⟨rfl, rfl, rfl, by decide +kernel, rfl, by decide +kernel, by decide +kernel⟩
def m_law_alike_1 (x_found : (List Int)) (x_due : (List Int)) : M (Bool) :=
if false ≠ false then (
.ok false)
else (
if (x_found.length : Int) ≠ (x_due.length : Int) then (
.ok false)
else (
chk (okR (x_due.length : Int)) >>= fun _ =>
compS (fun (y60 : Int) (st78 : Unit) =>
opt (atI x_found y60) >>= fun y87 =>
opt (atI x_due y60) >>= fun y97 =>
m_law_alike_0 y87 y97 >>= fun r102 =>
if r102 = true then (
.ok (none, ()))
else (
.ok (some y60, ()))) (rangeL 0 (x_due.length : Int)) () >>= fun q120 =>
.ok (decide (q120.1 = ([] : List Int)))))
def sp_law_alike_1 (mg : Str → Option Value) : Sp := fun vs H Q E => ∃ (F : Hp) (v_found : V) (x_found : (List Int)) (v_due : V) (x_due : (List Int)), vs = [v_found, v_due] ∧ Pre F [] H ∧ R (a := (List Int)) F v_found x_found ∧ R (a := (List Int)) F v_due x_due ∧
  wp (m_law_alike_1 x_found x_due) (fun r => ∀ (F' H' : Hp), Gr [] F H F' H' → Q (V.bl r) H')
  (fun n => ∀ (C : Addr) (H' : Hp), mg (Str.ofString n) = some (.ref C) → Kp [] H H' → E (.ref C) none H')
set_option maxHeartbeats 20000000 in
theorem ok_law_alike_1 (nb : Nb mg) (C_law_alike_0 : Ca P w K mg base "_law_alike" 1 ["found", "due"] (sp_law_alike_0 mg)) (D : Df K mg "_law_alike" "_law_alike" s_law_alike_1 ["found", "due"]) : Ca P w K mg base "_law_alike" 2 ["found", "due"] (sp_law_alike_1 mg) := by
  obtain ⟨fa_law_alike_0, fd_law_alike_0, G_law_alike_0, M_law_alike_0, K_law_alike_0, B_law_alike_0⟩ := C_law_alike_0.ex
  refine Ca.mk' D sc_law_alike_1 (fun vs H Q E h => ?_) (fun q_ f_ cdv A outer s H vs Q E hr h => ?_)
  · obtain ⟨F, _, _, _, _, rfl, _⟩ := h
    rfl
  · obtain ⟨F, v_found, x_found, v_due, x_due, rfl, P0, f_found, f_due, hk⟩ := h
    have nd := sc_law_alike_1.nd
    have hu64 := hr.units
    have hu128 := hu128_of hr
    have O := P0.start
    refine ⟨_, (pss_cons (ps_if (PW.pt (pw_or (pt_cmpR op_isN (pv 1) pe_non (nomark _)) (pw_or1 (pt_val (pe_callB (isiK (K := K) rfl) (by rfl) nb.b_isinstance (by decide +kernel) (pa_cons (pv 1) (pa_cons (pe_bltn (v := .ty "str") (by rfl) nb.b_str (by decide +kernel) rfl) pa_nil))))))) (pss_one psNever) pss_nil)
  (pss_cons (ps_if (pt_val (pe_callB (isutK (K := K) rfl) (by rfl) nb.b_isinstance (by decide +kernel) (pa_cons (pv 1) (pa_cons (pe_tup (pa_cons (pe_bltn (v := .ty "tuple") (by rfl) nb.b_tuple (by decide +kernel) rfl) (pa_cons (pe_bltn (v := .ty "list") (by rfl) nb.b_list (by decide +kernel) rfl) pa_nil))) pa_nil)))) (pss_cons (ps_if (PW.pt (pw_or (pt_cmpR (op_neT Bool hu64) (pe_callB (isiK (K := K) rfl) (by rfl) nb.b_isinstance (by decide +kernel) (pa_cons (pv 0) (pa_cons (pe_bltn (v := .ty "tuple") (by rfl) nb.b_tuple (by decide +kernel) rfl) pa_nil))) (pe_callB (isiK (K := K) rfl) (by rfl) nb.b_isinstance (by decide +kernel) (pa_cons (pv 1) (pa_cons (pe_bltn (v := .ty "tuple") (by rfl) nb.b_tuple (by decide +kernel) rfl) pa_nil))) (nomark _)) (pw_or1 (pt_not (pt_val (pe_callB (isutK (K := K) rfl) (by rfl) nb.b_isinstance (by decide +kernel) (pa_cons (pv 0) (pa_cons (pe_tup (pa_cons (pe_bltn (v := .ty "tuple") (by rfl) nb.b_tuple (by decide +kernel) rfl) (pa_cons (pe_bltn (v := .ty "list") (by rfl) nb.b_list (by decide +kernel) rfl) pa_nil))) pa_nil)))))))) (pss_one (ps_ret pe_bl)) pss_nil)
  (pss_cons (ps_if (pt_cmpR (op_neT Int hu64) (pe_callB call_lenT (by rfl) nb.b_len PySem.boot_len (pa_cons (pv 0) pa_nil)) (pe_callB call_lenT (by rfl) nb.b_len PySem.boot_len (pa_cons (pv 1) pa_nil)) (nomark _)) (pss_one (ps_ret pe_bl)) pss_nil)
  (pss_one (ps_ret (pe_cmpR (op_eqT (List Int) hu64) (pe_lc (own := [("k", 2)]) (g := gName 2) (tt := _) rfl nd (pi_range1 rfl nb.b_range (pa_cons (pe_callB call_lenT (by rfl) nb.b_len PySem.boot_len (pa_cons (pv 1) pa_nil)) pa_nil)) (blkOk_by (own := [("k", 2)]) (N := ["found", "due", "k"]) (sc := defScope s_law_alike_1) (by decide +kernel)) (fun _ _ _ _ _ => (pg_name (i := 2) nd rfl (Or.inl rfl))) (fun _ _ _ _ _ => (pts_one (pt_not (pt_val (pe_call G_law_alike_0 (hr.mono (by decide)) rfl M_law_alike_0 K_law_alike_0 B_law_alike_0 .nil passL (pa_cons (pe_ix (ixListK (K := K) rfl) (pv 0) (pv 2) (fun _ _ => rfl)) (pa_cons (pe_ix (ixListK (K := K) rfl) (pv 1) (pv 2) (fun _ _ => rfl)) pa_nil))))))) (fun _ _ _ _ _ => (pv 2))) (pe_lst pa_nil) (nomark _)))))) pss_nil)
  (pss_one psNever))), ?_⟩
    refine ⟨_, rfl, rfl, _, rfl, ?_⟩
    obtain ⟨p1, w2, e3, h4, hl5⟩ := R.lst_ f_due
    cases e3
    rw [dNon_f]
    refine iteF ?_
    obtain ⟨p6, w7, e8, h9, hl10⟩ := R.lst_ f_due
    cases e8
    refine ⟨_, rfl, _, _, _, _, false, rfl, .ty _, (.base (.lst (O.s _ _ h9))), kit_ty (by decide +kernel), _, rfl, ?_⟩
    refine iteF ?_
    refine ⟨_, rfl, (by show 2 ≤ sizeLine; decide), fun p11 hp12 => ?_⟩
    obtain ⟨F13, O14, S15, h16⟩ := O.putE hp12 (.tup [V.ty "tuple", V.ty "list"])
    have f_found := f_found.mono S15
    have f_due := f_due.mono S15
    obtain ⟨p17, w18, e19, h20, hl21⟩ := R.lst_ f_due
    cases e19
    refine ⟨_, _, _, _, _, true, rfl, (O14.s _ _ h16), (.cons (.ty _) (.cons (.ty _) .nil)), (.base (.base (.lst (O14.s _ _ h20)))), (any_no (kit_ty (by decide +kernel)) (any_yes (kit_ty (by decide +kernel)))), _, rfl, ?_⟩
    refine iteT ?_
    obtain ⟨p22, w23, e24, h25, hl26⟩ := R.lst_ f_found
    cases e24
    obtain ⟨p27, w28, e29, h30, hl31⟩ := R.lst_ f_due
    cases e29
    refine ⟨_, rfl, _, _, _, _, false, rfl, .ty _, (.base (.lst (O14.s _ _ h25))), kit_ty (by decide +kernel), _, rfl, _, _, _, _, false, rfl, .ty _, (.base (.lst (O14.s _ _ h30))), kit_ty (by decide +kernel), _, _, R.bl, R.bl, _, rfl, ?_⟩
    refine iteD (fun q32 => ?_) (fun q32 => ?_)
    · have hk := wp_if hk q32
      refine iteT ?_
      exact hk _ _  O14.g 
    · have hk := wp_el hk q32
      refine ⟨_, rfl, (by show 2 ≤ sizeLine; decide), fun p33 hp34 => ?_⟩
      obtain ⟨F35, O36, S37, h38⟩ := O14.putE hp34 (.tup [V.ty "tuple", V.ty "list"])
      have f_found := f_found.mono S37
      have f_due := f_due.mono S37
      obtain ⟨p39, w40, e41, h42, hl43⟩ := R.lst_ f_found
      cases e41
      refine ⟨_, _, _, _, _, true, rfl, (O36.s _ _ h38), (.cons (.ty _) (.cons (.ty _) .nil)), (.base (.base (.lst (O36.s _ _ h42)))), (any_no (kit_ty (by decide +kernel)) (any_yes (kit_ty (by decide +kernel)))), _, rfl, ?_⟩
      refine iteNT ?_
      obtain ⟨p44, w45, e46, h47, hl48⟩ := R.lst_ f_found
      cases e46
      obtain ⟨p49, w50, e51, h52, hl53⟩ := R.lst_ f_due
      cases e51
      refine ⟨_, rfl, _, _, _, rfl, (.inl (O36.s _ _ h47)), hl48.len, _, rfl, _, _, _, rfl, (.inl (O36.s _ _ h52)), hl53.len, _, _, R.int, R.int, _, rfl, ?_⟩
      refine iteD (fun q54 => ?_) (fun q54 => ?_)
      · have hk := wp_if hk q54
        exact hk _ _  O36.g 
      · have hk := wp_el hk q54
        obtain ⟨p55, w56, e57, h58, hl59⟩ := R.lst_ f_due
        cases e57
        obtain ⟨c61, hk⟩ := wp_chk hk
        obtain ⟨c66, L62, hL63, hLs64, hLd65⟩ := compS_L hk
        refine ⟨_, rfl, _, _, _, rfl, (.inl (O36.s _ _ h58)), hl59.len, _, rfl, c61.lo, c61.hi, fun p67 hp68 => ?_⟩
        have z109 := O36.was hp68
        refine lc_range (lo := 0) (n := ((x_due.length : Int)).toNat) (fun i H => ∃ (F_ : Hp) (st : Unit) (acc : List Int) (wa : List V), Same F35 F_ ∧ Ow _ F_ [(p67, .lst wa)] H ∧ RL F_ wa acc ∧ wa.length ≤ i ∧ L62 (List.drop i (rangeL 0 (x_due.length : Int))) acc st) ⟨F35, (), [], [], Same.refl _, O36.new hp68, RL.nil, Nat.zero_le _, hL63⟩ ?_ ?_
        · rintro i69 H71 hi72 ⟨F77, st78, acc74, wa75, S79, O81, hl80, la76, hL63⟩
          have f_found := f_found.mono S79
          have f_due := f_due.mono S79
          rw [rangeL_get0 hi72] at hL63
          have hk := hLs64 _ _ _ _ hL63
          obtain ⟨y60, he_⟩ : ∃ z_, z_ = 0 + (i69 : Int) := ⟨_, rfl⟩
          try rw [← he_] at hk
          rw [← he_]
          obtain ⟨p82, w83, e84, h85, hl86⟩ := R.lst_ f_found
          cases e84
          obtain ⟨y87, e88, hk⟩ := wp_opt hk
          obtain ⟨w89, e90, r91⟩ := hl86.atI e88
          obtain rfl := R.int_ r91
          obtain ⟨p92, w93, e94, h95, hl96⟩ := R.lst_ f_due
          cases e94
          obtain ⟨y97, e98, hk⟩ := wp_opt hk
          obtain ⟨w99, e100, r101⟩ := hl96.atI e98
          obtain rfl := R.int_ r101
          refine ⟨rfl, _, rfl, _, rfl, _, _, _, _, rfl, rfl, (SqLF O81.s h85), e90, _, rfl, _, rfl, _, _, _, _, rfl, rfl, (SqLF O81.s h95), e100, ?_⟩
          refine ⟨_, _, _, rfl, O81.pre0, wp_call hk (fun r102 er103 hk F104 H105 g106 => ?_) (fun n hn => hn.elim)⟩
          have O107 := O81.call0 g106
          have S_ := g106.f
          have S79 := S79.trans S_
          have hl80 := hl80.mono S_
          refine ⟨_, rfl, ?_⟩
          refine iteBN (fun q108 => ?_) (fun q108 => ?_)
          · have hk := wp_if hk q108
            exact ⟨F104, (), acc74, wa75, S79, O107, hl80, Nat.le_succ_of_le la76, hk⟩
          · have hk := wp_el hk q108
            refine ⟨_, rfl, _, (O107.at 0 rfl), (comp_lenR la76 hi72 (by rw [Int.sub_zero]) c66), ?_⟩
            exact ⟨F104, (), acc74 ++ [y60], wa75 ++ [V.int y60], S79, O107.set 0 (.lst (wa75 ++ [V.int y60])) rfl, RL.snoc hl80 R.int, by rw [List.length_append]; exact Nat.succ_le_succ la76, hk⟩
        rintro H110 ⟨F111, st112, acc113, wa114, S115, O116, hl117, la118, hL119⟩
        rw [rangeL_end0] at hL119
        have hk := hLd65 _ _ hL119
        obtain ⟨F121, O122, S123, h124⟩ := O116.frzE 0 rfl z109
        have hl117 := hl117.mono S123
        have h125 := R.lst (a := Int) h124 hl117
        refine ⟨(by show 0 ≤ sizeLine; decide), fun p126 hp127 => ?_⟩
        have hl133 : RL (a := Int) F121 ([]) ([] : List Int) := RL.nil
        obtain ⟨F128, O129, S130, h131⟩ := O122.putE hp127 (.lst ([]))
        have h125 := h125.mono S130
        have hl133 := hl133.mono S130
        have h132 := R.lst (a := Int) h131 hl133
        refine ⟨_, _, (R.mono h125 O129.s), (R.mono h132 O129.s), ?_⟩
        exact hk _ _  O129.g 
abbrev s_law_alike_2 : Stmt := top 18
theorem sc_law_alike_2 : FnScope ["found", "due", "k"] ["found", "due"] (defScope s_law_alike_2) := ⟨rfl, rfl, rfl, by decide +kernel, rfl, by decide +kernel, by decide +kernel⟩
def m_law_alike_2 (x_found : (T3 Int Int Int)) (x_due : (T3 Int Int Int)) : M (Bool) :=
if true ≠ true then (
.ok false)
else (
if ((3 : Nat) : Int) ≠ ((3 : Nat) : Int) then (
.ok false)
else (
chk (okR ((3 : Nat) : Int)) >>= fun _ =>
compS (fun (y33 : Int) (st51 : Unit) =>
chk (0 ≤ y33 ∧ y33 < 3) >>= fun _ =>
if y33 = (0 : Int) then (
m_law_alike_0 x_found.a x_due.a >>= fun r59 =>
if r59 = true then (
.ok (none, ()))
else (
.ok (some y33, ())))
else (
if y33 = (1 : Int) then (
m_law_alike_0 x_found.b x_due.b >>= fun r66 =>
if r66 = true then (
.ok (none, ()))
else (
.ok (some y33, ())))
else (
m_law_alike_0 x_found.c x_due.c >>= fun r73 =>
if r73 = true then (
.ok (none, ()))
else (
.ok (some y33, ()))))) (rangeL 0 ((3 : Nat) : Int)) () >>= fun q91 =>
.ok (decide (q91.1 = ([] : List Int)))))
def sp_law_alike_2 (mg : Str → Option Value) : Sp := fun vs H Q E => ∃ (F : Hp) (v_found : V) (x_found : (T3 Int Int Int)) (v_due : V) (x_due : (T3 Int Int Int)), vs = [v_found, v_due] ∧ Pre F [] H ∧ R (a := (T3 Int Int Int)) F v_found x_found ∧ R (a := (T3 Int Int Int)) F v_due x_due ∧
  wp (m_law_alike_2 x_found x_due) (fun r => ∀ (F' H' : Hp), Gr [] F H F' H' → Q (V.bl r) H')
  (fun n => ∀ (C : Addr) (H' : Hp), mg (Str.ofString n) = some (.ref C) → Kp [] H H' → E (.ref C) none H')
set_option maxHeartbeats 20000000 in
theorem ok_law_alike_2 (nb : Nb mg) (C_law_alike_0 : Ca P w K mg base "_law_alike" 1 ["found", "due"] (sp_law_alike_0 mg)) (D : Df K mg "_law_alike" "_law_alike" s_law_alike_2 ["found", "due"]) : Ca P w K mg base "_law_alike" 2 ["found", "due"] (sp_law_alike_2 mg) := by
  obtain ⟨fa_law_alike_0, fd_law_alike_0, G_law_alike_0, M_law_alike_0, K_law_alike_0, B_law_alike_0⟩ := C_law_alike_0.ex
  refine Ca.mk' D sc_law_alike_2 (fun vs H Q E h => ?_) (fun q_ f_ cdv A outer s H vs Q E hr h => ?_)
  · obtain ⟨F, _, _, _, _, rfl, _⟩ := h
    rfl
  · obtain ⟨F, v_found, x_found, v_due, x_due, rfl, P0, f_found, f_due, hk⟩ := h
    have nd := sc_law_alike_2.nd
    have hu64 := hr.units
    have hu128 := hu128_of hr
    have O := P0.start
    refine ⟨_, (pss_cons (ps_if (PW.pt (pw_or (pt_cmpR op_isN (pv 1) pe_non (nomark _)) (pw_or1 (pt_val (pe_callB (isiK (K := K) rfl) (by rfl) nb.b_isinstance (by decide +kernel) (pa_cons (pv 1) (pa_cons (pe_bltn (v := .ty "str") (by rfl) nb.b_str (by decide +kernel) rfl) pa_nil))))))) (pss_one psNever) pss_nil)
  (pss_cons (ps_if (pt_val (pe_callB (isutK (K := K) rfl) (by rfl) nb.b_isinstance (by decide +kernel) (pa_cons (pv 1) (pa_cons (pe_tup (pa_cons (pe_bltn (v := .ty "tuple") (by rfl) nb.b_tuple (by decide +kernel) rfl) (pa_cons (pe_bltn (v := .ty "list") (by rfl) nb.b_list (by decide +kernel) rfl) pa_nil))) pa_nil)))) (pss_cons (ps_if (PW.pt (pw_or (pt_cmpR (op_neT Bool hu64) (pe_callB (isiK (K := K) rfl) (by rfl) nb.b_isinstance (by decide +kernel) (pa_cons (pv 0) (pa_cons (pe_bltn (v := .ty "tuple") (by rfl) nb.b_tuple (by decide +kernel) rfl) pa_nil))) (pe_callB (isiK (K := K) rfl) (by rfl) nb.b_isinstance (by decide +kernel) (pa_cons (pv 1) (pa_cons (pe_bltn (v := .ty "tuple") (by rfl) nb.b_tuple (by decide +kernel) rfl) pa_nil))) (nomark _)) (pw_or1 (pt_not (pt_val (pe_callB (isutK (K := K) rfl) (by rfl) nb.b_isinstance (by decide +kernel) (pa_cons (pv 0) (pa_cons (pe_tup (pa_cons (pe_bltn (v := .ty "tuple") (by rfl) nb.b_tuple (by decide +kernel) rfl) (pa_cons (pe_bltn (v := .ty "list") (by rfl) nb.b_list (by decide +kernel) rfl) pa_nil))) pa_nil)))))))) (pss_one (ps_ret pe_bl)) pss_nil)
  (pss_cons (ps_if (pt_cmpR (op_neT Int hu64) (pe_callB call_lenT (by rfl) nb.b_len PySem.boot_len (pa_cons (pv 0) pa_nil)) (pe_callB call_lenT (by rfl) nb.b_len PySem.boot_len (pa_cons (pv 1) pa_nil)) (nomark _)) (pss_one (ps_ret pe_bl)) pss_nil)
  (pss_one (ps_ret (pe_cmpR (op_eqT (List Int) hu64) (pe_lc (own := [("k", 2)]) (g := gName 2) (tt := _) rfl nd (pi_range1 rfl nb.b_range (pa_cons (pe_callB call_lenT (by rfl) nb.b_len PySem.boot_len (pa_cons (pv 1) pa_nil)) pa_nil)) (blkOk_by (own := [("k", 2)]) (N := ["found", "due", "k"]) (sc := defScope s_law_alike_2) (by decide +kernel)) (fun _ _ _ _ _ => (pg_name (i := 2) nd rfl (Or.inl rfl))) (fun _ _ _ _ _ => (pts_one (pt_not (pt_val (pe_call G_law_alike_0 (hr.mono (by decide)) rfl M_law_alike_0 K_law_alike_0 B_law_alike_0 .nil passL (pa_cons (pe_ix (ixTupK (K := K) rfl) (pv 0) (pv 2) (fun _ _ => rfl)) (pa_cons (pe_ix (ixTupK (K := K) rfl) (pv 1) (pv 2) (fun _ _ => rfl)) pa_nil))))))) (fun _ _ _ _ _ => (pv 2))) (pe_lst pa_nil) (nomark _)))))) pss_nil)
  (pss_one psNever))), ?_⟩
    refine ⟨_, rfl, rfl, _, rfl, ?_⟩
    obtain ⟨p1, v4, v5, v6, e2, h3, r7, r8, r9⟩ := R.t3_ f_due
    cases e2
    obtain rfl := R.int_ r7
    obtain rfl := R.int_ r8
    obtain rfl := R.int_ r9
    rw [dNon_f]
    refine iteF ?_
    refine ⟨_, rfl, _, _, _, _, false, rfl, .ty _, (.base (.tup (O.s _ _ h3))), kit_ty (by decide +kernel), _, rfl, ?_⟩
    refine iteF ?_
    refine ⟨_, rfl, (by show 2 ≤ sizeLine; decide), fun p10 hp11 => ?_⟩
    obtain ⟨F12, O13, S14, h15⟩ := O.putE hp11 (.tup [V.ty "tuple", V.ty "list"])
    have f_found := f_found.mono S14
    have h3 := S14 _ _ h3
    refine ⟨_, _, _, _, _, true, rfl, (O13.s _ _ h15), (.cons (.ty _) (.cons (.ty _) .nil)), (.base (.base (.tup (O13.s _ _ h3)))), (any_yes (kit_ty (by decide +kernel))), _, rfl, ?_⟩
    refine iteT ?_
    obtain ⟨p16, v19, v20, v21, e17, h18, r22, r23, r24⟩ := R.t3_ f_found
    cases e17
    obtain rfl := R.int_ r22
    obtain rfl := R.int_ r23
    obtain rfl := R.int_ r24
    refine ⟨_, rfl, _, _, _, _, true, rfl, .ty _, (.base (.tup (O13.s _ _ h18))), kit_ty (by decide +kernel), _, rfl, _, _, _, _, true, rfl, .ty _, (.base (.tup (O13.s _ _ h3))), kit_ty (by decide +kernel), _, _, R.bl, R.bl, _, rfl, ?_⟩
    refine iteD (fun q25 => ?_) (fun q25 => ?_)
    · have hk := wp_if hk q25
      refine iteT ?_
      exact hk _ _  O13.g 
    · have hk := wp_el hk q25
      refine ⟨_, rfl, (by show 2 ≤ sizeLine; decide), fun p26 hp27 => ?_⟩
      obtain ⟨F28, O29, S30, h31⟩ := O13.putE hp27 (.tup [V.ty "tuple", V.ty "list"])
      have h3 := S30 _ _ h3
      have h18 := S30 _ _ h18
      refine ⟨_, _, _, _, _, true, rfl, (O29.s _ _ h31), (.cons (.ty _) (.cons (.ty _) .nil)), (.base (.base (.tup (O29.s _ _ h18)))), (any_yes (kit_ty (by decide +kernel))), _, rfl, ?_⟩
      refine iteNT ?_
      refine ⟨_, rfl, _, _, _, rfl, (.inr (O29.s _ _ h18)), rfl, _, rfl, _, _, _, rfl, (.inr (O29.s _ _ h3)), rfl, _, _, R.int, R.int, _, rfl, ?_⟩
      refine iteD (fun q32 => ?_) (fun q32 => ?_)
      · have hk := wp_if hk q32
        exact hk _ _  O29.g 
      · have hk := wp_el hk q32
        obtain ⟨c34, hk⟩ := wp_chk hk
        obtain ⟨c39, L35, hL36, hLs37, hLd38⟩ := compS_L hk
        refine ⟨_, rfl, _, _, _, rfl, (.inr (O29.s _ _ h3)), rfl, _, rfl, c34.lo, c34.hi, fun p40 hp41 => ?_⟩
        have z80 := O29.was hp41
        refine lc_range (lo := 0) (n := (((3 : Nat) : Int)).toNat) (fun i H => ∃ (F_ : Hp) (st : Unit) (acc : List Int) (wa : List V), Same F28 F_ ∧ Ow _ F_ [(p40, .lst wa)] H ∧ RL F_ wa acc ∧ wa.length ≤ i ∧ L35 (List.drop i (rangeL 0 ((3 : Nat) : Int))) acc st) ⟨F28, (), [], [], Same.refl _, O29.new hp41, RL.nil, Nat.zero_le _, hL36⟩ ?_ ?_
        · rintro i42 H44 hi45 ⟨F50, st51, acc47, wa48, S52, O54, hl53, la49, hL36⟩
          have h3 := S52 _ _ h3
          have h18 := S52 _ _ h18
          rw [rangeL_get0 hi45] at hL36
          have hk := hLs37 _ _ _ _ hL36
          obtain ⟨y33, he_⟩ : ∃ z_, z_ = 0 + (i42 : Int) := ⟨_, rfl⟩
          try rw [← he_] at hk
          rw [← he_]
          obtain ⟨c55, hk⟩ := wp_chk hk
          refine ⟨rfl, _, rfl, _, rfl, ?_⟩
          rcases ix3 c55 with q56 | q57 | q58
          · have hk := wp_if hk q56
            refine ⟨_, _, _, _, rfl, rfl, (SqTF O54.s h18), (by rw [q56]; rfl), _, rfl, _, rfl, _, _, _, _, rfl, rfl, (SqTF O54.s h3), (by rw [q56]; rfl), ?_⟩
            refine ⟨_, _, _, rfl, O54.pre0, wp_call hk (fun r59 er60 hk F61 H62 g63 => ?_) (fun n hn => hn.elim)⟩
            have O64 := O54.call0 g63
            have S_ := g63.f
            have S52 := S52.trans S_
            have hl53 := hl53.mono S_
            refine ⟨_, rfl, ?_⟩
            refine iteBN (fun q65 => ?_) (fun q65 => ?_)
            · have hk := wp_if hk q65
              exact ⟨F61, (), acc47, wa48, S52, O64, hl53, Nat.le_succ_of_le la49, hk⟩
            · have hk := wp_el hk q65
              refine ⟨_, rfl, _, (O64.at 0 rfl), (comp_lenR la49 hi45 (by rw [Int.sub_zero]) c39), ?_⟩
              exact ⟨F61, (), acc47 ++ [y33], wa48 ++ [V.int y33], S52, O64.set 0 (.lst (wa48 ++ [V.int y33])) rfl, RL.snoc hl53 R.int, by rw [List.length_append]; exact Nat.succ_le_succ la49, hk⟩
          · have hk := wp_el hk (by rw [q57]; decide)
            have hk := wp_if hk q57
            refine ⟨_, _, _, _, rfl, rfl, (SqTF O54.s h18), (by rw [q57]; rfl), _, rfl, _, rfl, _, _, _, _, rfl, rfl, (SqTF O54.s h3), (by rw [q57]; rfl), ?_⟩
            refine ⟨_, _, _, rfl, O54.pre0, wp_call hk (fun r66 er67 hk F68 H69 g70 => ?_) (fun n hn => hn.elim)⟩
            have O71 := O54.call0 g70
            have S_ := g70.f
            have S52 := S52.trans S_
            have hl53 := hl53.mono S_
            refine ⟨_, rfl, ?_⟩
            refine iteBN (fun q72 => ?_) (fun q72 => ?_)
            · have hk := wp_if hk q72
              exact ⟨F68, (), acc47, wa48, S52, O71, hl53, Nat.le_succ_of_le la49, hk⟩
            · have hk := wp_el hk q72
              refine ⟨_, rfl, _, (O71.at 0 rfl), (comp_lenR la49 hi45 (by rw [Int.sub_zero]) c39), ?_⟩
              exact ⟨F68, (), acc47 ++ [y33], wa48 ++ [V.int y33], S52, O71.set 0 (.lst (wa48 ++ [V.int y33])) rfl, RL.snoc hl53 R.int, by rw [List.length_append]; exact Nat.succ_le_succ la49, hk⟩
          · have hk := wp_el hk (by rw [q58]; decide)
            have hk := wp_el hk (by rw [q58]; decide)
            refine ⟨_, _, _, _, rfl, rfl, (SqTF O54.s h18), (by rw [q58]; rfl), _, rfl, _, rfl, _, _, _, _, rfl, rfl, (SqTF O54.s h3), (by rw [q58]; rfl), ?_⟩
            refine ⟨_, _, _, rfl, O54.pre0, wp_call hk (fun r73 er74 hk F75 H76 g77 => ?_) (fun n hn => hn.elim)⟩
            have O78 := O54.call0 g77
            have S_ := g77.f
            have S52 := S52.trans S_
            have hl53 := hl53.mono S_
            refine ⟨_, rfl, ?_⟩
            refine iteBN (fun q79 => ?_) (fun q79 => ?_)
            · have hk := wp_if hk q79
              exact ⟨F75, (), acc47, wa48, S52, O78, hl53, Nat.le_succ_of_le la49, hk⟩
            · have hk := wp_el hk q79
              refine ⟨_, rfl, _, (O78.at 0 rfl), (comp_lenR la49 hi45 (by rw [Int.sub_zero]) c39), ?_⟩
              exact ⟨F75, (), acc47 ++ [y33], wa48 ++ [V.int y33], S52, O78.set 0 (.lst (wa48 ++ [V.int y33])) rfl, RL.snoc hl53 R.int, by rw [List.length_append]; exact Nat.succ_le_succ la49, hk⟩
        rintro H81 ⟨F82, st83, acc84, wa85, S86, O87, hl88, la89, hL90⟩
        rw [rangeL_end0] at hL90
        have hk := hLd38 _ _ hL90
        obtain ⟨F92, O93, S94, h95⟩ := O87.frzE 0 rfl z80
        have hl88 := hl88.mono S94
        have h96 := R.lst (a := Int) h95 hl88
        refine ⟨(by show 0 ≤ sizeLine; decide), fun p97 hp98 => ?_⟩
        have hl104 : RL (a := Int) F92 ([]) ([] : List Int) := RL.nil
        obtain ⟨F99, O100, S101, h102⟩ := O93.putE hp98 (.lst ([]))
        have h96 := h96.mono S101
        have hl104 := hl104.mono S101
        have h103 := R.lst (a := Int) h102 hl104
        refine ⟨_, _, (R.mono h96 O100.s), (R.mono h103 O100.s), ?_⟩
        exact hk _ _  O100.g 
abbrev s_law_alike_3 : Stmt := top 18
theorem sc_law_alike_3 : FnScope ["found", "due", "k"] ["found", "due"] (defScope s_law_alike_3) := ⟨rfl, rfl, rfl, by decide +kernel, rfl, by decide +kernel, by decide +kernel⟩
def m_law_alike_3 (x_found : (List (T3 Int Int Int))) (x_due : (List (T3 Int Int Int))) : M (Bool) :=
if false ≠ false then (
.ok false)
else (
if (x_found.length : Int) ≠ (x_due.length : Int) then (
.ok false)
else (
chk (okR (x_due.length : Int)) >>= fun _ =>
compS (fun (y60 : Int) (st78 : Unit) =>
opt (atI x_found y60) >>= fun y87 =>
opt (atI x_due y60) >>= fun y97 =>
m_law_alike_2 y87 y97 >>= fun r102 =>
if r102 = true then (
.ok (none, ()))
else (
.ok (some y60, ()))) (rangeL 0 (x_due.length : Int)) () >>= fun q120 =>
.ok (decide (q120.1 = ([] : List Int)))))
def sp_law_alike_3 (mg : Str → Option Value) : Sp := fun vs H Q E => ∃ (F : Hp) (v_found : V) (x_found : (List (T3 Int Int Int))) (v_due : V) (x_due : (List (T3 Int Int Int))), vs = [v_found, v_due] ∧ Pre F [] H ∧ R (a := (List (T3 Int Int Int))) F v_found x_found ∧ R (a := (List (T3 Int Int Int))) F v_due x_due ∧
  wp (m_law_alike_3 x_found x_due) (fun r => ∀ (F' H' : Hp), Gr [] F H F' H' → Q (V.bl r) H')
  (fun n => ∀ (C : Addr) (H' : Hp), mg (Str.ofString n) = some (.ref C) → Kp [] H H' → E (.ref C) none H')
set_option maxHeartbeats 20000000 in
theorem ok_law_alike_3 (nb : Nb mg) (C_law_alike_2 : Ca P w K mg base "_law_alike" 2 ["found", "due"] (sp_law_alike_2 mg)) (D : Df K mg "_law_alike" "_law_alike" s_law_alike_3 ["found", "due"]) : Ca P w K mg base "_law_alike" 3 ["found", "due"] (sp_law_alike_3 mg) := by
  obtain ⟨fa_law_alike_2, fd_law_alike_2, G_law_alike_2, M_law_alike_2, K_law_alike_2, B_law_alike_2⟩ := C_law_alike_2.ex
  refine Ca.mk' D sc_law_alike_3 (fun vs H Q E h => ?_) (fun q_ f_ cdv A outer s H vs Q E hr h => ?_)
  · obtain ⟨F, _, _, _, _, rfl, _⟩ := h
    rfl
  · obtain ⟨F, v_found, x_found, v_due, x_due, rfl, P0, f_found, f_due, hk⟩ := h
    have nd := sc_law_alike_3.nd
    have hu64 := hr.units
    have hu128 := hu128_of hr
    have O := P0.start
    refine ⟨_, (pss_cons (ps_if (PW.pt (pw_or (pt_cmpR op_isN (pv 1) pe_non (nomark _)) (pw_or1 (pt_val (pe_callB (isiK (K := K) rfl) (by rfl) nb.b_isinstance (by decide +kernel) (pa_cons (pv 1) (pa_cons (pe_bltn (v := .ty "str") (by rfl) nb.b_str (by decide +kernel) rfl) pa_nil))))))) (pss_one psNever) pss_nil)
  (pss_cons (ps_if (pt_val (pe_callB (isutK (K := K) rfl) (by rfl) nb.b_isinstance (by decide +kernel) (pa_cons (pv 1) (pa_cons (pe_tup (pa_cons (pe_bltn (v := .ty "tuple") (by rfl) nb.b_tuple (by decide +kernel) rfl) (pa_cons (pe_bltn (v := .ty "list") (by rfl) nb.b_list (by decide +kernel) rfl) pa_nil))) pa_nil)))) (pss_cons (ps_if (PW.pt (pw_or (pt_cmpR (op_neT Bool hu64) (pe_callB (isiK (K := K) rfl) (by rfl) nb.b_isinstance (by decide +kernel) (pa_cons (pv 0) (pa_cons (pe_bltn (v := .ty "tuple") (by rfl) nb.b_tuple (by decide +kernel) rfl) pa_nil))) (pe_callB (isiK (K := K) rfl) (by rfl) nb.b_isinstance (by decide +kernel) (pa_cons (pv 1) (pa_cons (pe_bltn (v := .ty "tuple") (by rfl) nb.b_tuple (by decide +kernel) rfl) pa_nil))) (nomark _)) (pw_or1 (pt_not (pt_val (pe_callB (isutK (K := K) rfl) (by rfl) nb.b_isinstance (by decide +kernel) (pa_cons (pv 0) (pa_cons (pe_tup (pa_cons (pe_bltn (v := .ty "tuple") (by rfl) nb.b_tuple (by decide +kernel) rfl) (pa_cons (pe_bltn (v := .ty "list") (by rfl) nb.b_list (by decide +kernel) rfl) pa_nil))) pa_nil)))))))) (pss_one (ps_ret pe_bl)) pss_nil)
  (pss_cons (ps_if (pt_cmpR (op_neT Int hu64) (pe_callB call_lenT (by rfl) nb.b_len PySem.boot_len (pa_cons (pv 0) pa_nil)) (pe_callB call_lenT (by rfl) nb.b_len PySem.boot_len (pa_cons (pv 1) pa_nil)) (nomark _)) (pss_one (ps_ret pe_bl)) pss_nil)
  (pss_one (ps_ret (pe_cmpR (op_eqT (List Int) hu64) (pe_lc (own := [("k", 2)]) (g := gName 2) (tt := _) rfl nd (pi_range1 rfl nb.b_range (pa_cons (pe_callB call_lenT (by rfl) nb.b_len PySem.boot_len (pa_cons (pv 1) pa_nil)) pa_nil)) (blkOk_by (own := [("k", 2)]) (N := ["found", "due", "k"]) (sc := defScope s_law_alike_3) (by decide +kernel)) (fun _ _ _ _ _ => (pg_name (i := 2) nd rfl (Or.inl rfl))) (fun _ _ _ _ _ => (pts_one (pt_not (pt_val (pe_call G_law_alike_2 (hr.mono (by decide)) rfl M_law_alike_2 K_law_alike_2 B_law_alike_2 .nil passL (pa_cons (pe_ix (ixListK (K := K) rfl) (pv 0) (pv 2) (fun _ _ => rfl)) (pa_cons (pe_ix (ixListK (K := K) rfl) (pv 1) (pv 2) (fun _ _ => rfl)) pa_nil))))))) (fun _ _ _ _ _ => (pv 2))) (pe_lst pa_nil) (nomark _)))))) pss_nil)
  (pss_one psNever))), ?_⟩
    refine ⟨_, rfl, rfl, _, rfl, ?_⟩
    obtain ⟨p1, w2, e3, h4, hl5⟩ := R.lst_ f_due
    cases e3
    rw [dNon_f]
    refine iteF ?_
    obtain ⟨p6, w7, e8, h9, hl10⟩ := R.lst_ f_due
    cases e8
    refine ⟨_, rfl, _, _, _, _, false, rfl, .ty _, (.base (.lst (O.s _ _ h9))), kit_ty (by decide +kernel), _, rfl, ?_⟩
    refine iteF ?_
    refine ⟨_, rfl, (by show 2 ≤ sizeLine; decide), fun p11 hp12 => ?_⟩
    obtain ⟨F13, O14, S15, h16⟩ := O.putE hp12 (.tup [V.ty "tuple", V.ty "list"])
    have f_found := f_found.mono S15
    have f_due := f_due.mono S15
    obtain ⟨p17, w18, e19, h20, hl21⟩ := R.lst_ f_due
    cases e19
    refine ⟨_, _, _, _, _, true, rfl, (O14.s _ _ h16), (.cons (.ty _) (.cons (.ty _) .nil)), (.base (.base (.lst (O14.s _ _ h20)))), (any_no (kit_ty (by decide +kernel)) (any_yes (kit_ty (by decide +kernel)))), _, rfl, ?_⟩
    refine iteT ?_
    obtain ⟨p22, w23, e24, h25, hl26⟩ := R.lst_ f_found
    cases e24
    obtain ⟨p27, w28, e29, h30, hl31⟩ := R.lst_ f_due
    cases e29
    refine ⟨_, rfl, _, _, _, _, false, rfl, .ty _, (.base (.lst (O14.s _ _ h25))), kit_ty (by decide +kernel), _, rfl, _, _, _, _, false, rfl, .ty _, (.base (.lst (O14.s _ _ h30))), kit_ty (by decide +kernel), _, _, R.bl, R.bl, _, rfl, ?_⟩
    refine iteD (fun q32 => ?_) (fun q32 => ?_)
    · have hk := wp_if hk q32
      refine iteT ?_
      exact hk _ _  O14.g 
    · have hk := wp_el hk q32
      refine ⟨_, rfl, (by show 2 ≤ sizeLine; decide), fun p33 hp34 => ?_⟩
      obtain ⟨F35, O36, S37, h38⟩ := O14.putE hp34 (.tup [V.ty "tuple", V.ty "list"])
      have f_found := f_found.mono S37
      have f_due := f_due.mono S37
      obtain ⟨p39, w40, e41, h42, hl43⟩ := R.lst_ f_found
      cases e41
      refine ⟨_, _, _, _, _, true, rfl, (O36.s _ _ h38), (.cons (.ty _) (.cons (.ty _) .nil)), (.base (.base (.lst (O36.s _ _ h42)))), (any_no (kit_ty (by decide +kernel)) (any_yes (kit_ty (by decide +kernel)))), _, rfl, ?_⟩
      refine iteNT ?_
      obtain ⟨p44, w45, e46, h47, hl48⟩ := R.lst_ f_found
      cases e46
      obtain ⟨p49, w50, e51, h52, hl53⟩ := R.lst_ f_due
      cases e51
      refine ⟨_, rfl, _, _, _, rfl, (.inl (O36.s _ _ h47)), hl48.len, _, rfl, _, _, _, rfl, (.inl (O36.s _ _ h52)), hl53.len, _, _, R.int, R.int, _, rfl, ?_⟩
      refine iteD (fun q54 => ?_) (fun q54 => ?_)
      · have hk := wp_if hk q54
        exact hk _ _  O36.g 
      · have hk := wp_el hk q54
        obtain ⟨p55, w56, e57, h58, hl59⟩ := R.lst_ f_due
        cases e57
        obtain ⟨c61, hk⟩ := wp_chk hk
        obtain ⟨c66, L62, hL63, hLs64, hLd65⟩ := compS_L hk
        refine ⟨_, rfl, _, _, _, rfl, (.inl (O36.s _ _ h58)), hl59.len, _, rfl, c61.lo, c61.hi, fun p67 hp68 => ?_⟩
        have z109 := O36.was hp68
        refine lc_range (lo := 0) (n := ((x_due.length : Int)).toNat) (fun i H => ∃ (F_ : Hp) (st : Unit) (acc : List Int) (wa : List V), Same F35 F_ ∧ Ow _ F_ [(p67, .lst wa)] H ∧ RL F_ wa acc ∧ wa.length ≤ i ∧ L62 (List.drop i (rangeL 0 (x_due.length : Int))) acc st) ⟨F35, (), [], [], Same.refl _, O36.new hp68, RL.nil, Nat.zero_le _, hL63⟩ ?_ ?_
        · rintro i69 H71 hi72 ⟨F77, st78, acc74, wa75, S79, O81, hl80, la76, hL63⟩
          have f_found := f_found.mono S79
          have f_due := f_due.mono S79
          rw [rangeL_get0 hi72] at hL63
          have hk := hLs64 _ _ _ _ hL63
          obtain ⟨y60, he_⟩ : ∃ z_, z_ = 0 + (i69 : Int) := ⟨_, rfl⟩
          try rw [← he_] at hk
          rw [← he_]
          obtain ⟨p82, w83, e84, h85, hl86⟩ := R.lst_ f_found
          cases e84
          obtain ⟨y87, e88, hk⟩ := wp_opt hk
          obtain ⟨w89, e90, r91⟩ := hl86.atI e88
          obtain ⟨p92, w93, e94, h95, hl96⟩ := R.lst_ f_due
          cases e94
          obtain ⟨y97, e98, hk⟩ := wp_opt hk
          obtain ⟨w99, e100, r101⟩ := hl96.atI e98
          refine ⟨rfl, _, rfl, _, rfl, _, _, _, _, rfl, rfl, (SqLF O81.s h85), e90, _, rfl, _, rfl, _, _, _, _, rfl, rfl, (SqLF O81.s h95), e100, ?_⟩
          refine ⟨_, _, _, _, _, rfl, O81.pre0, r91, r101, wp_call hk (fun r102 er103 hk F104 H105 g106 => ?_) (fun n hn => hn.elim)⟩
          have O107 := O81.call0 g106
          have S_ := g106.f
          have S79 := S79.trans S_
          have hl80 := hl80.mono S_
          refine ⟨_, rfl, ?_⟩
          refine iteBN (fun q108 => ?_) (fun q108 => ?_)
          · have hk := wp_if hk q108
            exact ⟨F104, (), acc74, wa75, S79, O107, hl80, Nat.le_succ_of_le la76, hk⟩
          · have hk := wp_el hk q108
            refine ⟨_, rfl, _, (O107.at 0 rfl), (comp_lenR la76 hi72 (by rw [Int.sub_zero]) c66), ?_⟩
            exact ⟨F104, (), acc74 ++ [y60], wa75 ++ [V.int y60], S79, O107.set 0 (.lst (wa75 ++ [V.int y60])) rfl, RL.snoc hl80 R.int, by rw [List.length_append]; exact Nat.succ_le_succ la76, hk⟩
        rintro H110 ⟨F111, st112, acc113, wa114, S115, O116, hl117, la118, hL119⟩
        rw [rangeL_end0] at hL119
        have hk := hLd65 _ _ hL119
        obtain ⟨F121, O122, S123, h124⟩ := O116.frzE 0 rfl z109
        have hl117 := hl117.mono S123
        have h125 := R.lst (a := Int) h124 hl117
        refine ⟨(by show 0 ≤ sizeLine; decide), fun p126 hp127 => ?_⟩
        have hl133 : RL (a := Int) F121 ([]) ([] : List Int) := RL.nil
        obtain ⟨F128, O129, S130, h131⟩ := O122.putE hp127 (.lst ([]))
        have h125 := h125.mono S130
        have hl133 := hl133.mono S130
        have h132 := R.lst (a := Int) h131 hl133
        refine ⟨_, _, (R.mono h125 O129.s), (R.mono h132 O129.s), ?_⟩
        exact hk _ _  O129.g 
abbrev s_law_alike_4 : Stmt := top 18
theorem sc_law_alike_4 : FnScope ["found", "due", "k"] ["found", "due"] (defScope s_law_alike_4) := ⟨rfl, rfl, rfl, by decide +kernel, rfl, by decide +kernel, by decide +kernel⟩
def m_law_alike_4 (x_found : ((List Int) × (List (T3 Int Int Int)))) (x_due : ((List Int) × (List (T3 Int Int Int)))) : M (Bool) :=
if true ≠ true then (
.ok false)
else (
if ((2 : Nat) : Int) ≠ ((2 : Nat) : Int) then (
.ok false)
else (
chk (okR ((2 : Nat) : Int)) >>= fun _ =>
compS (fun (y29 : Int) (st47 : Unit) =>
chk (0 ≤ y29 ∧ y29 < 2) >>= fun _ =>
if y29 = (0 : Int) then (
m_law_alike_1 x_found.1 x_due.1 >>= fun r54 =>
if r54 = true then (
.ok (none, ()))
else (
.ok (some y29, ())))
else (
m_law_alike_3 x_found.2 x_due.2 >>= fun r61 =>
if r61 = true then (
.ok (none, ()))
else (
.ok (some y29, ())))) (rangeL 0 ((2 : Nat) : Int)) () >>= fun q79 =>
.ok (decide (q79.1 = ([] : List Int)))))
def sp_law_alike_4 (mg : Str → Option Value) : Sp := fun vs H Q E => ∃ (F : Hp) (v_found : V) (x_found : ((List Int) × (List (T3 Int Int Int)))) (v_due : V) (x_due : ((List Int) × (List (T3 Int Int Int)))), vs = [v_found, v_due] ∧ Pre F [] H ∧ R (a := ((List Int) × (List (T3 Int Int Int)))) F v_found x_found ∧ R (a := ((List Int) × (List (T3 Int Int Int)))) F v_due x_due ∧
  wp (m_law_alike_4 x_found x_due) (fun r => ∀ (F' H' : Hp), Gr [] F H F' H' → Q (V.bl r) H')
  (fun n => ∀ (C : Addr) (H' : Hp), mg (Str.ofString n) = some (.ref C) → Kp [] H H' → E (.ref C) none H')
set_option maxHeartbeats 20000000 in
theorem ok_law_alike_4 (nb : Nb mg) (C_law_alike_1 : Ca P w K mg base "_law_alike" 2 ["found", "due"] (sp_law_alike_1 mg)) (C_law_alike_3 : Ca P w K mg base "_law_alike" 3 ["found", "due"] (sp_law_alike_3 mg)) (D : Df K mg "_law_alike" "_law_alike" s_law_alike_4 ["found", "due"]) : Ca P w K mg base "_law_alike" 4 ["found", "due"] (sp_law_alike_4 mg) := by
  obtain ⟨fa_law_alike_1, fd_law_alike_1, G_law_alike_1, M_law_alike_1, K_law_alike_1, B_law_alike_1⟩ := C_law_alike_1.ex
  obtain ⟨fa_law_alike_3, fd_law_alike_3, G_law_alike_3, M_law_alike_3, K_law_alike_3, B_law_alike_3⟩ := C_law_alike_3.ex
  refine Ca.mk' D sc_law_alike_4 (fun vs H Q E h => ?_) (fun q_ f_ cdv A outer s H vs Q E hr h => ?_)
  · obtain ⟨F, _, _, _, _, rfl, _⟩ := h
    rfl
  · obtain ⟨F, v_found, x_found, v_due, x_due, rfl, P0, f_found, f_due, hk⟩ := h
    have nd := sc_law_alike_4.nd
    have hu64 := hr.units
    have hu128 := hu128_of hr
    have O := P0.start
    refine ⟨_, (pss_cons (ps_if (PW.pt (pw_or (pt_cmpR op_isN (pv 1) pe_non (nomark _)) (pw_or1 (pt_val (pe_callB (isiK (K := K) rfl) (by rfl) nb.b_isinstance (by decide +kernel) (pa_cons (pv 1) (pa_cons (pe_bltn (v := .ty "str") (by rfl) nb.b_str (by decide +kernel) rfl) pa_nil))))))) (pss_one psNever) pss_nil)
  (pss_cons (ps_if (pt_val (pe_callB (isutK (K := K) rfl) (by rfl) nb.b_isinstance (by decide +kernel) (pa_cons (pv 1) (pa_cons (pe_tup (pa_cons (pe_bltn (v := .ty "tuple") (by rfl) nb.b_tuple (by decide +kernel) rfl) (pa_cons (pe_bltn (v := .ty "list") (by rfl) nb.b_list (by decide +kernel) rfl) pa_nil))) pa_nil)))) (pss_cons (ps_if (PW.pt (pw_or (pt_cmpR (op_neT Bool hu64) (pe_callB (isiK (K := K) rfl) (by rfl) nb.b_isinstance (by decide +kernel) (pa_cons (pv 0) (pa_cons (pe_bltn (v := .ty "tuple") (by rfl) nb.b_tuple (by decide +kernel) rfl) pa_nil))) (pe_callB (isiK (K := K) rfl) (by rfl) nb.b_isinstance (by decide +kernel) (pa_cons (pv 1) (pa_cons (pe_bltn (v := .ty "tuple") (by rfl) nb.b_tuple (by decide +kernel) rfl) pa_nil))) (nomark _)) (pw_or1 (pt_not (pt_val (pe_callB (isutK (K := K) rfl) (by rfl) nb.b_isinstance (by decide +kernel) (pa_cons (pv 0) (pa_cons (pe_tup (pa_cons (pe_bltn (v := .ty "tuple") (by rfl) nb.b_tuple (by decide +kernel) rfl) (pa_cons (pe_bltn (v := .ty "list") (by rfl) nb.b_list (by decide +kernel) rfl) pa_nil))) pa_nil)))))))) (pss_one (ps_ret pe_bl)) pss_nil)
  (pss_cons (ps_if (pt_cmpR (op_neT Int hu64) (pe_callB call_lenT (by rfl) nb.b_len PySem.boot_len (pa_cons (pv 0) pa_nil)) (pe_callB call_lenT (by rfl) nb.b_len PySem.boot_len (pa_cons (pv 1) pa_nil)) (nomark _)) (pss_one (ps_ret pe_bl)) pss_nil)
  (pss_one (ps_ret (pe_cmpR (op_eqT (List Int) hu64) (pe_lc (own := [("k", 2)]) (g := gName 2) (tt := _) rfl nd (pi_range1 rfl nb.b_range (pa_cons (pe_callB call_lenT (by rfl) nb.b_len PySem.boot_len (pa_cons (pv 1) pa_nil)) pa_nil)) (blkOk_by (own := [("k", 2)]) (N := ["found", "due", "k"]) (sc := defScope s_law_alike_4) (by decide +kernel)) (fun _ _ _ _ _ => (pg_name (i := 2) nd rfl (Or.inl rfl))) (fun _ _ _ _ _ => (pts_one (pt_not (pt_val (pe_call2 G_law_alike_1 G_law_alike_3 (hr.mono (by decide)) (hr.mono (by decide)) rfl M_law_alike_1 M_law_alike_3 K_law_alike_1 B_law_alike_1 B_law_alike_3 (pa_cons (pe_ix (ixTupK (K := K) rfl) (pv 0) (pv 2) (fun _ _ => rfl)) (pa_cons (pe_ix (ixTupK (K := K) rfl) (pv 1) (pv 2) (fun _ _ => rfl)) pa_nil))))))) (fun _ _ _ _ _ => (pv 2))) (pe_lst pa_nil) (nomark _)))))) pss_nil)
  (pss_one psNever))), ?_⟩
    refine ⟨_, rfl, rfl, _, rfl, ?_⟩
    obtain ⟨p1, v4, v5, e2, h3, r6, r7⟩ := R.t2_ f_due
    cases e2
    rw [dNon_f]
    refine iteF ?_
    refine ⟨_, rfl, _, _, _, _, false, rfl, .ty _, (.base (.tup (O.s _ _ h3))), kit_ty (by decide +kernel), _, rfl, ?_⟩
    refine iteF ?_
    refine ⟨_, rfl, (by show 2 ≤ sizeLine; decide), fun p8 hp9 => ?_⟩
    obtain ⟨F10, O11, S12, h13⟩ := O.putE hp9 (.tup [V.ty "tuple", V.ty "list"])
    have f_found := f_found.mono S12
    have h3 := S12 _ _ h3
    have r6 := r6.mono S12
    have r7 := r7.mono S12
    refine ⟨_, _, _, _, _, true, rfl, (O11.s _ _ h13), (.cons (.ty _) (.cons (.ty _) .nil)), (.base (.base (.tup (O11.s _ _ h3)))), (any_yes (kit_ty (by decide +kernel))), _, rfl, ?_⟩
    refine iteT ?_
    obtain ⟨p14, v17, v18, e15, h16, r19, r20⟩ := R.t2_ f_found
    cases e15
    refine ⟨_, rfl, _, _, _, _, true, rfl, .ty _, (.base (.tup (O11.s _ _ h16))), kit_ty (by decide +kernel), _, rfl, _, _, _, _, true, rfl, .ty _, (.base (.tup (O11.s _ _ h3))), kit_ty (by decide +kernel), _, _, R.bl, R.bl, _, rfl, ?_⟩
    refine iteD (fun q21 => ?_) (fun q21 => ?_)
    · have hk := wp_if hk q21
      refine iteT ?_
      exact hk _ _  O11.g 
    · have hk := wp_el hk q21
      refine ⟨_, rfl, (by show 2 ≤ sizeLine; decide), fun p22 hp23 => ?_⟩
      obtain ⟨F24, O25, S26, h27⟩ := O11.putE hp23 (.tup [V.ty "tuple", V.ty "list"])
      have h3 := S26 _ _ h3
      have r6 := r6.mono S26
      have r7 := r7.mono S26
      have h16 := S26 _ _ h16
      have r19 := r19.mono S26
      have r20 := r20.mono S26
      refine ⟨_, _, _, _, _, true, rfl, (O25.s _ _ h27), (.cons (.ty _) (.cons (.ty _) .nil)), (.base (.base (.tup (O25.s _ _ h16)))), (any_yes (kit_ty (by decide +kernel))), _, rfl, ?_⟩
      refine iteNT ?_
      refine ⟨_, rfl, _, _, _, rfl, (.inr (O25.s _ _ h16)), rfl, _, rfl, _, _, _, rfl, (.inr (O25.s _ _ h3)), rfl, _, _, R.int, R.int, _, rfl, ?_⟩
      refine iteD (fun q28 => ?_) (fun q28 => ?_)
      · have hk := wp_if hk q28
        exact hk _ _  O25.g 
      · have hk := wp_el hk q28
        obtain ⟨c30, hk⟩ := wp_chk hk
        obtain ⟨c35, L31, hL32, hLs33, hLd34⟩ := compS_L hk
        refine ⟨_, rfl, _, _, _, rfl, (.inr (O25.s _ _ h3)), rfl, _, rfl, c30.lo, c30.hi, fun p36 hp37 => ?_⟩
        have z68 := O25.was hp37
        refine lc_range (lo := 0) (n := (((2 : Nat) : Int)).toNat) (fun i H => ∃ (F_ : Hp) (st : Unit) (acc : List Int) (wa : List V), Same F24 F_ ∧ Ow _ F_ [(p36, .lst wa)] H ∧ RL F_ wa acc ∧ wa.length ≤ i ∧ L31 (List.drop i (rangeL 0 ((2 : Nat) : Int))) acc st) ⟨F24, (), [], [], Same.refl _, O25.new hp37, RL.nil, Nat.zero_le _, hL32⟩ ?_ ?_
        · rintro i38 H40 hi41 ⟨F46, st47, acc43, wa44, S48, O50, hl49, la45, hL32⟩
          have h3 := S48 _ _ h3
          have r6 := r6.mono S48
          have r7 := r7.mono S48
          have h16 := S48 _ _ h16
          have r19 := r19.mono S48
          have r20 := r20.mono S48
          rw [rangeL_get0 hi41] at hL32
          have hk := hLs33 _ _ _ _ hL32
          obtain ⟨y29, he_⟩ : ∃ z_, z_ = 0 + (i38 : Int) := ⟨_, rfl⟩
          try rw [← he_] at hk
          rw [← he_]
          obtain ⟨c51, hk⟩ := wp_chk hk
          refine ⟨rfl, _, rfl, _, rfl, ?_⟩
          rcases ix2 c51 with q52 | q53
          · have hk := wp_if hk q52
            refine ⟨_, _, _, _, rfl, rfl, (SqTF O50.s h16), (by rw [q52]; rfl), _, rfl, _, rfl, _, _, _, _, rfl, rfl, (SqTF O50.s h3), (by rw [q52]; rfl), ?_⟩
            refine .inl ?_
            refine ⟨_, _, _, _, _, rfl, O50.pre0, r19, r6, wp_call hk (fun r54 er55 hk F56 H57 g58 => ?_) (fun n hn => hn.elim)⟩
            have O59 := O50.call0 g58
            have S_ := g58.f
            have S48 := S48.trans S_
            have hl49 := hl49.mono S_
            refine ⟨_, rfl, ?_⟩
            refine iteBN (fun q60 => ?_) (fun q60 => ?_)
            · have hk := wp_if hk q60
              exact ⟨F56, (), acc43, wa44, S48, O59, hl49, Nat.le_succ_of_le la45, hk⟩
            · have hk := wp_el hk q60
              refine ⟨_, rfl, _, (O59.at 0 rfl), (comp_lenR la45 hi41 (by rw [Int.sub_zero]) c35), ?_⟩
              exact ⟨F56, (), acc43 ++ [y29], wa44 ++ [V.int y29], S48, O59.set 0 (.lst (wa44 ++ [V.int y29])) rfl, RL.snoc hl49 R.int, by rw [List.length_append]; exact Nat.succ_le_succ la45, hk⟩
          · have hk := wp_el hk (by rw [q53]; decide)
            refine ⟨_, _, _, _, rfl, rfl, (SqTF O50.s h16), (by rw [q53]; rfl), _, rfl, _, rfl, _, _, _, _, rfl, rfl, (SqTF O50.s h3), (by rw [q53]; rfl), ?_⟩
            refine .inr ?_
            refine ⟨_, _, _, _, _, rfl, O50.pre0, r20, r7, wp_call hk (fun r61 er62 hk F63 H64 g65 => ?_) (fun n hn => hn.elim)⟩
            have O66 := O50.call0 g65
            have S_ := g65.f
            have S48 := S48.trans S_
            have hl49 := hl49.mono S_
            refine ⟨_, rfl, ?_⟩
            refine iteBN (fun q67 => ?_) (fun q67 => ?_)
            · have hk := wp_if hk q67
              exact ⟨F63, (), acc43, wa44, S48, O66, hl49, Nat.le_succ_of_le la45, hk⟩
            · have hk := wp_el hk q67
              refine ⟨_, rfl, _, (O66.at 0 rfl), (comp_lenR la45 hi41 (by rw [Int.sub_zero]) c35), ?_⟩
              exact ⟨F63, (), acc43 ++ [y29], wa44 ++ [V.int y29], S48, O66.set 0 (.lst (wa44 ++ [V.int y29])) rfl, RL.snoc hl49 R.int, by rw [List.length_append]; exact Nat.succ_le_succ la45, hk⟩
        rintro H69 ⟨F70, st71, acc72, wa73, S74, O75, hl76, la77, hL78⟩
        rw [rangeL_end0] at hL78
        have hk := hLd34 _ _ hL78
        obtain ⟨F80, O81, S82, h83⟩ := O75.frzE 0 rfl z68
        have hl76 := hl76.mono S82
        have h84 := R.lst (a := Int) h83 hl76
        refine ⟨(by show 0 ≤ sizeLine; decide), fun p85 hp86 => ?_⟩
        have hl92 : RL (a := Int) F80 ([]) ([] : List Int) := RL.nil
        obtain ⟨F87, O88, S89, h90⟩ := O81.putE hp86 (.lst ([]))
        have h84 := h84.mono S89
        have hl92 := hl92.mono S89
        have h91 := R.lst (a := Int) h90 hl92
        refine ⟨_, _, (R.mono h84 O88.s), (R.mono h91 O88.s), ?_⟩
        exact hk _ _  O88.g 
abbrev s_law_number : Stmt := top 19
theorem sc_law_number : FnScope ["x", "great"] ["x"] (defScope s_law_number) := ⟨rfl, rfl, rfl, by decide +kernel, rfl, by decide +kernel, by decide +kernel⟩
def m_law_number (x_x : Int) : M (Int) :=
chk (CPow x_x (4 : Int)) >>= fun _ =>
chk (CMulW (2 : Int) ((10 : Int) ^ Int.toNat (29 : Int))) >>= fun _ =>
chk (0 < ((2 : Int) * ((10 : Int) ^ Int.toNat (29 : Int)))) >>= fun _ =>
ret (((x_x ^ Int.toNat (4 : Int)) % ((2 : Int) * ((10 : Int) ^ Int.toNat (29 : Int)))) - ((10 : Int) ^ Int.toNat (29 : Int))) >>= fun n4 =>
chk (CDivW x_x (5 : Int)) >>= fun _ =>
chk (0 < (7 : Int)) >>= fun _ =>
chk (CDivW x_x (5 : Int)) >>= fun _ =>
chk (0 < (2001 : Int)) >>= fun _ =>
chk (CDivW x_x (5 : Int)) >>= fun _ =>
chk (0 < (13 : Int)) >>= fun _ =>
chk (CDivW x_x (5 : Int)) >>= fun _ =>
chk (0 < (6 : Int)) >>= fun _ =>
chk (0 < (5 : Int)) >>= fun _ =>
opt (atI ([(((x_x / (5 : Int)) % (7 : Int)) - (3 : Int)), (((x_x / (5 : Int)) % (2001 : Int)) - (1000 : Int)), ((x_x / (5 : Int)) % (13 : Int)), ((x_x / (5 : Int)) % (6 : Int)), n4]) (x_x % (5 : Int))) >>= fun y28 =>
.ok y28
def sp_law_number (mg : Str → Option Value) : Sp := fun vs H Q E => ∃ (F : Hp) (x_x : Int), vs = [V.int x_x] ∧ Pre F [] H ∧
  wp (m_law_number x_x) (fun r => ∀ (F' H' : Hp), Gr [] F H F' H' → Q (V.int r) H')
  (fun n => ∀ (C : Addr) (H' : Hp), mg (Str.ofString n) = some (.ref C) → Kp [] H H' → E (.ref C) none H')
set_option maxHeartbeats 20000000 in
theorem ok_law_number (nb : Nb mg) (D : Df K mg "_law_number" "_law_number" s_law_number ["x"]) : Ca P w K mg base "_law_number" 1 ["x"] (sp_law_number mg) := by
  refine Ca.mk' D sc_law_number (fun vs H Q E h => ?_) (fun q_ f_ cdv A outer s H vs Q E hr h => ?_)
  · obtain ⟨F, _, rfl, _⟩ := h
    rfl
  · obtain ⟨F, x_x, rfl, P0, hk⟩ := h
    have nd := sc_law_number.nd
    have hu64 := hr.units
    have hu128 := hu128_of hr
    have O := P0.start
    refine ⟨_, (pss_cons (ps_toN (ps_set (i := 1) nd rfl (Or.inl rfl) (pe_op op_sub (pe_op op_mod (pe_op op_pow (pv 0) pe_int) (pe_op op_mulW pe_int (pe_op op_pow pe_int pe_int))) (pe_op op_pow pe_int pe_int))))
  (pss_one (ps_ret (pe_ix (ixListK (K := K) rfl) (pe_lst (pa_cons (pe_op op_sub (pe_op op_mod (pe_op op_fdivW (pv 0) pe_int) pe_int) pe_int) (pa_cons (pe_op op_sub (pe_op op_mod (pe_op op_fdivW (pv 0) pe_int) pe_int) pe_int) (pa_cons (pe_op op_mod (pe_op op_fdivW (pv 0) pe_int) pe_int) (pa_cons (pe_op op_mod (pe_op op_fdivW (pv 0) pe_int) pe_int) (pa_cons (pv 1) pa_nil)))))) (pe_op op_mod (pv 0) pe_int) (fun _ _ => rfl))))), ?_⟩
    obtain ⟨c1, hk⟩ := wp_chk hk
    obtain ⟨c2, hk⟩ := wp_chk hk
    obtain ⟨c3, hk⟩ := wp_chk hk
    obtain ⟨n4, hn5, hk⟩ := wp_ret hk
    subst hn5
    obtain ⟨c6, hk⟩ := wp_chk hk
    obtain ⟨c7, hk⟩ := wp_chk hk
    obtain ⟨c8, hk⟩ := wp_chk hk
    obtain ⟨c9, hk⟩ := wp_chk hk
    obtain ⟨c10, hk⟩ := wp_chk hk
    obtain ⟨c11, hk⟩ := wp_chk hk
    obtain ⟨c12, hk⟩ := wp_chk hk
    obtain ⟨c13, hk⟩ := wp_chk hk
    refine ⟨_, rfl, _, _, rfl, rfl, c1, _, _, rfl, rfl, (by decide), _, _, rfl, rfl, c2, _, _, rfl, rfl, c3, _, _, rfl, rfl, (by decide), _, _, rfl, rfl, [some (V.int x_x), some (V.int (((x_x ^ Int.toNat (4 : Int)) % ((2 : Int) * ((10 : Int) ^ Int.toNat (29 : Int)))) - ((10 : Int) ^ Int.toNat (29 : Int))))], rfl, _, rfl, _, _, rfl, rfl, c6, _, _, rfl, rfl, c7, _, _, rfl, rfl, _, rfl, _, _, rfl, rfl, c8, _, _, rfl, rfl, c9, _, _, rfl, rfl, _, rfl, _, _, rfl, rfl, c10, _, _, rfl, rfl, c11, _, rfl, _, _, rfl, rfl, c12, _, _, rfl, rfl, c13, _, rfl, (by show 5 ≤ sizeLine; decide), fun p14 hp15 => ?_⟩
    have hl21 : RL (a := Int) F ([V.int (((x_x / (5 : Int)) % (7 : Int)) - (3 : Int)), V.int (((x_x / (5 : Int)) % (2001 : Int)) - (1000 : Int)), V.int ((x_x / (5 : Int)) % (13 : Int)), V.int ((x_x / (5 : Int)) % (6 : Int)), V.int (((x_x ^ Int.toNat (4 : Int)) % ((2 : Int) * ((10 : Int) ^ Int.toNat (29 : Int)))) - ((10 : Int) ^ Int.toNat (29 : Int)))]) ([(((x_x / (5 : Int)) % (7 : Int)) - (3 : Int)), (((x_x / (5 : Int)) % (2001 : Int)) - (1000 : Int)), ((x_x / (5 : Int)) % (13 : Int)), ((x_x / (5 : Int)) % (6 : Int)), (((x_x ^ Int.toNat (4 : Int)) % ((2 : Int) * ((10 : Int) ^ Int.toNat (29 : Int)))) - ((10 : Int) ^ Int.toNat (29 : Int)))]) := RL.cons R.int (RL.cons R.int (RL.cons R.int (RL.cons R.int (RL.cons R.int RL.nil))))
    obtain ⟨F16, O17, S18, h19⟩ := O.putE hp15 (.lst ([V.int (((x_x / (5 : Int)) % (7 : Int)) - (3 : Int)), V.int (((x_x / (5 : Int)) % (2001 : Int)) - (1000 : Int)), V.int ((x_x / (5 : Int)) % (13 : Int)), V.int ((x_x / (5 : Int)) % (6 : Int)), V.int (((x_x ^ Int.toNat (4 : Int)) % ((2 : Int) * ((10 : Int) ^ Int.toNat (29 : Int)))) - ((10 : Int) ^ Int.toNat (29 : Int)))]))
    have hl21 := hl21.mono S18
    have h20 := R.lst (a := Int) h19 hl21
    obtain ⟨c22, hk⟩ := wp_chk hk
    obtain ⟨p23, w24, e25, h26, hl27⟩ := R.lst_ h20
    cases e25
    obtain ⟨y28, e29, hk⟩ := wp_opt hk
    obtain ⟨w30, e31, r32⟩ := hl27.atI e29
    obtain rfl := R.int_ r32
    refine ⟨_, rfl, _, _, rfl, rfl, c22, _, _, _, _, rfl, rfl, (SqLF O17.s h26), e31, ?_⟩
    exact hk _ _  O17.g 
abbrev s_law_tree : Stmt := top 20
theorem sc_law_tree : FnScope ["script", "most", "first", "many", "cells", "order", "k", "worths", "ties", "xs", "to"] ["script", "most"] (defScope s_law_tree) := ⟨rfl, rfl, rfl, by decide +kernel, rfl, by decide +kernel, by decide +kernel⟩
def m_law_tree (x_script : (List Int)) (x_most : Int) : M (((List Int) × (List (T3 Int Int Int)))) :=
m_law_cell_at x_script (0 : Int) >>= fun r1 =>
chk (0 < x_most) >>= fun _ =>
chk (CDivW r1 x_most) >>= fun _ =>
chk (0 < (16 : Int)) >>= fun _ =>
if ((r1 / x_most) % (16 : Int)) = (5 : Int) then (
chk (CDivW r1 x_most) >>= fun _ =>
chk (CDivW (r1 / x_most) (16 : Int)) >>= fun _ =>
chk (0 < (11 : Int)) >>= fun _ =>
m_law_cell_at x_script (1 : Int) >>= fun r22 =>
m_law_digits r22 (((30 : Int) + (((r1 / x_most) / (16 : Int)) % (11 : Int))) - ((cutL x_script (some (3 : Int)) (some ((3 : Int) + ((30 : Int) + (((r1 / x_most) / (16 : Int)) % (11 : Int)))))).length : Int)) ((10 : Int) ^ Int.toNat (12 : Int)) >>= fun r33 =>
chk ((cutL x_script (some (3 : Int)) (some ((3 : Int) + ((30 : Int) + (((r1 / x_most) / (16 : Int)) % (11 : Int)))))).length + r33.length < 16777216) >>= fun _ =>
chk (okR ((30 : Int) + (((r1 / x_most) / (16 : Int)) % (11 : Int)))) >>= fun _ =>
loopN (fun (y77 : Int) (st89 : (List Int)) =>
opt (atI ((cutL x_script (some (3 : Int)) (some ((3 : Int) + ((30 : Int) + (((r1 / x_most) / (16 : Int)) % (11 : Int)))))) ++ r33) y77) >>= fun y100 =>
m_law_digits y100 (1 : Int) (720720 : Int) >>= fun r105 =>
opt (atI r105 (0 : Int)) >>= fun y129 =>
chk (0 < ((st89.length : Int) + (1 : Int))) >>= fun _ =>
chk (CIns st89.length (y129 % ((st89.length : Int) + (1 : Int)))) >>= fun _ =>
.ok (insL st89 (y129 % ((st89.length : Int) + (1 : Int))) y77)) (rangeL 0 ((30 : Int) + (((r1 / x_most) / (16 : Int)) % (11 : Int)))) ([] : List Int) >>= fun st141 =>
chk (CRep ([(0 : Int)]).length ((30 : Int) + (((r1 / x_most) / (16 : Int)) % (11 : Int)))) >>= fun _ =>
chk (okR ((30 : Int) + (((r1 / x_most) / (16 : Int)) % (11 : Int)))) >>= fun _ =>
loopN (fun (y174 : Int) (st186 : (List Int) × (List (T3 Int Int Int))) =>
opt (atI ((cutL x_script (some (3 : Int)) (some ((3 : Int) + ((30 : Int) + (((r1 / x_most) / (16 : Int)) % (11 : Int)))))) ++ r33) y174) >>= fun y201 =>
m_law_digits y201 (4 : Int) ((10 : Int) ^ Int.toNat (9 : Int)) >>= fun r206 =>
opt (atI r206 (1 : Int)) >>= fun y230 =>
m_law_number y230 >>= fun r235 =>
opt (atI st141 y174) >>= fun y241 =>
setI st186.1 y241 r235 >>= fun z248 =>
if (0 : Int) < y174 then (
opt (atI r206 (2 : Int)) >>= fun y257 =>
opt (atI r206 (2 : Int)) >>= fun y275 =>
chk (CDivW y275 (40 : Int)) >>= fun _ =>
chk (0 < (3 : Int)) >>= fun _ =>
opt (atI ([y174, (if (2 : Int) < y174 then (2 : Int) else y174), (if (5 : Int) < y174 then (5 : Int) else y174)]) ((y275 / (40 : Int)) % (3 : Int))) >>= fun y287 =>
chk (0 < y287) >>= fun _ =>
opt (atI st141 ((y174 - (1 : Int)) - (y257 % y287))) >>= fun y293 =>
opt (atI st141 y174) >>= fun y298 =>
opt (atI st141 y174) >>= fun y303 =>
opt (atI r206 (3 : Int)) >>= fun y313 =>
m_law_number y313 >>= fun r318 =>
appL st186.2 (T3.mk (if y298 < y293 then y298 else y293) (if y303 > y293 then y303 else y293) r318) >>= fun _ =>
.ok (z248, (st186.2 ++ [(T3.mk (if y298 < y293 then y298 else y293) (if y303 > y293 then y303 else y293) r318)])))
else (
.ok (z248, st186.2))) (rangeL 0 ((30 : Int) + (((r1 / x_most) / (16 : Int)) % (11 : Int)))) ((repL ((30 : Int) + (((r1 / x_most) / (16 : Int)) % (11 : Int))) ([(0 : Int)])), ([] : List (T3 Int Int Int))) >>= fun st338 =>
.ok (st338.1, (sortT st338.2)))
else (
m_law_cell_at x_script (1 : Int) >>= fun r377 =>
m_law_digits r377 (((1 : Int) + (r1 % x_most)) - ((cutL x_script (some (3 : Int)) (some ((3 : Int) + ((1 : Int) + (r1 % x_most))))).length : Int)) ((10 : Int) ^ Int.toNat (12 : Int)) >>= fun r388 =>
chk ((cutL x_script (some (3 : Int)) (some ((3 : Int) + ((1 : Int) + (r1 % x_most))))).length + r388.length < 16777216) >>= fun _ =>
chk (okR ((1 : Int) + (r1 % x_most))) >>= fun _ =>
loopN (fun (y432 : Int) (st444 : (List Int)) =>
opt (atI ((cutL x_script (some (3 : Int)) (some ((3 : Int) + ((1 : Int) + (r1 % x_most))))) ++ r388) y432) >>= fun y455 =>
m_law_digits y455 (1 : Int) (720720 : Int) >>= fun r460 =>
opt (atI r460 (0 : Int)) >>= fun y484 =>
chk (0 < ((st444.length : Int) + (1 : Int))) >>= fun _ =>
chk (CIns st444.length (y484 % ((st444.length : Int) + (1 : Int)))) >>= fun _ =>
.ok (insL st444 (y484 % ((st444.length : Int) + (1 : Int))) y432)) (rangeL 0 ((1 : Int) + (r1 % x_most))) ([] : List Int) >>= fun st496 =>
chk (CRep ([(0 : Int)]).length ((1 : Int) + (r1 % x_most))) >>= fun _ =>
chk (okR ((1 : Int) + (r1 % x_most))) >>= fun _ =>
loopN (fun (y529 : Int) (st541 : (List Int) × (List (T3 Int Int Int))) =>
opt (atI ((cutL x_script (some (3 : Int)) (some ((3 : Int) + ((1 : Int) + (r1 % x_most))))) ++ r388) y529) >>= fun y556 =>
m_law_digits y556 (4 : Int) ((10 : Int) ^ Int.toNat (9 : Int)) >>= fun r561 =>
opt (atI r561 (1 : Int)) >>= fun y585 =>
m_law_number y585 >>= fun r590 =>
opt (atI st496 y529) >>= fun y596 =>
setI st541.1 y596 r590 >>= fun z603 =>
if (0 : Int) < y529 then (
opt (atI r561 (2 : Int)) >>= fun y612 =>
opt (atI r561 (2 : Int)) >>= fun y630 =>
chk (CDivW y630 (40 : Int)) >>= fun _ =>
chk (0 < (3 : Int)) >>= fun _ =>
opt (atI ([y529, (if (2 : Int) < y529 then (2 : Int) else y529), (if (5 : Int) < y529 then (5 : Int) else y529)]) ((y630 / (40 : Int)) % (3 : Int))) >>= fun y642 =>
chk (0 < y642) >>= fun _ =>
opt (atI st496 ((y529 - (1 : Int)) - (y612 % y642))) >>= fun y648 =>
opt (atI st496 y529) >>= fun y653 =>
opt (atI st496 y529) >>= fun y658 =>
opt (atI r561 (3 : Int)) >>= fun y668 =>
m_law_number y668 >>= fun r673 =>
appL st541.2 (T3.mk (if y653 < y648 then y653 else y648) (if y658 > y648 then y658 else y648) r673) >>= fun _ =>
.ok (z603, (st541.2 ++ [(T3.mk (if y653 < y648 then y653 else y648) (if y658 > y648 then y658 else y648) r673)])))
else (
.ok (z603, st541.2))) (rangeL 0 ((1 : Int) + (r1 % x_most))) ((repL ((1 : Int) + (r1 % x_most)) ([(0 : Int)])), ([] : List (T3 Int Int Int))) >>= fun st693 =>
.ok (st693.1, (sortT st693.2)))
def sp_law_tree (K : PySem.W.Frag) (mg : Str → Option Value) : Sp := fun vs H Q E => ∃ (F : Hp) (a_script : Addr) (x_script : (List Int)) (x_most : Int), vs = [.ref a_script, V.int x_most] ∧ Pre F [] H ∧ SqL K F a_script (x_script.map V.int) ∧
  wp (m_law_tree x_script x_most) (fun r => ∀ (F' H' : Hp), Gr [] F H F' H' → ∀ v : V, R (a := ((List Int) × (List (T3 Int Int Int)))) F' v r → Q v H')
  (fun n => ∀ (C : Addr) (H' : Hp), mg (Str.ofString n) = some (.ref C) → Kp [] H H' → E (.ref C) none H')
set_option maxHeartbeats 20000000 in
theorem ok_law_tree (nb : Nb mg) (C_law_cell_at : Ca P w K mg base "_law_cell_at" 1 ["script", "k"] (sp_law_cell_at K mg)) (C_law_digits : Ca P w K mg base "_law_digits" 1 ["cell", "many", "top"] (sp_law_digits mg)) (C_law_number : Ca P w K mg base "_law_number" 1 ["x"] (sp_law_number mg)) (D : Df K mg "_law_tree" "_law_tree" s_law_tree ["script", "most"]) : Ca P w K mg base "_law_tree" 2 ["script", "most"] (sp_law_tree K mg) := by
  obtain ⟨fa_law_cell_at, fd_law_cell_at, G_law_cell_at, M_law_cell_at, K_law_cell_at, B_law_cell_at⟩ := C_law_cell_at.ex
  obtain ⟨fa_law_digits, fd_law_digits, G_law_digits, M_law_digits, K_law_digits, B_law_digits⟩ := C_law_digits.ex
  obtain ⟨fa_law_number, fd_law_number, G_law_number, M_law_number, K_law_number, B_law_number⟩ := C_law_number.ex
  refine Ca.mk' D sc_law_tree (fun vs H Q E h => ?_) (fun q_ f_ cdv A outer s H vs Q E hr h => ?_)
  · obtain ⟨F, _, _, _, rfl, _⟩ := h
    rfl
  · obtain ⟨F, a_script, x_script, x_most, rfl, P0, f_script, hk⟩ := h
    have nd := sc_law_tree.nd
    have hu64 := hr.units
    have hu128 := hu128_of hr
    have O := P0.start
    refine ⟨_, (pss_cons (ps_toN (ps_set (i := 2) nd rfl (Or.inl rfl) (pe_call G_law_cell_at (hr.mono (by decide)) rfl M_law_cell_at K_law_cell_at B_law_cell_at .nil (passes_call (takes_of rfl rfl rfl rfl) fun _ _ _ _ h => h) (pa_cons (pv 0) (pa_cons pe_int pa_nil)))))
  (pss_cons (ps_toN (ps_set (i := 3) nd rfl (Or.inl rfl) (pe_op op_add pe_int (pe_op op_mod (pv 2) (pv 1)))))
  (pss_cons (ps_if (pt_cmpR (op_eqT Int hu64) (pe_op op_mod (pe_op op_fdivW (pv 2) (pv 1)) pe_int) pe_int (nomark _)) (pss_one (ps_toN (ps_set (i := 3) nd rfl (Or.inl rfl) (pe_op op_add pe_int (pe_op op_mod (pe_op op_fdivW (pe_op op_fdivW (pv 2) (pv 1)) pe_int) pe_int))))) pss_nil)
  (pss_cons (ps_toN (ps_set (i := 4) nd rfl (Or.inl rfl) (pe_slice (slListK (K := K) rfl) (pv 0) (po_some pe_int) (po_some (pe_op op_add pe_int (pv 3))))))
  (pss_cons (ps_toN (ps_set (i := 4) nd rfl (Or.inl rfl) (pe_op op_cat (pv 4) (pe_call G_law_digits (hr.mono (by decide)) rfl M_law_digits K_law_digits B_law_digits .nil (passes_call (takes_of rfl rfl rfl rfl) fun _ _ _ _ h => h) (pa_cons (pe_call G_law_cell_at (hr.mono (by decide)) rfl M_law_cell_at K_law_cell_at B_law_cell_at .nil (passes_call (takes_of rfl rfl rfl rfl) fun _ _ _ _ h => h) (pa_cons (pv 0) (pa_cons pe_int pa_nil))) (pa_cons (pe_op op_sub (pv 3) (pe_callB call_lenT (by rfl) nb.b_len PySem.boot_len (pa_cons (pv 4) pa_nil))) (pa_cons (pe_op op_pow pe_int pe_int) pa_nil)))))))
  (pss_cons (ps_toN (ps_set (i := 5) nd rfl (Or.inl rfl) (pe_lst pa_nil)))
  (pss_cons (ps_for (passes_of rfl) rfl (pi_range1 rfl nb.b_range (pa_cons (pv 3) pa_nil)) (pg_name (i := 6) nd rfl (Or.inl rfl)) (pss_one (ps_expr (bmK (K := K) rfl (pe_bm PySem.F.plainAttrs_list PySem.F.slot_list_insert PySem.F.type_list_insert mt_insert (pv 5) (pa_cons (pe_op op_mod (pe_ix (ixListK (K := K) rfl) (pe_call G_law_digits (hr.mono (by decide)) rfl M_law_digits K_law_digits B_law_digits .nil (passes_call (takes_of rfl rfl rfl rfl) fun _ _ _ _ h => h) (pa_cons (pe_ix (ixListK (K := K) rfl) (pv 4) (pv 6) (fun _ _ => rfl)) (pa_cons pe_int (pa_cons pe_int pa_nil)))) pe_int (fun _ _ => rfl)) (pe_op op_add (pe_callB call_lenT (by rfl) nb.b_len PySem.boot_len (pa_cons (pv 5) pa_nil)) pe_int)) (pa_cons (pv 6) pa_nil)))))))
  (pss_cons (ps_toN (ps_set (i := 7) nd rfl (Or.inl rfl) (pe_op op_rep (pe_lst (pa_cons pe_int pa_nil)) (pv 3))))
  (pss_cons (ps_toN (ps_set (i := 8) nd rfl (Or.inl rfl) (pe_lst pa_nil)))
  (pss_cons (ps_for (passes_of rfl) rfl (pi_range1 rfl nb.b_range (pa_cons (pv 3) pa_nil)) (pg_name (i := 6) nd rfl (Or.inl rfl)) (pss_cons (ps_toN (ps_set (i := 9) nd rfl (Or.inl rfl) (pe_call G_law_digits (hr.mono (by decide)) rfl M_law_digits K_law_digits B_law_digits .nil (passes_call (takes_of rfl rfl rfl rfl) fun _ _ _ _ h => h) (pa_cons (pe_ix (ixListK (K := K) rfl) (pv 4) (pv 6) (fun _ _ => rfl)) (pa_cons pe_int (pa_cons (pe_op op_pow pe_int pe_int) pa_nil))))))
  (pss_cons (ps_asg (pe_call G_law_number (hr.mono (by decide)) rfl M_law_number K_law_number B_law_number .nil (passes_call (takes_of rfl rfl rfl rfl) fun _ _ _ _ h => h) (pa_cons (pe_ix (ixListK (K := K) rfl) (pv 9) pe_int (fun _ _ => rfl)) pa_nil)) (pg_sub (pv 7) (pe_ix (ixListK (K := K) rfl) (pv 5) (pv 6) (fun _ _ => rfl)) set_list))
  (pss_one (ps_if (pt_cmpR op_gt (pv 6) pe_int (nomark _)) (pss_cons (ps_toN (ps_set (i := 10) nd rfl (Or.inl rfl) (pe_ix (ixListK (K := K) rfl) (pv 5) (pe_op op_sub (pe_op op_sub (pv 6) pe_int) (pe_op op_mod (pe_ix (ixListK (K := K) rfl) (pv 9) pe_int (fun _ _ => rfl)) (pe_ix (ixListK (K := K) rfl) (pe_lst (pa_cons (pv 6) (pa_cons (pe_callB (call_min2 rfl) (by rfl) nb.b_min (by decide +kernel) (pa_cons (pv 6) (pa_cons pe_int pa_nil))) (pa_cons (pe_callB (call_min2 rfl) (by rfl) nb.b_min (by decide +kernel) (pa_cons (pv 6) (pa_cons pe_int pa_nil))) pa_nil)))) (pe_op op_mod (pe_op op_fdivW (pe_ix (ixListK (K := K) rfl) (pv 9) pe_int (fun _ _ => rfl)) pe_int) pe_int) (fun _ _ => rfl)))) (fun _ _ => rfl))))
  (pss_one (ps_expr (bmK (K := K) rfl (pe_bm PySem.F.plainAttrs_list PySem.F.slot_list_append PySem.F.type_list_append mt_append (pv 8) (pa_cons (pe_tup (pa_cons (pe_callB (call_min2 rfl) (by rfl) nb.b_min (by decide +kernel) (pa_cons (pv 10) (pa_cons (pe_ix (ixListK (K := K) rfl) (pv 5) (pv 6) (fun _ _ => rfl)) pa_nil))) (pa_cons (pe_callB (call_max2 rfl) (by rfl) nb.b_max (by decide +kernel) (pa_cons (pv 10) (pa_cons (pe_ix (ixListK (K := K) rfl) (pv 5) (pv 6) (fun _ _ => rfl)) pa_nil))) (pa_cons (pe_call G_law_number (hr.mono (by decide)) rfl M_law_number K_law_number B_law_number .nil (passes_call (takes_of rfl rfl rfl rfl) fun _ _ _ _ h => h) (pa_cons (pe_ix (ixListK (K := K) rfl) (pv 9) pe_int (fun _ _ => rfl)) pa_nil)) pa_nil)))) pa_nil)))))) pss_nil)))))
  (pss_one (ps_ret (pe_tup (pa_cons (pv 7) (pa_cons (pe_callB (cr_sortedT (T3 Int Int Int) hu128) (by rfl) nb.b_sorted (by decide +kernel) (pa_cons (pv 8) pa_nil)) pa_nil))))))))))))))), ?_⟩
    refine ⟨_, rfl, _, _, _, _, rfl, O.pre0, f_script, wp_call hk (fun r1 er2 hk F3 H4 g5 => ?_) (fun n hn C H1 hC kp => hn C H1 hC (O.kp0 kp))⟩
    have O6 := O.call0 g5
    have S_ := g5.f
    have f_script := S_.seq f_script
    obtain ⟨c7, hk⟩ := wp_chk hk
    obtain ⟨c8, hk⟩ := wp_chk hk
    obtain ⟨c9, hk⟩ := wp_chk hk
    refine ⟨[some (V.ref a_script), some (V.int x_most), some (V.int r1), none, none, none, none, none, none, none, none], rfl, _, rfl, _, rfl, _, _, rfl, rfl, c7, _, _, rfl, rfl, [some (V.ref a_script), some (V.int x_most), some (V.int r1), some (V.int ((1 : Int) + (r1 % x_most))), none, none, none, none, none, none, none], rfl, _, rfl, _, rfl, _, _, rfl, rfl, c8, _, _, rfl, rfl, c9, _, _, R.int, R.int, _, rfl, ?_⟩
    refine iteD (fun q10 => ?_) (fun q10 => ?_)
    · have hk := wp_if hk q10
      obtain ⟨c11, hk⟩ := wp_chk hk
      obtain ⟨c12, hk⟩ := wp_chk hk
      obtain ⟨c13, hk⟩ := wp_chk hk
      refine ⟨_, rfl, _, rfl, _, _, rfl, rfl, c11, _, _, rfl, rfl, c12, _, _, rfl, rfl, c13, _, _, rfl, rfl, [some (V.ref a_script), some (V.int x_most), some (V.int r1), some (V.int ((30 : Int) + (((r1 / x_most) / (16 : Int)) % (11 : Int)))), none, none, none, none, none, none, none], rfl, _, rfl, _, rfl, _, rfl, _, _, rfl, rfl, _, rfl, _, _, rfl, (O6.s.seq f_script), fun p14 hp15 => ?_⟩
      have hl21 : RL (a := Int) F3 (cutV (List.map V.int x_script) (some (3 : Int)) (some ((3 : Int) + ((30 : Int) + (((r1 / x_most) / (16 : Int)) % (11 : Int)))))) (cutL x_script (some (3 : Int)) (some ((3 : Int) + ((30 : Int) + (((r1 / x_most) / (16 : Int)) % (11 : Int)))))) := RL.cutL (RL.of_ints (H := F3)) (some (3 : Int)) (some ((3 : Int) + ((30 : Int) + (((r1 / x_most) / (16 : Int)) % (11 : Int)))))
      obtain ⟨F16, O17, S18, h19⟩ := O6.putE hp15 (.lst (cutV (List.map V.int x_script) (some (3 : Int)) (some ((3 : Int) + ((30 : Int) + (((r1 / x_most) / (16 : Int)) % (11 : Int)))))))
      have f_script := S18.seq f_script
      have hl21 := hl21.mono S18
      have h20 := R.lst (a := Int) h19 hl21
      refine ⟨[some (V.ref a_script), some (V.int x_most), some (V.int r1), some (V.int ((30 : Int) + (((r1 / x_most) / (16 : Int)) % (11 : Int)))), some (V.ref p14), none, none, none, none, none, none], rfl, _, rfl, _, rfl, _, _, _, _, rfl, O17.pre0, f_script, wp_call hk (fun r22 er23 hk F24 H25 g26 => ?_) (fun n hn C H1 hC kp => hn C H1 hC (O17.kp0 kp))⟩
      have O27 := O17.call0 g26
      have S_ := g26.f
      have h20 := h20.mono S_
      obtain ⟨p28, w29, e30, h31, hl32⟩ := R.lst_ h20
      cases e30
      refine ⟨_, rfl, _, rfl, _, _, _, rfl, (.inl (O27.s _ _ h31)), hl32.len, _, _, rfl, rfl, _, _, rfl, rfl, (by decide), _, _, _, _, rfl, O27.pre0, wp_call hk (fun r33 er34 hk F35 H36 g37 p38 w39 hn40 hf41 h42 hl43 => ?_) (fun n hn C H1 hC kp => hn C H1 hC (O27.kp0 kp))⟩
      have O44 := O27.call0 g37
      have S_ := g37.f
      have h20 := h20.mono S_
      have O45 := O27.got O44 rfl hn40 hf41 h42
      have z46 := O27.was hn40
      obtain ⟨F47, O48, S49, h50⟩ := O45.frzE 0 rfl z46
      have h20 := h20.mono S49
      have hl43 := hl43.mono S49
      have h51 := R.lst (a := Int) h50 hl43
      obtain ⟨p52, w53, e54, h55, hl56⟩ := R.lst_ h20
      cases e54
      obtain ⟨p57, w58, e59, h60, hl61⟩ := R.lst_ h51
      cases e59
      obtain ⟨c62, hk⟩ := wp_chk hk
      refine ⟨_, _, _, _, rfl, rfl, (O48.s _ _ h55), (O48.s _ _ h60), (by rw [hl56.len, hl61.len]; exact le_line c62), fun p63 hp64 => ?_⟩
      have hl70 : RL (a := Int) F47 (w53 ++ w58) ((cutL x_script (some (3 : Int)) (some ((3 : Int) + ((30 : Int) + (((r1 / x_most) / (16 : Int)) % (11 : Int)))))) ++ r33) := RL.app hl56 hl61
      obtain ⟨F65, O66, S67, h68⟩ := O48.putE hp64 (.lst (w53 ++ w58))
      have hl70 := hl70.mono S67
      have h69 := R.lst (a := Int) h68 hl70
      refine ⟨[some (V.ref a_script), some (V.int x_most), some (V.int r1), some (V.int ((30 : Int) + (((r1 / x_most) / (16 : Int)) % (11 : Int)))), some (V.ref p63), none, none, none, none, none, none], rfl, (by show 0 ≤ sizeLine; decide), fun p72 hp73 => ?_⟩
      have hl75 : RL (a := Int) F65 ([]) ([] : List Int) := RL.nil
      have O74 := O66.new (o := .lst ([])) hp73
      obtain ⟨c78, hk⟩ := wp_chk hk
      obtain ⟨L79, hL80, hLs81, hLd82⟩ := loopN_L hk
      refine ⟨[some (V.ref a_script), some (V.int x_most), some (V.int r1), some (V.int ((30 : Int) + (((r1 / x_most) / (16 : Int)) % (11 : Int)))), some (V.ref p63), some (V.ref p72), none, none, none, none, none], rfl, _, rfl, _, rfl, c78.lo, c78.hi, ?_⟩
      refine for_range (lo := 0) (n := (((30 : Int) + (((r1 / x_most) / (16 : Int)) % (11 : Int)))).toNat) (fun i σ H_ => ∃ (F_ : Hp) (st : (List Int)) (w_0 : (List V)) (t_0 : Option V), σ = [some (V.ref a_script), some (V.int x_most), some (V.int r1), some (V.int ((30 : Int) + (((r1 / x_most) / (16 : Int)) % (11 : Int)))), some (V.ref p63), some (V.ref p72), t_0, none, none, none, none] ∧ Same F65 F_ ∧ Ow _ F_ [(p72, .lst w_0)] H_ ∧ RL (a := Int) F_ w_0 st ∧ L79 (List.drop i (rangeL 0 ((30 : Int) + (((r1 / x_most) / (16 : Int)) % (11 : Int))))) st) ⟨F65, ([] : List Int), [], none, rfl, Same.refl _, O74, hl75, hL80⟩ ?_ ?_
      · rintro i83 sg85 H86 hi87 ⟨F93, st89, w90, t92, rfl, S88, O94, hl91, hL80⟩
        have h69 := h69.mono S88
        rw [rangeL_get0 hi87] at hL80
        have hk := hLs81 _ _ _ hL80
        obtain ⟨y77, he_⟩ : ∃ z_, z_ = 0 + (i83 : Int) := ⟨_, rfl⟩
        try rw [← he_] at hk
        rw [← he_]
        obtain ⟨p95, w96, e97, h98, hl99⟩ := R.lst_ h69
        cases e97
        obtain ⟨y100, e101, hk⟩ := wp_opt hk
        obtain ⟨w102, e103, r104⟩ := hl99.atI e101
        obtain rfl := R.int_ r104
        refine ⟨_, rfl, (.inl ⟨rfl, _, SqL.of (O94.at 0 rfl)⟩), _, rfl, _, rfl, _, _, _, _, rfl, rfl, (SqLF O94.s h98), e103, _, _, _, _, rfl, O94.pre0, wp_call hk (fun r105 er106 hk F107 H108 g109 p110 w111 hn112 hf113 h114 hl115 => ?_) (fun n hn C H1 hC kp => hn C H1 hC (O94.kp0 kp))⟩
        have O116 := O94.call0 g109
        have S_ := g109.f
        have hl91 := hl91.mono S_
        have S88 := S88.trans S_
        have O117 := O94.got O116 rfl hn112 hf113 h114
        have z118 := O94.was hn112
        obtain ⟨F119, O120, S121, h122⟩ := O117.frzE 0 rfl z118
        have hl91 := hl91.mono S121
        have S88 := S88.trans S121
        have hl115 := hl115.mono S121
        have h123 := R.lst (a := Int) h122 hl115
        obtain ⟨p124, w125, e126, h127, hl128⟩ := R.lst_ h123
        cases e126
        obtain ⟨y129, e130, hk⟩ := wp_opt hk
        obtain ⟨w131, e132, r133⟩ := hl128.atI e130
        obtain rfl := R.int_ r133
        obtain ⟨c134, hk⟩ := wp_chk hk
        obtain ⟨c135, hk⟩ := wp_chk hk
        refine ⟨_, _, _, _, rfl, rfl, (SqLF O120.s h127), e132, _, rfl, _, _, _, rfl, (.inl (O120.at 0 rfl)), hl91.len, _, _, rfl, rfl, _, _, rfl, rfl, c134, _, rfl, _, _, _, _, rfl, rfl, (O120.at 0 rfl), (by rw [hl91.len]; exact c135.1), c135.2.1, c135.2.2, ?_⟩
        have O136 := O120.set 0 (.lst (insL w90 (y129 % ((st89.length : Int) + (1 : Int))) (V.int y77))) rfl
        have hl137 : RL (a := Int) F119 (insL w90 (y129 % ((st89.length : Int) + (1 : Int))) (V.int y77)) (insL st89 (y129 % ((st89.length : Int) + (1 : Int))) y77) := RL.ins hl91 (y129 % ((st89.length : Int) + (1 : Int))) R.int
        exact ⟨F119, (insL st89 (y129 % ((st89.length : Int) + (1 : Int))) y77), (insL w90 (y129 % ((st89.length : Int) + (1 : Int))) (V.int y77)), some (V.int y77), rfl, S88, O136, hl137, hk⟩
      rintro sg138 H139 ⟨F146, st141, w143, t145, rfl, S140, O147, hl144, hL142⟩
      rw [rangeL_end0] at hL142
      have hk := hLd82 _ hL142
      have h69 := h69.mono S140
      refine ⟨(by show 1 ≤ sizeLine; decide), fun p149 hp150 => ?_⟩
      have hl156 : RL (a := Int) F146 ([V.int (0 : Int)]) ([(0 : Int)]) := RL.cons R.int RL.nil
      obtain ⟨F151, O152, S153, h154⟩ := O147.putE hp150 (.lst ([V.int (0 : Int)]))
      have h69 := h69.mono S153
      have hl144 := hl144.mono S153
      have hl156 := hl156.mono S153
      have h155 := R.lst (a := Int) h154 hl156
      obtain ⟨p157, w158, e159, h160, hl161⟩ := R.lst_ h155
      cases e159
      obtain ⟨c162, hk⟩ := wp_chk hk
      refine ⟨_, rfl, _, _, _, rfl, rfl, (O152.s _ _ h160), c162.1, c162.2.1, (by rw [hl161.len]; exact le_line c162.2.2), fun p163 hp164 => ?_⟩
      have hl166 : RL (a := Int) F151 (repL ((30 : Int) + (((r1 / x_most) / (16 : Int)) % (11 : Int))) w158) (repL ((30 : Int) + (((r1 / x_most) / (16 : Int)) % (11 : Int))) ([(0 : Int)])) := RL.rep hl161 ((30 : Int) + (((r1 / x_most) / (16 : Int)) % (11 : Int)))
      have z167 := O152.was hp164
      have O165 := O152.new (o := .lst (repL ((30 : Int) + (((r1 / x_most) / (16 : Int)) % (11 : Int))) w158)) hp164
      refine ⟨[some (V.ref a_script), some (V.int x_most), some (V.int r1), some (V.int ((30 : Int) + (((r1 / x_most) / (16 : Int)) % (11 : Int)))), some (V.ref p63), some (V.ref p72), t145, some (V.ref p163), none, none, none], rfl, (by show 0 ≤ sizeLine; decide), fun p169 hp170 => ?_⟩
      have hl172 : RL (a := (T3 Int Int Int)) F151 ([]) ([] : List (T3 Int Int Int)) := RL.nil
      have O171 := O165.new (o := .lst ([])) hp170
      obtain ⟨c175, hk⟩ := wp_chk hk
      obtain ⟨L176, hL177, hLs178, hLd179⟩ := loopN_L hk
      refine ⟨[some (V.ref a_script), some (V.int x_most), some (V.int r1), some (V.int ((30 : Int) + (((r1 / x_most) / (16 : Int)) % (11 : Int)))), some (V.ref p63), some (V.ref p72), t145, some (V.ref p163), some (V.ref p169), none, none], rfl, _, rfl, _, rfl, c175.lo, c175.hi, ?_⟩
      refine for_range (lo := 0) (n := (((30 : Int) + (((r1 / x_most) / (16 : Int)) % (11 : Int)))).toNat) (fun i σ H_ => ∃ (F_ : Hp) (st : (List Int) × (List (T3 Int Int Int))) (w_0 : (List V)) (w_1 : (List V)) (t_0 : Option V) (t_1 : Option V) (t_2 : Option V), σ = [some (V.ref a_script), some (V.int x_most), some (V.int r1), some (V.int ((30 : Int) + (((r1 / x_most) / (16 : Int)) % (11 : Int)))), some (V.ref p63), some (V.ref p72), t_0, some (V.ref p163), some (V.ref p169), t_1, t_2] ∧ Same F151 F_ ∧ Ow _ F_ [(p169, .lst w_1), (p163, .lst w_0), (p72, .lst w143)] H_ ∧ RL (a := Int) F_ w_0 st.1 ∧ RL (a := (T3 Int Int Int)) F_ w_1 st.2 ∧ L176 (List.drop i (rangeL 0 ((30 : Int) + (((r1 / x_most) / (16 : Int)) % (11 : Int))))) st) ⟨F151, ((repL ((30 : Int) + (((r1 / x_most) / (16 : Int)) % (11 : Int))) ([(0 : Int)])), ([] : List (T3 Int Int Int))), repL ((30 : Int) + (((r1 / x_most) / (16 : Int)) % (11 : Int))) w158, [], t145, none, none, rfl, Same.refl _, O171, hl166, hl172, hL177⟩ ?_ ?_
      · rintro i180 sg182 H183 hi184 ⟨F194, st186, w187, w188, t191, t192, t193, rfl, S185, O195, hl189, hl190, hL177⟩
        have h69 := h69.mono S185
        have hl144 := hl144.mono S185
        rw [rangeL_get0 hi184] at hL177
        have hk := hLs178 _ _ _ hL177
        obtain ⟨y174, he_⟩ : ∃ z_, z_ = 0 + (i180 : Int) := ⟨_, rfl⟩
        try rw [← he_] at hk
        rw [← he_]
        obtain ⟨p196, w197, e198, h199, hl200⟩ := R.lst_ h69
        cases e198
        obtain ⟨y201, e202, hk⟩ := wp_opt hk
        obtain ⟨w203, e204, r205⟩ := hl200.atI e202
        obtain rfl := R.int_ r205
        refine ⟨_, rfl, _, rfl, _, _, _, _, rfl, rfl, (SqLF O195.s h199), e204, _, _, rfl, rfl, (by decide), _, _, _, _, rfl, O195.pre0, wp_call hk (fun r206 er207 hk F208 H209 g210 p211 w212 hn213 hf214 h215 hl216 => ?_) (fun n hn C H1 hC kp => hn C H1 hC (O195.kp0 kp))⟩
        have O217 := O195.call0 g210
        have S_ := g210.f
        have hl144 := hl144.mono S_
        have hl189 := hl189.mono S_
        have hl190 := hl190.mono S_
        have S185 := S185.trans S_
        have O218 := O195.got O217 rfl hn213 hf214 h215
        have z219 := O195.was hn213
        obtain ⟨F220, O221, S222, h223⟩ := O218.frzE 0 rfl z219
        have hl144 := hl144.mono S222
        have hl189 := hl189.mono S222
        have hl190 := hl190.mono S222
        have S185 := S185.trans S222
        have hl216 := hl216.mono S222
        have h224 := R.lst (a := Int) h223 hl216
        obtain ⟨p225, w226, e227, h228, hl229⟩ := R.lst_ h224
        cases e227
        obtain ⟨y230, e231, hk⟩ := wp_opt hk
        obtain ⟨w232, e233, r234⟩ := hl229.atI e231
        obtain rfl := R.int_ r234
        refine ⟨[some (V.ref a_script), some (V.int x_most), some (V.int r1), some (V.int ((30 : Int) + (((r1 / x_most) / (16 : Int)) % (11 : Int)))), some (V.ref p63), some (V.ref p72), some (V.int y174), some (V.ref p163), some (V.ref p169), some (V.ref p211), t193], rfl, _, rfl, _, _, _, _, rfl, rfl, (SqLF O221.s h228), e233, _, _, rfl, O221.pre0, wp_call hk (fun r235 er236 hk F237 H238 g239 => ?_) (fun n hn C H1 hC kp => hn C H1 hC (O221.kp0 kp))⟩
        have O240 := O221.call0 g239
        have S_ := g239.f
        have hl144 := hl144.mono S_
        have hl189 := hl189.mono S_
        have hl190 := hl190.mono S_
        have S185 := S185.trans S_
        have h224 := h224.mono S_
        obtain ⟨y241, e242, hk⟩ := wp_opt hk
        obtain ⟨w243, e244, r245⟩ := hl144.atI e242
        obtain rfl := R.int_ r245
        obtain ⟨j246, e247, hk⟩ := wp_setI hk
        refine ⟨_, rfl, _, rfl, _, rfl, _, _, _, _, rfl, rfl, (SqL.of (O240.at 2 rfl)), e244, _, _, _, _, rfl, rfl, (O240.at 1 rfl), (by rw [hl189.len]; exact e247), ?_⟩
        have O249 := O240.set 1 (.lst (w187.set j246 (V.int r235))) rfl
        have hl250 : RL (a := Int) F237 (w187.set j246 (V.int r235)) (st186.1.set j246 r235) := RL.set j246 hl189 R.int
        refine ⟨_, rfl, _, _, rfl, rfl, _, rfl, ?_⟩
        refine iteD (fun q251 => ?_) (fun q251 => ?_)
        · have hk := wp_if hk q251
          obtain ⟨p252, w253, e254, h255, hl256⟩ := R.lst_ h224
          cases e254
          obtain ⟨y257, e258, hk⟩ := wp_opt hk
          obtain ⟨w259, e260, r261⟩ := hl256.atI e258
          obtain rfl := R.int_ r261
          refine ⟨_, rfl, _, rfl, _, _, rfl, rfl, _, rfl, _, _, _, _, rfl, rfl, (SqLF O249.s h255), e260, _, rfl, _, rfl, _, _, rfl, _, rfl, _, _, rfl, (by show 3 ≤ sizeLine; decide), fun p262 hp263 => ?_⟩
          have hl269 : RL (a := Int) F237 ([V.int y174, V.int (if (2 : Int) < y174 then (2 : Int) else y174), V.int (if (5 : Int) < y174 then (5 : Int) else y174)]) ([y174, (if (2 : Int) < y174 then (2 : Int) else y174), (if (5 : Int) < y174 then (5 : Int) else y174)]) := RL.cons R.int (RL.cons R.int (RL.cons R.int RL.nil))
          obtain ⟨F264, O265, S266, h267⟩ := O249.putE hp263 (.lst ([V.int y174, V.int (if (2 : Int) < y174 then (2 : Int) else y174), V.int (if (5 : Int) < y174 then (5 : Int) else y174)]))
          have hl144 := hl144.mono S266
          have hl190 := hl190.mono S266
          have S185 := S185.trans S266
          have h224 := h224.mono S266
          have hl250 := hl250.mono S266
          have hl269 := hl269.mono S266
          have h268 := R.lst (a := Int) h267 hl269
          obtain ⟨p270, w271, e272, h273, hl274⟩ := R.lst_ h224
          cases e272
          obtain ⟨y275, e276, hk⟩ := wp_opt hk
          obtain ⟨w277, e278, r279⟩ := hl274.atI e276
          obtain rfl := R.int_ r279
          obtain ⟨c280, hk⟩ := wp_chk hk
          obtain ⟨c281, hk⟩ := wp_chk hk
          obtain ⟨p282, w283, e284, h285, hl286⟩ := R.lst_ h268
          cases e284
          obtain ⟨y287, e288, hk⟩ := wp_opt hk
          obtain ⟨w289, e290, r291⟩ := hl286.atI e288
          obtain rfl := R.int_ r291
          obtain ⟨c292, hk⟩ := wp_chk hk
          obtain ⟨y293, e294, hk⟩ := wp_opt hk
          obtain ⟨w295, e296, r297⟩ := hl144.atI e294
          obtain rfl := R.int_ r297
          obtain ⟨y298, e299, hk⟩ := wp_opt hk
          obtain ⟨w300, e301, r302⟩ := hl144.atI e299
          obtain rfl := R.int_ r302
          obtain ⟨y303, e304, hk⟩ := wp_opt hk
          obtain ⟨w305, e306, r307⟩ := hl144.atI e304
          obtain rfl := R.int_ r307
          obtain ⟨p308, w309, e310, h311, hl312⟩ := R.lst_ h224
          cases e310
          obtain ⟨y313, e314, hk⟩ := wp_opt hk
          obtain ⟨w315, e316, r317⟩ := hl312.atI e314
          obtain rfl := R.int_ r317
          refine ⟨_, rfl, _, _, _, _, rfl, rfl, (SqLF O265.s h273), e278, _, _, rfl, rfl, c280, _, _, rfl, rfl, c281, _, _, _, _, rfl, rfl, (SqLF O265.s h285), e290, _, _, rfl, rfl, c292, _, _, rfl, rfl, _, _, _, _, rfl, rfl, (SqL.of (O265.at 2 rfl)), e296, [some (V.ref a_script), some (V.int x_most), some (V.int r1), some (V.int ((30 : Int) + (((r1 / x_most) / (16 : Int)) % (11 : Int)))), some (V.ref p63), some (V.ref p72), some (V.int y174), some (V.ref p163), some (V.ref p169), some (V.ref p211), some (V.int y293)], rfl, _, rfl, (.inl ⟨rfl, _, SqL.of (O265.at 0 rfl)⟩), _, rfl, _, rfl, _, rfl, _, _, _, _, rfl, rfl, (SqL.of (O265.at 2 rfl)), e301, _, _, rfl, _, rfl, _, rfl, _, rfl, _, _, _, _, rfl, rfl, (SqL.of (O265.at 2 rfl)), e306, _, _, rfl, _, rfl, _, _, _, _, rfl, rfl, (SqLF O265.s h311), e316, _, _, rfl, O265.pre0, wp_call hk (fun r318 er319 hk F320 H321 g322 => ?_) (fun n hn C H1 hC kp => hn C H1 hC (O265.kp0 kp))⟩
          have O323 := O265.call0 g322
          have S_ := g322.f
          have hl190 := hl190.mono S_
          have S185 := S185.trans S_
          have hl250 := hl250.mono S_
          refine ⟨(by show 3 ≤ sizeLine; decide), fun p324 hp325 => ?_⟩
          obtain ⟨F326, O327, S328, h329⟩ := O323.putE hp325 (.tup [V.int (if y298 < y293 then y298 else y293), V.int (if y303 > y293 then y303 else y293), V.int r318])
          have hl190 := hl190.mono S328
          have S185 := S185.trans S328
          have hl250 := hl250.mono S328
          have h330 : R (a := (T3 Int Int Int)) F326 (.ref p324) (T3.mk (if y298 < y293 then y298 else y293) (if y303 > y293 then y303 else y293) r318) := R.t3 h329 R.int R.int R.int
          obtain ⟨c331, hk⟩ := wp_appL hk
          refine ⟨_, _, _, rfl, rfl, (O327.at 0 rfl), (by rw [hl190.len]; exact c331), ?_⟩
          have O333 := O327.set 0 (.lst (w188 ++ [V.ref p324])) rfl
          have hl334 : RL (a := (T3 Int Int Int)) F326 (w188 ++ [V.ref p324]) (st186.2 ++ [(T3.mk (if y298 < y293 then y298 else y293) (if y303 > y293 then y303 else y293) r318)]) := RL.snoc hl190 h330
          exact ⟨F326, ((st186.1.set j246 r235), (st186.2 ++ [(T3.mk (if y298 < y293 then y298 else y293) (if y303 > y293 then y303 else y293) r318)])), (w187.set j246 (V.int r235)), (w188 ++ [V.ref p324]), some (V.int y174), some (V.ref p211), some (V.int y293), rfl, S185, O333, hl250, hl334, hk⟩
        · have hk := wp_el hk q251
          exact ⟨F237, ((st186.1.set j246 r235), st186.2), (w187.set j246 (V.int r235)), w188, some (V.int y174), some (V.ref p211), t193, rfl, S185, O249, hl250, hl190, hk⟩
      rintro sg335 H336 ⟨F347, st338, w340, w341, t344, t345, t346, rfl, S337, O348, hl342, hl343, hL339⟩
      rw [rangeL_end0] at hL339
      have hk := hLd179 _ hL339
      refine ⟨_, rfl, _, rfl, _, _, _, rfl, (O348.at 0 rfl), (RL.mono hl343 O348.s), fun p349 hp350 => ?_⟩
      have hl356 : RL (a := (T3 Int Int Int)) F347 (sortV w341 st338.2) (sortT st338.2) := (RL.sorted hl343)
      obtain ⟨F351, O352, S353, h354⟩ := O348.putE hp350 (.lst (sortV w341 st338.2))
      have hl342 := hl342.mono S353
      have hl356 := hl356.mono S353
      have h355 := R.lst (a := (T3 Int Int Int)) h354 hl356
      obtain ⟨F357, O358, S359, h360⟩ := O352.frzE 1 rfl z167
      have hl342 := hl342.mono S359
      have h355 := h355.mono S359
      have h361 := R.lst (a := Int) h360 hl342
      refine ⟨(by show 2 ≤ sizeLine; decide), fun p362 hp363 => ?_⟩
      obtain ⟨F364, O365, S366, h367⟩ := O358.putE hp363 (.tup [V.ref p163, V.ref p349])
      have h355 := h355.mono S366
      have h361 := h361.mono S366
      have h368 : R (a := ((List Int) × (List (T3 Int Int Int)))) F364 (.ref p362) (st338.1, (sortT st338.2)) := R.t2 h367 h361 h355
      exact hk _ _  O365.g  _ h368
    · have hk := wp_el hk q10
      refine ⟨_, rfl, _, rfl, _, rfl, _, _, rfl, rfl, _, rfl, _, _, rfl, (O6.s.seq f_script), fun p369 hp370 => ?_⟩
      have hl376 : RL (a := Int) F3 (cutV (List.map V.int x_script) (some (3 : Int)) (some ((3 : Int) + ((1 : Int) + (r1 % x_most))))) (cutL x_script (some (3 : Int)) (some ((3 : Int) + ((1 : Int) + (r1 % x_most))))) := RL.cutL (RL.of_ints (H := F3)) (some (3 : Int)) (some ((3 : Int) + ((1 : Int) + (r1 % x_most))))
      obtain ⟨F371, O372, S373, h374⟩ := O6.putE hp370 (.lst (cutV (List.map V.int x_script) (some (3 : Int)) (some ((3 : Int) + ((1 : Int) + (r1 % x_most))))))
      have f_script := S373.seq f_script
      have hl376 := hl376.mono S373
      have h375 := R.lst (a := Int) h374 hl376
      refine ⟨[some (V.ref a_script), some (V.int x_most), some (V.int r1), some (V.int ((1 : Int) + (r1 % x_most))), some (V.ref p369), none, none, none, none, none, none], rfl, _, rfl, _, rfl, _, _, _, _, rfl, O372.pre0, f_script, wp_call hk (fun r377 er378 hk F379 H380 g381 => ?_) (fun n hn C H1 hC kp => hn C H1 hC (O372.kp0 kp))⟩
      have O382 := O372.call0 g381
      have S_ := g381.f
      have h375 := h375.mono S_
      obtain ⟨p383, w384, e385, h386, hl387⟩ := R.lst_ h375
      cases e385
      refine ⟨_, rfl, _, rfl, _, _, _, rfl, (.inl (O382.s _ _ h386)), hl387.len, _, _, rfl, rfl, _, _, rfl, rfl, (by decide), _, _, _, _, rfl, O382.pre0, wp_call hk (fun r388 er389 hk F390 H391 g392 p393 w394 hn395 hf396 h397 hl398 => ?_) (fun n hn C H1 hC kp => hn C H1 hC (O382.kp0 kp))⟩
      have O399 := O382.call0 g392
      have S_ := g392.f
      have h375 := h375.mono S_
      have O400 := O382.got O399 rfl hn395 hf396 h397
      have z401 := O382.was hn395
      obtain ⟨F402, O403, S404, h405⟩ := O400.frzE 0 rfl z401
      have h375 := h375.mono S404
      have hl398 := hl398.mono S404
      have h406 := R.lst (a := Int) h405 hl398
      obtain ⟨p407, w408, e409, h410, hl411⟩ := R.lst_ h375
      cases e409
      obtain ⟨p412, w413, e414, h415, hl416⟩ := R.lst_ h406
      cases e414
      obtain ⟨c417, hk⟩ := wp_chk hk
      refine ⟨_, _, _, _, rfl, rfl, (O403.s _ _ h410), (O403.s _ _ h415), (by rw [hl411.len, hl416.len]; exact le_line c417), fun p418 hp419 => ?_⟩
      have hl425 : RL (a := Int) F402 (w408 ++ w413) ((cutL x_script (some (3 : Int)) (some ((3 : Int) + ((1 : Int) + (r1 % x_most))))) ++ r388) := RL.app hl411 hl416
      obtain ⟨F420, O421, S422, h423⟩ := O403.putE hp419 (.lst (w408 ++ w413))
      have hl425 := hl425.mono S422
      have h424 := R.lst (a := Int) h423 hl425
      refine ⟨[some (V.ref a_script), some (V.int x_most), some (V.int r1), some (V.int ((1 : Int) + (r1 % x_most))), some (V.ref p418), none, none, none, none, none, none], rfl, (by show 0 ≤ sizeLine; decide), fun p427 hp428 => ?_⟩
      have hl430 : RL (a := Int) F420 ([]) ([] : List Int) := RL.nil
      have O429 := O421.new (o := .lst ([])) hp428
      obtain ⟨c433, hk⟩ := wp_chk hk
      obtain ⟨L434, hL435, hLs436, hLd437⟩ := loopN_L hk
      refine ⟨[some (V.ref a_script), some (V.int x_most), some (V.int r1), some (V.int ((1 : Int) + (r1 % x_most))), some (V.ref p418), some (V.ref p427), none, none, none, none, none], rfl, _, rfl, _, rfl, c433.lo, c433.hi, ?_⟩
      refine for_range (lo := 0) (n := (((1 : Int) + (r1 % x_most))).toNat) (fun i σ H_ => ∃ (F_ : Hp) (st : (List Int)) (w_0 : (List V)) (t_0 : Option V), σ = [some (V.ref a_script), some (V.int x_most), some (V.int r1), some (V.int ((1 : Int) + (r1 % x_most))), some (V.ref p418), some (V.ref p427), t_0, none, none, none, none] ∧ Same F420 F_ ∧ Ow _ F_ [(p427, .lst w_0)] H_ ∧ RL (a := Int) F_ w_0 st ∧ L434 (List.drop i (rangeL 0 ((1 : Int) + (r1 % x_most)))) st) ⟨F420, ([] : List Int), [], none, rfl, Same.refl _, O429, hl430, hL435⟩ ?_ ?_
      · rintro i438 sg440 H441 hi442 ⟨F448, st444, w445, t447, rfl, S443, O449, hl446, hL435⟩
        have h424 := h424.mono S443
        rw [rangeL_get0 hi442] at hL435
        have hk := hLs436 _ _ _ hL435
        obtain ⟨y432, he_⟩ : ∃ z_, z_ = 0 + (i438 : Int) := ⟨_, rfl⟩
        try rw [← he_] at hk
        rw [← he_]
        obtain ⟨p450, w451, e452, h453, hl454⟩ := R.lst_ h424
        cases e452
        obtain ⟨y455, e456, hk⟩ := wp_opt hk
        obtain ⟨w457, e458, r459⟩ := hl454.atI e456
        obtain rfl := R.int_ r459
        refine ⟨_, rfl, (.inl ⟨rfl, _, SqL.of (O449.at 0 rfl)⟩), _, rfl, _, rfl, _, _, _, _, rfl, rfl, (SqLF O449.s h453), e458, _, _, _, _, rfl, O449.pre0, wp_call hk (fun r460 er461 hk F462 H463 g464 p465 w466 hn467 hf468 h469 hl470 => ?_) (fun n hn C H1 hC kp => hn C H1 hC (O449.kp0 kp))⟩
        have O471 := O449.call0 g464
        have S_ := g464.f
        have hl446 := hl446.mono S_
        have S443 := S443.trans S_
        have O472 := O449.got O471 rfl hn467 hf468 h469
        have z473 := O449.was hn467
        obtain ⟨F474, O475, S476, h477⟩ := O472.frzE 0 rfl z473
        have hl446 := hl446.mono S476
        have S443 := S443.trans S476
        have hl470 := hl470.mono S476
        have h478 := R.lst (a := Int) h477 hl470
        obtain ⟨p479, w480, e481, h482, hl483⟩ := R.lst_ h478
        cases e481
        obtain ⟨y484, e485, hk⟩ := wp_opt hk
        obtain ⟨w486, e487, r488⟩ := hl483.atI e485
        obtain rfl := R.int_ r488
        obtain ⟨c489, hk⟩ := wp_chk hk
        obtain ⟨c490, hk⟩ := wp_chk hk
        refine ⟨_, _, _, _, rfl, rfl, (SqLF O475.s h482), e487, _, rfl, _, _, _, rfl, (.inl (O475.at 0 rfl)), hl446.len, _, _, rfl, rfl, _, _, rfl, rfl, c489, _, rfl, _, _, _, _, rfl, rfl, (O475.at 0 rfl), (by rw [hl446.len]; exact c490.1), c490.2.1, c490.2.2, ?_⟩
        have O491 := O475.set 0 (.lst (insL w445 (y484 % ((st444.length : Int) + (1 : Int))) (V.int y432))) rfl
        have hl492 : RL (a := Int) F474 (insL w445 (y484 % ((st444.length : Int) + (1 : Int))) (V.int y432)) (insL st444 (y484 % ((st444.length : Int) + (1 : Int))) y432) := RL.ins hl446 (y484 % ((st444.length : Int) + (1 : Int))) R.int
        exact ⟨F474, (insL st444 (y484 % ((st444.length : Int) + (1 : Int))) y432), (insL w445 (y484 % ((st444.length : Int) + (1 : Int))) (V.int y432)), some (V.int y432), rfl, S443, O491, hl492, hk⟩
      rintro sg493 H494 ⟨F501, st496, w498, t500, rfl, S495, O502, hl499, hL497⟩
      rw [rangeL_end0] at hL497
      have hk := hLd437 _ hL497
      have h424 := h424.mono S495
      refine ⟨(by show 1 ≤ sizeLine; decide), fun p504 hp505 => ?_⟩
      have hl511 : RL (a := Int) F501 ([V.int (0 : Int)]) ([(0 : Int)]) := RL.cons R.int RL.nil
      obtain ⟨F506, O507, S508, h509⟩ := O502.putE hp505 (.lst ([V.int (0 : Int)]))
      have h424 := h424.mono S508
      have hl499 := hl499.mono S508
      have hl511 := hl511.mono S508
      have h510 := R.lst (a := Int) h509 hl511
      obtain ⟨p512, w513, e514, h515, hl516⟩ := R.lst_ h510
      cases e514
      obtain ⟨c517, hk⟩ := wp_chk hk
      refine ⟨_, rfl, _, _, _, rfl, rfl, (O507.s _ _ h515), c517.1, c517.2.1, (by rw [hl516.len]; exact le_line c517.2.2), fun p518 hp519 => ?_⟩
      have hl521 : RL (a := Int) F506 (repL ((1 : Int) + (r1 % x_most)) w513) (repL ((1 : Int) + (r1 % x_most)) ([(0 : Int)])) := RL.rep hl516 ((1 : Int) + (r1 % x_most))
      have z522 := O507.was hp519
      have O520 := O507.new (o := .lst (repL ((1 : Int) + (r1 % x_most)) w513)) hp519
      refine ⟨[some (V.ref a_script), some (V.int x_most), some (V.int r1), some (V.int ((1 : Int) + (r1 % x_most))), some (V.ref p418), some (V.ref p427), t500, some (V.ref p518), none, none, none], rfl, (by show 0 ≤ sizeLine; decide), fun p524 hp525 => ?_⟩
      have hl527 : RL (a := (T3 Int Int Int)) F506 ([]) ([] : List (T3 Int Int Int)) := RL.nil
      have O526 := O520.new (o := .lst ([])) hp525
      obtain ⟨c530, hk⟩ := wp_chk hk
      obtain ⟨L531, hL532, hLs533, hLd534⟩ := loopN_L hk
      refine ⟨[some (V.ref a_script), some (V.int x_most), some (V.int r1), some (V.int ((1 : Int) + (r1 % x_most))), some (V.ref p418), some (V.ref p427), t500, some (V.ref p518), some (V.ref p524), none, none], rfl, _, rfl, _, rfl, c530.lo, c530.hi, ?_⟩
      refine for_range (lo := 0) (n := (((1 : Int) + (r1 % x_most))).toNat) (fun i σ H_ => ∃ (F_ : Hp) (st : (List Int) × (List (T3 Int Int Int))) (w_0 : (List V)) (w_1 : (List V)) (t_0 : Option V) (t_1 : Option V) (t_2 : Option V), σ = [some (V.ref a_script), some (V.int x_most), some (V.int r1), some (V.int ((1 : Int) + (r1 % x_most))), some (V.ref p418), some (V.ref p427), t_0, some (V.ref p518), some (V.ref p524), t_1, t_2] ∧ Same F506 F_ ∧ Ow _ F_ [(p524, .lst w_1), (p518, .lst w_0), (p427, .lst w498)] H_ ∧ RL (a := Int) F_ w_0 st.1 ∧ RL (a := (T3 Int Int Int)) F_ w_1 st.2 ∧ L531 (List.drop i (rangeL 0 ((1 : Int) + (r1 % x_most)))) st) ⟨F506, ((repL ((1 : Int) + (r1 % x_most)) ([(0 : Int)])), ([] : List (T3 Int Int Int))), repL ((1 : Int) + (r1 % x_most)) w513, [], t500, none, none, rfl, Same.refl _, O526, hl521, hl527, hL532⟩ ?_ ?_
      · rintro i535 sg537 H538 hi539 ⟨F549, st541, w542, w543, t546, t547, t548, rfl, S540, O550, hl544, hl545, hL532⟩
        have h424 := h424.mono S540
        have hl499 := hl499.mono S540
        rw [rangeL_get0 hi539] at hL532
        have hk := hLs533 _ _ _ hL532
        obtain ⟨y529, he_⟩ : ∃ z_, z_ = 0 + (i535 : Int) := ⟨_, rfl⟩
        try rw [← he_] at hk
        rw [← he_]
        obtain ⟨p551, w552, e553, h554, hl555⟩ := R.lst_ h424
        cases e553
        obtain ⟨y556, e557, hk⟩ := wp_opt hk
        obtain ⟨w558, e559, r560⟩ := hl555.atI e557
        obtain rfl := R.int_ r560
        refine ⟨_, rfl, _, rfl, _, _, _, _, rfl, rfl, (SqLF O550.s h554), e559, _, _, rfl, rfl, (by decide), _, _, _, _, rfl, O550.pre0, wp_call hk (fun r561 er562 hk F563 H564 g565 p566 w567 hn568 hf569 h570 hl571 => ?_) (fun n hn C H1 hC kp => hn C H1 hC (O550.kp0 kp))⟩
        have O572 := O550.call0 g565
        have S_ := g565.f
        have hl499 := hl499.mono S_
        have hl544 := hl544.mono S_
        have hl545 := hl545.mono S_
        have S540 := S540.trans S_
        have O573 := O550.got O572 rfl hn568 hf569 h570
        have z574 := O550.was hn568
        obtain ⟨F575, O576, S577, h578⟩ := O573.frzE 0 rfl z574
        have hl499 := hl499.mono S577
        have hl544 := hl544.mono S577
        have hl545 := hl545.mono S577
        have S540 := S540.trans S577
        have hl571 := hl571.mono S577
        have h579 := R.lst (a := Int) h578 hl571
        obtain ⟨p580, w581, e582, h583, hl584⟩ := R.lst_ h579
        cases e582
        obtain ⟨y585, e586, hk⟩ := wp_opt hk
        obtain ⟨w587, e588, r589⟩ := hl584.atI e586
        obtain rfl := R.int_ r589
        refine ⟨[some (V.ref a_script), some (V.int x_most), some (V.int r1), some (V.int ((1 : Int) + (r1 % x_most))), some (V.ref p418), some (V.ref p427), some (V.int y529), some (V.ref p518), some (V.ref p524), some (V.ref p566), t548], rfl, _, rfl, _, _, _, _, rfl, rfl, (SqLF O576.s h583), e588, _, _, rfl, O576.pre0, wp_call hk (fun r590 er591 hk F592 H593 g594 => ?_) (fun n hn C H1 hC kp => hn C H1 hC (O576.kp0 kp))⟩
        have O595 := O576.call0 g594
        have S_ := g594.f
        have hl499 := hl499.mono S_
        have hl544 := hl544.mono S_
        have hl545 := hl545.mono S_
        have S540 := S540.trans S_
        have h579 := h579.mono S_
        obtain ⟨y596, e597, hk⟩ := wp_opt hk
        obtain ⟨w598, e599, r600⟩ := hl499.atI e597
        obtain rfl := R.int_ r600
        obtain ⟨j601, e602, hk⟩ := wp_setI hk
        refine ⟨_, rfl, _, rfl, _, rfl, _, _, _, _, rfl, rfl, (SqL.of (O595.at 2 rfl)), e599, _, _, _, _, rfl, rfl, (O595.at 1 rfl), (by rw [hl544.len]; exact e602), ?_⟩
        have O604 := O595.set 1 (.lst (w542.set j601 (V.int r590))) rfl
        have hl605 : RL (a := Int) F592 (w542.set j601 (V.int r590)) (st541.1.set j601 r590) := RL.set j601 hl544 R.int
        refine ⟨_, rfl, _, _, rfl, rfl, _, rfl, ?_⟩
        refine iteD (fun q606 => ?_) (fun q606 => ?_)
        · have hk := wp_if hk q606
          obtain ⟨p607, w608, e609, h610, hl611⟩ := R.lst_ h579
          cases e609
          obtain ⟨y612, e613, hk⟩ := wp_opt hk
          obtain ⟨w614, e615, r616⟩ := hl611.atI e613
          obtain rfl := R.int_ r616
          refine ⟨_, rfl, _, rfl, _, _, rfl, rfl, _, rfl, _, _, _, _, rfl, rfl, (SqLF O604.s h610), e615, _, rfl, _, rfl, _, _, rfl, _, rfl, _, _, rfl, (by show 3 ≤ sizeLine; decide), fun p617 hp618 => ?_⟩
          have hl624 : RL (a := Int) F592 ([V.int y529, V.int (if (2 : Int) < y529 then (2 : Int) else y529), V.int (if (5 : Int) < y529 then (5 : Int) else y529)]) ([y529, (if (2 : Int) < y529 then (2 : Int) else y529), (if (5 : Int) < y529 then (5 : Int) else y529)]) := RL.cons R.int (RL.cons R.int (RL.cons R.int RL.nil))
          obtain ⟨F619, O620, S621, h622⟩ := O604.putE hp618 (.lst ([V.int y529, V.int (if (2 : Int) < y529 then (2 : Int) else y529), V.int (if (5 : Int) < y529 then (5 : Int) else y529)]))
          have hl499 := hl499.mono S621
          have hl545 := hl545.mono S621
          have S540 := S540.trans S621
          have h579 := h579.mono S621
          have hl605 := hl605.mono S621
          have hl624 := hl624.mono S621
          have h623 := R.lst (a := Int) h622 hl624
          obtain ⟨p625, w626, e627, h628, hl629⟩ := R.lst_ h579
          cases e627
          obtain ⟨y630, e631, hk⟩ := wp_opt hk
          obtain ⟨w632, e633, r634⟩ := hl629.atI e631
          obtain rfl := R.int_ r634
          obtain ⟨c635, hk⟩ := wp_chk hk
          obtain ⟨c636, hk⟩ := wp_chk hk
          obtain ⟨p637, w638, e639, h640, hl641⟩ := R.lst_ h623
          cases e639
          obtain ⟨y642, e643, hk⟩ := wp_opt hk
          obtain ⟨w644, e645, r646⟩ := hl641.atI e643
          obtain rfl := R.int_ r646
          obtain ⟨c647, hk⟩ := wp_chk hk
          obtain ⟨y648, e649, hk⟩ := wp_opt hk
          obtain ⟨w650, e651, r652⟩ := hl499.atI e649
          obtain rfl := R.int_ r652
          obtain ⟨y653, e654, hk⟩ := wp_opt hk
          obtain ⟨w655, e656, r657⟩ := hl499.atI e654
          obtain rfl := R.int_ r657
          obtain ⟨y658, e659, hk⟩ := wp_opt hk
          obtain ⟨w660, e661, r662⟩ := hl499.atI e659
          obtain rfl := R.int_ r662
          obtain ⟨p663, w664, e665, h666, hl667⟩ := R.lst_ h579
          cases e665
          obtain ⟨y668, e669, hk⟩ := wp_opt hk
          obtain ⟨w670, e671, r672⟩ := hl667.atI e669
          obtain rfl := R.int_ r672
          refine ⟨_, rfl, _, _, _, _, rfl, rfl, (SqLF O620.s h628), e633, _, _, rfl, rfl, c635, _, _, rfl, rfl, c636, _, _, _, _, rfl, rfl, (SqLF O620.s h640), e645, _, _, rfl, rfl, c647, _, _, rfl, rfl, _, _, _, _, rfl, rfl, (SqL.of (O620.at 2 rfl)), e651, [some (V.ref a_script), some (V.int x_most), some (V.int r1), some (V.int ((1 : Int) + (r1 % x_most))), some (V.ref p418), some (V.ref p427), some (V.int y529), some (V.ref p518), some (V.ref p524), some (V.ref p566), some (V.int y648)], rfl, _, rfl, (.inl ⟨rfl, _, SqL.of (O620.at 0 rfl)⟩), _, rfl, _, rfl, _, rfl, _, _, _, _, rfl, rfl, (SqL.of (O620.at 2 rfl)), e656, _, _, rfl, _, rfl, _, rfl, _, rfl, _, _, _, _, rfl, rfl, (SqL.of (O620.at 2 rfl)), e661, _, _, rfl, _, rfl, _, _, _, _, rfl, rfl, (SqLF O620.s h666), e671, _, _, rfl, O620.pre0, wp_call hk (fun r673 er674 hk F675 H676 g677 => ?_) (fun n hn C H1 hC kp => hn C H1 hC (O620.kp0 kp))⟩
          have O678 := O620.call0 g677
          have S_ := g677.f
          have hl545 := hl545.mono S_
          have S540 := S540.trans S_
          have hl605 := hl605.mono S_
          refine ⟨(by show 3 ≤ sizeLine; decide), fun p679 hp680 => ?_⟩
          obtain ⟨F681, O682, S683, h684⟩ := O678.putE hp680 (.tup [V.int (if y653 < y648 then y653 else y648), V.int (if y658 > y648 then y658 else y648), V.int r673])
          have hl545 := hl545.mono S683
          have S540 := S540.trans S683
          have hl605 := hl605.mono S683
          have h685 : R (a := (T3 Int Int Int)) F681 (.ref p679) (T3.mk (if y653 < y648 then y653 else y648) (if y658 > y648 then y658 else y648) r673) := R.t3 h684 R.int R.int R.int
          obtain ⟨c686, hk⟩ := wp_appL hk
          refine ⟨_, _, _, rfl, rfl, (O682.at 0 rfl), (by rw [hl545.len]; exact c686), ?_⟩
          have O688 := O682.set 0 (.lst (w543 ++ [V.ref p679])) rfl
          have hl689 : RL (a := (T3 Int Int Int)) F681 (w543 ++ [V.ref p679]) (st541.2 ++ [(T3.mk (if y653 < y648 then y653 else y648) (if y658 > y648 then y658 else y648) r673)]) := RL.snoc hl545 h685
          exact ⟨F681, ((st541.1.set j601 r590), (st541.2 ++ [(T3.mk (if y653 < y648 then y653 else y648) (if y658 > y648 then y658 else y648) r673)])), (w542.set j601 (V.int r590)), (w543 ++ [V.ref p679]), some (V.int y529), some (V.ref p566), some (V.int y648), rfl, S540, O688, hl605, hl689, hk⟩
        · have hk := wp_el hk q606
          exact ⟨F592, ((st541.1.set j601 r590), st541.2), (w542.set j601 (V.int r590)), w543, some (V.int y529), some (V.ref p566), t548, rfl, S540, O604, hl605, hl545, hk⟩
      rintro sg690 H691 ⟨F702, st693, w695, w696, t699, t700, t701, rfl, S692, O703, hl697, hl698, hL694⟩
      rw [rangeL_end0] at hL694
      have hk := hLd534 _ hL694
      refine ⟨_, rfl, _, rfl, _, _, _, rfl, (O703.at 0 rfl), (RL.mono hl698 O703.s), fun p704 hp705 => ?_⟩
      have hl711 : RL (a := (T3 Int Int Int)) F702 (sortV w696 st693.2) (sortT st693.2) := (RL.sorted hl698)
      obtain ⟨F706, O707, S708, h709⟩ := O703.putE hp705 (.lst (sortV w696 st693.2))
      have hl697 := hl697.mono S708
      have hl711 := hl711.mono S708
      have h710 := R.lst (a := (T3 Int Int Int)) h709 hl711
      obtain ⟨F712, O713, S714, h715⟩ := O707.frzE 1 rfl z522
      have hl697 := hl697.mono S714
      have h710 := h710.mono S714
      have h716 := R.lst (a := Int) h715 hl697
      refine ⟨(by show 2 ≤ sizeLine; decide), fun p717 hp718 => ?_⟩
      obtain ⟨F719, O720, S721, h722⟩ := O713.putE hp718 (.tup [V.ref p518, V.ref p704])
      have h710 := h710.mono S721
      have h716 := h716.mono S721
      have h723 : R (a := ((List Int) × (List (T3 Int Int Int)))) F719 (.ref p717) (st693.1, (sortT st693.2)) := R.t2 h722 h716 h710
      exact hk _ _  O720.g  _ h723
abbrev s_law_shown_tree : Stmt := top 21
theorem sc_law_shown_tree : FnScope ["tree", "mark", "text", "k", "a", "b", "length"] ["tree", "mark"] (defScope s_law_shown_tree) := ⟨rfl, rfl, rfl, by decide +kernel, rfl, by decide +kernel, by decide +kernel⟩
def m_law_shown_tree (x_tree : ((List Int) × (List (T3 Int Int Int)))) (x_mark : Str) : M (Str) :=
chk (okR (x_tree.1.length : Int)) >>= fun _ =>
loopN (fun (y13 : Int) (st25 : Str) =>
chk (CRepS (" " : Str) (if (decide ((0 : Int) < y13)) = true then (1 : Int) else 0)) >>= fun _ =>
chk (st25.length + (Txt.mul (" " : Str) (if (decide ((0 : Int) < y13)) = true then (1 : Int) else 0)).length ≤ 16777216) >>= fun _ =>
opt (atI x_tree.1 y13) >>= fun y36 =>
chk (Nat.log2 (Int.natAbs y36) < 1920) >>= fun _ =>
chk ((st25 ++ (Txt.mul (" " : Str) (if (decide ((0 : Int) < y13)) = true then (1 : Int) else 0))).length + (Str.ofString (toString y36)).length ≤ 16777216) >>= fun _ =>
.ok ((st25 ++ (Txt.mul (" " : Str) (if (decide ((0 : Int) < y13)) = true then (1 : Int) else 0))) ++ (Str.ofString (toString y36)))) (rangeL 0 (x_tree.1.length : Int)) ("" : Str) >>= fun st46 =>
chk (st46.length + x_mark.length ≤ 16777216) >>= fun _ =>
chk (okR (x_tree.2.length : Int)) >>= fun _ =>
loopN (fun (y57 : Int) (st69 : Str) =>
opt (atI x_tree.2 y57) >>= fun y81 =>
chk (CRepS (" " : Str) (if (decide ((0 : Int) < y57)) = true then (1 : Int) else 0)) >>= fun _ =>
chk (st69.length + (Txt.mul (" " : Str) (if (decide ((0 : Int) < y57)) = true then (1 : Int) else 0)).length ≤ 16777216) >>= fun _ =>
chk (Nat.log2 (Int.natAbs y81.a) < 1920) >>= fun _ =>
chk ((st69 ++ (Txt.mul (" " : Str) (if (decide ((0 : Int) < y57)) = true then (1 : Int) else 0))).length + (Str.ofString (toString y81.a)).length ≤ 16777216) >>= fun _ =>
chk (((st69 ++ (Txt.mul (" " : Str) (if (decide ((0 : Int) < y57)) = true then (1 : Int) else 0))) ++ (Str.ofString (toString y81.a))).length + ("-" : Str).length ≤ 16777216) >>= fun _ =>
chk (Nat.log2 (Int.natAbs y81.b) < 1920) >>= fun _ =>
chk ((((st69 ++ (Txt.mul (" " : Str) (if (decide ((0 : Int) < y57)) = true then (1 : Int) else 0))) ++ (Str.ofString (toString y81.a))) ++ ("-" : Str)).length + (Str.ofString (toString y81.b)).length ≤ 16777216) >>= fun _ =>
chk (((((st69 ++ (Txt.mul (" " : Str) (if (decide ((0 : Int) < y57)) = true then (1 : Int) else 0))) ++ (Str.ofString (toString y81.a))) ++ ("-" : Str)) ++ (Str.ofString (toString y81.b))).length + (":" : Str).length ≤ 16777216) >>= fun _ =>
chk (Nat.log2 (Int.natAbs y81.c) < 1920) >>= fun _ =>
chk ((((((st69 ++ (Txt.mul (" " : Str) (if (decide ((0 : Int) < y57)) = true then (1 : Int) else 0))) ++ (Str.ofString (toString y81.a))) ++ ("-" : Str)) ++ (Str.ofString (toString y81.b))) ++ (":" : Str)).length + (Str.ofString (toString y81.c)).length ≤ 16777216) >>= fun _ =>
.ok ((((((st69 ++ (Txt.mul (" " : Str) (if (decide ((0 : Int) < y57)) = true then (1 : Int) else 0))) ++ (Str.ofString (toString y81.a))) ++ ("-" : Str)) ++ (Str.ofString (toString y81.b))) ++ (":" : Str)) ++ (Str.ofString (toString y81.c)))) (rangeL 0 (x_tree.2.length : Int)) (st46 ++ x_mark) >>= fun st108 =>
.ok st108
def sp_law_shown_tree (mg : Str → Option Value) : Sp := fun vs H Q E => ∃ (F : Hp) (v_tree : V) (x_tree : ((List Int) × (List (T3 Int Int Int)))) (x_mark : Str), vs = [v_tree, V.str x_mark] ∧ Pre F [] H ∧ R (a := ((List Int) × (List (T3 Int Int Int)))) F v_tree x_tree ∧
  wp (m_law_shown_tree x_tree x_mark) (fun r => ∀ (F' H' : Hp), Gr [] F H F' H' → Q (V.str r) H')
  (fun n => ∀ (C : Addr) (H' : Hp), mg (Str.ofString n) = some (.ref C) → Kp [] H H' → E (.ref C) none H')
set_option maxHeartbeats 20000000 in
theorem ok_law_shown_tree (nb : Nb mg) (D : Df K mg "_law_shown_tree" "_law_shown_tree" s_law_shown_tree ["tree", "mark"]) : Ca P w K mg base "_law_shown_tree" 1 ["tree", "mark"] (sp_law_shown_tree mg) := by
  refine Ca.mk' D sc_law_shown_tree (fun vs H Q E h => ?_) (fun q_ f_ cdv A outer s H vs Q E hr h => ?_)
  · obtain ⟨F, _, _, _, rfl, _⟩ := h
    rfl
  · obtain ⟨F, v_tree, x_tree, x_mark, rfl, P0, f_tree, hk⟩ := h
    have nd := sc_law_shown_tree.nd
    have hu64 := hr.units
    have hu128 := hu128_of hr
    have O := P0.start
    refine ⟨_, (pss_cons (ps_toN (ps_set (i := 2) nd rfl (Or.inl rfl) pe_str))
  (pss_cons (ps_for (passes_of rfl) rfl (pi_range1 rfl nb.b_range (pa_cons (pe_callB call_lenT (by rfl) nb.b_len PySem.boot_len (pa_cons (pe_ix (ixTupK (K := K) rfl) (pv 0) pe_int (fun _ _ => rfl)) pa_nil)) pa_nil)) (pg_name (i := 3) nd rfl (Or.inl rfl)) (pss_one (ps_toN (ps_set (i := 2) nd rfl (Or.inl rfl) (pe_op op_add_str (pe_op op_add_str (pv 2) (pe_op op_mulS pe_str (pe_callTy intB (by rfl) nb.b_int (by decide +kernel) (pa_cons (pe_cmpR op_gt (pv 3) pe_int (nomark _)) pa_nil)))) (pe_callTy call_str_int (by rfl) nb.b_str (by decide +kernel) (pa_cons (pe_ix (ixListK (K := K) rfl) (pe_ix (ixTupK (K := K) rfl) (pv 0) pe_int (fun _ _ => rfl)) (pv 3) (fun _ _ => rfl)) pa_nil)))))))
  (pss_cons (ps_toN (ps_set (i := 2) nd rfl (Or.inl rfl) (pe_op op_add_str (pv 2) (pv 1))))
  (pss_cons (ps_for (passes_of rfl) rfl (pi_range1 rfl nb.b_range (pa_cons (pe_callB call_lenT (by rfl) nb.b_len PySem.boot_len (pa_cons (pe_ix (ixTupK (K := K) rfl) (pv 0) pe_int (fun _ _ => rfl)) pa_nil)) pa_nil)) (pg_name (i := 3) nd rfl (Or.inl rfl)) (pss_cons (ps_asg (pe_ix (ixListK (K := K) rfl) (pe_ix (ixTupK (K := K) rfl) (pv 0) pe_int (fun _ _ => rfl)) (pv 3) (fun _ _ => rfl)) (pg_tup rfl (pgs_cons (pg_name (i := 4) nd rfl (Or.inl rfl)) (pgs_cons (pg_name (i := 5) nd rfl (Or.inl rfl)) (pgs_cons (pg_name (i := 6) nd rfl (Or.inl rfl)) pgs_nil)))))
  (pss_one (ps_toN (ps_set (i := 2) nd rfl (Or.inl rfl) (pe_op op_add_str (pe_op op_add_str (pe_op op_add_str (pe_op op_add_str (pe_op op_add_str (pe_op op_add_str (pv 2) (pe_op op_mulS pe_str (pe_callTy intB (by rfl) nb.b_int (by decide +kernel) (pa_cons (pe_cmpR op_gt (pv 3) pe_int (nomark _)) pa_nil)))) (pe_callTy call_str_int (by rfl) nb.b_str (by decide +kernel) (pa_cons (pv 4) pa_nil))) pe_str) (pe_callTy call_str_int (by rfl) nb.b_str (by decide +kernel) (pa_cons (pv 5) pa_nil))) pe_str) (pe_callTy call_str_int (by rfl) nb.b_str (by decide +kernel) (pa_cons (pv 6) pa_nil))))))))
  (pss_one (ps_ret (pv 2))))))), ?_⟩
    obtain ⟨p1, v4, v5, e2, h3, r6, r7⟩ := R.t2_ f_tree
    cases e2
    obtain ⟨p8, w9, e10, h11, hl12⟩ := R.lst_ r6
    cases e10
    obtain ⟨c14, hk⟩ := wp_chk hk
    obtain ⟨L15, hL16, hLs17, hLd18⟩ := loopN_L hk
    refine ⟨[some (V.ref p1), some (V.str x_mark), some (V.str ("" : Str)), none, none, none, none], rfl, _, rfl, _, _, _, _, rfl, rfl, (SqTF O.s h3), rfl, _, _, _, rfl, (.inl (O.s _ _ h11)), hl12.len, _, rfl, c14.lo, c14.hi, ?_⟩
    refine for_range (lo := 0) (n := ((x_tree.1.length : Int)).toNat) (fun i σ H_ => ∃ (F_ : Hp) (st : Str) (t_0 : Option V), σ = [some (V.ref p1), some (V.str x_mark), some (V.str st), t_0, none, none, none] ∧ Same F F_ ∧ Ow _ F_ [] H_ ∧ L15 (List.drop i (rangeL 0 (x_tree.1.length : Int))) st) ⟨F, ("" : Str), none, rfl, Same.refl _, O, hL16⟩ ?_ ?_
    · rintro i19 sg21 H22 hi23 ⟨F27, st25, t26, rfl, S24, O28, hL16⟩
      have h3 := S24 _ _ h3
      have r6 := r6.mono S24
      rw [rangeL_get0 hi23] at hL16
      have hk := hLs17 _ _ _ hL16
      obtain ⟨y13, he_⟩ : ∃ z_, z_ = 0 + (i19 : Int) := ⟨_, rfl⟩
      try rw [← he_] at hk
      rw [← he_]
      obtain ⟨c29, hk⟩ := wp_chk hk
      obtain ⟨c30, hk⟩ := wp_chk hk
      obtain ⟨p31, w32, e33, h34, hl35⟩ := R.lst_ r6
      cases e33
      obtain ⟨y36, e37, hk⟩ := wp_opt hk
      obtain ⟨w38, e39, r40⟩ := hl35.atI e37
      obtain rfl := R.int_ r40
      obtain ⟨c41, hk⟩ := wp_chk hk
      obtain ⟨c42, hk⟩ := wp_chk hk
      refine ⟨_, rfl, _, rfl, _, _, rfl, rfl, _, rfl, _, _, rfl, rfl, c29, _, _, rfl, rfl, (by rw [sizeLine_eq]; exact c30), _, rfl, _, _, _, _, rfl, rfl, (SqTF O28.s h3), rfl, _, rfl, _, _, _, _, rfl, rfl, (SqLF O28.s h34), e39, _, rfl, c41, _, _, rfl, rfl, (by rw [sizeLine_eq]; exact c42), [some (V.ref p1), some (V.str x_mark), some (V.str ((st25 ++ (Txt.mul (" " : Str) (if (decide ((0 : Int) < y13)) = true then (1 : Int) else 0))) ++ (Str.ofString (toString y36)))), some (V.int y13), none, none, none], rfl, ?_⟩
      exact ⟨F27, ((st25 ++ (Txt.mul (" " : Str) (if (decide ((0 : Int) < y13)) = true then (1 : Int) else 0))) ++ (Str.ofString (toString y36))), some (V.int y13), rfl, S24, O28, hk⟩
    rintro sg43 H44 ⟨F49, st46, t48, rfl, S45, O50, hL47⟩
    rw [rangeL_end0] at hL47
    have hk := hLd18 _ hL47
    have h3 := S45 _ _ h3
    have r7 := r7.mono S45
    obtain ⟨c51, hk⟩ := wp_chk hk
    obtain ⟨p52, w53, e54, h55, hl56⟩ := R.lst_ r7
    cases e54
    obtain ⟨c58, hk⟩ := wp_chk hk
    obtain ⟨L59, hL60, hLs61, hLd62⟩ := loopN_L hk
    refine ⟨_, rfl, _, rfl, _, _, rfl, rfl, (by rw [sizeLine_eq]; exact c51), [some (V.ref p1), some (V.str x_mark), some (V.str (st46 ++ x_mark)), t48, none, none, none], rfl, _, rfl, _, _, _, _, rfl, rfl, (SqTF O50.s h3), rfl, _, _, _, rfl, (.inl (O50.s _ _ h55)), hl56.len, _, rfl, c58.lo, c58.hi, ?_⟩
    refine for_range (lo := 0) (n := ((x_tree.2.length : Int)).toNat) (fun i σ H_ => ∃ (F_ : Hp) (st : Str) (t_0 : Option V) (t_1 : Option V) (t_2 : Option V) (t_3 : Option V), σ = [some (V.ref p1), some (V.str x_mark), some (V.str st), t_0, t_1, t_2, t_3] ∧ Same F49 F_ ∧ Ow _ F_ [] H_ ∧ L59 (List.drop i (rangeL 0 (x_tree.2.length : Int))) st) ⟨F49, (st46 ++ x_mark), t48, none, none, none, rfl, Same.refl _, O50, hL60⟩ ?_ ?_
    · rintro i63 sg65 H66 hi67 ⟨F74, st69, t70, t71, t72, t73, rfl, S68, O75, hL60⟩
      have h3 := S68 _ _ h3
      have r7 := r7.mono S68
      rw [rangeL_get0 hi67] at hL60
      have hk := hLs61 _ _ _ hL60
      obtain ⟨y57, he_⟩ : ∃ z_, z_ = 0 + (i63 : Int) := ⟨_, rfl⟩
      try rw [← he_] at hk
      rw [← he_]
      obtain ⟨p76, w77, e78, h79, hl80⟩ := R.lst_ r7
      cases e78
      obtain ⟨y81, e82, hk⟩ := wp_opt hk
      obtain ⟨w83, e84, r85⟩ := hl80.atI e82
      obtain ⟨p86, v89, v90, v91, e87, h88, r92, r93, r94⟩ := R.t3_ r85
      cases e87
      obtain rfl := R.int_ r92
      obtain rfl := R.int_ r93
      obtain rfl := R.int_ r94
      obtain ⟨c95, hk⟩ := wp_chk hk
      obtain ⟨c96, hk⟩ := wp_chk hk
      obtain ⟨c97, hk⟩ := wp_chk hk
      obtain ⟨c98, hk⟩ := wp_chk hk
      obtain ⟨c99, hk⟩ := wp_chk hk
      obtain ⟨c100, hk⟩ := wp_chk hk
      obtain ⟨c101, hk⟩ := wp_chk hk
      obtain ⟨c102, hk⟩ := wp_chk hk
      obtain ⟨c103, hk⟩ := wp_chk hk
      obtain ⟨c104, hk⟩ := wp_chk hk
      refine ⟨_, rfl, _, _, _, _, rfl, rfl, (SqTF O75.s h3), rfl, _, rfl, _, _, _, _, rfl, rfl, (SqLF O75.s h79), e84, _, _, rfl, (SqTF O75.s h88), rfl, _, _, rfl, _, _, rfl, _, _, rfl, rfl, _, rfl, _, rfl, _, _, rfl, rfl, _, rfl, _, _, rfl, rfl, c95, _, _, rfl, rfl, (by rw [sizeLine_eq]; exact c96), _, rfl, _, rfl, c97, _, _, rfl, rfl, (by rw [sizeLine_eq]; exact c98), _, _, rfl, rfl, (by rw [sizeLine_eq]; exact c99), _, rfl, _, rfl, c100, _, _, rfl, rfl, (by rw [sizeLine_eq]; exact c101), _, _, rfl, rfl, (by rw [sizeLine_eq]; exact c102), _, rfl, _, rfl, c103, _, _, rfl, rfl, (by rw [sizeLine_eq]; exact c104), [some (V.ref p1), some (V.str x_mark), some (V.str ((((((st69 ++ (Txt.mul (" " : Str) (if (decide ((0 : Int) < y57)) = true then (1 : Int) else 0))) ++ (Str.ofString (toString y81.a))) ++ ("-" : Str)) ++ (Str.ofString (toString y81.b))) ++ (":" : Str)) ++ (Str.ofString (toString y81.c)))), some (V.int y57), some (V.int y81.a), some (V.int y81.b), some (V.int y81.c)], rfl, ?_⟩
      exact ⟨F74, ((((((st69 ++ (Txt.mul (" " : Str) (if (decide ((0 : Int) < y57)) = true then (1 : Int) else 0))) ++ (Str.ofString (toString y81.a))) ++ ("-" : Str)) ++ (Str.ofString (toString y81.b))) ++ (":" : Str)) ++ (Str.ofString (toString y81.c))), some (V.int y57), some (V.int y81.a), some (V.int y81.b), some (V.int y81.c), rfl, S68, O75, hk⟩
    rintro sg105 H106 ⟨F114, st108, t110, t111, t112, t113, rfl, S107, O115, hL109⟩
    rw [rangeL_end0] at hL109
    have hk := hLd62 _ hL109
    refine ⟨_, rfl, ?_⟩
    exact hk _ _  O115.g 
abbrev s_law : Stmt := top 22
theorem sc_law : FnScope ["script", "tree", "due", "given", "found", "back"] ["script"] (defScope s_law) := ⟨rfl, rfl, rfl, by decide +kernel, rfl, by decide +kernel, by decide +kernel⟩
def m_law (x_script : (List Int)) : M (Bool) :=
m_law_tree x_script (9 : Int) >>= fun r1 =>
m_law_shown_tree r1 ("\n" : Str) >>= fun r9 =>
m_show_tree (r1.1, r1.2) >>= fun r55 =>
if r55 ≠ r9 then (
.ok false)
else (
if (r1.1, r1.2) ≠ r1 then (
.ok false)
else (
m_read_tree r9 >>= fun r64 =>
m_law_alike_4 (r64.1, r64.2) r1 >>= fun r95 =>
if r95 = true then (
appL r64.1 (1 : Int) >>= fun _ =>
m_read_tree r9 >>= fun r108 =>
m_law_alike_4 (r108.1, r108.2) r1 >>= fun r139 =>
if r139 = true then (
m_show_tree (r1.1, r1.2) >>= fun r150 =>
.ok (decide (r150 = r9)))
else (
.ok false))
else (
.ok false)))
def sp_law (K : PySem.W.Frag) : Sp := fun vs H Q E => ∃ (F : Hp) (a_script : Addr) (x_script : (List Int)), vs = [.ref a_script] ∧ Pre F [] H ∧ SqL K F a_script (x_script.map V.int) ∧
  wp (m_law x_script) (fun r => ∀ (F' H' : Hp), Gr [] F H F' H' → Q (V.bl r) H') (fun _ => False)
set_option maxHeartbeats 20000000 in
theorem ok_law (nb : Nb mg) (C_law_alike_4 : Ca P w K mg base "_law_alike" 4 ["found", "due"] (sp_law_alike_4 mg)) (C_law_shown_tree : Ca P w K mg base "_law_shown_tree" 1 ["tree", "mark"] (sp_law_shown_tree mg)) (C_law_tree : Ca P w K mg base "_law_tree" 2 ["script", "most"] (sp_law_tree K mg)) (C_read_tree : Ca P w K mg base "read_tree" 4 ["text"] (sp_read_tree mg)) (C_show_tree : Ca P w K mg base "show_tree" 1 ["tree"] (sp_show_tree mg)) {f : Addr} {fd : FuncData} (F_ : Fun K "law" "law" s_law f fd) : FnOk P w K mg base (L2.CX P w) 5 f fd ["script"] (sp_law K) := by
  obtain ⟨fa_law_alike_4, fd_law_alike_4, G_law_alike_4, M_law_alike_4, K_law_alike_4, B_law_alike_4⟩ := C_law_alike_4.ex
  obtain ⟨fa_law_shown_tree, fd_law_shown_tree, G_law_shown_tree, M_law_shown_tree, K_law_shown_tree, B_law_shown_tree⟩ := C_law_shown_tree.ex
  obtain ⟨fa_law_tree, fd_law_tree, G_law_tree, M_law_tree, K_law_tree, B_law_tree⟩ := C_law_tree.ex
  obtain ⟨fa_read_tree, fd_read_tree, G_read_tree, M_read_tree, K_read_tree, B_read_tree⟩ := C_read_tree.ex
  obtain ⟨fa_show_tree, fd_show_tree, G_show_tree, M_show_tree, K_show_tree, B_show_tree⟩ := C_show_tree.ex
  refine F_.okX sc_law (fun vs H Q E h => ?_) (fun cdv A outer s H vs Q E hr h => ?_)
  · obtain ⟨F, _, _, rfl, _⟩ := h
    rfl
  · obtain ⟨F, a_script, x_script, rfl, P0, f_script, hk⟩ := h
    have nd := sc_law.nd
    have hu64 := hr.units
    have hu128 := hu128_of hr
    have O := P0.start
    refine ⟨_, (pss_cons (ps_toN (ps_set (i := 1) nd rfl (Or.inl rfl) (pe_call G_law_tree (hr.mono (by decide)) rfl M_law_tree K_law_tree B_law_tree .nil (passes_call (takes_of rfl rfl rfl rfl) fun _ _ _ _ h => h) (pa_cons (pv 0) (pa_cons pe_int pa_nil)))))
  (pss_cons (ps_toN (ps_set (i := 2) nd rfl (Or.inl rfl) (pe_call G_law_shown_tree (hr.mono (by decide)) rfl M_law_shown_tree K_law_shown_tree B_law_shown_tree .nil (passes_call (takes_of rfl rfl rfl rfl) fun _ _ _ _ h => h) (pa_cons (pv 1) (pa_cons pe_str pa_nil)))))
  (pss_cons (ps_toN (ps_set (i := 3) nd rfl (Or.inl rfl) (pe_tup (pa_cons (pe_callTy (listOfK (K := K) rfl) (by rfl) nb.b_list (by decide +kernel) (pa_cons (pe_ix (ixTupK (K := K) rfl) (pv 1) pe_int (fun _ _ => rfl)) pa_nil)) (pa_cons (pe_callTy (listOfK (K := K) rfl) (by rfl) nb.b_list (by decide +kernel) (pa_cons (pe_ix (ixTupK (K := K) rfl) (pv 1) pe_int (fun _ _ => rfl)) pa_nil)) pa_nil)))))
  (pss_cons (ps_toN (ps_set (i := 4) nd rfl (Or.inl rfl) (pe_call G_show_tree (hr.mono (by decide)) rfl M_show_tree K_show_tree B_show_tree .nil (passes_call (takes_of rfl rfl rfl rfl) fun _ _ _ _ h => h) (pa_cons (pv 3) pa_nil))))
  (pss_cons (ps_if (PW.pt (pw_or (pt_not (pt_val (pe_callB (isiK (K := K) rfl) (by rfl) nb.b_isinstance (by decide +kernel) (pa_cons (pv 4) (pa_cons (pe_bltn (v := .ty "str") (by rfl) nb.b_str (by decide +kernel) rfl) pa_nil))))) (pw_or (pt_cmpR (op_neT Str hu64) (pv 4) (pv 2) (nomark _)) (pw_or1 (pt_cmpR (op_neT ((List Int) × (List (T3 Int Int Int))) hu64) (pv 3) (pv 1) (nomark _)))))) (pss_one (ps_ret pe_bl)) pss_nil)
  (pss_cons (ps_toN (ps_set (i := 5) nd rfl (Or.inl rfl) (pe_call G_read_tree (hr.mono (by decide)) rfl M_read_tree K_read_tree B_read_tree .nil (passes_call (takes_of rfl rfl rfl rfl) fun _ _ _ _ h => h) (pa_cons (pv 2) pa_nil))))
  (pss_cons (ps_if (pt_not (pt_val (pe_call G_law_alike_4 (hr.mono (by decide)) rfl M_law_alike_4 K_law_alike_4 B_law_alike_4 .nil (passes_call (takes_of rfl rfl rfl rfl) fun _ _ _ _ h => h) (pa_cons (pv 5) (pa_cons (pv 1) pa_nil))))) (pss_one (ps_ret pe_bl)) pss_nil)
  (pss_cons (ps_expr (bmK (K := K) rfl (pe_bm PySem.F.plainAttrs_list PySem.F.slot_list_append PySem.F.type_list_append mt_append (pe_ix (ixTupK (K := K) rfl) (pv 5) pe_int (fun _ _ => rfl)) (pa_cons pe_int pa_nil))))
  (pss_cons (ps_expr (bm0K (K := K) rfl (pe_bm0 PySem.F.plainAttrs_list PySem.F.slot_list_clear PySem.F.type_list_clear mt_clear (pe_ix (ixTupK (K := K) rfl) (pv 5) pe_int (fun _ _ => rfl)))))
  (pss_one (ps_ret (pe_and (pe_call G_law_alike_4 (hr.mono (by decide)) rfl M_law_alike_4 K_law_alike_4 B_law_alike_4 .nil (passes_call (takes_of rfl rfl rfl rfl) fun _ _ _ _ h => h) (pa_cons (pe_call G_read_tree (hr.mono (by decide)) rfl M_read_tree K_read_tree B_read_tree .nil (passes_call (takes_of rfl rfl rfl rfl) fun _ _ _ _ h => h) (pa_cons (pv 2) pa_nil)) (pa_cons (pv 1) pa_nil))) (pe_one (pe_cmpR (op_eqT Str hu64) (pe_call G_show_tree (hr.mono (by decide)) rfl M_show_tree K_show_tree B_show_tree .nil (passes_call (takes_of rfl rfl rfl rfl) fun _ _ _ _ h => h) (pa_cons (pv 3) pa_nil)) (pv 2) (nomark _))))))))))))))), ?_⟩
    refine ⟨_, rfl, _, _, _, _, rfl, O.pre0, f_script, wp_call hk (fun r1 er2 hk F3 H4 g5 v6 r7 => ?_) (fun n hn C H1 hC kp => hn.elim)⟩
    have O8 := O.call0 g5
    have S_ := g5.f
    refine ⟨[some (V.ref a_script), some v6, none, none, none, none], rfl, _, rfl, _, _, _, _, rfl, O8.pre0, r7, wp_call hk (fun r9 er10 hk F11 H12 g13 => ?_) (fun n hn C H1 hC kp => hn.elim)⟩
    have O14 := O8.call0 g13
    have S_ := g13.f
    have r7 := r7.mono S_
    obtain ⟨p18, v21, v22, e19, h20, r23, r24⟩ := R.t2_ r7
    cases e19
    obtain ⟨p25, w26, e27, h28, hl29⟩ := R.lst_ r23
    cases e27
    refine ⟨[some (V.ref a_script), some (V.ref p18), some (V.str r9), none, none, none], rfl, _, rfl, _, _, _, _, rfl, rfl, (SqTF O14.s h20), rfl, _, _, rfl, (.inl (SqLF O14.s h28)), fun p30 hp31 => ?_⟩
    have hl33 : RL (a := Int) F11 w26 r1.1 := hl29
    have O32 := O14.new (o := .lst w26) hp31
    obtain ⟨p35, w36, e37, h38, hl39⟩ := R.lst_ r24
    cases e37
    refine ⟨_, rfl, _, _, _, _, rfl, rfl, (SqTF O32.s h20), rfl, _, _, rfl, (.inl (SqLF O32.s h38)), fun p40 hp41 => ?_⟩
    have hl43 : RL (a := (T3 Int Int Int)) F11 w36 r1.2 := hl39
    have O42 := O32.new (o := .lst w36) hp41
    refine ⟨(by show 2 ≤ sizeLine; decide), fun p45 hp46 => ?_⟩
    obtain ⟨F47, O48, S49, h50⟩ := O42.putE hp46 (.tup [V.ref p30, V.ref p40])
    have r7 := r7.mono S49
    have hl33 := hl33.mono S49
    have hl43 := hl43.mono S49
    have hi51 : ∀ b ∈ ([p30, p40] : List Addr), ∃ o, (b, o) ∈ ([(p40, .lst w36), (p30, .lst w26)] : List (Addr × HO)) := (inA_cons 1 rfl (inA_cons 0 rfl inA_nil))
    have S52 := O48.lendS hi51
    have h53 := R.lst (a := Int) ((lendF_at (by simp)).trans (O48.at 1 rfl) : lendF [p30, p40] F47 _ p30 = some (.lst w26)) (hl33.mono S52)
    have h54 := R.lst (a := (T3 Int Int Int)) ((lendF_at (by simp)).trans (O48.at 0 rfl) : lendF [p30, p40] F47 _ p40 = some (.lst w36)) (hl43.mono S52)
    refine ⟨[some (V.ref a_script), some (V.ref p18), some (V.str r9), some (V.ref p45), none, none], rfl, _, rfl, _, _, _, rfl, (O48.lendP hi51), (R.t2 (x := ((r1.1, r1.2) : ((List Int) × (List (T3 Int Int Int))))) (S52 _ _ h50) h53 h54), wp_call hk (fun r55 er56 hk F57 H58 g59 => ?_) (fun n hn C H1 hC kp => hn.elim)⟩
    have O60 := O48.borrow S52 g59
    refine ⟨[some (V.ref a_script), some (V.ref p18), some (V.str r9), some (V.ref p45), some (V.str r55), none], rfl, _, rfl, _, _, _, _, true, rfl, .ty _, (.base (.str _)), kit_ty (by decide +kernel), _, rfl, ?_⟩
    refine iteNT ?_
    refine ⟨_, rfl, _, rfl, _, _, R.str, R.str, _, rfl, ?_⟩
    refine iteD (fun q61 => ?_) (fun q61 => ?_)
    · have hk := wp_if hk q61
      refine iteT ?_
      exact hk _ _  O60.g 
    · have hk := wp_el hk q61
      refine ⟨_, rfl, _, rfl, _, _, (R.t2 (x := ((r1.1, r1.2) : ((List Int) × (List (T3 Int Int Int))))) (O60.s _ _ h50) (R.lst (a := Int) (O60.at 1 rfl) (hl33.mono O60.s)) (R.lst (a := (T3 Int Int Int)) (O60.at 0 rfl) (hl43.mono O60.s))), (R.mono r7 O60.s), _, rfl, ?_⟩
      refine iteD (fun q62 => ?_) (fun q62 => ?_)
      · have hk := wp_if hk q62
        exact hk _ _  O60.g 
      · have hk := wp_el hk q62
        refine ⟨_, rfl, _, _, rfl, O60.pre0, wp_call hk (fun r64 er65 hk F66 H67 g68 p69 p70 w71 p76 w77 hn72 hf73 h74 hl75 hn78 hf79 h80 hl81 hne82 h83 => ?_) (fun n hn C H1 hC kp => hn.elim)⟩
        have O84 := O60.call0 g68
        have S_ := g68.f
        have r7 := r7.mono S_
        have hl33 := hl33.mono S_
        have hl43 := hl43.mono S_
        have h50 := S_ _ _ h50
        have z86 := O60.was hn78
        have O85 := O84.add' (O60.fresh hn78) z86 hf79 h80
        have z89 := O60.was hn72
        have O88 := O85.add' (nmem2 hne82 (O60.fresh hn72)) z89 hf73 h74
        have hi91 : ∀ b ∈ ([p70, p76] : List Addr), ∃ o, (b, o) ∈ ([(p70, .lst w71), (p76, .lst w77), (p40, .lst w36), (p30, .lst w26)] : List (Addr × HO)) := (inA_cons 0 rfl (inA_cons 1 rfl inA_nil))
        have S92 := O88.lendS hi91
        have h93 := R.lst (a := Int) ((lendF_at (by simp)).trans (O88.at 0 rfl) : lendF [p70, p76] F66 _ p70 = some (.lst w71)) (hl75.mono S92)
        have h94 := R.lst (a := (T3 Int Int Int)) ((lendF_at (by simp)).trans (O88.at 1 rfl) : lendF [p70, p76] F66 _ p76 = some (.lst w77)) (hl81.mono S92)
        refine ⟨[some (V.ref a_script), some (V.ref p18), some (V.str r9), some (V.ref p45), some (V.str r55), some (V.ref p69)], rfl, _, rfl, _, rfl, _, _, _, _, _, rfl, (O88.lendP hi91), (R.t2 (x := ((r64.1, r64.2) : ((List Int) × (List (T3 Int Int Int))))) (S92 _ _ h83) h93 h94), (r7.mono S92), wp_call hk (fun r95 er96 hk F97 H98 g99 => ?_) (fun n hn C H1 hC kp => hn.elim)⟩
        have O100 := O88.borrow S92 g99
        refine ⟨_, rfl, ?_⟩
        refine iteBN (fun q101 => ?_) (fun q101 => ?_)
        · have hk := wp_if hk q101
          obtain ⟨c102, hk⟩ := wp_appL hk
          refine ⟨_, rfl, _, _, _, _, rfl, rfl, (SqTF O100.s h83), rfl, (.inl ⟨rfl, _, SqL.of (O100.at 0 rfl)⟩), _, _, _, rfl, rfl, (O100.at 0 rfl), (by rw [hl75.len]; exact c102), ?_⟩
          have O104 := O100.set 0 (.lst (w71 ++ [V.int (1 : Int)])) rfl
          refine ⟨_, rfl, _, _, _, _, rfl, rfl, (SqTF O104.s h83), rfl, (.inl ⟨rfl, _, SqL.of (O104.at 1 rfl)⟩), _, _, rfl, rfl, (O104.at 1 rfl), ?_⟩
          have O106 := O104.set 1 (.lst ([])) rfl
          refine ⟨_, rfl, _, _, rfl, O106.pre0, wp_call hk (fun r108 er109 hk F110 H111 g112 p113 p114 w115 p120 w121 hn116 hf117 h118 hl119 hn122 hf123 h124 hl125 hne126 h127 => ?_) (fun n hn C H1 hC kp => hn.elim)⟩
          have O128 := O106.call0 g112
          have S_ := g112.f
          have r7 := r7.mono S_
          have hl33 := hl33.mono S_
          have hl43 := hl43.mono S_
          have h50 := S_ _ _ h50
          have z130 := O106.was hn122
          have O129 := O128.add' (O106.fresh hn122) z130 hf123 h124
          have z133 := O106.was hn116
          have O132 := O129.add' (nmem2 hne126 (O106.fresh hn116)) z133 hf117 h118
          have hi135 : ∀ b ∈ ([p114, p120] : List Addr), ∃ o, (b, o) ∈ ([(p114, .lst w115), (p120, .lst w121), (p70, .lst (w71 ++ [V.int (1 : Int)])), (p76, .lst ([])), (p40, .lst w36), (p30, .lst w26)] : List (Addr × HO)) := (inA_cons 0 rfl (inA_cons 1 rfl inA_nil))
          have S136 := O132.lendS hi135
          have h137 := R.lst (a := Int) ((lendF_at (by simp)).trans (O132.at 0 rfl) : lendF [p114, p120] F110 _ p114 = some (.lst w115)) (hl119.mono S136)
          have h138 := R.lst (a := (T3 Int Int Int)) ((lendF_at (by simp)).trans (O132.at 1 rfl) : lendF [p114, p120] F110 _ p120 = some (.lst w121)) (hl125.mono S136)
          refine ⟨_, rfl, _, _, _, _, _, rfl, (O132.lendP hi135), (R.t2 (x := ((r108.1, r108.2) : ((List Int) × (List (T3 Int Int Int))))) (S136 _ _ h127) h137 h138), (r7.mono S136), wp_call hk (fun r139 er140 hk F141 H142 g143 => ?_) (fun n hn C H1 hC kp => hn.elim)⟩
          have O144 := O132.borrow S136 g143
          refine ⟨_, rfl, ?_⟩
          refine iteB (fun q145 => ?_) (fun q145 => ?_)
          · have hk := wp_if hk q145
            have hi146 : ∀ b ∈ ([p30, p40] : List Addr), ∃ o, (b, o) ∈ ([(p114, .lst w115), (p120, .lst w121), (p70, .lst (w71 ++ [V.int (1 : Int)])), (p76, .lst ([])), (p40, .lst w36), (p30, .lst w26)] : List (Addr × HO)) := (inA_cons 5 rfl (inA_cons 4 rfl inA_nil))
            have S147 := O144.lendS hi146
            have h148 := R.lst (a := Int) ((lendF_at (by simp)).trans (O144.at 5 rfl) : lendF [p30, p40] F110 _ p30 = some (.lst w26)) (hl33.mono S147)
            have h149 := R.lst (a := (T3 Int Int Int)) ((lendF_at (by simp)).trans (O144.at 4 rfl) : lendF [p30, p40] F110 _ p40 = some (.lst w36)) (hl43.mono S147)
            refine ⟨_, rfl, _, _, _, rfl, (O144.lendP hi146), (R.t2 (x := ((r1.1, r1.2) : ((List Int) × (List (T3 Int Int Int))))) (S147 _ _ h50) h148 h149), wp_call hk (fun r150 er151 hk F152 H153 g154 => ?_) (fun n hn C H1 hC kp => hn.elim)⟩
            have O155 := O144.borrow S147 g154
            refine ⟨_, rfl, _, _, R.str, R.str, ?_⟩
            exact hk _ _  O155.g 
          · have hk := wp_el hk q145
            exact hk _ _  O144.g 
        · have hk := wp_el hk q101
          exact hk _ _  O100.g 
end
set_option maxHeartbeats 2000000
def m_lengths_of (x_tree : ((List Int) × (List (T3 Int Int Int)))) : M ((List ((Int × Int) × Int))) :=
loopN (fun (y19 : (T3 Int Int Int)) (st30 : (List ((Int × Int) × Int))) =>
putD st30 ((y19.a, y19.b).1, (y19.a, y19.b).2) y19.c >>= fun z64 =>
putD z64 ((y19.b, y19.a).1, (y19.b, y19.a).2) y19.c >>= fun z82 =>
.ok z82) x_tree.2 ([] : (List ((Int × Int) × Int))) >>= fun st88 =>
.ok st88
def m_need_place (x_tree : ((List Int) × (List (T3 Int Int Int)))) (x_place : Int) : M (Unit) :=
if (0 : Int) ≤ x_place then (
if x_place < (x_tree.1.length : Int) then (
.ok ())
else (
raise "NoPlace"))
else (
raise "NoPlace")
def m_tied_to (x_tree : List Int × List (T3 Int Int Int)) (x_place : Int) : M (List Int) :=
  m_need_place x_tree x_place >>= fun _ =>
  m_tied_places (x_tree.1.length : Int) x_tree.2 >>= fun r =>
  opt (atI r x_place) >>= fun y =>
  .ok y
/-! ### cells, digits, numbers -/
theorem rangeL_mem {lo hi x : Int} : x ∈ rangeL lo hi ↔ lo ≤ x ∧ x < hi := rangeL_mem'
theorem rangeL_nodup (lo hi : Int) : (rangeL lo hi).Nodup := by
  unfold rangeL
  rw [List.nodup_iff_pairwise_ne, List.pairwise_map]
  exact List.nodup_range.imp fun h e => h (by omega)
theorem mulx_l {i j : Int} (h : -(2 ^ 64) < i) (h2 : i < 2 ^ 64) : CMulX i j := .inl (.inl ⟨h, h2⟩)
theorem mulx_r {i j : Int} (h : -(2 ^ 64) < j) (h2 : j < 2 ^ 64) : CMulX i j := .inl (.inr ⟨h, h2⟩)
theorem cell_ok (s : List Int) (k : Int) (k0 : 0 ≤ k) : ∃ c, m_law_cell_at s k = .ok c := by
  unfold m_law_cell_at
  by_cases h : k < (s.length : Int)
  · rw [if_pos h]
    obtain ⟨x, e, _⟩ := atI_some (xs := s) (j := k) k0 h
    rw [opt_b e]
    exact ⟨x, rfl⟩
  · rw [if_neg h]
    exact ⟨0, rfl⟩
theorem digits_ok (c m top : Int) (m0 : 0 ≤ m) (m1 : m ≤ 1000) (t0 : 0 < top) (t1 : top ≤ 10 ^ 40) : ∃ xs, m_law_digits c m top = .ok xs ∧ (xs.length : Int) = m ∧ ∀ x ∈ xs, 0 ≤ x ∧ x < top := by
  unfold m_law_digits
  rw [chk_b (show okR m from ⟨by omega, by omega⟩)]
  obtain ⟨st, e, h1, h2⟩ := loopN_run (f := fun (y7 : Int) (st19 : Int × (List Int)) =>
    chk (CMulX (977 : Int) y7) >>= fun _ =>
    chk (CMulX ((c + ((977 : Int) * y7)) + (1 : Int)) (48271 : Int)) >>= fun _ =>
    chk (0 < (2147483647 : Int)) >>= fun _ =>
    chk (CMulX ((((c + ((977 : Int) * y7)) + (1 : Int)) * (48271 : Int)) % (2147483647 : Int)) ((((c + ((977 : Int) * y7)) + (1 : Int)) * (48271 : Int)) % (2147483647 : Int))) >>= fun _ =>
    chk (0 < (2147483629 : Int)) >>= fun _ =>
    ret ((((((c + ((977 : Int) * y7)) + (1 : Int)) * (48271 : Int)) % (2147483647 : Int)) * ((((c + ((977 : Int) * y7)) + (1 : Int)) * (48271 : Int)) % (2147483647 : Int))) % (2147483629 : Int)) >>= fun n31 =>
    chk (CMulX (40692 : Int) (y7 + (3 : Int))) >>= fun _ =>
    chk (CMulX (n31 + ((40692 : Int) * (y7 + (3 : Int)))) (69621 : Int)) >>= fun _ =>
    chk (0 < (2147483423 : Int)) >>= fun _ =>
    chk (CDivW (((n31 + ((40692 : Int) * (y7 + (3 : Int)))) * (69621 : Int)) % (2147483423 : Int)) (8 : Int)) >>= fun _ =>
    ret ((((n31 + ((40692 : Int) * (y7 + (3 : Int)))) * (69621 : Int)) % (2147483423 : Int)) / (8 : Int)) >>= fun n37 =>
    if ((10 : Int) ^ Int.toNat (18 : Int)) ≤ c then (
    chk (0 < top) >>= fun _ =>
    appL st19.2 (st19.1 % top) >>= fun _ =>
    chk (CDivW st19.1 top) >>= fun _ =>
    (.ok ((st19.1 / top), (st19.2 ++ [(st19.1 % top)])) : M _))
    else (
    chk (0 < top) >>= fun _ =>
    appL st19.2 (n37 % top) >>= fun _ =>
    chk (CDivW st19.1 top) >>= fun _ =>
    .ok ((st19.1 / top), (st19.2 ++ [(n37 % top)])))) (all := rangeL 0 m) (x := (c, ([] : List Int))) (fun pre st => st.2.length = pre.length ∧ ∀ x ∈ st.2, 0 ≤ x ∧ x < top) ⟨rfl, fun _ z => nomatch z⟩ fun pre y post ⟨r, xs⟩ ea ⟨g1, g2⟩ => by
      have g1 : xs.length = pre.length := g1
      have g2 : ∀ x ∈ xs, 0 ≤ x ∧ x < top := g2
      have hpl : pre.length < (rangeL 0 m).length := by rw [ea]; simp
      rw [rangeL_length] at hpl
      rw [chk_b (mulx_l (by decide) (by decide)), chk_b (mulx_r (by decide) (by decide)), chk_b (by decide)]
      have b0 := Int.emod_nonneg ((c + 977 * y + 1) * 48271) (show (2147483647 : Int) ≠ 0 by decide)
      have b1 := Int.emod_lt_of_pos ((c + 977 * y + 1) * 48271) (show (0 : Int) < 2147483647 by decide)
      rw [chk_b (mulx_l (by omega) (by omega)), chk_b (by decide), ret_b, chk_b (mulx_l (by decide) (by decide)), chk_b (mulx_r (by decide) (by decide)), chk_b (by decide), chk_b (cdivW (by decide) (by decide)), ret_b]
      have both : ∀ z : Int, ∃ x', (chk (0 < top) >>= fun _ => appL xs (z % top) >>= fun _ => chk (CDivW r top) >>= fun _ => (.ok ((r / top), (xs ++ [z % top])) : M (Int × List Int))) = .ok x' ∧ x'.2.length = (pre ++ [y]).length ∧ ∀ x ∈ x'.2, 0 ≤ x ∧ x < top := fun z => by
        refine ⟨(r / top, xs ++ [z % top]), by rw [chk_b t0, bind_ok (appL_ok (by omega)), chk_b (cdivW t0 t1)], by show (xs ++ [z % top]).length = _; rw [List.length_append, List.length_append, g1]; rfl, fun x hx => ?_⟩
        rcases List.mem_append.mp hx with hx | hx
        · exact g2 x hx
        · rw [List.mem_singleton.mp hx]
          exact ⟨Int.emod_nonneg _ (by omega), Int.emod_lt_of_pos _ t0⟩
      by_cases hc : ((10 : Int) ^ Int.toNat (18 : Int)) ≤ c
      · rw [if_pos hc]; exact both r
      · rw [if_neg hc]; exact both _
  rw [rangeL_length] at h1
  exact ⟨st.2, bind_ok e _, by omega, h2⟩
theorem number_ok (x : Int) (x0 : 0 ≤ x) (x1 : x < 10 ^ 9) : ∃ y, m_law_number x = .ok y ∧ y.natAbs < 2 ^ 99 := by
  have e9 : (10 : Int) ^ 9 = 1000000000 := by decide
  have e29 : (10 : Int) ^ Int.toNat (29 : Int) = 100000000000000000000000000000 := by decide
  unfold m_law_number
  rw [chk_b (show CPow x 4 from ⟨by decide, by decide, by omega⟩), e29, chk_b (cmulW (by decide +kernel) (by decide +kernel)), chk_b (by decide), ret_b]
  rw [chk_b (cdivW (by decide) (by decide)), chk_b (by decide), chk_b (cdivW (by decide) (by decide)), chk_b (by decide), chk_b (cdivW (by decide) (by decide)), chk_b (by decide), chk_b (cdivW (by decide) (by decide)), chk_b (by decide), chk_b (by decide)]
  obtain ⟨g, hg⟩ : ∃ g : Int, g = x ^ Int.toNat 4 % (2 * 100000000000000000000000000000) - 100000000000000000000000000000 := ⟨_, rfl⟩
  have g0 := Int.emod_nonneg (x ^ Int.toNat 4) (show (2 * 100000000000000000000000000000 : Int) ≠ 0 by decide)
  have g1 := Int.emod_lt_of_pos (x ^ Int.toNat 4) (show (0 : Int) < 2 * 100000000000000000000000000000 by decide)
  have hgb : g.natAbs < 2 ^ 99 := Nat.lt_of_le_of_lt (m := 100000000000000000000000000000) (by omega) (by decide)
  rw [← hg]
  obtain ⟨y, e1, e2⟩ := atI_some (xs := [(x / 5) % 7 - 3, (x / 5) % 2001 - 1000, (x / 5) % 13, (x / 5) % 6, g]) (j := x % 5) (by omega) (by show x % 5 < ((5 : Nat) : Int); omega)
  rw [opt_b e1]
  refine ⟨y, rfl, ?_⟩
  have hm := List.mem_of_getElem? e2
  simp only [List.mem_cons, List.not_mem_nil, or_false] at hm
  rcases hm with e | e | e | e | e
  · exact Nat.lt_of_le_of_lt (m := 10000) (by omega) (by decide)
  · exact Nat.lt_of_le_of_lt (m := 10000) (by omega) (by decide)
  · exact Nat.lt_of_le_of_lt (m := 10000) (by omega) (by decide)
  · exact Nat.lt_of_le_of_lt (m := 10000) (by omega) (by decide)
  · rw [e]; exact hgb
/-! ### the drawn tree -/
theorem insL_perm {a : Type} (xs : List a) (i : Int) (y : a) : (insL xs i y).Perm (xs ++ [y]) := by
  unfold insL
  have h := List.take_append_drop i.toNat xs
  have h2 : (xs.take i.toNat ++ ([y] ++ xs.drop i.toNat)).Perm (xs.take i.toNat ++ (xs.drop i.toNat ++ [y])) := List.Perm.append_left _ List.perm_append_comm
  have e : xs.take i.toNat ++ (xs.drop i.toNat ++ [y]) = xs ++ [y] := by rw [← List.append_assoc, h]
  rw [e] at h2
  rw [List.append_assoc]
  exact h2
def treeRest (x_script : List Int) (c1 m : Int) : M Tr :=
  m_law_digits c1 (m - ((cutL x_script (some (3 : Int)) (some ((3 : Int) + m))).length : Int)) ((10 : Int) ^ Int.toNat (12 : Int)) >>= fun r388 =>
  chk ((cutL x_script (some (3 : Int)) (some ((3 : Int) + m))).length + r388.length < 16777216) >>= fun _ =>
  chk (okR m) >>= fun _ =>
  loopN (fun (y432 : Int) (st444 : (List Int)) =>
  opt (L2.atI ((cutL x_script (some (3 : Int)) (some ((3 : Int) + m))) ++ r388) y432) >>= fun y455 =>
  m_law_digits y455 (1 : Int) (720720 : Int) >>= fun r460 =>
  opt (L2.atI r460 (0 : Int)) >>= fun y484 =>
  chk (0 < ((st444.length : Int) + (1 : Int))) >>= fun _ =>
  chk (CIns st444.length (y484 % ((st444.length : Int) + (1 : Int)))) >>= fun _ =>
  .ok (insL st444 (y484 % ((st444.length : Int) + (1 : Int))) y432)) (rangeL 0 m) ([] : List Int) >>= fun st496 =>
  chk (CRep ([(0 : Int)]).length m) >>= fun _ =>
  chk (okR m) >>= fun _ =>
  loopN (fun (y529 : Int) (st541 : (List Int) × (List (T3 Int Int Int))) =>
  opt (L2.atI ((cutL x_script (some (3 : Int)) (some ((3 : Int) + m))) ++ r388) y529) >>= fun y556 =>
  m_law_digits y556 (4 : Int) ((10 : Int) ^ Int.toNat (9 : Int)) >>= fun r561 =>
  opt (L2.atI r561 (1 : Int)) >>= fun y585 =>
  m_law_number y585 >>= fun r590 =>
  opt (L2.atI st496 y529) >>= fun y596 =>
  setI st541.1 y596 r590 >>= fun z603 =>
  if (0 : Int) < y529 then (
  opt (L2.atI r561 (2 : Int)) >>= fun y612 =>
  opt (L2.atI r561 (2 : Int)) >>= fun y630 =>
  chk (CDivW y630 (40 : Int)) >>= fun _ =>
  chk (0 < (3 : Int)) >>= fun _ =>
  opt (L2.atI ([y529, (if (2 : Int) < y529 then (2 : Int) else y529), (if (5 : Int) < y529 then (5 : Int) else y529)]) ((y630 / (40 : Int)) % (3 : Int))) >>= fun y642 =>
  chk (0 < y642) >>= fun _ =>
  opt (L2.atI st496 ((y529 - (1 : Int)) - (y612 % y642))) >>= fun y648 =>
  opt (L2.atI st496 y529) >>= fun y653 =>
  opt (L2.atI st496 y529) >>= fun y658 =>
  opt (L2.atI r561 (3 : Int)) >>= fun y668 =>
  m_law_number y668 >>= fun r673 =>
  appL st541.2 (T3.mk (if y653 < y648 then y653 else y648) (if y658 > y648 then y658 else y648) r673) >>= fun _ =>
  .ok (z603, (st541.2 ++ [(T3.mk (if y653 < y648 then y653 else y648) (if y658 > y648 then y658 else y648) r673)])))
  else (
  .ok (z603, st541.2))) (rangeL 0 m) ((repL m ([(0 : Int)])), ([] : List (T3 Int Int Int))) >>= fun st693 =>
  .ok (st693.1, (sortT st693.2))
theorem rep0 (m : Int) : repL m [(0 : Int)] = List.replicate m.toNat 0 := by
  unfold repL
  induction m.toNat with
  | zero => rfl
  | succ n ih => rw [List.replicate_succ, List.flatten_cons, ih]; rfl
theorem cut3_len (s : List Int) (m : Int) (h : 0 ≤ m) : ((cutL s (some (3 : Int)) (some ((3 : Int) + m))).length : Int) ≤ m := by
  unfold cutL
  rw [List.length_take, List.length_drop]
  have e1 : HT.sIx s.length 0 (some (3 : Int)) = min 3 s.length := by
    show (if (3 : Int) < 0 then ((3 : Int) + (s.length : Int)).toNat else min (3 : Int).toNat s.length) = _
    rw [if_neg (by decide)]
    rfl
  have e2 : HT.sIx s.length s.length (some ((3 : Int) + m)) = min (3 + m).toNat s.length := by
    show (if (3 : Int) + m < 0 then ((3 : Int) + m + (s.length : Int)).toNat else min ((3 : Int) + m).toNat s.length) = _
    rw [if_neg (by omega)]
  rw [e1, e2]
  omega
theorem at_in {xs : List Int} {k : Int} (k0 : 0 ≤ k) (k1 : k < (xs.length : Int)) : ∃ x, L2.atI xs k = some x ∧ x ∈ xs ∧ xs[k.toNat]? = some x := by
  obtain ⟨x, h1, h2⟩ := atI_some (xs := xs) (j := k) k0 k1
  exact ⟨x, h1, List.mem_of_getElem? h2, h2⟩
theorem range_pre {m : Int} {pre post : List Int} {y : Int} (ea : rangeL 0 m = pre ++ y :: post) : (pre.length : Int) = y ∧ 0 ≤ y ∧ y < m := by
  have h1 : (rangeL 0 m)[pre.length]? = some y := by rw [ea, List.getElem?_append_right (Nat.le_refl _), Nat.sub_self]; rfl
  have hlt := (List.getElem?_eq_some_iff.mp h1).1
  rw [rangeL_length] at hlt
  unfold rangeL at h1
  rw [List.getElem?_map, List.getElem?_range (by omega)] at h1
  have : (0 : Int) + (pre.length : Int) = y := Option.some.inj h1
  omega
theorem treeRest_ok (s : List Int) (c1 m : Int) (m1 : 1 ≤ m) (m2 : m ≤ 100) : ∃ t, treeRest s c1 m = .ok t ∧ TreeOk t ∧ (t.1.length : Int) = m ∧ (∀ x ∈ t.1, x.natAbs < 2 ^ 99) ∧ ∀ z ∈ t.2, z.c.natAbs < 2 ^ 99 := by
  have hcut := cut3_len s m (by omega)
  unfold treeRest
  obtain ⟨r, e1, l1, _⟩ := digits_ok c1 (m - ((cutL s (some (3 : Int)) (some ((3 : Int) + m))).length : Int)) ((10 : Int) ^ Int.toNat (12 : Int)) (by omega) (by omega) (by decide) (by decide)
  rw [bind_ok e1, chk_b (by omega), chk_b (show okR m from ⟨by omega, by omega⟩)]
  obtain ⟨L, hL⟩ : ∃ L, L = cutL s (some (3 : Int)) (some ((3 : Int) + m)) ++ r := ⟨_, rfl⟩
  have lL : (L.length : Int) = m := by rw [hL, List.length_append]; omega
  rw [← hL]
  -- the order
  obtain ⟨o, e2, hp⟩ := loopN_run (f := fun (y432 : Int) (st444 : (List Int)) =>
    opt (L2.atI L y432) >>= fun y455 =>
    m_law_digits y455 (1 : Int) (720720 : Int) >>= fun r460 =>
    opt (L2.atI r460 (0 : Int)) >>= fun y484 =>
    chk (0 < ((st444.length : Int) + (1 : Int))) >>= fun _ =>
    chk (CIns st444.length (y484 % ((st444.length : Int) + (1 : Int)))) >>= fun _ =>
    (.ok (insL st444 (y484 % ((st444.length : Int) + (1 : Int))) y432) : M _)) (all := rangeL 0 m) (x := ([] : List Int)) (fun pre st => st.Perm pre) (List.Perm.refl _) fun pre y post st ea g => by
      obtain ⟨hpl, y0, y1⟩ := range_pre ea
      have hl := g.length_eq
      obtain ⟨c, a1, _⟩ := at_in (xs := L) y0 (by omega)
      obtain ⟨d, b1, b2, b3⟩ := digits_ok c 1 720720 (by decide) (by decide) (by decide) (by decide)
      obtain ⟨x, x1, _⟩ := at_in (xs := d) (k := 0) (by decide) (by omega)
      have z0 := Int.emod_nonneg x (show (st.length : Int) + 1 ≠ 0 by omega)
      have z1 := Int.emod_lt_of_pos x (show (0 : Int) < (st.length : Int) + 1 by omega)
      refine ⟨_, by rw [opt_b a1, bind_ok b1, opt_b x1, chk_b (by omega), chk_b (show CIns st.length (x % ((st.length : Int) + 1)) from ⟨by omega, z0, by omega⟩)], ?_⟩
      exact (insL_perm _ _ _).trans (g.append_right _)
  rw [bind_ok e2, chk_b (show CRep ([(0 : Int)]).length m from ⟨by omega, by omega, by show 1 * _ < _; omega⟩), chk_b (show okR m from ⟨by omega, by omega⟩)]
  have ol := hp.length_eq
  rw [rangeL_length] at ol
  have ond : o.Nodup := hp.nodup_iff.mpr (rangeL_nodup _ _)
  have org : ∀ x ∈ o, 0 ≤ x ∧ x < m := fun x hx => rangeL_mem.mp (hp.mem_iff.mp hx)
  obtain ⟨⟨ws, ts⟩, e3, h1, h2, h3, h4⟩ := loopN_run (f := fun (y529 : Int) (st541 : (List Int) × (List (T3 Int Int Int))) =>
    opt (L2.atI L y529) >>= fun y556 =>
    m_law_digits y556 (4 : Int) ((10 : Int) ^ Int.toNat (9 : Int)) >>= fun r561 =>
    opt (L2.atI r561 (1 : Int)) >>= fun y585 =>
    m_law_number y585 >>= fun r590 =>
    opt (L2.atI o y529) >>= fun y596 =>
    setI st541.1 y596 r590 >>= fun z603 =>
    if (0 : Int) < y529 then (
    opt (L2.atI r561 (2 : Int)) >>= fun y612 =>
    opt (L2.atI r561 (2 : Int)) >>= fun y630 =>
    chk (CDivW y630 (40 : Int)) >>= fun _ =>
    chk (0 < (3 : Int)) >>= fun _ =>
    opt (L2.atI ([y529, (if (2 : Int) < y529 then (2 : Int) else y529), (if (5 : Int) < y529 then (5 : Int) else y529)]) ((y630 / (40 : Int)) % (3 : Int))) >>= fun y642 =>
    chk (0 < y642) >>= fun _ =>
    opt (L2.atI o ((y529 - (1 : Int)) - (y612 % y642))) >>= fun y648 =>
    opt (L2.atI o y529) >>= fun y653 =>
    opt (L2.atI o y529) >>= fun y658 =>
    opt (L2.atI r561 (3 : Int)) >>= fun y668 =>
    m_law_number y668 >>= fun r673 =>
    appL st541.2 (T3.mk (if y653 < y648 then y653 else y648) (if y658 > y648 then y658 else y648) r673) >>= fun _ =>
    .ok (z603, (st541.2 ++ [(T3.mk (if y653 < y648 then y653 else y648) (if y658 > y648 then y658 else y648) r673)])))
    else (
    (.ok (z603, st541.2) : M _))) (all := rangeL 0 m) (x := ((repL m ([(0 : Int)])), ([] : List (T3 Int Int Int))))
    (fun pre st => (st.1.length : Int) = m ∧ (∀ x ∈ st.1, x.natAbs < 2 ^ 99) ∧ (∀ z ∈ st.2, z.c.natAbs < 2 ^ 99) ∧ (pre = [] ∧ st.2 = [] ∨ Grown (o.take pre.length) st.2))
    ⟨by rw [rep0, List.length_replicate]; omega, fun x hx => by rw [rep0] at hx; rw [(List.mem_replicate.mp hx).2]; decide, (fun _ z => nomatch z), .inl ⟨rfl, rfl⟩⟩ fun pre y post ⟨ws, ts⟩ ea ⟨g1, g2, g3, g4⟩ => by
      have g1 : (ws.length : Int) = m := g1
      have g2 : ∀ x ∈ ws, x.natAbs < 2 ^ 99 := g2
      have g3 : ∀ z ∈ ts, z.c.natAbs < 2 ^ 99 := g3
      have g4 : pre = [] ∧ ts = [] ∨ Grown (o.take pre.length) ts := g4
      obtain ⟨hpl, y0, y1⟩ := range_pre ea
      obtain ⟨c, a1, _⟩ := at_in (xs := L) y0 (by omega)
      obtain ⟨d, b1, b2, b3⟩ := digits_ok c 4 ((10 : Int) ^ Int.toNat (9 : Int)) (by decide) (by decide) (by decide) (by decide)
      obtain ⟨x1, u1, v1, _⟩ := at_in (xs := d) (k := 1) (by decide) (by omega)
      obtain ⟨x2, u2, v2, _⟩ := at_in (xs := d) (k := 2) (by decide) (by omega)
      obtain ⟨x3, u3, v3, _⟩ := at_in (xs := d) (k := 3) (by decide) (by omega)
      obtain ⟨n1, q1, r1⟩ := number_ok x1 (b3 x1 v1).1 (b3 x1 v1).2
      obtain ⟨n3, q3, r3⟩ := number_ok x3 (b3 x3 v3).1 (b3 x3 v3).2
      obtain ⟨ok, p1, p2, p3⟩ := at_in (xs := o) y0 (by omega)
      have hok := org ok p2
      have es := setI_ok (xs := ws) (j := ok) (y := n1) hok.1 (by omega)
      have w1 : ((ws.set ok.toNat n1).length : Int) = m := by rw [List.length_set]; exact g1
      have w2 : ∀ x ∈ ws.set ok.toNat n1, x.natAbs < 2 ^ 99 := fun x hx => by
        rcases List.mem_or_eq_of_mem_set hx with hx | hx
        · exact g2 x hx
        · rw [hx]; exact r1
      have tk : o.take (pre ++ [y]).length = o.take pre.length ++ [ok] := by
        rw [List.length_append, List.length_singleton, List.take_succ, show pre.length = y.toNat by omega, p3]
        rfl
      show ∃ x', (opt (L2.atI L y) >>= _) = _ ∧ _
      rw [opt_b a1, bind_ok b1, opt_b u1, bind_ok q1, opt_b p1, bind_ok es]
      by_cases hy : 0 < y
      · rw [if_pos hy]
        have hpne : pre ≠ [] := fun e => by rw [e] at hpl; simp at hpl; omega
        have gr : Grown (o.take pre.length) ts := by
          rcases g4 with ⟨e, _⟩ | g
          · exact (hpne e).elim
          · exact g
        obtain ⟨q, k1, k2⟩ := atI_some (xs := [y, (if (2 : Int) < y then (2 : Int) else y), (if (5 : Int) < y then (5 : Int) else y)]) (j := (x2 / 40) % 3) (by omega) (by show (x2 / 40) % 3 < ((3 : Nat) : Int); omega)
        have hq : 1 ≤ q ∧ q ≤ y := by
          have hm := List.mem_of_getElem? k2
          simp only [List.mem_cons, List.not_mem_nil, or_false] at hm
          rcases hm with e | e | e
          · omega
          · by_cases c : (2 : Int) < y
            · rw [if_pos c] at e; omega
            · rw [if_neg c] at e; omega
          · by_cases c : (5 : Int) < y
            · rw [if_pos c] at e; omega
            · rw [if_neg c] at e; omega
        have f0 := Int.emod_nonneg x2 (show q ≠ 0 by omega)
        have f1 := Int.emod_lt_of_pos x2 (show (0 : Int) < q by omega)
        obtain ⟨to, s1, s2, s3⟩ := at_in (xs := o) (k := y - 1 - x2 % q) (by omega) (by omega)
        have hto : to ∈ o.take pre.length := by
          refine List.mem_of_getElem? (i := (y - 1 - x2 % q).toNat) ?_
          rw [List.getElem?_take, if_pos (by omega)]
          exact s3
        have hnt : ok ∉ o.take pre.length := fun hm => by
          obtain ⟨i, hi⟩ := List.mem_iff_getElem?.mp hm
          rw [List.getElem?_take] at hi
          by_cases c : i < pre.length
          · rw [if_pos c] at hi
            have := nd_ix ond hi p3
            omega
          · rw [if_neg c] at hi; exact nomatch hi
        have gm := Grown.more to ok n3 gr hto hnt
        have et : (T3.mk (if ok < to then ok else to) (if ok > to then ok else to) n3 : Tie) = tieOf ok to n3 := by
          have hne : ok ≠ to := fun e => hnt (e ▸ hto)
          unfold tieOf
          by_cases c : ok ≤ to
          · rw [if_pos c, if_pos (by omega), if_neg (by omega)]
          · rw [if_neg c, if_neg (by omega), if_pos (by omega)]
        have glen := gr.len
        rw [List.length_take] at glen
        refine ⟨(ws.set ok.toNat n1, ts ++ [tieOf ok to n3]), ?_, w1, w2, fun z hz => ?_, .inr ?_⟩
        · rw [opt_b u2, opt_b u2, chk_b (cdivW (by decide) (by decide)), chk_b (by decide), opt_b k1, chk_b (by omega), opt_b s1, opt_b p1, opt_b p1, opt_b u3, bind_ok q3, et, bind_ok (appL_ok (show ts.length < 16777216 by omega))]
        · rcases List.mem_append.mp hz with hz | hz
          · exact g3 z hz
          · rw [List.mem_singleton.mp hz, (tieOf_lt (fun e => hnt (by rw [e]; exact hto))).2.2]; exact r3
        · rw [tk]; exact gm
      · rw [if_neg hy]
        have hpe : pre = [] := List.length_eq_zero_iff.mp (by omega)
        refine ⟨(ws.set ok.toNat n1, ts), rfl, w1, w2, g3, .inr ?_⟩
        have hts : ts = [] := by
          rcases g4 with ⟨_, e⟩ | g
          · exact e
          · have := g.len
            rw [hpe] at this
            simp at this
        rw [tk, hts, hpe]
        exact Grown.one ok
  refine ⟨(ws, sortT ts), (bind_ok e3 _).trans rfl, ⟨o, ts, ?_, ?_, rfl⟩, h1, h2, fun z hz => h3 z (sortT_mem.mp hz)⟩
  · rcases h4 with ⟨e, _⟩ | g
    · have : (rangeL 0 m).length = 0 := by rw [e]; rfl
      rw [rangeL_length] at this
      omega
    · rw [rangeL_length, List.take_of_length_le (by omega)] at g
      exact g
  · have h1 : (ws.length : Int) = m := h1
    show o.Perm (rangeL 0 (ws.length : Int))
    rw [h1]
    exact hp
theorem tree_ok (s : List Int) (most : Int) (h1 : 1 ≤ most) (h2 : most ≤ 40) : ∃ t, m_law_tree s most = .ok t ∧ TreeOk t ∧ t.1.length ≤ 40 ∧ (∀ x ∈ t.1, x.natAbs < 2 ^ 99) ∧ ∀ z ∈ t.2, z.c.natAbs < 2 ^ 99 := by
  obtain ⟨c0, e0⟩ := cell_ok s 0 (by decide)
  obtain ⟨c1, e1⟩ := cell_ok s 1 (by decide)
  have fin : ∀ m : Int, 1 ≤ m → m ≤ 40 → ∃ t, (m_law_cell_at s 1 >>= fun r => treeRest s r m) = .ok t ∧ TreeOk t ∧ t.1.length ≤ 40 ∧ (∀ x ∈ t.1, x.natAbs < 2 ^ 99) ∧ ∀ z ∈ t.2, z.c.natAbs < 2 ^ 99 := fun m m1 m2 => by
    obtain ⟨t, h1, h2, h3, h4⟩ := treeRest_ok s c1 m m1 (by omega)
    exact ⟨t, by rw [bind_ok e1]; exact h1, h2, by omega, h4⟩
  unfold m_law_tree
  rw [bind_ok e0, chk_b (by omega), chk_b (cdivW (by omega) (by have : (10 : Int) ^ 40 = 10000000000000000000000000000000000000000 := by decide
                                                                omega)), chk_b (by decide)]
  have k40 : (10 : Int) ^ 40 = 10000000000000000000000000000000000000000 := by decide
  by_cases c : (c0 / most) % 16 = 5
  · rw [if_pos c, chk_b (cdivW (by omega) (by omega)), chk_b (cdivW (by decide) (by decide)), chk_b (by decide)]
    exact fin _ (by omega) (by omega)
  · rw [if_neg c]
    have := Int.emod_nonneg c0 (show most ≠ 0 by omega)
    have := Int.emod_lt_of_pos c0 (show 0 < most by omega)
    exact fin _ (by omega) (by omega)

/-! ### runs, what follows told of -/
theorem loopN_runB {i s b : Type} {f : i → s → M s} {all : List i} {x : s} {k : s → M b} {Q : b → Prop} (P : List i → s → Prop) (h : P [] x) (hs : ∀ pre y post x, all = pre ++ y :: post → P pre x → ∃ x', f y x = .ok x' ∧ P (pre ++ [y]) x') (hk : ∀ x', P all x' → ∃ r, k x' = .ok r ∧ Q r) : ∃ r, (loopN f all x >>= k) = .ok r ∧ Q r := by
  obtain ⟨st, e, g⟩ := loopN_run P h hs
  obtain ⟨r, e2, q⟩ := hk st g
  exact ⟨r, by rw [bind_ok e]; exact e2, q⟩
theorem compS_runB {i s b c : Type} {f : i → s → M (Option c × s)} {all : List i} {x : s} {k : List c × s → M b} {Q : b → Prop} (hl : all.length < 16777216) (P : List i → List c → s → Prop) (h : P [] [] x)
    (hs : ∀ pre y post acc x, all = pre ++ y :: post → P pre acc x → ∃ o x', f y x = .ok (o, x') ∧ P (pre ++ [y]) (match o with
      | some z => acc ++ [z]
      | none => acc) x') (hk : ∀ acc x', P all acc x' → ∃ r, k (acc, x') = .ok r ∧ Q r) : ∃ r, (compS f all x >>= k) = .ok r ∧ Q r := by
  obtain ⟨acc, st, e, g⟩ := compS_run hl P h hs
  obtain ⟨r, e2, q⟩ := hk acc st g
  exact ⟨r, by rw [bind_ok e]; exact e2, q⟩
theorem compS_pureB {i b c : Type} {f : i → Unit → M (Option c × Unit)} {all : List i} {k : List c × Unit → M b} {R : M b} (g : i → Option c) (hl : all.length < 16777216) (hs : ∀ y ∈ all, f y () = .ok (g y, ())) (hk : k (all.filterMap g, ()) = R) : (compS f all () >>= k) = R := by
  rw [bind_ok (compS_pure g hl hs)]
  exact hk
theorem compS_mapB {i b c : Type} {f : i → Unit → M (Option c × Unit)} {all : List i} {k : List c × Unit → M b} {R : M b} (g : i → c) (hl : all.length < 16777216) (hs : ∀ y ∈ all, f y () = .ok (some (g y), ())) (hk : k (all.map g, ()) = R) : (compS f all () >>= k) = R := by
  rw [bind_ok (compS_pure (fun y => some (g y)) hl hs), List.filterMap_eq_map']
  exact hk
theorem loopM_allB {i r b : Type} {f : i → Unit → M (Fl Unit r)} {all : List i} {k : Fl Unit r → M b} {R : M b} (hs : ∀ y ∈ all, f y () = .ok (.nx ())) (hk : k (.nx ()) = R) : (loopM f all () >>= k) = R := by
  rw [bind_ok (loopM_all hs)]
  exact hk
theorem loopM_hit {i r : Type} {f : i → Unit → M (Fl Unit r)} {z : r} {y : i} {post : List i} : ∀ {pre : List i}, (∀ x ∈ pre, f x () = .ok (.nx ())) → f y () = .ok (.rt z) → loopM f (pre ++ y :: post) () = .ok (.rt z)
  | [], _, h => by
    show (f y () >>= _) = _
    rw [bind_ok h]
  | x :: pre, hp, h => by
    show (f x () >>= _) = _
    rw [bind_ok (hp x List.mem_cons_self)]
    exact loopM_hit (fun w hw => hp w (List.mem_cons_of_mem _ hw)) h
theorem ok_of {b : Type} {m : M b} {v : b} (h : ∃ r, m = .ok r ∧ r = v) : m = .ok v := by
  obtain ⟨r, e, q⟩ := h
  rw [e, q]
theorem ex_imp {b : Type} {m : M b} {Q Q2 : b → Prop} (h : ∃ r, m = .ok r ∧ Q2 r) (i : ∀ r, Q2 r → Q r) : ∃ r, m = .ok r ∧ Q r := by
  obtain ⟨r, e, q⟩ := h
  exact ⟨r, e, i r q⟩

theorem rangeL_len0 (n : Nat) : (rangeL 0 (n : Int)).length = n := by rw [rangeL_length]; omega

/-! ### what stays true while a loop goes on that comes to its end -/
theorem b_inv {a b : Type} {m : M a} {k : a → M b} {y : b} (h : (m >>= k) = .ok y) : ∃ x, m = .ok x ∧ k x = .ok y := by
  cases m with
  | ok x => exact ⟨x, rfl, h⟩
  | error e => exact nomatch h
theorem o_inv {a b : Type} {o : Option a} {k : a → M b} {y : b} (h : (opt o >>= k) = .ok y) : ∃ x, o = some x ∧ k x = .ok y := by
  obtain ⟨x, h1, h2⟩ := b_inv h
  cases o with
  | some z => exact ⟨z, rfl, by cases h1; exact h2⟩
  | none => exact nomatch h1
theorem c_inv {b : Type} {c : Prop} [Decidable c] {k : Unit → M b} {y : b} (h : (chk c >>= k) = .ok y) : c ∧ k () = .ok y := by
  by_cases z : c
  · rw [chk_b z] at h; exact ⟨z, h⟩
  · unfold chk at h
    rw [if_neg z] at h
    exact nomatch h
theorem a_inv {a b : Type} {xs : List a} {y : a} {k : List a → M b} {z : b} (h : (appL xs y >>= k) = .ok z) : k (xs ++ [y]) = .ok z := by
  unfold appL at h
  by_cases c : xs.length < 16777216
  · rw [if_pos c] at h; exact h
  · rw [if_neg c] at h; exact nomatch h
theorem loopN_keep {i s : Type} {f : i → s → M s} (P : s → Prop) : ∀ {xs : List i} {x x' : s}, (∀ y ∈ xs, ∀ x x', P x → f y x = .ok x' → P x') → P x → loopN f xs x = .ok x' → P x'
  | [], x, x', _, h, e => by cases e; exact h
  | y :: ys, x, x', hs, h, e => by
    have e : (f y x >>= fun x1 => loopN f ys x1) = .ok x' := e
    obtain ⟨x1, e1, e2⟩ := b_inv e
    exact loopN_keep P (fun z hz => hs z (List.mem_cons_of_mem _ hz)) (hs y List.mem_cons_self x x1 h e1) e2
theorem whL_keep {s r : Type} {b : s → M (Ws s r)} (P Q : s → Prop) (hg : ∀ x x', P x → b x = .ok (.go x') → P x') (hs : ∀ x x', P x → b x = .ok (.stop x') → Q x') : ∀ (n : Nat) (x x' : s), P x → whL b n x = .ok (.nx x') → Q x'
  | 0, _, _, _, e => nomatch e
  | n + 1, x, x', h, e => by
    have e : (b x >>= fun w => match w with
      | .go x' => whL b n x'
      | .stop x' => .ok (.nx x')
      | .rt z => .ok (.rt z)) = .ok (.nx x') := e
    obtain ⟨w, e1, e2⟩ := b_inv e
    cases w with
    | go x1 => exact whL_keep P Q hg hs n x1 x' (hg x x1 h e1) e2
    | stop x1 =>
      have e2 : Except.ok (Fl.nx x1 : Fl s r) = (Except.ok (.nx x') : M (Fl s r)) := e2
      injection e2 with e2
      injection e2 with e2
      rw [← e2]
      exact hs x x1 h e1
    | rt z => exact nomatch e2

theorem dPut_new {κ β : Type} [DecidableEq κ] {xs : List (κ × β)} {k : κ} {y : β} (h : ∀ p ∈ xs, p.1 ≠ k) : dPut xs k y = xs ++ [(k, y)] := by
  unfold dPut
  rw [if_neg]
  intro z
  obtain ⟨p, hp, e⟩ := List.any_eq_true.mp z
  exact h p hp (of_decide_eq_true e)

def lenOf (ts : List Tie) : List ((Int × Int) × Int) := ts.flatMap fun t => [((t.a, t.b), t.c), ((t.b, t.a), t.c)]
theorem lenOf_mem {ts : List Tie} {p : (Int × Int) × Int} : p ∈ lenOf ts ↔ ∃ t ∈ ts, p = ((t.a, t.b), t.c) ∨ p = ((t.b, t.a), t.c) := by
  unfold lenOf
  simp [List.mem_flatMap]
theorem lenOf_len : ∀ ts : List Tie, (lenOf ts).length = 2 * ts.length
  | [] => rfl
  | t :: ts => by
    show (lenOf ts).length + 1 + 1 = 2 * (ts.length + 1)
    rw [lenOf_len ts]
    omega
theorem grown_pairs {ps : List Int} {ts : List Tie} (g : Grown ps ts) : (ts.map fun x => (x.a, x.b)).Nodup := by
  induction g with
  | one p => exact List.nodup_nil
  | @more ps ts q p c g hq hp ih =>
    rw [List.map_append, List.nodup_append]
    refine ⟨ih, by simp, fun x hx y hy e => ?_⟩
    obtain ⟨t, ht, rfl⟩ := List.mem_map.mp hx
    rw [List.map_singleton, List.mem_singleton] at hy
    have hpq : p ≠ q := fun z => hp (z ▸ hq)
    obtain ⟨h1, h2, _⟩ := tieOf_lt (c := c) hpq
    obtain ⟨i1, i2, _⟩ := g.in t ht
    rw [hy] at e
    injection e with e1 e2
    rcases h2 with ⟨a, b⟩ | ⟨a, b⟩
    · rw [e1, a] at i1; exact hp i1
    · rw [e2, b] at i2; exact hp i2
theorem tree_pairs {t : Tr} (h : TreeOk t) : (t.2.map fun x => (x.a, x.b)).Nodup := by
  obtain ⟨o, ts, g, _, e⟩ := h.ex
  rw [e]
  exact ((sortT_perm ts).map _).nodup_iff.mpr (grown_pairs g)
theorem lengths_ok (t : Tr) (ht : TreeOk t) (hn : t.1.length ≤ 1000000) : m_lengths_of t = .ok (lenOf t.2) := by
  have hlen := ht.len
  have nd := tree_pairs ht
  obtain ⟨st, e1, e2⟩ := loopN_run (f := fun (y19 : (T3 Int Int Int)) (st30 : (List ((Int × Int) × Int))) =>
    putD st30 ((y19.a, y19.b).1, (y19.a, y19.b).2) y19.c >>= fun z64 =>
    putD z64 ((y19.b, y19.a).1, (y19.b, y19.a).2) y19.c >>= fun z82 =>
    (.ok z82 : M _)) (all := t.2) (x := []) (fun pre st => st = lenOf pre) rfl fun pre y post st ea es => by
      subst es
      have hm : ∀ x ∈ pre, x ∈ t.2 := fun x hx => by rw [ea]; exact List.mem_append_left _ hx
      have hy := ht.tie y (by rw [ea]; simp)
      have hlp : (lenOf pre).length = 2 * pre.length := lenOf_len pre
      have hpl : pre.length + 1 ≤ t.2.length := by
        rw [ea, List.length_append, List.length_cons]
        omega
      have n1 : ∀ x ∈ pre, ¬ (x.a = y.a ∧ x.b = y.b) := fun x hx ⟨z1, z2⟩ => by
        rw [ea, List.map_append, List.map_cons, List.nodup_append] at nd
        exact nd.2.2 (x.a, x.b) (List.mem_map.mpr ⟨x, hx, rfl⟩) (y.a, y.b) List.mem_cons_self (by rw [z1, z2])
      have k1 : ∀ p ∈ lenOf pre, p.1 ≠ (y.a, y.b) := fun p hp e => by
        obtain ⟨x, hx, h | h⟩ := lenOf_mem.mp hp
        · rw [h] at e; injection e with z1 z2; exact n1 x hx ⟨z1, z2⟩
        · rw [h] at e
          injection e with z1 z2
          have := ht.tie x (hm x hx)
          have z1 : x.b = y.a := z1
          have z2 : x.a = y.b := z2
          omega
      have k2 : ∀ p ∈ lenOf pre ++ [((y.a, y.b), y.c)], p.1 ≠ (y.b, y.a) := fun p hp e => by
        rcases List.mem_append.mp hp with hp | hp
        · obtain ⟨x, hx, h | h⟩ := lenOf_mem.mp hp
          · rw [h] at e
            injection e with z1 z2
            have := ht.tie x (hm x hx)
            have z1 : x.a = y.b := z1
            have z2 : x.b = y.a := z2
            omega
          · rw [h] at e; injection e with z1 z2; exact n1 x hx ⟨z2, z1⟩
        · rw [List.mem_singleton.mp hp] at e
          injection e with z1 z2
          have z1 : y.a = y.b := z1
          omega
      refine ⟨_, ?_, rfl⟩
      show (putD (lenOf pre) (y.a, y.b) y.c >>= fun z64 => putD z64 (y.b, y.a) y.c >>= fun z82 => _) = _
      rw [bind_ok (show putD (lenOf pre) (y.a, y.b) y.c = .ok (lenOf pre ++ [((y.a, y.b), y.c)]) by unfold putD; rw [if_pos (by omega), dPut_new k1])]
      rw [bind_ok (show putD (lenOf pre ++ [((y.a, y.b), y.c)]) (y.b, y.a) y.c = .ok ((lenOf pre ++ [((y.a, y.b), y.c)]) ++ [((y.b, y.a), y.c)]) by unfold putD; rw [if_pos (by rw [List.length_append, List.length_singleton]; omega), dPut_new k2])]
      unfold lenOf
      rw [List.flatMap_append, List.append_assoc]
      rfl
  unfold m_lengths_of
  rw [bind_ok e1, e2]
theorem keys_perm : ∀ ts : List Tie, ((lenOf ts).map (·.1)).Perm (ts.map (fun t => (t.a, t.b)) ++ ts.map (fun t => (t.b, t.a)))
  | [] => .nil
  | t :: ts => by
    show ((t.a, t.b) :: (t.b, t.a) :: (lenOf ts).map (·.1)).Perm ((t.a, t.b) :: (ts.map (fun t => (t.a, t.b)) ++ (t.b, t.a) :: ts.map (fun t => (t.b, t.a))))
    refine .cons _ (((keys_perm ts).cons _).trans List.perm_middle.symm)

/-! ### neighbours -/
def other (p : Int) (t : Tie) : Option Int := if t.a = p then some t.b else if t.b = p then some t.a else none
/-- the neighbours of a place, rising -/
def nearOf (ties : List Tie) (p : Int) : List Int := sortT (ties.filterMap (other p))
def nearAll (n : Nat) (ties : List Tie) : List (List Int) := (List.range n).map fun (i : Nat) => nearOf ties (i : Int)
theorem addAt_ok {fs : List (List Int)} {x y : Int} {l : List Int} (h0 : 0 ≤ x) (h : fs[x.toNat]? = some l) (hl : l.length < 16777216) : addAt fs x y = .ok (fs.set x.toNat (l ++ [y])) := by
  have h1 := (List.getElem?_eq_some_iff.mp h).1
  unfold addAt
  rw [ixN_nat h0 (by omega)]
  show (match fs[x.toNat]? with
    | some x_1 => appL x_1 y >>= fun y => .ok (fs.set x.toNat y)
    | none => bad) = _
  rw [h]
  show (appL l y >>= fun y => (.ok (fs.set x.toNat y) : M _)) = _
  rw [bind_ok (appL_ok hl)]
theorem tied_places_ok (n : Int) (ties : List Tie) (h0 : 0 ≤ n) (h1 : n ≤ 1000000) (hl : ties.length < 16777216) (hv : ∀ t ∈ ties, 0 ≤ t.a ∧ t.a < t.b ∧ t.b < n) : m_tied_places n ties = .ok (nearAll n.toNat ties) := by
  unfold m_tied_places
  rw [chk_b (show okR n from ⟨by omega, h1⟩)]
  obtain ⟨fs, e, h⟩ := loopN_run (f := fun (t : T3 Int Int Int) (fs : List (List Int)) => addAt fs t.a t.b >>= fun f1 => addAt f1 t.b t.a) (all := sortT ties) (x := List.replicate n.toNat [])
    (fun pre fs => fs = (List.range n.toNat).map fun (i : Nat) => pre.filterMap (other (i : Int))) (by
      refine List.ext_getElem? fun i => ?_
      rw [List.getElem?_replicate, List.getElem?_map]
      by_cases hi : i < n.toNat
      · rw [if_pos hi, List.getElem?_range hi]; rfl
      · rw [if_neg hi, List.getElem?_eq_none (by simpa using hi)]; rfl) fun pre t post fs ea hf => by
      subst hf
      have mt : t ∈ ties := sortT_mem.mp (by rw [ea]; simp)
      obtain ⟨a0, ab, bn⟩ := hv t mt
      have plen : pre.length < 16777216 := by
        have := congrArg List.length ea
        rw [sortT_len, List.length_append, List.length_cons] at this
        omega
      have g1 : ((List.range n.toNat).map fun (i : Nat) => pre.filterMap (other (i : Int)))[t.a.toNat]? = some (pre.filterMap (other t.a)) := by
        rw [List.getElem?_map, List.getElem?_range (by omega)]
        show some (pre.filterMap (other ((t.a.toNat : Nat) : Int))) = _
        rw [Int.toNat_of_nonneg a0]
      have l1 : (pre.filterMap (other t.a)).length < 16777216 := Nat.lt_of_le_of_lt (List.length_filterMap_le _ _) plen
      have g2 : (((List.range n.toNat).map fun (i : Nat) => pre.filterMap (other (i : Int))).set t.a.toNat (pre.filterMap (other t.a) ++ [t.b]))[t.b.toNat]? = some (pre.filterMap (other t.b)) := by
        rw [List.getElem?_set_ne (by omega), List.getElem?_map, List.getElem?_range (by omega)]
        show some (pre.filterMap (other ((t.b.toNat : Nat) : Int))) = _
        rw [Int.toNat_of_nonneg (by omega)]
      have l2 : (pre.filterMap (other t.b)).length < 16777216 := Nat.lt_of_le_of_lt (List.length_filterMap_le _ _) plen
      refine ⟨_, by rw [bind_ok (addAt_ok a0 g1 l1)]; exact addAt_ok (by omega) g2 l2, ?_⟩
      refine List.ext_getElem? fun i => ?_
      rw [List.getElem?_map]
      by_cases hi : i < n.toNat
      · rw [List.getElem?_range hi]
        show _ = some ((pre ++ [t]).filterMap (other (i : Int)))
        rw [List.filterMap_append]
        by_cases hb : t.b.toNat = i
        · subst hb
          rw [List.getElem?_set_self (by simpa using hi)]
          have e1 : other ((t.b.toNat : Nat) : Int) t = some t.a := by
            unfold other
            rw [if_neg (by omega), if_pos (by omega)]
          have e2 : ((t.b.toNat : Nat) : Int) = t.b := Int.toNat_of_nonneg (by omega)
          rw [List.filterMap_cons, e1, List.filterMap_nil, e2]
        · rw [List.getElem?_set_ne hb]
          by_cases ha : t.a.toNat = i
          · subst ha
            rw [List.getElem?_set_self (by simpa using hi)]
            have e1 : other ((t.a.toNat : Nat) : Int) t = some t.b := by
              unfold other
              rw [if_pos (by omega)]
            have e2 : ((t.a.toNat : Nat) : Int) = t.a := Int.toNat_of_nonneg a0
            rw [List.filterMap_cons, e1, List.filterMap_nil, e2]
          · rw [List.getElem?_set_ne ha, List.getElem?_map, List.getElem?_range hi]
            have e1 : other (i : Int) t = none := by
              unfold other
              rw [if_neg (by omega), if_neg (by omega)]
            rw [List.filterMap_cons, e1, List.filterMap_nil, List.append_nil]
            rfl
      · have z : (List.range n.toNat)[i]? = none := List.getElem?_eq_none (by simpa using hi)
        rw [z]
        show _ = none
        refine List.getElem?_eq_none ?_
        rw [List.length_set, List.length_set, List.length_map, List.length_range]
        omega
  rw [bind_ok e, h]
  refine congrArg Except.ok ?_
  unfold nearAll
  rw [List.map_map]
  refine List.map_congr_left fun i _ => ?_
  show sortT ((sortT ties).filterMap (other (i : Int))) = nearOf ties (i : Int)
  exact sortT_eq ((sortT_perm ties).filterMap _)
theorem nearAll_at {n : Nat} {ties : List Tie} {p : Int} (h0 : 0 ≤ p) (h : p < n) : L2.atI (nearAll n ties) p = some (nearOf ties p) := by
  refine atI_of h0 ?_
  unfold nearAll
  rw [List.getElem?_map, List.getElem?_range (by omega)]
  show some (nearOf ties ((p.toNat : Nat) : Int)) = _
  rw [Int.toNat_of_nonneg h0]

theorem need_place_ok (t : Tr) (p : Int) (h0 : 0 ≤ p) (h : p < (t.1.length : Int)) : m_need_place t p = .ok () := by
  unfold m_need_place
  rw [if_pos h0, if_pos h]
theorem tied_to_ok (t : Tr) (ht : TreeOk t) (hn : t.1.length ≤ 1000000) (p : Int) (h0 : 0 ≤ p) (h : p < (t.1.length : Int)) : m_tied_to t p = .ok (nearOf t.2 p) := by
  unfold m_tied_to
  have := ht.len
  rw [bind_ok (need_place_ok t p h0 h), bind_ok (tied_places_ok (t.1.length : Int) t.2 (by omega) (by omega) (by omega) ht.tie), opt_b (nearAll_at h0 (by omega))]
theorem nearOf_len (ts : List Tie) (p : Int) : (nearOf ts p).length ≤ ts.length := by
  unfold nearOf
  rw [sortT_len]
  exact List.length_filterMap_le _ _

theorem whL_run {s r : Type} {b : s → M (Ws s r)} (P : s → Prop) (μ : s → Nat) (Qf : s → Prop) (step : ∀ x, P x → (∃ x', b x = .ok (.go x') ∧ P x' ∧ μ x' < μ x) ∨ (∃ x', b x = .ok (.stop x') ∧ Qf x')) : ∀ (n : Nat) (x : s), P x → μ x < n → ∃ x', whL b n x = .ok (.nx x') ∧ Qf x'
  | 0, x, _, h => absurd h (Nat.not_lt_zero _)
  | n + 1, x, p, h => by
    rcases step x p with ⟨x', e, p', l⟩ | ⟨x', e, q⟩
    · obtain ⟨x2, e2, q2⟩ := whL_run P μ Qf step n x' p' (by omega)
      refine ⟨x2, ?_, q2⟩
      show (b x >>= _) = _
      rw [bind_ok e]
      exact e2
    · refine ⟨x', ?_, q⟩
      show (b x >>= _) = _
      rw [bind_ok e]
theorem nd_sub_len {a : Type} [DecidableEq a] : ∀ {l m : List a}, l.Nodup → (∀ x ∈ l, x ∈ m) → l.length ≤ m.length
  | [], _, _, _ => Nat.zero_le _
  | x :: l, m, nd, h => by
    have hx := h x List.mem_cons_self
    obtain ⟨n1, n2⟩ := List.nodup_cons.mp nd
    have := nd_sub_len (l := l) (m := m.erase x) n2 fun y hy => (List.mem_erase_of_ne fun e => n1 (by rw [← e]; exact hy)).mpr (h y (List.mem_cons_of_mem _ hy))
    rw [List.length_erase_of_mem hx] at this
    have hp := List.length_pos_of_mem hx
    rw [List.length_cons]
    omega
theorem nearOf_mem {ts : List Tie} {x y : Int} (h : ∀ t ∈ ts, t.a < t.b) : y ∈ nearOf ts x ↔ ∃ t ∈ ts, (t.a = x ∧ t.b = y) ∨ (t.b = x ∧ t.a = y) := by
  unfold nearOf
  rw [sortT_mem, List.mem_filterMap]
  constructor
  · rintro ⟨t, ht, e⟩
    unfold other at e
    by_cases ha : t.a = x
    · rw [if_pos ha] at e
      exact ⟨t, ht, .inl ⟨ha, Option.some.inj e⟩⟩
    · rw [if_neg ha] at e
      by_cases hb : t.b = x
      · rw [if_pos hb] at e
        exact ⟨t, ht, .inr ⟨hb, Option.some.inj e⟩⟩
      · rw [if_neg hb] at e; cases e
  · rintro ⟨t, ht, ⟨ha, hb⟩ | ⟨hb, ha⟩⟩
    · refine ⟨t, ht, ?_⟩
      unfold other
      rw [if_pos ha, hb]
    · refine ⟨t, ht, ?_⟩
      have := h t ht
      unfold other
      rw [if_neg (by omega), if_pos hb, ha]
/-- what holds of one place and goes over ties holds of all -/
theorem grown_all {ps : List Int} {ts : List Tie} (g : Grown ps ts) (S : Int → Prop) (hS : ∀ t ∈ ts, S t.a ↔ S t.b) : (∃ x ∈ ps, S x) → ∀ x ∈ ps, S x := by
  induction g with
  | one p =>
    rintro ⟨x, hx, h⟩ y hy
    rw [List.mem_singleton.mp hx] at h
    rw [List.mem_singleton.mp hy]
    exact h
  | @more ps ts q p c g hq hp ih =>
    have ih := ih fun t ht => hS t (List.mem_append_left _ ht)
    have hpq : p ≠ q := fun z => hp (z ▸ hq)
    have hl := hS (tieOf p q c) (by simp)
    obtain ⟨_, h2, _⟩ := tieOf_lt (c := c) hpq
    have hpq2 : S p ↔ S q := by
      rcases h2 with ⟨a, b⟩ | ⟨a, b⟩
      · rw [a, b] at hl; exact hl
      · rw [a, b] at hl; exact hl.symm
    rintro ⟨x, hx, h⟩
    have hall : ∀ y ∈ ps, S y := by
      rcases List.mem_append.mp hx with hx | hx
      · exact ih ⟨x, hx, h⟩
      · rw [List.mem_singleton.mp hx] at h
        exact ih ⟨q, hq, hpq2.mp h⟩
    intro y hy
    rcases List.mem_append.mp hy with hy | hy
    · exact hall y hy
    · rw [List.mem_singleton.mp hy]
      exact hpq2.mpr (hall q hq)
theorem tree_all {t : Tr} (ht : TreeOk t) (S : Int → Prop) (hS : ∀ x ∈ t.2, S x.a ↔ S x.b) (x : Int) (x0 : 0 ≤ x) (x1 : x < (t.1.length : Int)) (h : S x) : ∀ y, 0 ≤ y → y < (t.1.length : Int) → S y := by
  obtain ⟨ps, ts, g, p, e⟩ := ht.ex
  rw [e] at hS
  intro y y0 y1
  exact grown_all g S (fun t ht => hS t (sortT_mem.mpr ht)) ⟨x, p.mem_iff.mpr (rangeL_mem.mpr ⟨x0, x1⟩), h⟩ y (p.mem_iff.mpr (rangeL_mem.mpr ⟨y0, y1⟩))
theorem nearAll_len (n : Nat) (ts : List Tie) : (nearAll n ts).length = n := by unfold nearAll; simp

theorem come_to_ok (near : List (List Int)) (hn : near.length ≤ 100000) (hv : ∀ l ∈ near, ∀ y ∈ l, 0 ≤ y ∧ y < near.length) (hl : ∀ l ∈ near, l.length < 16777216) (p : Int) (p0 : 0 ≤ p) (p1 : p < near.length) :
    ∃ f, m_come_to near p = .ok f ∧ f.Nodup ∧ p ∈ f ∧ (∀ x ∈ f, 0 ≤ x ∧ x < near.length) ∧ ∀ x ∈ f, ∀ l, near[x.toNat]? = some l → ∀ y ∈ l, y ∈ f := by
  have small : ∀ f : List Int, f.Nodup → (∀ x ∈ f, 0 ≤ x ∧ x < near.length) → f.length ≤ near.length := fun f nd hf => by
    have := nd_sub_len (m := rangeL 0 (near.length : Int)) nd fun x hx => rangeL_mem.mpr (hf x hx)
    rw [rangeL_len0] at this
    exact this
  obtain ⟨st, e, q1, q2, q3, q4⟩ := whL_run (r := Unit) (b := fun (st17 : Int × (List Int)) =>
    if st17.1 < (st17.2.length : Int) then (
    opt (atI st17.2 st17.1) >>= fun y25 =>
    opt (atI near y25) >>= fun y35 =>
    loopN (fun (y45 : Int) (st56 : (List Int)) =>
    if y45 ∉ st56 then (
    appL st56 y45 >>= fun _ =>
    .ok (st56 ++ [y45]))
    else (
    .ok st56)) y35 st17.2 >>= fun st72 =>
    .ok (.go ((st17.1 + (1 : Int)), st72)))
    else (
    .ok (.stop (st17.1, st17.2))))
    (fun st => st.2.Nodup ∧ p ∈ st.2 ∧ (∀ x ∈ st.2, 0 ≤ x ∧ x < near.length) ∧ 0 ≤ st.1 ∧ st.1 ≤ st.2.length ∧ ∀ (i : Nat) x, (i : Int) < st.1 → st.2[i]? = some x → ∀ l, near[x.toNat]? = some l → ∀ y ∈ l, y ∈ st.2)
    (fun st => near.length + 1 - st.1.toNat)
    (fun st => st.2.Nodup ∧ p ∈ st.2 ∧ (∀ x ∈ st.2, 0 ≤ x ∧ x < near.length) ∧ ∀ x ∈ st.2, ∀ l, near[x.toNat]? = some l → ∀ y ∈ l, y ∈ st.2)
    (fun ⟨at_, fs⟩ ⟨h1, h2, h3, h4, h5, h6⟩ => by
      have h1 : fs.Nodup := h1
      have h2 : p ∈ fs := h2
      have h3 : ∀ x ∈ fs, 0 ≤ x ∧ x < near.length := h3
      have h4 : 0 ≤ at_ := h4
      have h5 : at_ ≤ fs.length := h5
      have h6 : ∀ (i : Nat) x, (i : Int) < at_ → fs[i]? = some x → ∀ l, near[x.toNat]? = some l → ∀ y ∈ l, y ∈ fs := h6
      show (∃ x', (if at_ < (fs.length : Int) then _ else _) = _ ∧ _) ∨ (∃ x', (if at_ < (fs.length : Int) then _ else _) = _ ∧ _)
      by_cases hlt : at_ < (fs.length : Int)
      · refine .inl ?_
        rw [if_pos hlt]
        obtain ⟨x, a1, b1⟩ := atI_some (xs := fs) (j := at_) h4 hlt
        have hx := h3 x (List.mem_of_getElem? b1)
        obtain ⟨l, a2, b2⟩ := atI_some (xs := near) (j := x) hx.1 hx.2
        have hlm := List.mem_of_getElem? b2
        obtain ⟨f2, e2, c1, c2, c3, c4⟩ := loopN_run (f := fun (y45 : Int) (st56 : (List Int)) =>
          if y45 ∉ st56 then (
          appL st56 y45 >>= fun _ =>
          (.ok (st56 ++ [y45]) : M _))
          else (
          .ok st56)) (all := l) (x := fs) (fun pre st => st.Nodup ∧ (∀ x ∈ st, 0 ≤ x ∧ x < near.length) ∧ (∃ ex, st = fs ++ ex) ∧ ∀ y ∈ pre, y ∈ st) ⟨h1, h3, ⟨[], by simp⟩, fun _ h => nomatch h⟩
          (fun pre y post st ea ⟨g1, g2, ⟨ex, g3⟩, g4⟩ => by
            have hy := hv l hlm y (by rw [ea]; simp)
            by_cases hm : y ∉ st
            · refine ⟨st ++ [y], ?_, ?_, fun z hz => ?_, ⟨ex ++ [y], by rw [g3]; simp⟩, fun z hz => ?_⟩
              · rw [if_pos hm, bind_ok (appL_ok (by have := small st g1 g2; omega))]
              · exact List.nodup_append.mpr ⟨g1, by simp, fun a ha b hb e => by rw [List.mem_singleton.mp hb] at e; exact hm (e ▸ ha)⟩
              · rcases List.mem_append.mp hz with hz | hz
                · exact g2 z hz
                · rw [List.mem_singleton.mp hz]; exact hy
              · rcases List.mem_append.mp hz with hz | hz
                · exact List.mem_append_left _ (g4 z hz)
                · exact List.mem_append_right _ hz
            · refine ⟨st, by rw [if_neg hm], g1, g2, ⟨ex, g3⟩, fun z hz => ?_⟩
              rcases List.mem_append.mp hz with hz | hz
              · exact g4 z hz
              · rw [List.mem_singleton.mp hz]
                exact Classical.not_not.mp hm)
        obtain ⟨ex, c3⟩ := c3
        refine ⟨(at_ + 1, f2), ?_, ⟨c1, ?_, c2, ?_, ?_, fun i y hi hy l' hl' z hz => ?_⟩, ?_⟩
        · rw [opt_b a1, opt_b a2, bind_ok e2]
        · show p ∈ f2
          rw [c3]; exact List.mem_append_left _ h2
        · show 0 ≤ at_ + 1
          omega
        · show at_ + 1 ≤ (f2.length : Int)
          rw [c3, List.length_append]
          omega
        · have hi : (i : Int) < at_ + 1 := hi
          have hy : f2[i]? = some y := hy
          show z ∈ f2
          have hil : i < fs.length := by omega
          have hy' : fs[i]? = some y := by
            rw [c3, List.getElem?_append_left hil] at hy
            exact hy
          by_cases hia : (i : Int) < at_
          · rw [c3]; exact List.mem_append_left _ (h6 i y hia hy' l' hl' z hz)
          · have hie : i = at_.toNat := by omega
            rw [hie, b1] at hy'
            rw [← Option.some.inj hy', b2] at hl'
            rw [← Option.some.inj hl'] at hz
            exact c4 z hz
        · show near.length + 1 - (at_ + 1).toNat < near.length + 1 - at_.toNat
          have := small fs h1 h3
          omega
      · refine .inr ?_
        rw [if_neg hlt]
        refine ⟨(at_, fs), rfl, h1, h2, h3, fun x hx l hl' y hy => ?_⟩
        have hx : x ∈ fs := hx
        obtain ⟨i, hi⟩ := List.mem_iff_getElem?.mp hx
        have hil := (List.getElem?_eq_some_iff.mp hi).1
        exact h6 i x (by omega) hi l hl' y hy)
    1000000 (0, [p]) ⟨by simp, by simp, fun x hx => by
      have hx : x ∈ [p] := hx
      rw [List.mem_singleton.mp hx]; exact ⟨p0, p1⟩, by simp, by simp, fun i x hi => by
      have hi : (i : Int) < 0 := hi
      omega⟩ (by show near.length + 1 - 0 < 1000000; omega)
  refine ⟨st.2, ?_, q1, q2, q3, q4⟩
  unfold m_come_to
  rw [bind_ok e]
theorem tree_of_ok (t : Tr) (ht : TreeOk t) (hn : t.1.length ≤ 100000) (ties : List Tie) (hp : ties.Perm t.2) : m_tree_of t.1 ties = .ok (t.1, t.2) := by
  have hlen := ht.len
  have hpos := ht.pos
  have htl : ties.length = t.2.length := hp.length_eq
  have hv : ∀ x ∈ ties, 0 ≤ x.a ∧ x.a < x.b ∧ x.b < (t.1.length : Int) := fun x hx => ht.tie x (hp.mem_iff.mp hx)
  unfold m_tree_of
  rw [bind_ok (compS_pure (fun y => some (y.a, y.b)) (by omega) fun y _ => rfl)]
  rw [List.filterMap_eq_map']
  rw [if_neg (by
    show ¬ ((((ties.map fun y => (y.a, y.b)).length : Nat) : Int) ≠ _)
    rw [List.length_map]; omega)]
  show (compS _ (ties.map fun y => (y.a, y.b)) () >>= _) = _
  rw [bind_ok (compS_pure (fun _ => none) (by rw [List.length_map]; omega) fun y hy => by
    obtain ⟨x, hx, rfl⟩ := List.mem_map.mp hy
    obtain ⟨h0, h1, h2⟩ := hv x hx
    rw [if_pos h0, if_pos h1, if_pos h2])]
  rw [if_neg (by
    intro z
    refine z ?_
    show List.filterMap _ _ = []
    rw [List.filterMap_eq_nil_iff]
    exact fun _ _ => rfl)]
  have hlen2 : ∀ l ∈ nearAll t.1.length ties, l.length ≤ ties.length := fun l hl => by
    unfold nearAll at hl
    obtain ⟨i, _, rfl⟩ := List.mem_map.mp hl
    unfold nearOf
    rw [sortT_len]
    exact List.length_filterMap_le _ _
  rw [bind_ok (tied_places_ok (t.1.length : Int) ties (by omega) (by omega) (by omega) hv)]
  rw [show ((t.1.length : Int)).toNat = t.1.length from rfl]
  obtain ⟨f, e, q1, q2, q3, q4⟩ := come_to_ok (nearAll t.1.length ties) (by rw [nearAll_len]; exact hn) (fun l hl y hy => by
    unfold nearAll at hl
    obtain ⟨i, _, rfl⟩ := List.mem_map.mp hl
    rw [nearAll_len]
    obtain ⟨x, hx, h⟩ := (nearOf_mem fun x hx => (hv x hx).2.1).mp hy
    obtain ⟨h0, h1, h2⟩ := hv x hx
    rcases h with ⟨a, b⟩ | ⟨a, b⟩ <;> omega) (fun l hl => by have := hlen2 l hl; omega) 0 (by omega) (by rw [nearAll_len]; omega)
  rw [nearAll_len] at q3
  rw [bind_ok e]
  have near_at : ∀ x : Int, 0 ≤ x → x < (t.1.length : Int) → (nearAll t.1.length ties)[x.toNat]? = some (nearOf ties x) := fun x x0 x1 => by
    unfold nearAll
    rw [List.getElem?_map, List.getElem?_range (by omega)]
    show some (nearOf ties ((x.toNat : Nat) : Int)) = _
    rw [Int.toNat_of_nonneg x0]
  have hclosed : ∀ x ∈ t.2, (x.a ∈ f ↔ x.b ∈ f) := fun x hx => by
    have hx' := hp.mem_iff.mpr hx
    obtain ⟨h0, h1, h2⟩ := hv x hx'
    constructor
    · intro hm
      exact q4 _ hm _ (near_at x.a h0 (by omega)) _ ((nearOf_mem fun x hx => (hv x hx).2.1).mpr ⟨x, hx', .inl ⟨rfl, rfl⟩⟩)
    · intro hm
      exact q4 _ hm _ (near_at x.b (by omega) h2) _ ((nearOf_mem fun x hx => (hv x hx).2.1).mpr ⟨x, hx', .inr ⟨rfl, rfl⟩⟩)
  have hall := tree_all ht (fun x => x ∈ f) hclosed 0 (by omega) (by omega) q2
  have hfl := nd_sub_len (l := rangeL 0 (t.1.length : Int)) (m := f) (rangeL_nodup _ _) fun x hx => hall x (rangeL_mem.mp hx).1 (rangeL_mem.mp hx).2
  rw [rangeL_len0] at hfl
  rw [if_neg (by omega)]
  rw [sortT_eq hp, ht.sorted]

open TL
/-! ### numbers as texts -/
def nS (n : Int) : Str := Str.ofString (toString n)
theorem len_app (x y : Str) : (x ++ y).length = x.length + y.length := by rw [len_tl, len_tl, len_tl, tl_append, List.length_append]
theorem tl_lit1 {y : Str} {c : Nat} (h : y = sg c) : tl y = [c] := by rw [h]; rfl
theorem sgL_tl (s : Str) : sgL s = (tl s).map sg := rfl
theorem nS_nat (n : Nat) : tl (nS (n : Int)) = numL n := tl_num n
theorem nS_neg (n : Nat) : tl (nS (Int.negSucc n)) = 45 :: numL (n + 1) := by
  unfold nS
  rw [tl_ofString]
  show (toString (Int.negSucc n)).toList.map Char.toNat = _
  have e : toString (Int.negSucc n) = "-" ++ toString (n + 1) := rfl
  have e2 : (toString (n + 1)).toList.map Char.toNat = numL (n + 1) := by
    rw [← tl_num (n + 1), tl_ofString]
    rfl
  rw [e, String.toList_append, List.map_append, e2]
  rfl
theorem numL_h0 : ∀ (n : Nat) {c : Nat} {r : List Nat}, numL n = c :: r → c = 48 → n = 0 := by
  intro n
  induction n using Nat.strongRecOn with
  | _ n ih =>
    intro c r e hc
    by_cases h : n < 10
    · rw [numL_lt h] at e
      have := (List.cons.inj e).1
      omega
    · rw [numL_step (by omega)] at e
      cases h2 : numL (n / 10) with
      | nil => exact absurd h2 (numL_ne _)
      | cons d s =>
        rw [h2] at e
        have hd : d = c := (List.cons.inj e).1
        have := ih (n / 10) (by omega) h2 (by omega)
        omega
theorem lit_digits : tl ("0123456789" : Str) = [48, 49, 50, 51, 52, 53, 54, 55, 56, 57] := by decide +kernel
theorem in_figs {c : Nat} (h : 48 ≤ c ∧ c ≤ 57) : sg c ∈ sgL ("0123456789" : Str) := by
  rw [mem_sgL]
  show c ∈ tl ("0123456789" : Str)
  rw [lit_digits]
  have : c = 48 ∨ c = 49 ∨ c = 50 ∨ c = 51 ∨ c = 52 ∨ c = 53 ∨ c = 54 ∨ c = 55 ∨ c = 56 ∨ c = 57 := by omega
  rcases this with e | e | e | e | e | e | e | e | e | e <;> subst e <;> decide
theorem zero_txt : ("0" : Str) = nS 0 := by decide +kernel
theorem log_lt {n : Nat} {b : Nat} (h : n < 2 ^ b) (l : b ≤ 1900) : Nat.log2 n < 1920 := by
  by_cases z : n = 0
  · subst z; decide
  · exact Nat.lt_of_lt_of_le ((Nat.log2_lt z).mpr h) (by omega)
theorem nS_len {n : Int} (h : n.natAbs < 2 ^ 100) : (nS n).length ≤ 40 := by
  have p : 2 ^ 100 < 10 ^ 35 := by decide
  rw [len_tl]
  cases n with
  | ofNat m =>
    have e : tl (nS (Int.ofNat m)) = numL m := nS_nat m
    rw [e]
    exact Nat.le_trans (numL_len (k := 35) (by decide) (Nat.lt_trans h p)) (by decide)
  | negSucc m =>
    rw [nS_neg, List.length_cons]
    have h : m + 1 < 2 ^ 100 := h
    have := numL_len (k := 35) (by decide) (Nat.lt_trans h p)
    omega
theorem at_head {a : Type} (x : a) (xs : List a) : L2.atI (x :: xs) (0 : Int) = some x := by
  obtain ⟨y, e, e2⟩ := atI_some (xs := x :: xs) (j := 0) (by decide) (by rw [List.length_cons]; omega)
  have e2 : some x = some y := e2
  rw [e, e2]
/-- figures alone are read -/
theorem number_of {n : Nat} (h : n < 2 ^ 100) : m_number_in (nS (n : Int)) = .ok (n : Int) := by
  have hl := nS_len (n := (n : Int)) h
  have hd := numL_digits n
  have hne := numL_ne n
  have et := nS_nat n
  obtain ⟨c, r, hc⟩ := List.exists_cons_of_ne_nil hne
  have e0 : nS (n : Int) ≠ ("" : Str) := fun e => by
    have := congrArg tl e
    rw [et, hc] at this
    exact nomatch this
  have ea : L2.atI (sgL (nS (n : Int))) (0 : Int) = some (sg c) := by
    rw [sgL_tl, et, hc]
    exact at_head _ _
  have ec : ∀ {k : List Str × Unit → M Int} {Q : M Int}, k ([], ()) = Q → (compS (fun (y10 : Str) (st27 : Unit) =>
      if y10 ∉ sgL ("0123456789" : Str) then (
      (.ok (some y10, ()) : M _))
      else (
      .ok (none, ()))) (sgL (nS (n : Int))) () >>= k) = Q := fun hk => by
    refine compS_pureB (fun _ => none) (by rw [sgL_tl, List.length_map, ← len_tl]; omega) (fun y hy => ?_) ?_
    · rw [sgL_tl, et] at hy
      obtain ⟨d, h1, rfl⟩ := List.mem_map.mp hy
      have := hd d h1
      rw [if_neg (fun q => q (in_figs (by omega)))]
    · rw [List.filterMap_eq_nil_iff.mpr fun _ _ => rfl]
      exact hk
  have ei : intText? (nS (n : Int)) = some (n : Int) := int_num (by rw [← et, ← len_tl]; omega)
  unfold m_number_in
  rw [if_neg e0, chk_b (by omega), opt_b ea]
  by_cases q : sg c = ("0" : Str)
  · have hc0 : c = 48 := sg_inj (q.trans (show ("0" : Str) = sg 48 by decide +kernel))
    have n0 := numL_h0 n hc hc0
    rw [if_pos q, if_neg (fun z => z (by rw [n0]; exact zero_txt.symm))]
    refine ec ?_
    dsimp only
    rw [if_neg (fun z => z rfl), chk_b (by omega), opt_b ei]
  · rw [if_neg q]
    refine ec ?_
    dsimp only
    rw [if_neg (fun z => z rfl), chk_b (by omega), opt_b ei]
theorem minus_txt : ("-" : Str) = sg 45 := by decide +kernel
theorem cut_head {s : Str} {c : Nat} {r : List Nat} (h : tl s = c :: r) : cutS s none (some (1 : Int)) = sg c ∧ tl (cutS s (some (1 : Int)) none) = r := by
  have hl : s.length = r.length + 1 := by rw [len_tl, h]; rfl
  have h1 : HT.sIx s.length s.length (some (1 : Int)) = 1 := by
    show (if (1 : Int) < 0 then ((1 : Int) + (s.length : Int)).toNat else min (1 : Int).toNat s.length) = _
    rw [if_neg (by decide)]
    show min 1 s.length = 1
    omega
  have h2 : HT.sIx s.length 0 (some (1 : Int)) = 1 := by
    show (if (1 : Int) < 0 then ((1 : Int) + (s.length : Int)).toNat else min (1 : Int).toNat s.length) = _
    rw [if_neg (by decide)]
    show min 1 s.length = 1
    omega
  constructor
  · unfold cutS
    rw [h1, HT.sIx_none]
    show (⟨(((tl s).drop 0).take (1 - 0)).toArray⟩ : Str) = _
    rw [h]
    rfl
  · unfold cutS
    rw [h2, HT.sIx_none]
    show ((tl s).drop 1).take (s.length - 1) = r
    rw [h, hl, List.drop_succ_cons, List.drop_zero, Nat.add_sub_cancel, List.take_length]
theorem whole_of {n : Int} (h : n.natAbs < 2 ^ 100) : m_whole_in (nS n) = .ok n := by
  have hl := nS_len h
  unfold m_whole_in
  rw [chk_b (by omega)]
  cases n with
  | ofNat m =>
    have et : tl (nS (Int.ofNat m)) = numL m := nS_nat m
    obtain ⟨c, r, hc⟩ := List.exists_cons_of_ne_nil (numL_ne m)
    have hd := numL_digits m c (by rw [hc]; exact List.mem_cons_self)
    rw [(cut_head (et.trans hc)).1, if_neg (fun q => by
      have := sg_inj (q.trans minus_txt)
      omega)]
    show (m_number_in (nS (m : Int)) >>= fun r11 => (.ok r11 : M Int)) = _
    rw [bind_ok (number_of (n := m) h)]
    rfl
  | negSucc m =>
    have h : m + 1 < 2 ^ 100 := h
    have ch := cut_head (nS_neg m)
    have e1 : cutS (nS (Int.negSucc m)) (some (1 : Int)) none = nS ((m + 1 : Nat) : Int) := ext_tl (by rw [ch.2, nS_nat])
    rw [ch.1, if_pos minus_txt.symm, if_neg (fun q => by
      have := congrArg tl q
      rw [nS_neg, show tl ("-0" : Str) = 45 :: numL 0 by decide +kernel] at this
      have := numL_inj (List.cons.inj this).2
      omega), chk_b (by omega), e1, bind_ok (number_of h)]
    refine congrArg Except.ok ?_
    omega

/-! ### trees as texts -/
def tS (z : Tie) : Str := nS z.a ++ ("-" : Str) ++ nS z.b ++ (":" : Str) ++ nS z.c
def joinS (ps : List Str) : Str := Str.join (" " : Str) ps
def treeS (t : Tr) (mark : Str) : Str := joinS (t.1.map nS) ++ mark ++ joinS (t.2.map tS)
theorem colon_txt : tl (":" : Str) = [58] := by decide +kernel
theorem minus_tl : tl ("-" : Str) = [45] := by decide +kernel
theorem blank_tl : tl (" " : Str) = [32] := by decide +kernel
theorem line_tl : tl ("\n" : Str) = [10] := by decide +kernel
/-- the signs of a number -/
theorem nS_in {n : Int} {c : Nat} (h : c ∈ tl (nS n)) : c = 45 ∨ (48 ≤ c ∧ c ≤ 57) := by
  cases n with
  | ofNat m =>
    have et : tl (nS (Int.ofNat m)) = numL m := nS_nat m
    rw [et] at h
    exact .inr (numL_digits m c h)
  | negSucc m =>
    rw [nS_neg] at h
    rcases List.mem_cons.mp h with h | h
    · exact .inl h
    · exact .inr (numL_digits _ c h)
theorem nS_pos {n : Int} (h : 0 ≤ n) {c : Nat} (hc : c ∈ tl (nS n)) : 48 ≤ c ∧ c ≤ 57 := by
  cases n with
  | ofNat m =>
    have et : tl (nS (Int.ofNat m)) = numL m := nS_nat m
    rw [et] at hc
    exact numL_digits m c hc
  | negSucc m => omega
theorem nS_ne (n : Int) : tl (nS n) ≠ [] := by
  cases n with
  | ofNat m =>
    have et : tl (nS (Int.ofNat m)) = numL m := nS_nat m
    rw [et]; exact numL_ne m
  | negSucc m => rw [nS_neg]; exact List.cons_ne_nil _ _
theorem tS_tl (z : Tie) : tl (tS z) = tl (nS z.a) ++ 45 :: (tl (nS z.b) ++ 58 :: tl (nS z.c)) := by
  unfold tS
  rw [tl_append, tl_append, tl_append, tl_append, minus_tl, colon_txt]
  simp
theorem tS_in {z : Tie} {c : Nat} (h : c ∈ tl (tS z)) : c = 45 ∨ c = 58 ∨ (48 ≤ c ∧ c ≤ 57) := by
  rw [tS_tl] at h
  rcases List.mem_append.mp h with h | h
  · rcases nS_in h with h | h
    · exact .inl h
    · exact .inr (.inr h)
  · rcases List.mem_cons.mp h with h | h
    · exact .inl h
    · rcases List.mem_append.mp h with h | h
      · rcases nS_in h with h | h
        · exact .inl h
        · exact .inr (.inr h)
      · rcases List.mem_cons.mp h with h | h
        · exact .inr (.inl h)
        · rcases nS_in h with h | h
          · exact .inl h
          · exact .inr (.inr h)
theorem tS_len {z : Tie} (ha : z.a.natAbs < 2 ^ 100) (hb : z.b.natAbs < 2 ^ 100) (hc : z.c.natAbs < 2 ^ 100) : (tS z).length ≤ 122 := by
  unfold tS
  rw [len_app, len_app, len_app, len_app]
  have h1 := nS_len ha
  have h2 := nS_len hb
  have h3 := nS_len hc
  have h4 : ("-" : Str).length = 1 := by rw [len_tl, minus_tl]; rfl
  have h5 : (":" : Str).length = 1 := by rw [len_tl, colon_txt]; rfl
  omega
theorem part_at {a b : Str} {y : Str} {c : Nat} (ey : tl y = [c]) (h : c ∉ tl a) : Txt.partition (a ++ y ++ b) y = (a, y, b) := partition_app ey h
theorem tie_of {z : Tie} (a0 : 0 ≤ z.a) (b0 : 0 ≤ z.b) (ha : z.a.natAbs < 2 ^ 100) (hb : z.b.natAbs < 2 ^ 100) (hc : z.c.natAbs < 2 ^ 100) : m_tie_in (tS z) = .ok z := by
  have hl := tS_len ha hb hc
  have f1 : 58 ∉ tl (nS z.a ++ ("-" : Str) ++ nS z.b) := fun h => by
    rw [tl_append, tl_append, minus_tl] at h
    rcases List.mem_append.mp h with h | h
    · rcases List.mem_append.mp h with h | h
      · have := nS_pos a0 h; omega
      · have := List.mem_singleton.mp h; omega
    · have := nS_pos b0 h; omega
  have f2 : 45 ∉ tl (nS z.a) := fun h => by have := nS_pos a0 h; omega
  have p1 : Txt.partition (tS z) (":" : Str) = (nS z.a ++ ("-" : Str) ++ nS z.b, (":" : Str), nS z.c) := part_at colon_txt f1
  have p2 : Txt.partition (nS z.a ++ ("-" : Str) ++ nS z.b) ("-" : Str) = (nS z.a, ("-" : Str), nS z.b) := part_at minus_tl f2
  have l2 : (nS z.a ++ ("-" : Str) ++ nS z.b).length ≤ 16777216 := by
    rw [len_app, len_app]
    have h1 := nS_len ha
    have h2 := nS_len hb
    have h4 : ("-" : Str).length = 1 := by rw [len_tl, minus_tl]; rfl
    omega
  have nat : ∀ {n : Int}, 0 ≤ n → n.natAbs < 2 ^ 100 → m_number_in (nS n) = .ok n := fun {n} n0 h => by
    cases n with
    | ofNat m => exact number_of (n := m) h
    | negSucc m => omega
  unfold m_tie_in
  rw [chk_b (by omega), p1]
  dsimp only
  rw [chk_b l2, if_neg (fun q => by have := congrArg tl q; rw [colon_txt] at this; exact nomatch this), p2]
  dsimp only
  rw [if_neg (fun q => by have := congrArg tl q; rw [minus_tl] at this; exact nomatch this), bind_ok (nat a0 ha), bind_ok (nat b0 hb), bind_ok (whole_of hc)]
/-! ### texts put together -/
theorem joinL_len (S : List Nat) : ∀ ps : List (List Nat), (joinL S ps).length ≤ (ps.map List.length).sum + ps.length * S.length
  | [] => Nat.zero_le _
  | [p] => by show p.length ≤ (p.length + 0) + 1 * S.length; omega
  | p :: q :: r => by
    have ih := joinL_len S (q :: r)
    show (p ++ (S ++ joinL S (q :: r))).length ≤ (p.length + ((q :: r).map List.length).sum) + ((q :: r).length + 1) * S.length
    rw [List.length_append, List.length_append, Nat.add_mul, Nat.one_mul]
    omega
theorem sum_le {b : Nat} : ∀ {ps : List Str}, (∀ p ∈ ps, p.length ≤ b) → (ps.map fun (s_ : Str) => s_.length).sum ≤ ps.length * b
  | [], _ => Nat.zero_le _
  | p :: ps, h => by
    have h1 := h p List.mem_cons_self
    have h2 := sum_le (ps := ps) (b := b) fun q hq => h q (List.mem_cons_of_mem _ hq)
    rw [List.map_cons, List.sum_cons, List.length_cons, Nat.add_mul, Nat.one_mul]
    omega
theorem joinS_len {b : Nat} {ps : List Str} (h : ∀ p ∈ ps, p.length ≤ b) : (joinS ps).length ≤ ps.length * (b + 1) := by
  unfold joinS
  rw [len_tl, tl_join]
  have h1 := joinL_len (tl (" " : Str)) (ps.map tl)
  rw [List.map_map, List.length_map, blank_tl] at h1
  have h2 := sum_le h
  have e : (List.length ∘ tl : Str → Nat) = fun s_ => s_.length := funext fun s => (len_tl s).symm
  rw [e] at h1
  have e2 : ([32] : List Nat).length = 1 := rfl
  rw [e2, Nat.mul_one] at h1
  rw [blank_tl, Nat.mul_add, Nat.mul_one]
  omega
theorem joinS_snoc (ps : List Str) (p : Str) : joinS (ps ++ [p]) = if ps = [] then p else joinS ps ++ (" " : Str) ++ p := by
  unfold joinS
  match ps with
  | [] => rfl
  | [q] => rfl
  | q :: q2 :: r =>
    have ih := joinS_snoc (q2 :: r) p
    unfold joinS at ih
    rw [if_neg (List.cons_ne_nil _ _)] at ih ⊢
    show q ++ (" " : Str) ++ Str.join (" " : Str) ((q2 :: r) ++ [p]) = (q ++ (" " : Str) ++ Str.join (" " : Str) (q2 :: r)) ++ (" " : Str) ++ p
    rw [ih]
    refine ext_tl ?_
    simp only [tl_append, List.append_assoc]
theorem joinS_in {ps : List Str} {P : Nat → Prop} (hb : P 32) (h : ∀ p ∈ ps, ∀ c ∈ tl p, P c) : ∀ c ∈ tl (joinS ps), P c := by
  unfold joinS
  rw [tl_join, blank_tl]
  have go : ∀ qs : List (List Nat), (∀ p ∈ qs, ∀ c ∈ p, P c) → ∀ c ∈ joinL [32] qs, P c := by
    intro qs
    induction qs with
    | nil => intro _ c hc; exact nomatch hc
    | cons p qs ih =>
      intro h c hc
      cases qs with
      | nil => exact h p List.mem_cons_self c hc
      | cons q r =>
        have hc : c ∈ p ++ ([32] ++ joinL [32] (q :: r)) := hc
        rcases List.mem_append.mp hc with hc | hc
        · exact h p List.mem_cons_self c hc
        · rcases List.mem_append.mp hc with hc | hc
          · rw [List.mem_singleton.mp hc]; exact hb
          · exact ih (fun x hx => h x (List.mem_cons_of_mem _ hx)) c hc
  exact go _ fun p hp c hc => by
    obtain ⟨s, hs, rfl⟩ := List.mem_map.mp hp
    exact h s hs c hc
theorem small256 {y : Str} {c : Nat} (h : tl y = [c]) (hc : c < 256) : y.cps.all (· < 256) = true := by
  rw [← Array.all_toList]
  show (tl y).all _ = true
  rw [h]
  simp [hc]
theorem split_blank {ps : List Str} (hne : ps ≠ []) (hp : ∀ p ∈ ps, 32 ∉ tl p) : Txt.split (joinS ps) (" " : Str) = ps := by
  unfold joinS
  rw [← join_eq]
  exact split_join blank_tl (small256 blank_tl (by decide)) hne hp
theorem split_line {a b : Str} (ha : 10 ∉ tl a) (hb : 10 ∉ tl b) : Txt.split (a ++ ("\n" : Str) ++ b) ("\n" : Str) = [a, b] := by
  have e : a ++ ("\n" : Str) ++ b = Txt.join ("\n" : Str) [a, b] := by rw [join_eq]; rfl
  rw [e]
  exact split_join line_tl (small256 line_tl (by decide)) (List.cons_ne_nil _ _) fun p hp => by
    simp only [List.mem_cons, List.not_mem_nil, or_false] at hp
    rcases hp with e | e <;> rw [e] <;> assumption

/-! ### a tree written and read -/
def spS (k : Nat) : Str := if k = 0 then Str.empty else (" " : Str)
theorem mul_sp (k : Nat) : Txt.mul (" " : Str) (if (decide ((0 : Int) < (k : Int))) = true then (1 : Int) else 0) = spS k := by
  unfold spS
  by_cases h : k = 0
  · subst h
    rw [if_pos rfl]
    rfl
  · rw [if_neg h, if_pos (decide_eq_true (by omega))]
    rfl
theorem empty_app (x : Str) : Str.empty ++ x = x := ext_tl (by rw [tl_append]; rfl)
theorem app_empty (x : Str) : x ++ Str.empty = x := ext_tl (by rw [tl_append]; exact List.append_nil _)
theorem app_assoc (x y z : Str) : x ++ y ++ z = x ++ (y ++ z) := ext_tl (by simp only [tl_append, List.append_assoc])
theorem blank_len : (" " : Str).length = 1 := by rw [len_tl, blank_tl]; rfl
theorem range0_pre {n : Int} {pre post : List Int} {y : Int} (ea : rangeL 0 n = pre ++ y :: post) : y = (pre.length : Int) ∧ y < n := by
  have h1 : (rangeL 0 n)[pre.length]? = some y := by rw [ea, List.getElem?_append_right (Nat.le_refl _), Nat.sub_self]; rfl
  have hlt := (List.getElem?_eq_some_iff.mp h1).1
  rw [rangeL_length] at hlt
  unfold rangeL at h1
  rw [List.getElem?_map, List.getElem?_range hlt] at h1
  have h1 : (0 : Int) + (pre.length : Int) = y := Option.some.inj h1
  omega
theorem shown_loop {β : Type} {xs : List β} {f : β → Str} {g : Int → Str → M Str} (hb : ∀ x ∈ xs, (f x).length ≤ 122) (hn : xs.length ≤ 50) {base : Str} (h0 : base.length ≤ 10000)
    (hg : ∀ (k : Nat) x st, xs[k]? = some x → st.length ≤ 20000 → g (k : Int) st = .ok (st ++ spS k ++ f x)) : loopN g (rangeL 0 (xs.length : Int)) base = .ok (base ++ joinS (xs.map f)) := by
  obtain ⟨st, e, h⟩ := loopN_run (f := g) (all := rangeL 0 (xs.length : Int)) (fun pre st => st = base ++ joinS ((xs.take pre.length).map f)) (x := base) (by
    show base = base ++ joinS ((xs.take 0).map f)
    rw [List.take_zero]
    exact (app_empty base).symm) (fun pre y post st ea es => by
    obtain ⟨hy, hlt⟩ := range0_pre ea
    have hk : pre.length < xs.length := by omega
    obtain ⟨x, ex⟩ : ∃ x, xs[pre.length]? = some x := ⟨_, List.getElem?_eq_getElem hk⟩
    have hl : st.length ≤ 20000 := by
      rw [es, len_app]
      have := joinS_len (ps := (xs.take pre.length).map f) (b := 122) fun p hp => by
        obtain ⟨x, hx, rfl⟩ := List.mem_map.mp hp
        exact hb x (List.mem_of_mem_take hx)
      rw [List.length_map, List.length_take] at this
      have h2 : min pre.length xs.length ≤ 50 := by omega
      have h3 := Nat.mul_le_mul_right (122 + 1) h2
      omega
    refine ⟨_, by rw [hy]; exact hg pre.length _ st ex hl, ?_⟩
    rw [List.length_append, List.length_singleton, List.take_succ, ex, List.map_append, es]
    show base ++ joinS _ ++ spS pre.length ++ f _ = base ++ joinS (_ ++ [f _])
    rw [joinS_snoc]
    unfold spS
    by_cases c : pre.length = 0
    · rw [if_pos c, if_pos (by rw [c, List.take_zero]; rfl), c, List.take_zero]
      show base ++ Str.empty ++ Str.empty ++ _ = _
      rw [app_empty, app_empty]
    · rw [if_neg c, if_neg (fun q => by
        have := congrArg List.length q
        rw [List.length_map, List.length_take] at this
        have : min pre.length xs.length = 0 := this
        omega)]
      simp only [app_assoc])
  rw [e, h]
  rw [rangeL_length, show ((xs.length : Int) - 0).toNat = xs.length by omega, List.take_length]
section
variable {t : Tr} (ht : TreeOk t) (hn : t.1.length ≤ 40) (hw : ∀ x ∈ t.1, x.natAbs < 2 ^ 100) (hz : ∀ z ∈ t.2, z.c.natAbs < 2 ^ 100)
include ht hn hw hz
theorem tie_rg {z : Tie} (h : z ∈ t.2) : 0 ≤ z.a ∧ 0 ≤ z.b ∧ z.a.natAbs < 2 ^ 100 ∧ z.b.natAbs < 2 ^ 100 := by
  have := ht.tie z h
  have p : 40 < 2 ^ 100 := by decide
  exact ⟨by omega, by omega, Nat.lt_trans (show z.a.natAbs < 40 by omega) p, Nat.lt_trans (show z.b.natAbs < 40 by omega) p⟩
theorem tS_le {z : Tie} (h : z ∈ t.2) : (tS z).length ≤ 122 := by
  obtain ⟨_, _, h1, h2⟩ := tie_rg ht hn hw hz h
  exact tS_len h1 h2 (hz z h)
theorem shown_ok {mark : Str} (hm : mark.length ≤ 10) : m_law_shown_tree t mark = .ok (treeS t mark) := by
  have hlen := ht.len
  have m1 : ("-" : Str).length = 1 := by rw [len_tl, minus_tl]; rfl
  have m2 : (":" : Str).length = 1 := by rw [len_tl, colon_txt]; rfl
  have ms : ∀ k, (spS k).length ≤ 1 := fun k => by
    unfold spS
    by_cases c : k = 0
    · rw [if_pos c]; decide
    · rw [if_neg c, blank_len]; exact Nat.le_refl _
  have cr : ∀ k : Nat, CRepS (" " : Str) (if (decide ((0 : Int) < (k : Int))) = true then (1 : Int) else 0) := fun k => by
    refine ⟨by rw [blank_len]; decide, ?_, ?_⟩ <;> split <;> decide
  have L1 : ∀ x ∈ t.1, (nS x).length ≤ 122 := fun x hx => Nat.le_trans (nS_len (hw x hx)) (by decide)
  unfold m_law_shown_tree
  rw [chk_b (show okR (t.1.length : Int) from ⟨by omega, by omega⟩)]
  rw [bind_ok (shown_loop (xs := t.1) (f := nS) (base := ("" : Str)) L1 (by omega) (by decide) (fun k x st ex hl => by
    have hx := List.mem_of_getElem? ex
    have l1 : (Str.ofString (toString x)).length ≤ 40 := nS_len (hw x hx)
    have ea : L2.atI t.1 (k : Int) = some x := by
      obtain ⟨y, e1, e2⟩ := atI_some (xs := t.1) (j := (k : Int)) (by omega) (by have := (List.getElem?_eq_some_iff.mp ex).1; omega)
      rw [show ((k : Int)).toNat = k by omega, ex] at e2
      rw [e1, ← Option.some.inj e2]
    have := ms k
    rw [chk_b (cr k), mul_sp, chk_b (by omega), opt_b ea, chk_b (log_lt (hw x hx) (by decide)), chk_b (by rw [len_app]; omega)]
    rfl))]
  have jl : (joinS (t.1.map nS)).length ≤ 5000 := by
    have := joinS_len (ps := t.1.map nS) (b := 122) fun p hp => by
      obtain ⟨x, hx, rfl⟩ := List.mem_map.mp hp
      exact L1 x hx
    rw [List.length_map] at this
    have h3 := Nat.mul_le_mul_right (122 + 1) hn
    omega
  have e0 : ("" : Str) ++ joinS (t.1.map nS) = joinS (t.1.map nS) := empty_app _
  rw [e0, chk_b (by omega), chk_b (show okR (t.2.length : Int) from ⟨by omega, by omega⟩)]
  rw [bind_ok (shown_loop (xs := t.2) (f := tS) (base := joinS (t.1.map nS) ++ mark) (fun z h => tS_le ht hn hw hz h) (by omega) (by rw [len_app]; omega) (fun k z st ex hl => by
    have hx := List.mem_of_getElem? ex
    obtain ⟨_, _, za, zb⟩ := tie_rg ht hn hw hz hx
    have l1 : (Str.ofString (toString z.a)).length ≤ 40 := nS_len za
    have l2 : (Str.ofString (toString z.b)).length ≤ 40 := nS_len zb
    have l3 : (Str.ofString (toString z.c)).length ≤ 40 := nS_len (hz z hx)
    have ea : L2.atI t.2 (k : Int) = some z := by
      obtain ⟨y, e1, e2⟩ := atI_some (xs := t.2) (j := (k : Int)) (by omega) (by have := (List.getElem?_eq_some_iff.mp ex).1; omega)
      rw [show ((k : Int)).toNat = k by omega, ex] at e2
      rw [e1, ← Option.some.inj e2]
    have := ms k
    rw [opt_b ea, chk_b (cr k), mul_sp, chk_b (by omega), chk_b (log_lt za (by decide)), chk_b (by simp only [len_app]; omega), chk_b (by simp only [len_app]; omega), chk_b (log_lt zb (by decide)), chk_b (by simp only [len_app]; omega), chk_b (by simp only [len_app]; omega), chk_b (log_lt (hz z hx) (by decide)), chk_b (by simp only [len_app]; omega)]
    refine congrArg Except.ok ?_
    show st ++ spS k ++ nS z.a ++ ("-" : Str) ++ nS z.b ++ (":" : Str) ++ nS z.c = st ++ spS k ++ tS z
    unfold tS
    simp only [app_assoc]))]
  rfl
theorem show_ok : m_show_tree t = .ok (treeS t ("\n" : Str)) := by
  have hlen := ht.len
  have m1 : ("-" : Str).length = 1 := by rw [len_tl, minus_tl]; rfl
  have m2 : (":" : Str).length = 1 := by rw [len_tl, colon_txt]; rfl
  have m3 : ("\n" : Str).length = 1 := by rw [len_tl, line_tl]; rfl
  have jb : ∀ ps : List Str, ps.length ≤ 50 → (∀ p ∈ ps, p.length ≤ 122) → (List.map (fun (s_ : Str) => s_.length) ps).sum + ps.length * (" " : Str).length ≤ 7000 ∧ (joinS ps).length ≤ 7000 := fun ps h1 h2 => by
    have a := sum_le h2
    have b := joinS_len h2
    have c := Nat.mul_le_mul_right 122 h1
    have d := Nat.mul_le_mul_right (122 + 1) h1
    rw [blank_len]
    omega
  have j1 := jb (t.1.map nS) (by rw [List.length_map]; omega) fun p hp => by
    obtain ⟨x, hx, rfl⟩ := List.mem_map.mp hp
    exact Nat.le_trans (nS_len (hw x hx)) (by decide)
  have j2 := jb (t.2.map tS) (by rw [List.length_map]; omega) fun p hp => by
    obtain ⟨x, hx, rfl⟩ := List.mem_map.mp hp
    exact tS_le ht hn hw hz hx
  have k1 : Txt.join (" " : Str) (t.1.map nS) = joinS (t.1.map nS) := join_eq _ _
  have k2 : Txt.join (" " : Str) (t.2.map tS) = joinS (t.2.map tS) := join_eq _ _
  unfold m_show_tree
  refine compS_mapB tS (by omega) (fun z hx => ?_) ?_
  · obtain ⟨_, _, za, zb⟩ := tie_rg ht hn hw hz hx
    have l1 : (Str.ofString (toString z.a)).length ≤ 40 := nS_len za
    have l2 : (Str.ofString (toString z.b)).length ≤ 40 := nS_len zb
    have l3 : (Str.ofString (toString z.c)).length ≤ 40 := nS_len (hz z hx)
    rw [chk_b (log_lt za (by decide)), chk_b (by omega), chk_b (log_lt zb (by decide)), chk_b (by simp only [len_app]; omega), chk_b (by simp only [len_app]; omega), chk_b (log_lt (hz z hx) (by decide)), chk_b (by simp only [len_app]; omega)]
    rfl
  refine compS_mapB nS (by omega) (fun x hx => ?_) ?_
  · rw [chk_b (log_lt (hw x hx) (by decide))]
    rfl
  dsimp only
  rw [chk_b (Nat.le_trans j1.1 (by decide)), k1, chk_b (by rw [m3]; omega), chk_b (Nat.le_trans j2.1 (by decide)), k2, chk_b (by rw [len_app, m3]; omega)]
  rfl
theorem read_ok : m_read_tree (treeS t ("\n" : Str)) = .ok t := by
  have hlen := ht.len
  have hpos := ht.pos
  have m3 : ("\n" : Str).length = 1 := by rw [len_tl, line_tl]; rfl
  have in1 : ∀ c ∈ tl (joinS (t.1.map nS)), c ≠ 10 := joinS_in (P := fun c => c ≠ 10) (by decide) fun p hp c hc => by
    obtain ⟨x, _, rfl⟩ := List.mem_map.mp hp
    rcases nS_in hc with e | e <;> omega
  have in2 : ∀ c ∈ tl (joinS (t.2.map tS)), c ≠ 10 := joinS_in (P := fun c => c ≠ 10) (by decide) fun p hp c hc => by
    obtain ⟨x, _, rfl⟩ := List.mem_map.mp hp
    rcases tS_in hc with e | e | e <;> omega
  have es : Txt.split (treeS t ("\n" : Str)) ("\n" : Str) = [joinS (t.1.map nS), joinS (t.2.map tS)] := split_line (fun h => in1 10 h rfl) (fun h => in2 10 h rfl)
  have l1 : (joinS (t.1.map nS)).length ≤ 7000 := by
    have := joinS_len (ps := t.1.map nS) (b := 122) fun p hp => by
      obtain ⟨x, hx, rfl⟩ := List.mem_map.mp hp
      exact Nat.le_trans (nS_len (hw x hx)) (by decide)
    rw [List.length_map] at this
    have h3 := Nat.mul_le_mul_right (122 + 1) hn
    omega
  have l2 : (joinS (t.2.map tS)).length ≤ 7000 := by
    have := joinS_len (ps := t.2.map tS) (b := 122) fun p hp => by
      obtain ⟨x, hx, rfl⟩ := List.mem_map.mp hp
      exact tS_le ht hn hw hz hx
    rw [List.length_map] at this
    have h3 := Nat.mul_le_mul_right (122 + 1) (show t.2.length ≤ 40 by omega)
    omega
  have ne1 : t.1.map nS ≠ [] := fun q => by have := congrArg List.length q; rw [List.length_map] at this; have : t.1.length = 0 := this; omega
  have s1 : Txt.split (joinS (t.1.map nS)) (" " : Str) = t.1.map nS := split_blank ne1 fun p hp h => by
    obtain ⟨x, _, rfl⟩ := List.mem_map.mp hp
    rcases nS_in h with e | e <;> omega
  have tr := tree_of_ok t ht (by omega) t.2 (List.Perm.refl _)
  have tl0 : (treeS t ("\n" : Str)).length + 2 ≤ 16777216 := by
    unfold treeS
    rw [len_app, len_app, m3]
    omega
  unfold m_read_tree
  rw [chk_b tl0, es, if_neg (fun q => q rfl), opt_b (at_head _ _), chk_b (by omega), s1]
  refine compS_pureB (fun s => some ((m_whole_in s).toOption.getD 0)) (by rw [List.length_map]; omega) (fun s hs => ?_) ?_
  · obtain ⟨x, hx, rfl⟩ := List.mem_map.mp hs
    have := whole_of (hw x hx)
    rw [bind_ok this, this]
    rfl
  have f1 : (t.1.map nS).filterMap (fun s => some ((m_whole_in s).toOption.getD 0)) = t.1 := by
    rw [List.filterMap_eq_map', List.map_map]
    refine (List.map_congr_left fun x hx => ?_).trans (List.map_id' _)
    show ((m_whole_in (nS x)).toOption.getD 0) = x
    rw [whole_of (hw x hx)]
    rfl
  rw [f1]
  dsimp only
  have a1 : L2.atI [joinS (t.1.map nS), joinS (t.2.map tS)] (1 : Int) = some (joinS (t.2.map tS)) := rfl
  rw [opt_b a1]
  by_cases c : t.2 = []
  · rw [c]
    show (if (joinS []) ≠ ("" : Str) then _ else _) = _
    rw [if_neg (fun q => q rfl), if_neg (fun q => q (List.perm_nil.mp (sortT_perm ([] : List Tie))).symm)]
    rw [c] at tr
    rw [bind_ok tr, ← c]
  · have ne2 : t.2.map tS ≠ [] := fun q => c (List.map_eq_nil_iff.mp q)
    have s2 : Txt.split (joinS (t.2.map tS)) (" " : Str) = t.2.map tS := split_blank ne2 fun p hp h => by
      obtain ⟨x, _, rfl⟩ := List.mem_map.mp hp
      rcases tS_in h with e | e | e <;> omega
    have b0 : joinS (t.2.map tS) ≠ ("" : Str) := fun q => by
      rw [q] at s2
      obtain ⟨z, zs, ez⟩ := List.exists_cons_of_ne_nil c
      have e1 : Txt.split ("" : Str) (" " : Str) = [("" : Str)] := by decide +kernel
      rw [e1, ez] at s2
      have h1 : tS z = ("" : Str) := (List.cons.inj s2).1.symm
      have h2 := congrArg tl h1
      rw [tS_tl] at h2
      exact absurd (List.append_eq_nil_iff.mp h2).1 (nS_ne _)
    rw [if_pos b0, opt_b a1, chk_b (by omega), s2]
    refine compS_pureB (fun s => some ((m_tie_in s).toOption.getD ⟨0, 0, 0⟩)) (by rw [List.length_map]; omega) (fun s hs => ?_) ?_
    · obtain ⟨z, hx, rfl⟩ := List.mem_map.mp hs
      obtain ⟨a0, b0, za, zb⟩ := tie_rg ht hn hw hz hx
      have := tie_of a0 b0 za zb (hz z hx)
      rw [bind_ok this, this]
      rfl
    have f2 : (t.2.map tS).filterMap (fun s => some ((m_tie_in s).toOption.getD ⟨0, 0, 0⟩)) = t.2 := by
      rw [List.filterMap_eq_map', List.map_map]
      refine (List.map_congr_left fun z hx => ?_).trans (List.map_id' _)
      obtain ⟨a0, b0, za, zb⟩ := tie_rg ht hn hw hz hx
      show ((m_tie_in (tS z)).toOption.getD ⟨0, 0, 0⟩) = z
      rw [tie_of a0 b0 za zb (hz z hx)]
      rfl
    rw [f2]
    dsimp only
    rw [if_neg (fun q => q ht.sorted.symm), bind_ok tr]
end

/-! ### k49 -/
theorem same0 (x : Int) : m_law_alike_0 x x = .ok true := congrArg Except.ok (decide_eq_true rfl)
theorem comp_none {i : Type} {f : i → Unit → M (Option i × Unit)} {all : List i} (hl : all.length < 16777216) (hs : ∀ y ∈ all, f y () = .ok (none, ())) {k : List i × Unit → M Bool} {Q : M Bool} (hk : k ([], ()) = Q) : (compS f all () >>= k) = Q := by
  refine compS_pureB (fun _ => none) hl hs ?_
  rw [List.filterMap_eq_nil_iff.mpr fun _ _ => rfl]
  exact hk
theorem same1 {xs : List Int} (h : xs.length ≤ 1000) : m_law_alike_1 xs xs = .ok true := by
  unfold m_law_alike_1
  rw [if_neg (fun z => z rfl), if_neg (fun z => z rfl), chk_b (show okR (xs.length : Int) from ⟨by omega, by omega⟩)]
  refine comp_none (by rw [rangeL_length]; omega) (fun k hk => ?_) ?_
  · have hk := rangeL_mem.mp hk
    obtain ⟨x, x1, _⟩ := atI_some (xs := xs) (j := k) hk.1 hk.2
    rw [opt_b x1, opt_b x1, bind_ok (same0 x), if_pos rfl]
  · exact congrArg Except.ok (decide_eq_true rfl)
theorem same2 (z : Tie) : m_law_alike_2 z z = .ok true := by
  unfold m_law_alike_2
  rw [if_neg (fun z => z rfl), if_neg (fun z => z rfl), chk_b (show okR ((3 : Nat) : Int) from ⟨by omega, by omega⟩)]
  refine comp_none (by rw [rangeL_length]; decide) (fun k hk => ?_) ?_
  · have hk := rangeL_mem.mp hk
    rw [chk_b ⟨hk.1, hk.2⟩]
    by_cases q : k = 0
    · rw [if_pos q, bind_ok (same0 _), if_pos rfl]
    · rw [if_neg q]
      by_cases q2 : k = 1
      · rw [if_pos q2, bind_ok (same0 _), if_pos rfl]
      · rw [if_neg q2, bind_ok (same0 _), if_pos rfl]
  · exact congrArg Except.ok (decide_eq_true rfl)
theorem same3 {xs : List Tie} (h : xs.length ≤ 1000) : m_law_alike_3 xs xs = .ok true := by
  unfold m_law_alike_3
  rw [if_neg (fun z => z rfl), if_neg (fun z => z rfl), chk_b (show okR (xs.length : Int) from ⟨by omega, by omega⟩)]
  refine comp_none (by rw [rangeL_length]; omega) (fun k hk => ?_) ?_
  · have hk := rangeL_mem.mp hk
    obtain ⟨x, x1, _⟩ := atI_some (xs := xs) (j := k) hk.1 hk.2
    rw [opt_b x1, opt_b x1, bind_ok (same2 x), if_pos rfl]
  · exact congrArg Except.ok (decide_eq_true rfl)
theorem same4 {t : Tr} (h1 : t.1.length ≤ 1000) (h2 : t.2.length ≤ 1000) : m_law_alike_4 t t = .ok true := by
  unfold m_law_alike_4
  rw [if_neg (fun z => z rfl), if_neg (fun z => z rfl), chk_b (show okR ((2 : Nat) : Int) from ⟨by omega, by omega⟩)]
  refine comp_none (by rw [rangeL_length]; decide) (fun k hk => ?_) ?_
  · have hk := rangeL_mem.mp hk
    rw [chk_b ⟨hk.1, hk.2⟩]
    by_cases q : k = 0
    · rw [if_pos q, bind_ok (same1 h1), if_pos rfl]
    · rw [if_neg q, bind_ok (same3 h2), if_pos rfl]
  · exact congrArg Except.ok (decide_eq_true rfl)
theorem law_true (ns : List Int) (h : ns.length ≤ 63) : m_law ns = .ok true := by
  obtain ⟨t, e1, ht, hn, hw, hz⟩ := tree_ok ns 9 (by decide) (by decide)
  have up : (2 : Nat) ^ 99 < 2 ^ 100 := by decide
  have hw : ∀ x ∈ t.1, x.natAbs < 2 ^ 100 := fun x hx => Nat.lt_trans (hw x hx) up
  have hz : ∀ z ∈ t.2, z.c.natAbs < 2 ^ 100 := fun z h => Nat.lt_trans (hz z h) up
  have hlen := ht.len
  have sh := show_ok ht hn hw hz
  have rd := read_ok ht hn hw hz
  have al := same4 (t := t) (by omega) (by omega)
  unfold m_law
  rw [bind_ok e1, bind_ok (shown_ok ht hn hw hz (mark := ("\n" : Str)) (by rw [len_tl, line_tl]; decide)), bind_ok sh, if_neg (fun z => z rfl), if_neg (fun z => z rfl), bind_ok rd, bind_ok al, if_pos rfl, bind_ok (appL_ok (by omega)), bind_ok rd, bind_ok al, if_pos rfl, bind_ok sh]
  exact congrArg Except.ok (decide_eq_true rfl)

theorem all_mk {P : Program} {w : World} {K : PySem.W.Frag} {h : Heap} {mg : Str → Option Value} {fa f1 f2 f3 f4 f5 f6 f7 f8 f9 f10 f11 f12 f13 f14 f15 f16 f17 f18 f19 C_NoText C_NoTree : Addr} {od1 an1 od2 an2 od3 an3 od4 an4 od5 an5 od6 an6 od7 an7 od8 an8 od9 an9 od10 an10 od11 an11 od12 an12 od13 an13 od14 an14 od15 an15 od16 an16 od17 an17 od18 an18 od19 an19 : Option Addr} {sl1 sl2 sl3 sl4 sl5 sl6 sl7 sl8 sl9 sl10 sl11 sl12 sl13 sl14 sl15 sl16 sl17 sl18 sl19 : Array (Option Value)} {oc1 kV1 dc1 pm1 cd1 ct1 oc2 kV2 dc2 pm2 cd2 ct2 oc3 kV3 dc3 pm3 cd3 ct3 oc4 kV4 dc4 pm4 cd4 ct4 oc5 kV5 dc5 pm5 cd5 ct5 oc6 kV6 dc6 pm6 cd6 ct6 oc7 kV7 dc7 pm7 cd7 ct7 oc8 kV8 dc8 pm8 cd8 ct8 oc9 kV9 dc9 pm9 cd9 ct9 oc10 kV10 dc10 pm10 cd10 ct10 oc11 kV11 dc11 pm11 cd11 ct11 oc12 kV12 dc12 pm12 cd12 ct12 oc13 kV13 dc13 pm13 cd13 ct13 oc14 kV14 dc14 pm14 cd14 ct14 oc15 kV15 dc15 pm15 cd15 ct15 oc16 kV16 dc16 pm16 cd16 ct16 oc17 kV17 dc17 pm17 cd17 ct17 oc18 kV18 dc18 pm18 cd18 ct18 oc19 kV19 dc19 pm19 cd19 ct19 : Value} {tk_FIGURES : Tok} (X : K.In h) (G : h.Ns mainGlobals mg) (hfa : mg "law" = some (.ref fa))
    (a1 : PySem.W.nsIn K mainGlobals "tied_places" = some (some (.ref f1))) (l1 : K.lookup f1 = some ⟨oc1, od1, .func (PySem.W.fnOf "tied_places" "tied_places" (defArgs s_tied_places) (defBody s_tied_places) (defScope s_tied_places) .none kV1 dc1 pm1 an1 cd1 ct1), sl1⟩) (c1 : PySem.W.codeIn K cd1 "tied_places" = true) (k1 : PySem.W.keepIn K (.ref f1) = true)
    (a2 : PySem.W.nsIn K mainGlobals "come_to" = some (some (.ref f2))) (l2 : K.lookup f2 = some ⟨oc2, od2, .func (PySem.W.fnOf "come_to" "come_to" (defArgs s_come_to) (defBody s_come_to) (defScope s_come_to) .none kV2 dc2 pm2 an2 cd2 ct2), sl2⟩) (c2 : PySem.W.codeIn K cd2 "come_to" = true) (k2 : PySem.W.keepIn K (.ref f2) = true)
    (a3 : PySem.W.nsIn K mainGlobals "tree_of" = some (some (.ref f3))) (l3 : K.lookup f3 = some ⟨oc3, od3, .func (PySem.W.fnOf "tree_of" "tree_of" (defArgs s_tree_of) (defBody s_tree_of) (defScope s_tree_of) .none kV3 dc3 pm3 an3 cd3 ct3), sl3⟩) (c3 : PySem.W.codeIn K cd3 "tree_of" = true) (k3 : PySem.W.keepIn K (.ref f3) = true)
    (a4 : PySem.W.nsIn K mainGlobals "number_in" = some (some (.ref f4))) (l4 : K.lookup f4 = some ⟨oc4, od4, .func (PySem.W.fnOf "number_in" "number_in" (defArgs s_number_in) (defBody s_number_in) (defScope s_number_in) .none kV4 dc4 pm4 an4 cd4 ct4), sl4⟩) (c4 : PySem.W.codeIn K cd4 "number_in" = true) (k4 : PySem.W.keepIn K (.ref f4) = true)
    (a5 : PySem.W.nsIn K mainGlobals "whole_in" = some (some (.ref f5))) (l5 : K.lookup f5 = some ⟨oc5, od5, .func (PySem.W.fnOf "whole_in" "whole_in" (defArgs s_whole_in) (defBody s_whole_in) (defScope s_whole_in) .none kV5 dc5 pm5 an5 cd5 ct5), sl5⟩) (c5 : PySem.W.codeIn K cd5 "whole_in" = true) (k5 : PySem.W.keepIn K (.ref f5) = true)
    (a6 : PySem.W.nsIn K mainGlobals "show_tree" = some (some (.ref f6))) (l6 : K.lookup f6 = some ⟨oc6, od6, .func (PySem.W.fnOf "show_tree" "show_tree" (defArgs s_show_tree) (defBody s_show_tree) (defScope s_show_tree) .none kV6 dc6 pm6 an6 cd6 ct6), sl6⟩) (c6 : PySem.W.codeIn K cd6 "show_tree" = true) (k6 : PySem.W.keepIn K (.ref f6) = true)
    (a7 : PySem.W.nsIn K mainGlobals "tie_in" = some (some (.ref f7))) (l7 : K.lookup f7 = some ⟨oc7, od7, .func (PySem.W.fnOf "tie_in" "tie_in" (defArgs s_tie_in) (defBody s_tie_in) (defScope s_tie_in) .none kV7 dc7 pm7 an7 cd7 ct7), sl7⟩) (c7 : PySem.W.codeIn K cd7 "tie_in" = true) (k7 : PySem.W.keepIn K (.ref f7) = true)
    (a8 : PySem.W.nsIn K mainGlobals "read_tree" = some (some (.ref f8))) (l8 : K.lookup f8 = some ⟨oc8, od8, .func (PySem.W.fnOf "read_tree" "read_tree" (defArgs s_read_tree) (defBody s_read_tree) (defScope s_read_tree) .none kV8 dc8 pm8 an8 cd8 ct8), sl8⟩) (c8 : PySem.W.codeIn K cd8 "read_tree" = true) (k8 : PySem.W.keepIn K (.ref f8) = true)
    (a9 : PySem.W.nsIn K mainGlobals "_law_cell_at" = some (some (.ref f9))) (l9 : K.lookup f9 = some ⟨oc9, od9, .func (PySem.W.fnOf "_law_cell_at" "_law_cell_at" (defArgs s_law_cell_at) (defBody s_law_cell_at) (defScope s_law_cell_at) .none kV9 dc9 pm9 an9 cd9 ct9), sl9⟩) (c9 : PySem.W.codeIn K cd9 "_law_cell_at" = true) (k9 : PySem.W.keepIn K (.ref f9) = true)
    (a10 : PySem.W.nsIn K mainGlobals "_law_digits" = some (some (.ref f10))) (l10 : K.lookup f10 = some ⟨oc10, od10, .func (PySem.W.fnOf "_law_digits" "_law_digits" (defArgs s_law_digits) (defBody s_law_digits) (defScope s_law_digits) .none kV10 dc10 pm10 an10 cd10 ct10), sl10⟩) (c10 : PySem.W.codeIn K cd10 "_law_digits" = true) (k10 : PySem.W.keepIn K (.ref f10) = true)
    (a11 : PySem.W.nsIn K mainGlobals "_law_alike" = some (some (.ref f11))) (l11 : K.lookup f11 = some ⟨oc11, od11, .func (PySem.W.fnOf "_law_alike" "_law_alike" (defArgs s_law_alike_0) (defBody s_law_alike_0) (defScope s_law_alike_0) .none kV11 dc11 pm11 an11 cd11 ct11), sl11⟩) (c11 : PySem.W.codeIn K cd11 "_law_alike" = true) (k11 : PySem.W.keepIn K (.ref f11) = true)
    (a12 : PySem.W.nsIn K mainGlobals "_law_alike" = some (some (.ref f12))) (l12 : K.lookup f12 = some ⟨oc12, od12, .func (PySem.W.fnOf "_law_alike" "_law_alike" (defArgs s_law_alike_1) (defBody s_law_alike_1) (defScope s_law_alike_1) .none kV12 dc12 pm12 an12 cd12 ct12), sl12⟩) (c12 : PySem.W.codeIn K cd12 "_law_alike" = true) (k12 : PySem.W.keepIn K (.ref f12) = true)
    (a13 : PySem.W.nsIn K mainGlobals "_law_alike" = some (some (.ref f13))) (l13 : K.lookup f13 = some ⟨oc13, od13, .func (PySem.W.fnOf "_law_alike" "_law_alike" (defArgs s_law_alike_2) (defBody s_law_alike_2) (defScope s_law_alike_2) .none kV13 dc13 pm13 an13 cd13 ct13), sl13⟩) (c13 : PySem.W.codeIn K cd13 "_law_alike" = true) (k13 : PySem.W.keepIn K (.ref f13) = true)
    (a14 : PySem.W.nsIn K mainGlobals "_law_alike" = some (some (.ref f14))) (l14 : K.lookup f14 = some ⟨oc14, od14, .func (PySem.W.fnOf "_law_alike" "_law_alike" (defArgs s_law_alike_3) (defBody s_law_alike_3) (defScope s_law_alike_3) .none kV14 dc14 pm14 an14 cd14 ct14), sl14⟩) (c14 : PySem.W.codeIn K cd14 "_law_alike" = true) (k14 : PySem.W.keepIn K (.ref f14) = true)
    (a15 : PySem.W.nsIn K mainGlobals "_law_alike" = some (some (.ref f15))) (l15 : K.lookup f15 = some ⟨oc15, od15, .func (PySem.W.fnOf "_law_alike" "_law_alike" (defArgs s_law_alike_4) (defBody s_law_alike_4) (defScope s_law_alike_4) .none kV15 dc15 pm15 an15 cd15 ct15), sl15⟩) (c15 : PySem.W.codeIn K cd15 "_law_alike" = true) (k15 : PySem.W.keepIn K (.ref f15) = true)
    (a16 : PySem.W.nsIn K mainGlobals "_law_number" = some (some (.ref f16))) (l16 : K.lookup f16 = some ⟨oc16, od16, .func (PySem.W.fnOf "_law_number" "_law_number" (defArgs s_law_number) (defBody s_law_number) (defScope s_law_number) .none kV16 dc16 pm16 an16 cd16 ct16), sl16⟩) (c16 : PySem.W.codeIn K cd16 "_law_number" = true) (k16 : PySem.W.keepIn K (.ref f16) = true)
    (a17 : PySem.W.nsIn K mainGlobals "_law_tree" = some (some (.ref f17))) (l17 : K.lookup f17 = some ⟨oc17, od17, .func (PySem.W.fnOf "_law_tree" "_law_tree" (defArgs s_law_tree) (defBody s_law_tree) (defScope s_law_tree) .none kV17 dc17 pm17 an17 cd17 ct17), sl17⟩) (c17 : PySem.W.codeIn K cd17 "_law_tree" = true) (k17 : PySem.W.keepIn K (.ref f17) = true)
    (a18 : PySem.W.nsIn K mainGlobals "_law_shown_tree" = some (some (.ref f18))) (l18 : K.lookup f18 = some ⟨oc18, od18, .func (PySem.W.fnOf "_law_shown_tree" "_law_shown_tree" (defArgs s_law_shown_tree) (defBody s_law_shown_tree) (defScope s_law_shown_tree) .none kV18 dc18 pm18 an18 cd18 ct18), sl18⟩) (c18 : PySem.W.codeIn K cd18 "_law_shown_tree" = true) (k18 : PySem.W.keepIn K (.ref f18) = true)
    (a19 : PySem.W.nsIn K mainGlobals "law" = some (some (.ref f19))) (l19 : K.lookup f19 = some ⟨oc19, od19, .func (PySem.W.fnOf "law" "law" (defArgs s_law) (defBody s_law) (defScope s_law) .none kV19 dc19 pm19 an19 cd19 ct19), sl19⟩) (c19 : PySem.W.codeIn K cd19 "law" = true) (k19 : PySem.W.keepIn K (.ref f19) = true)
    (ga_NoText : PySem.W.nsIn K mainGlobals "NoText" = some (some (.ref C_NoText))) (gx_NoText : PySem.W.excIn K C_NoText [.type "ValueError", .type "Exception", .type "BaseException", .type "object"] "ValueError.__new__" = true) (gk_NoText : PySem.W.keepIn K (.ref C_NoText) = true) (gb_NoText : PySem.W.subIn K (.ref C_NoText) (.type "BaseException") = some true) (gt_NoText : PySem.W.typeIn K (.ref C_NoText) = some (.type "type"))
    (ga_NoTree : PySem.W.nsIn K mainGlobals "NoTree" = some (some (.ref C_NoTree))) (gx_NoTree : PySem.W.excIn K C_NoTree [.type "ValueError", .type "Exception", .type "BaseException", .type "object"] "ValueError.__new__" = true) (gk_NoTree : PySem.W.keepIn K (.ref C_NoTree) = true) (gb_NoTree : PySem.W.subIn K (.ref C_NoTree) (.type "BaseException") = some true) (gt_NoTree : PySem.W.typeIn K (.ref C_NoTree) = some (.type "type"))
    (zc_FIGURES : PySem.W.nsIn K mainGlobals "FIGURES" = some (some (.str ("0123456789" : Str) tk_FIGURES)))
    (z_bool : PySem.W.nsIn K mainGlobals "bool" = some none)
    (z_int : PySem.W.nsIn K mainGlobals "int" = some none)
    (z_isinstance : PySem.W.nsIn K mainGlobals "isinstance" = some none)
    (z_len : PySem.W.nsIn K mainGlobals "len" = some none)
    (z_list : PySem.W.nsIn K mainGlobals "list" = some none)
    (z_max : PySem.W.nsIn K mainGlobals "max" = some none)
    (z_min : PySem.W.nsIn K mainGlobals "min" = some none)
    (z_range : PySem.W.nsIn K mainGlobals "range" = some none)
    (z_sorted : PySem.W.nsIn K mainGlobals "sorted" = some none)
    (z_str : PySem.W.nsIn K mainGlobals "str" = some none)
    (z_tuple : PySem.W.nsIn K mainGlobals "tuple" = some none) :
    ∃ fd : FuncData, (∀ (s : Shared) (v : Value), BindsTo s fd ⟨[v], []⟩ [("script", v)]) ∧ ∀ base : Heap, K.In base → base.Ns mainGlobals mg → FnOk P w K mg base (L2.CX P w) 5 fa fd ["script"] (sp_law K) := by
  haveI : KF K := ⟨⟩
  have e := hfa.symm.trans (PySem.W.mg_of X G a19)
  cases e
  have nb : Nb mg := ⟨PySem.W.mg_none_of X G z_bool, PySem.W.mg_none_of X G z_int, PySem.W.mg_none_of X G z_isinstance, PySem.W.mg_none_of X G z_len, PySem.W.mg_none_of X G z_list, PySem.W.mg_none_of X G z_max, PySem.W.mg_none_of X G z_min, PySem.W.mg_none_of X G z_range, PySem.W.mg_none_of X G z_sorted, PySem.W.mg_none_of X G z_str, PySem.W.mg_none_of X G z_tuple, ⟨_, PySem.W.mg_of X G zc_FIGURES, ⟨_, rfl⟩⟩⟩
  have E_NoText : ∃ C, Xc K mg "NoText" C := ⟨C_NoText, PySem.W.mg_of X G ga_NoText, gx_NoText, gk_NoText, gb_NoText, gt_NoText⟩
  have E_NoTree : ∃ C, Xc K mg "NoTree" C := ⟨C_NoTree, PySem.W.mg_of X G ga_NoTree, gx_NoTree, gk_NoTree, gb_NoTree, gt_NoTree⟩
  have F1 := fun_mk (x := "tied_places") (st := s_tied_places) l1 c1 k1
  have D_tied_places : Df K mg "tied_places" "tied_places" s_tied_places ["many", "ties"] := ⟨_, _, F1, PySem.W.mg_of X G a1, F1.binds (ps := ["many", "ties"]) fun _ _ _ _ _ _ us hl => match us, hl with | [_, _], _ => rfl⟩
  have F2 := fun_mk (x := "come_to") (st := s_come_to) l2 c2 k2
  have D_come_to : Df K mg "come_to" "come_to" s_come_to ["near", "place"] := ⟨_, _, F2, PySem.W.mg_of X G a2, F2.binds (ps := ["near", "place"]) fun _ _ _ _ _ _ us hl => match us, hl with | [_, _], _ => rfl⟩
  have F3 := fun_mk (x := "tree_of") (st := s_tree_of) l3 c3 k3
  have D_tree_of : Df K mg "tree_of" "tree_of" s_tree_of ["worths", "ties"] := ⟨_, _, F3, PySem.W.mg_of X G a3, F3.binds (ps := ["worths", "ties"]) fun _ _ _ _ _ _ us hl => match us, hl with | [_, _], _ => rfl⟩
  have F4 := fun_mk (x := "number_in") (st := s_number_in) l4 c4 k4
  have D_number_in : Df K mg "number_in" "number_in" s_number_in ["word"] := ⟨_, _, F4, PySem.W.mg_of X G a4, F4.binds (ps := ["word"]) fun _ _ _ _ _ _ us hl => match us, hl with | [_], _ => rfl⟩
  have F5 := fun_mk (x := "whole_in") (st := s_whole_in) l5 c5 k5
  have D_whole_in : Df K mg "whole_in" "whole_in" s_whole_in ["word"] := ⟨_, _, F5, PySem.W.mg_of X G a5, F5.binds (ps := ["word"]) fun _ _ _ _ _ _ us hl => match us, hl with | [_], _ => rfl⟩
  have F6 := fun_mk (x := "show_tree") (st := s_show_tree) l6 c6 k6
  have D_show_tree : Df K mg "show_tree" "show_tree" s_show_tree ["tree"] := ⟨_, _, F6, PySem.W.mg_of X G a6, F6.binds (ps := ["tree"]) fun _ _ _ _ _ _ us hl => match us, hl with | [_], _ => rfl⟩
  have F7 := fun_mk (x := "tie_in") (st := s_tie_in) l7 c7 k7
  have D_tie_in : Df K mg "tie_in" "tie_in" s_tie_in ["word"] := ⟨_, _, F7, PySem.W.mg_of X G a7, F7.binds (ps := ["word"]) fun _ _ _ _ _ _ us hl => match us, hl with | [_], _ => rfl⟩
  have F8 := fun_mk (x := "read_tree") (st := s_read_tree) l8 c8 k8
  have D_read_tree : Df K mg "read_tree" "read_tree" s_read_tree ["text"] := ⟨_, _, F8, PySem.W.mg_of X G a8, F8.binds (ps := ["text"]) fun _ _ _ _ _ _ us hl => match us, hl with | [_], _ => rfl⟩
  have F9 := fun_mk (x := "_law_cell_at") (st := s_law_cell_at) l9 c9 k9
  have D_law_cell_at : Df K mg "_law_cell_at" "_law_cell_at" s_law_cell_at ["script", "k"] := ⟨_, _, F9, PySem.W.mg_of X G a9, F9.binds (ps := ["script", "k"]) fun _ _ _ _ _ _ us hl => match us, hl with | [_, _], _ => rfl⟩
  have F10 := fun_mk (x := "_law_digits") (st := s_law_digits) l10 c10 k10
  have D_law_digits : Df K mg "_law_digits" "_law_digits" s_law_digits ["cell", "many", "top"] := ⟨_, _, F10, PySem.W.mg_of X G a10, F10.binds (ps := ["cell", "many", "top"]) fun _ _ _ _ _ _ us hl => match us, hl with | [_, _, _], _ => rfl⟩
  have F11 := fun_mk (x := "_law_alike") (st := s_law_alike_0) l11 c11 k11
  have D_law_alike_0 : Df K mg "_law_alike" "_law_alike" s_law_alike_0 ["found", "due"] := ⟨_, _, F11, PySem.W.mg_of X G a11, F11.binds (ps := ["found", "due"]) fun _ _ _ _ _ _ us hl => match us, hl with | [_, _], _ => rfl⟩
  have F12 := fun_mk (x := "_law_alike") (st := s_law_alike_1) l12 c12 k12
  have D_law_alike_1 : Df K mg "_law_alike" "_law_alike" s_law_alike_1 ["found", "due"] := ⟨_, _, F12, PySem.W.mg_of X G a12, F12.binds (ps := ["found", "due"]) fun _ _ _ _ _ _ us hl => match us, hl with | [_, _], _ => rfl⟩
  have F13 := fun_mk (x := "_law_alike") (st := s_law_alike_2) l13 c13 k13
  have D_law_alike_2 : Df K mg "_law_alike" "_law_alike" s_law_alike_2 ["found", "due"] := ⟨_, _, F13, PySem.W.mg_of X G a13, F13.binds (ps := ["found", "due"]) fun _ _ _ _ _ _ us hl => match us, hl with | [_, _], _ => rfl⟩
  have F14 := fun_mk (x := "_law_alike") (st := s_law_alike_3) l14 c14 k14
  have D_law_alike_3 : Df K mg "_law_alike" "_law_alike" s_law_alike_3 ["found", "due"] := ⟨_, _, F14, PySem.W.mg_of X G a14, F14.binds (ps := ["found", "due"]) fun _ _ _ _ _ _ us hl => match us, hl with | [_, _], _ => rfl⟩
  have F15 := fun_mk (x := "_law_alike") (st := s_law_alike_4) l15 c15 k15
  have D_law_alike_4 : Df K mg "_law_alike" "_law_alike" s_law_alike_4 ["found", "due"] := ⟨_, _, F15, PySem.W.mg_of X G a15, F15.binds (ps := ["found", "due"]) fun _ _ _ _ _ _ us hl => match us, hl with | [_, _], _ => rfl⟩
  have F16 := fun_mk (x := "_law_number") (st := s_law_number) l16 c16 k16
  have D_law_number : Df K mg "_law_number" "_law_number" s_law_number ["x"] := ⟨_, _, F16, PySem.W.mg_of X G a16, F16.binds (ps := ["x"]) fun _ _ _ _ _ _ us hl => match us, hl with | [_], _ => rfl⟩
  have F17 := fun_mk (x := "_law_tree") (st := s_law_tree) l17 c17 k17
  have D_law_tree : Df K mg "_law_tree" "_law_tree" s_law_tree ["script", "most"] := ⟨_, _, F17, PySem.W.mg_of X G a17, F17.binds (ps := ["script", "most"]) fun _ _ _ _ _ _ us hl => match us, hl with | [_, _], _ => rfl⟩
  have F18 := fun_mk (x := "_law_shown_tree") (st := s_law_shown_tree) l18 c18 k18
  have D_law_shown_tree : Df K mg "_law_shown_tree" "_law_shown_tree" s_law_shown_tree ["tree", "mark"] := ⟨_, _, F18, PySem.W.mg_of X G a18, F18.binds (ps := ["tree", "mark"]) fun _ _ _ _ _ _ us hl => match us, hl with | [_, _], _ => rfl⟩
  have F19 := fun_mk (x := "law") (st := s_law) l19 c19 k19
  refine ⟨PySem.W.fnOf "law" "law" (defArgs s_law) (defBody s_law) (defScope s_law) .none kV19 dc19 pm19 an19 cd19 ct19, fun s v => .of_eq rfl, fun base _ _ => ?_⟩
  have C_tied_places := ok_tied_places (P := P) (w := w) (base := base) nb D_tied_places
  have CO_tied_places := ok_tied_places_own (P := P) (w := w) (base := base) nb D_tied_places
  have C_come_to : Ca P w K mg base "come_to" 1 ["near", "place"] (sp_come_to mg) := ok_come_to nb  D_come_to
  have C_tree_of : Ca P w K mg base "tree_of" 2 ["worths", "ties"] (sp_tree_of mg) := ok_tree_of nb C_come_to C_tied_places E_NoTree  D_tree_of
  have C_number_in : Ca P w K mg base "number_in" 1 ["word"] (sp_number_in mg) := ok_number_in nb E_NoText  D_number_in
  have C_whole_in : Ca P w K mg base "whole_in" 2 ["word"] (sp_whole_in mg) := ok_whole_in nb C_number_in E_NoText  D_whole_in
  have C_show_tree : Ca P w K mg base "show_tree" 1 ["tree"] (sp_show_tree mg) := ok_show_tree nb  D_show_tree
  have C_tie_in : Ca P w K mg base "tie_in" 3 ["word"] (sp_tie_in mg) := ok_tie_in nb C_number_in C_whole_in E_NoText  D_tie_in
  have C_read_tree : Ca P w K mg base "read_tree" 4 ["text"] (sp_read_tree mg) := ok_read_tree nb C_tie_in C_tree_of C_whole_in E_NoText  D_read_tree
  have C_law_cell_at : Ca P w K mg base "_law_cell_at" 1 ["script", "k"] (sp_law_cell_at K mg) := ok_law_cell_at nb  D_law_cell_at
  have C_law_digits : Ca P w K mg base "_law_digits" 1 ["cell", "many", "top"] (sp_law_digits mg) := ok_law_digits nb  D_law_digits
  have C_law_alike_0 : Ca P w K mg base "_law_alike" 1 ["found", "due"] (sp_law_alike_0 mg) := ok_law_alike_0 nb  D_law_alike_0
  have C_law_alike_1 : Ca P w K mg base "_law_alike" 2 ["found", "due"] (sp_law_alike_1 mg) := ok_law_alike_1 nb C_law_alike_0  D_law_alike_1
  have C_law_alike_2 : Ca P w K mg base "_law_alike" 2 ["found", "due"] (sp_law_alike_2 mg) := ok_law_alike_2 nb C_law_alike_0  D_law_alike_2
  have C_law_alike_3 : Ca P w K mg base "_law_alike" 3 ["found", "due"] (sp_law_alike_3 mg) := ok_law_alike_3 nb C_law_alike_2  D_law_alike_3
  have C_law_alike_4 : Ca P w K mg base "_law_alike" 4 ["found", "due"] (sp_law_alike_4 mg) := ok_law_alike_4 nb C_law_alike_1 C_law_alike_3  D_law_alike_4
  have C_law_number : Ca P w K mg base "_law_number" 1 ["x"] (sp_law_number mg) := ok_law_number nb  D_law_number
  have C_law_tree : Ca P w K mg base "_law_tree" 2 ["script", "most"] (sp_law_tree K mg) := ok_law_tree nb C_law_cell_at C_law_digits C_law_number  D_law_tree
  have C_law_shown_tree : Ca P w K mg base "_law_shown_tree" 1 ["tree", "mark"] (sp_law_shown_tree mg) := ok_law_shown_tree nb  D_law_shown_tree
  exact ok_law nb C_law_alike_4 C_law_shown_tree C_law_tree C_read_tree C_show_tree F19
theorem walk {l : PySem.W.OpenLaw} {q : Program} {loose : List Str} {XP : (Str → Option Value) → Heap → Prop} {YP : World → Heap → Prop} {d : DefRec} {K : Params → PySem.W.Frag} (hn : l.most = some 63) (hdf : d.params.defaults = [])
    (hY : ∀ (w : World) (h : Heap), YP w h → (K w.params).In h)
    (F : ∀ (w : World) (mg : Str → Option Value) (fa : Addr) (h : Heap), (K w.params).In h → h.Ns mainGlobals mg → mg d.name = some (.ref fa) →
      ∃ fd : FuncData, (∀ (s : Shared) (u : Value), BindsTo s fd ⟨[u], []⟩ [("script", u)]) ∧ ∀ base : Heap, (K w.params).In base → base.Ns mainGlobals mg → FnOk l.prog w (K w.params) mg base (L2.CX l.prog w) 5 fa fd ["script"] (sp_law (K w.params))) :
    PySem.W.WalkO q loose XP YP l.row.toRowW d [] (fun f vs => PySem.call f vs) :=
  L2.walk_of (n := 63) (k := 5) (x := "script") (CX := fun w => L2.CX l.prog w) (sp := fun w => sp_law (K w.params)) hn (by decide) hdf ⟨rfl, by decide, by decide⟩ hY F
    (fun _ H a ns hl _ hS => ⟨H, a, ns, rfl, ⟨Same.refl _, (fun _ h => nomatch h), (fun _ h => nomatch h), List.nodup_nil, (fun _ h => nomatch h)⟩, hS, by rw [law_true ns hl]; exact fun _ _ _ => rfl⟩)
    fun _ _ _ _ _ z => by
      obtain ⟨_, _, _, _, _, _, _, _, _, _, _, _, z⟩ := z
      exact z.elim
end G
open PySem PySem.W PyProof.Rows
set_option maxRecDepth 100000 in
set_option maxHeartbeats 0 in
theorem PySem.Challenge.cw_everyseat_k49_trees_written_and_read_holds : PySem.Challenge.rw_everyseat_k49_trees_written_and_read.Holds := by
  w_on; o_law; k_head; (case hw => w_witness2)
  k_fill
  refine G.walk (l := PySem.Challenge.rw_everyseat_k49_trees_written_and_read) rfl rfl (fun w h Y => PySem.W.kIn_of Y) ?F
  case F =>
    intro w mg fa h KX GG hmg
    refine' G.all_mk KX GG hmg ?a1 ?l1 ?c1 ?k1 ?a2 ?l2 ?c2 ?k2 ?a3 ?l3 ?c3 ?k3 ?a4 ?l4 ?c4 ?k4 ?a5 ?l5 ?c5 ?k5 ?a6 ?l6 ?c6 ?k6 ?a7 ?l7 ?c7 ?k7 ?a8 ?l8 ?c8 ?k8 ?a9 ?l9 ?c9 ?k9 ?a10 ?l10 ?c10 ?k10 ?a11 ?l11 ?c11 ?k11 ?a12 ?l12 ?c12 ?k12 ?a13 ?l13 ?c13 ?k13 ?a14 ?l14 ?c14 ?k14 ?a15 ?l15 ?c15 ?k15 ?a16 ?l16 ?c16 ?k16 ?a17 ?l17 ?c17 ?k17 ?a18 ?l18 ?c18 ?k18 ?a19 ?l19 ?c19 ?k19 ?ga_NoText ?gx_NoText ?gk_NoText ?gb_NoText ?gt_NoText ?ga_NoTree ?gx_NoTree ?gk_NoTree ?gb_NoTree ?gt_NoTree ?zc_FIGURES ?z_bool ?z_int ?z_isinstance ?z_len ?z_list ?z_max ?z_min ?z_range ?z_sorted ?z_str ?z_tuple
    (case a1 => k_is)
    (case l1 => k_is)
    (case c1 => k_is)
    (case k1 => k_is)
    (case a2 => k_is)
    (case l2 => k_is)
    (case c2 => k_is)
    (case k2 => k_is)
    (case a3 => k_is)
    (case l3 => k_is)
    (case c3 => k_is)
    (case k3 => k_is)
    (case a4 => k_is)
    (case l4 => k_is)
    (case c4 => k_is)
    (case k4 => k_is)
    (case a5 => k_is)
    (case l5 => k_is)
    (case c5 => k_is)
    (case k5 => k_is)
    (case a6 => k_is)
    (case l6 => k_is)
    (case c6 => k_is)
    (case k6 => k_is)
    (case a7 => k_is)
    (case l7 => k_is)
    (case c7 => k_is)
    (case k7 => k_is)
    (case a8 => k_is)
    (case l8 => k_is)
    (case c8 => k_is)
    (case k8 => k_is)
    (case a9 => k_is)
    (case l9 => k_is)
    (case c9 => k_is)
    (case k9 => k_is)
    (case a10 => k_is)
    (case l10 => k_is)
    (case c10 => k_is)
    (case k10 => k_is)
    (case a11 => k_is)
    (case l11 => k_is)
    (case c11 => k_is)
    (case k11 => k_is)
    (case a12 => k_is)
    (case l12 => k_is)
    (case c12 => k_is)
    (case k12 => k_is)
    (case a13 => k_is)
    (case l13 => k_is)
    (case c13 => k_is)
    (case k13 => k_is)
    (case a14 => k_is)
    (case l14 => k_is)
    (case c14 => k_is)
    (case k14 => k_is)
    (case a15 => k_is)
    (case l15 => k_is)
    (case c15 => k_is)
    (case k15 => k_is)
    (case a16 => k_is)
    (case l16 => k_is)
    (case c16 => k_is)
    (case k16 => k_is)
    (case a17 => k_is)
    (case l17 => k_is)
    (case c17 => k_is)
    (case k17 => k_is)
    (case a18 => k_is)
    (case l18 => k_is)
    (case c18 => k_is)
    (case k18 => k_is)
    (case a19 => k_is)
    (case l19 => k_is)
    (case c19 => k_is)
    (case k19 => k_is)
    (case ga_NoText => k_is)
    (case gx_NoText => k_exc)
    (case gk_NoText => k_is)
    (case gb_NoText => k_is)
    (case gt_NoText => k_is)
    (case ga_NoTree => k_is)
    (case gx_NoTree => k_exc)
    (case gk_NoTree => k_is)
    (case gb_NoTree => k_is)
    (case gt_NoTree => k_is)
    (case zc_FIGURES => k_is)
    (case z_bool => k_is)
    (case z_int => k_is)
    (case z_isinstance => k_is)
    (case z_len => k_is)
    (case z_list => k_is)
    (case z_max => k_is)
    (case z_min => k_is)
    (case z_range => k_is)
    (case z_sorted => k_is)
    (case z_str => k_is)
    (case z_tuple => k_is)
#print axioms PySem.Challenge.cw_everyseat_k49_trees_written_and_read_holds
