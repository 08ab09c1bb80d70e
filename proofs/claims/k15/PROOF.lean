import PyProof.Rows.All
import Wide.All
import OpenK.AllK
import Wide.FinOn
import HandS.ForMost
import HandS.ForExc
import HandS.Wide
import HandS.Flow
import HandS.Evl
import HandS.Conv
import HandS.IsInst
import KE.SortData
import KE.DatumMoreOrd
import KE.DatumIndex
import HandS.Walk
import HandS.TupSets
import HandS.TryOnly
import HandS.Codes
import HandS.Dict
import HandS.TupLe
import HandS.List
import KE.KDictPairs
import HandS.Exc
import HandS.ExcIs
import HandS.ExcValue
import PyProof.Rows.CountFlat
import HandS.Style
import HandS.SetKeys
import HandS.DictTup
import HandS.Text
import PyProof.StrBlock2
import PyProof.Rows.StrMul
import HandS.More
import PySem.Challenge.RW_everyseat_k15_all_rows
set_option Elab.async false
set_option linter.all false
set_option maxRecDepth 100000
set_option maxHeartbeats 4000000
/-! My own layer over HandS: mirrors in an error monad, represented data, owned cells. -/
namespace PG
open PySem L2

/-! ### the mirrors' monad -/
inductive Er where
  | bad
  | exc (n : String)
  deriving DecidableEq
abbrev M := Except Er
def wp {a : Type} (m : M a) (Q : a → Prop) (E : String → Prop) : Prop :=
  match m with
  | .ok x => Q x
  | .error .bad => False
  | .error (.exc n) => E n
section
variable {a b : Type} {Q : a → Prop} {R : b → Prop} {E E' : String → Prop}
theorem wp_ok {x : a} : wp (Except.ok x : M a) Q E = Q x := rfl
theorem wp_pure {x : a} : wp (pure x : M a) Q E = Q x := rfl
theorem wp_bind {m : M b} {k : b → M a} : wp (m >>= k) Q E ↔ wp m (fun x => wp (k x) Q E) E := by
  cases m with
  | ok x => exact Iff.rfl
  | error e => cases e <;> exact Iff.rfl
theorem wp_call {m : M b} {k : b → M a} {E1 : String → Prop} (h : wp (m >>= k) Q E) (hr : ∀ r, m = .ok r → wp (k r) Q E → R r) (he : ∀ n, E n → E1 n) : wp m R E1 := by
  cases m with
  | ok x => exact hr x rfl h
  | error e =>
    cases e with
    | bad => exact h
    | exc n => exact he n h
/-- the last call of a def -/
theorem wp_tail {m : M a} {E1 : String → Prop} {R : a → Prop} (h : wp m Q E) (hr : ∀ r, m = .ok r → Q r → R r) (he : ∀ n, E n → E1 n) : wp m R E1 := by
  cases m with
  | ok x => exact hr x rfl h
  | error e =>
    cases e with
    | bad => exact h
    | exc n => exact he n h
def bad : M a := .error .bad
def raise (n : String) : M a := .error (.exc n)
theorem wp_bad {P : Prop} (h : wp (bad : M a) Q E) : P := h.elim
/-- a guard -/
@[irreducible] def chk (c : Prop) [Decidable c] : M Unit := if c then .ok () else bad
theorem wp_chk {c : Prop} [Decidable c] {k : Unit → M a} (h : wp (chk c >>= k) Q E) : c ∧ wp (k ()) Q E := by
  unfold chk at h
  by_cases hc : c
  · rw [if_pos hc] at h
    exact ⟨hc, h⟩
  · rw [if_neg hc] at h
    exact h.elim
/-- something that is there -/
def opt (o : Option b) : M b := match o with
  | some x => .ok x
  | none => bad
theorem wp_opt {o : Option b} {k : b → M a} (h : wp (opt o >>= k) Q E) : ∃ x, o = some x ∧ wp (k x) Q E := by
  cases o with
  | none => exact h.elim
  | some x => exact ⟨x, rfl, h⟩
/-- no exception leaves -/
def nox (m : M a) : M a := match m with
  | .ok x => .ok x
  | .error _ => bad
theorem wp_nox {m : M b} {k : b → M a} (h : wp (nox m >>= k) Q E) : ∃ x, m = .ok x ∧ wp (k x) Q E := by
  cases m with
  | ok x => exact ⟨x, rfl, h⟩
  | error e => exact h.elim
theorem wp_of_ok {m : M b} {x : b} (e : m = .ok x) (h : R x) : wp m R E := by
  rw [e]
  exact h
theorem wp_ite {c : Prop} [Decidable c] {x y : M a} (h : wp (if c then x else y) Q E) : (c → wp x Q E) ∧ (¬ c → wp y Q E) := by
  by_cases hc : c
  · rw [if_pos hc] at h
    exact ⟨fun _ => h, fun n => (n hc).elim⟩
  · rw [if_neg hc] at h
    exact ⟨fun p => (hc p).elim, fun _ => h⟩
end

/-! ### loops -/
/-- a turn's end: on to the next, or the def's return -/
inductive Fl (s r : Type) where
  | nx (x : s)
  | rt (x : r)
section
variable {i s r a : Type}
def loopM (b : i → s → M (Fl s r)) : List i → s → M (Fl s r)
  | [], x => .ok (.nx x)
  | y :: ys, x => b y x >>= fun
    | .nx x' => loopM b ys x'
    | .rt z => .ok (.rt z)
/-- a loop without return -/
def loopN (b : i → s → M s) : List i → s → M s
  | [], x => .ok x
  | y :: ys, x => b y x >>= fun x' => loopN b ys x'
def whileM (c : s → M Bool) (b : s → M (Fl s r)) : Nat → s → M (Fl s r)
  | 0, _ => bad
  | n + 1, x => c x >>= fun t => if t = true then b x >>= fun
      | .nx x' => whileM c b n x'
      | .rt z => .ok (.rt z)
    else .ok (.nx x)
def whileN (c : s → M Bool) (b : s → M s) : Nat → s → M s
  | 0, _ => bad
  | n + 1, x => c x >>= fun t => if t = true then b x >>= fun x' => whileN c b n x' else .ok x
/-- a comprehension: f gives an element, or none where the test fails -/
def compN (b : i → s → M (Option a × s)) : List i → s → M (List a × s)
  | [], x => .ok ([], x)
  | y :: ys, x => b y x >>= fun p => compN b ys p.2 >>= fun q => .ok (match p.1 with
    | some z => z :: q.1
    | none => q.1, q.2)
/-- .. that changes nothing -/
def compM (b : i → M (Option a)) : List i → M (List a)
  | [] => .ok []
  | y :: ys => b y >>= fun p => compM b ys >>= fun q => .ok (match p with
    | some z => z :: q
    | none => q)
end

/-! ### what a value stands for -/
open PySem.W (T3 T4 Datum DatumOrd)
/-- the frag whose own tuples (the module's constants) may stand in data; told by an instance alone -/
class KF (K : outParam PySem.W.Frag) : Type
def KTup (K : PySem.W.Frag) (a : Addr) (xs : List V) : Prop :=
  ∃ (o : Obj) (its : Array Value) (n : Nat), K.lookup a = some o ∧ o.cls = .type "tuple" ∧ o.data = .seq its n ∧ its.size ≤ sizeLine ∧ Vals xs its.toList
section
variable {K0 : PySem.W.Frag} [KF K0]
/-- a tuple: the heap's, or one of the module's, a text first -/
def TupAt {K0 : PySem.W.Frag} [KF K0] (H : Hp) (a : Addr) (xs : List V) : Prop := H a = some (.tup xs) ∨ ((∃ w ws, xs = V.str w :: ws) ∧ KTup K0 a xs)
theorem TupAt.mono {H H' : Hp} {a : Addr} {xs : List V} (h : TupAt H a xs) (s : Same H H') : TupAt H' a xs := by
  rcases h with h | h
  · exact .inl (s _ _ h)
  · exact .inr h
theorem TupAt.sq {H : Hp} {a : Addr} {xs : List V} (h : TupAt H a xs) : SqT K0 H a xs := by
  rcases h with h | ⟨_, h⟩
  · exact SqT.of h
  · exact .inr h
mutual
inductive Rep (H : Hp) : V → PyData → Prop
  | non : Rep H .non .none
  | bl (b : Bool) : Rep H (.bl b) (.bool b)
  | int (i : Int) : Rep H (.int i) (.int i)
  | str (x : Str) : Rep H (.str x) (.str x)
  | lst {a : Addr} {xs : List V} {ds : List PyData} : H a = some (.lst xs) → RepA H xs ds → Rep H (.ref a) (.list ds)
  | tup {a : Addr} {xs : List V} {ds : List PyData} : TupAt H a xs → RepA H xs ds → Rep H (.ref a) (.tuple ds)
inductive RepA (H : Hp) : List V → List PyData → Prop
  | nil : RepA H [] []
  | cons {v : V} {vs : List V} {d : PyData} {ds : List PyData} : Rep H v d → RepA H vs ds → RepA H (v :: vs) (d :: ds)
end
mutual
theorem Rep.mono {H H' : Hp} (s : Same H H') : ∀ (d : PyData) (v : V), Rep H v d → Rep H' v d
  | .none, _, h => by cases h; exact .non
  | .bool _, _, h => by cases h; exact .bl _
  | .int _, _, h => by cases h; exact .int _
  | .str _, _, h => by cases h; exact .str _
  | .list ds, _, h => by
    cases h with
    | lst ha hs => exact .lst (s _ _ ha) (RepA.mono s ds _ hs)
  | .tuple ds, _, h => by
    cases h with
    | tup ha hs => exact .tup (ha.mono s) (RepA.mono s ds _ hs)
  | .dict _, _, h => by cases h
theorem RepA.mono {H H' : Hp} (s : Same H H') : ∀ (ds : List PyData) (vs : List V), RepA H vs ds → RepA H' vs ds
  | [], _, h => by cases h; exact .nil
  | d :: ds, _, h => by
    cases h with
    | cons h1 h2 => exact .cons (Rep.mono s d _ h1) (RepA.mono s ds _ h2)
end
mutual
theorem Rep.dp {H : Hp} : ∀ (d : PyData) (v : V), Rep H v d → Dp K0 H v d
  | .none, _, h => by cases h; exact .non
  | .bool _, _, h => by cases h; exact .bl _
  | .int _, _, h => by cases h; exact .int _
  | .str _, _, h => by cases h; exact .str _
  | .list ds, _, h => by
    cases h with
    | lst ha hs => exact .lst (SqL.of ha) (RepA.dp ds _ hs)
  | .tuple ds, _, h => by
    cases h with
    | tup ha hs => exact .tup ha.sq (RepA.dp ds _ hs)
  | .dict _, _, h => by cases h
theorem RepA.dp {H : Hp} : ∀ (ds : List PyData) (vs : List V), RepA H vs ds → DpAll K0 H vs ds
  | [], _, h => by cases h; exact .nil
  | d :: ds, _, h => by
    cases h with
    | cons h1 h2 => exact .cons (Rep.dp d _ h1) (RepA.dp ds _ h2)
end

end
/-- a Lean type whose values are Python's data -/
class Py (a : Type) where
  toD : a → PyData
instance : Py Int := ⟨.int⟩
instance : Py Bool := ⟨.bool⟩
instance : Py Str := ⟨.str⟩
instance : Py Unit := ⟨fun _ => .none⟩
instance {a : Type} [Py a] : Py (List a) := ⟨fun xs => .list (xs.map Py.toD)⟩
instance {a b : Type} [Py a] [Py b] : Py (a × b) := ⟨fun p => .tuple [Py.toD p.1, Py.toD p.2]⟩
instance {a b c : Type} [Py a] [Py b] [Py c] : Py (T3 a b c) := ⟨fun p => .tuple [Py.toD p.a, Py.toD p.b, Py.toD p.c]⟩
instance {a b c d : Type} [Py a] [Py b] [Py c] [Py d] : Py (T4 a b c d) := ⟨fun p => .tuple [Py.toD p.a, Py.toD p.b, Py.toD p.c, Py.toD p.d]⟩
instance {a : Type} [Py a] : Py (Option a) := ⟨fun o => match o with
  | none => .none
  | some x => Py.toD x⟩
class IsD (a : Type) [Py a] [DecidableEq a] [Datum a] : Prop where
  eq : ∀ x : a, Py.toD x = Datum.toD x
instance : IsD Int := ⟨fun _ => rfl⟩
instance : IsD Bool := ⟨fun _ => rfl⟩
instance : IsD Str := ⟨fun _ => rfl⟩
instance : IsD Unit := ⟨fun _ => rfl⟩
section
variable {a b c d : Type} [Py a] [DecidableEq a] [Datum a] [IsD a] [Py b] [DecidableEq b] [Datum b] [IsD b] [Py c] [DecidableEq c] [Datum c] [IsD c] [Py d] [DecidableEq d] [Datum d] [IsD d]
theorem map_toD (xs : List a) : xs.map (Py.toD : a → PyData) = xs.map Datum.toD := List.map_congr_left fun x _ => IsD.eq x
instance : IsD (List a) := ⟨fun xs => congrArg PyData.list (map_toD xs)⟩
instance : IsD (a × b) := ⟨fun p => by show PyData.tuple [_, _] = PyData.tuple [_, _]; rw [IsD.eq, IsD.eq]⟩
instance : IsD (T3 a b c) := ⟨fun p => by show PyData.tuple [_, _, _] = PyData.tuple [_, _, _]; rw [IsD.eq, IsD.eq, IsD.eq]⟩
instance : IsD (T4 a b c d) := ⟨fun p => by show PyData.tuple [_, _, _, _] = PyData.tuple [_, _, _, _]; rw [IsD.eq, IsD.eq, IsD.eq, IsD.eq]⟩
instance [PySem.W.SomeDatum a] : IsD (Option a) := ⟨fun o => by
  cases o with
  | none => rfl
  | some x => exact IsD.eq x⟩
end

/-- no text -/
class NoS (a : Type) [Py a] : Prop where
  ns : ∀ (x : a) (s : Str), Py.toD x ≠ .str s
instance : NoS Int := ⟨fun _ _ h => nomatch h⟩
instance : NoS Bool := ⟨fun _ _ h => nomatch h⟩
instance : NoS Unit := ⟨fun _ _ h => nomatch h⟩
section
variable {a b c d : Type} [Py a] [Py b] [Py c] [Py d]
instance : NoS (List a) := ⟨fun _ _ h => nomatch h⟩
instance : NoS (a × b) := ⟨fun _ _ h => nomatch h⟩
instance : NoS (T3 a b c) := ⟨fun _ _ h => nomatch h⟩
instance : NoS (T4 a b c d) := ⟨fun _ _ h => nomatch h⟩
instance [NoS a] : NoS (Option a) := ⟨fun o s h => by
  cases o with
  | none => exact nomatch h
  | some x => exact NoS.ns x s h⟩
end
variable {K0 : PySem.W.Frag} [KF K0]
theorem TupAt.plain {a : Type} [Py a] [NoS a] {H : Hp} {p : Addr} {v : V} {vs : List V} {x : a} (h : TupAt H p (v :: vs)) (r : Rep H v (Py.toD x)) : H p = some (.tup (v :: vs)) := by
  rcases h with h | ⟨⟨w, ws, e⟩, _⟩
  · exact h
  · injection e with e _
    subst e
    obtain ⟨d, hd⟩ : ∃ d, d = Py.toD x := ⟨_, rfl⟩
    rw [← hd] at r
    cases r with
    | str => exact (NoS.ns x w hd.symm).elim
/-- v stands for x -/
def R {a : Type} [Py a] (H : Hp) (v : V) (x : a) : Prop := Rep H v (Py.toD x)
/-- item by item -/
def RL {a : Type} [Py a] (H : Hp) (vs : List V) (xs : List a) : Prop := RepA H vs (xs.map Py.toD)
section
variable {H H' : Hp} {v : V} {vs : List V} {p q : Addr}
theorem R.mono {a : Type} [Py a] {x : a} (h : R H v x) (s : Same H H') : R H' v x := Rep.mono s _ _ h
theorem RL.mono {a : Type} [Py a] {xs : List a} (h : RL H vs xs) (s : Same H H') : RL H' vs xs := RepA.mono s _ _ h
theorem R.int {i : Int} : R H (.int i) i := Rep.int i
theorem R.bl {b : Bool} : R H (.bl b) b := Rep.bl b
theorem R.str {x : Str} : R H (.str x) x := Rep.str x
theorem R.unit {u : Unit} : R H .non u := Rep.non
theorem R.non {a : Type} [Py a] : R H .non (none : Option a) := Rep.non
theorem R.jst {a : Type} [Py a] {x : a} (h : R H v x) : R H v (some x) := h
theorem R.int_ {i : Int} (h : R H v i) : v = .int i := by cases h; rfl
theorem R.bl_ {b : Bool} (h : R H v b) : v = .bl b := by cases h; rfl
theorem R.str_ {x : Str} (h : R H v x) : v = .str x := by cases h; rfl
theorem R.unit_ {u : Unit} (h : R H v u) : v = .non := by cases h; rfl
theorem R.non_ {a : Type} [Py a] (h : R H v (none : Option a)) : v = .non := by cases h; rfl
theorem R.jst_ {a : Type} [Py a] {x : a} (h : R H v (some x)) : R H v x := h
variable {a b c d : Type} [Py a] [Py b] [Py c] [Py d]
theorem R.lst {xs : List a} (ha : H p = some (.lst vs)) (h : RL H vs xs) : R H (.ref p) xs := Rep.lst ha h
theorem R.lst_ {xs : List a} (h : R H v xs) : ∃ p vs, v = .ref p ∧ H p = some (.lst vs) ∧ RL H vs xs := by
  have h' : Rep H v (.list (xs.map Py.toD)) := h
  cases h' with
  | lst ha hs => exact ⟨_, _, rfl, ha, hs⟩
theorem R.t2 {x : a × b} {v1 v2 : V} (ha : H p = some (.tup [v1, v2])) (h1 : R H v1 x.1) (h2 : R H v2 x.2) : R H (.ref p) x := Rep.tup (.inl ha) (.cons h1 (.cons h2 .nil))
theorem R.t2T_ {x : a × b} (h : R H v x) : ∃ p v1 v2, v = .ref p ∧ TupAt H p [v1, v2] ∧ R H v1 x.1 ∧ R H v2 x.2 := by
  have h' : Rep H v (.tuple [_, _]) := h
  cases h' with
  | tup ha hs =>
    cases hs with
    | cons h1 hs =>
      cases hs with
      | cons h2 hs =>
        cases hs
        exact ⟨_, _, _, rfl, ha, h1, h2⟩
theorem R.t2T {x : a × b} {v1 v2 : V} (ha : TupAt H p [v1, v2]) (h1 : R H v1 x.1) (h2 : R H v2 x.2) : R H (.ref p) x := Rep.tup ha (.cons h1 (.cons h2 .nil))
theorem R.t3T {x : T3 a b c} {v1 v2 v3 : V} (ha : TupAt H p [v1, v2, v3]) (h1 : R H v1 x.a) (h2 : R H v2 x.b) (h3 : R H v3 x.c) : R H (.ref p) x := Rep.tup ha (.cons h1 (.cons h2 (.cons h3 .nil)))
theorem TupAt.mv {F F' : Hp} {xs : List V} (h : TupAt F p xs) (t : ∀ b xs, F b = some (.tup xs) → F' b = some (.tup xs)) : TupAt F' p xs := by
  rcases h with h | h
  · exact .inl (t _ _ h)
  · exact .inr h
theorem R.t2_ [NoS a] {x : a × b} (h : R H v x) : ∃ p v1 v2, v = .ref p ∧ H p = some (.tup [v1, v2]) ∧ R H v1 x.1 ∧ R H v2 x.2 := by
  have h' : Rep H v (.tuple [_, _]) := h
  cases h' with
  | tup ha hs =>
    cases hs with
    | cons h1 hs =>
      cases hs with
      | cons h2 hs =>
        cases hs
        exact ⟨_, _, _, rfl, ha.plain h1, h1, h2⟩
theorem R.t3 {x : T3 a b c} {v1 v2 v3 : V} (ha : H p = some (.tup [v1, v2, v3])) (h1 : R H v1 x.a) (h2 : R H v2 x.b) (h3 : R H v3 x.c) : R H (.ref p) x := Rep.tup (.inl ha) (.cons h1 (.cons h2 (.cons h3 .nil)))
theorem R.t3T_ {x : T3 a b c} (h : R H v x) : ∃ p v1 v2 v3, v = .ref p ∧ TupAt H p [v1, v2, v3] ∧ R H v1 x.a ∧ R H v2 x.b ∧ R H v3 x.c := by
  have h' : Rep H v (.tuple [_, _, _]) := h
  cases h' with
  | tup ha hs =>
    cases hs with
    | cons h1 hs =>
      cases hs with
      | cons h2 hs =>
        cases hs with
        | cons h3 hs =>
          cases hs
          exact ⟨_, _, _, _, rfl, ha, h1, h2, h3⟩
theorem R.t3_ [NoS a] {x : T3 a b c} (h : R H v x) : ∃ p v1 v2 v3, v = .ref p ∧ H p = some (.tup [v1, v2, v3]) ∧ R H v1 x.a ∧ R H v2 x.b ∧ R H v3 x.c := by
  have h' : Rep H v (.tuple [_, _, _]) := h
  cases h' with
  | tup ha hs =>
    cases hs with
    | cons h1 hs =>
      cases hs with
      | cons h2 hs =>
        cases hs with
        | cons h3 hs =>
          cases hs
          exact ⟨_, _, _, _, rfl, ha.plain h1, h1, h2, h3⟩
theorem R.t4 {x : T4 a b c d} {v1 v2 v3 v4 : V} (ha : H p = some (.tup [v1, v2, v3, v4])) (h1 : R H v1 x.a) (h2 : R H v2 x.b) (h3 : R H v3 x.c) (h4 : R H v4 x.d) : R H (.ref p) x :=
  Rep.tup (.inl ha) (.cons h1 (.cons h2 (.cons h3 (.cons h4 .nil))))
theorem R.t4_ [NoS a] {x : T4 a b c d} (h : R H v x) : ∃ p v1 v2 v3 v4, v = .ref p ∧ H p = some (.tup [v1, v2, v3, v4]) ∧ R H v1 x.a ∧ R H v2 x.b ∧ R H v3 x.c ∧ R H v4 x.d := by
  have h' : Rep H v (.tuple [_, _, _, _]) := h
  cases h' with
  | tup ha hs =>
    cases hs with
    | cons h1 hs =>
      cases hs with
      | cons h2 hs =>
        cases hs with
        | cons h3 hs =>
          cases hs with
          | cons h4 hs =>
            cases hs
            exact ⟨_, _, _, _, _, rfl, ha.plain h1, h1, h2, h3, h4⟩
theorem RL.nil : RL H [] ([] : List a) := RepA.nil
theorem RL.cons {x : a} {xs : List a} (h : R H v x) (hs : RL H vs xs) : RL H (v :: vs) (x :: xs) := RepA.cons h hs
theorem RL.cons_ {x : a} {xs : List a} (h : RL H vs (x :: xs)) : ∃ w ws, vs = w :: ws ∧ R H w x ∧ RL H ws xs := by
  have h' : RepA H vs (Py.toD x :: xs.map Py.toD) := h
  cases h' with
  | cons h1 h2 => exact ⟨_, _, rfl, h1, h2⟩
theorem RL.nil_ (h : RL H vs ([] : List a)) : vs = [] := by
  have h' : RepA H vs [] := h
  cases h'
  rfl
theorem RL.len : ∀ {vs : List V} {xs : List a}, RL H vs xs → vs.length = xs.length
  | _, [], h => by rw [RL.nil_ h]; rfl
  | _, x :: xs, h => by
    obtain ⟨w, ws, rfl, _, h2⟩ := RL.cons_ h
    rw [List.length_cons, List.length_cons, RL.len h2]
theorem RL.app : ∀ {vs ws : List V} {xs ys : List a}, RL H vs xs → RL H ws ys → RL H (vs ++ ws) (xs ++ ys)
  | _, _, [], _, h, k => by rw [RL.nil_ h]; exact k
  | _, _, x :: xs, _, h, k => by
    obtain ⟨w, ws', rfl, h1, h2⟩ := RL.cons_ h
    exact RL.cons h1 (RL.app h2 k)
theorem RL.snoc {x : a} {xs : List a} (h : RL H vs xs) (k : R H v x) : RL H (vs ++ [v]) (xs ++ [x]) := RL.app h (RL.cons k RL.nil)
theorem RL.get : ∀ {vs : List V} {xs : List a}, RL H vs xs → ∀ {i : Nat} {x : a}, xs[i]? = some x → ∃ w, vs[i]? = some w ∧ R H w x
  | _, [], _, i, x, e => by simp at e
  | _, y :: ys, h, i, x, e => by
    obtain ⟨w, ws, rfl, h1, h2⟩ := RL.cons_ h
    cases i with
    | zero =>
      cases (Option.some.inj e : y = x)
      exact ⟨w, rfl, h1⟩
    | succ i => exact RL.get h2 (i := i) (by simpa using e)
theorem RL.got : ∀ {vs : List V} {xs : List a}, RL H vs xs → ∀ {i : Nat} {w : V}, vs[i]? = some w → ∃ x, xs[i]? = some x ∧ R H w x
  | _, [], h, i, w, e => by rw [RL.nil_ h] at e; simp at e
  | _, y :: ys, h, i, w, e => by
    obtain ⟨w', ws, rfl, h1, h2⟩ := RL.cons_ h
    cases i with
    | zero =>
      cases (Option.some.inj e : w' = w)
      exact ⟨y, rfl, h1⟩
    | succ i => exact RL.got h2 (i := i) (by simpa using e)
theorem RL.atI {xs : List a} (h : RL H vs xs) {i : Int} {x : a} (e : L2.atI xs i = some x) : ∃ w, L2.atI vs i = some w ∧ R H w x := by
  unfold L2.atI at e ⊢
  rw [h.len]
  cases q : ixN xs.length i with
  | none => rw [q] at e; cases e
  | some j =>
    rw [q] at e
    exact h.get e
theorem RL.take : ∀ {vs : List V} {xs : List a} (n : Nat), RL H vs xs → RL H (vs.take n) (xs.take n)
  | _, _, 0, _ => RL.nil
  | _, [], n + 1, h => by rw [RL.nil_ h]; exact RL.nil
  | _, x :: xs, n + 1, h => by
    obtain ⟨w, ws, rfl, h1, h2⟩ := RL.cons_ h
    exact RL.cons h1 (RL.take n h2)
theorem RL.drop : ∀ {vs : List V} {xs : List a} (n : Nat), RL H vs xs → RL H (vs.drop n) (xs.drop n)
  | _, _, 0, h => h
  | _, [], n + 1, h => by rw [RL.nil_ h]; exact RL.nil
  | _, x :: xs, n + 1, h => by
    obtain ⟨w, ws, rfl, h1, h2⟩ := RL.cons_ h
    exact RL.drop n h2
theorem RL.set : ∀ {vs : List V} {xs : List a} (n : Nat) {w : V} {y : a}, RL H vs xs → R H w y → RL H (vs.set n w) (xs.set n y)
  | _, [], n, _, _, h, _ => by rw [RL.nil_ h]; exact RL.nil
  | _, x :: xs, 0, _, _, h, k => by
    obtain ⟨w, ws, rfl, h1, h2⟩ := RL.cons_ h
    exact RL.cons k h2
  | _, x :: xs, n + 1, _, _, h, k => by
    obtain ⟨w, ws, rfl, h1, h2⟩ := RL.cons_ h
    exact RL.cons h1 (RL.set n h2 k)
theorem RL.erase : ∀ {vs : List V} {xs : List a} (n : Nat), RL H vs xs → RL H (vs.eraseIdx n) (xs.eraseIdx n)
  | _, [], n, h => by rw [RL.nil_ h]; exact RL.nil
  | _, x :: xs, 0, h => by
    obtain ⟨w, ws, rfl, h1, h2⟩ := RL.cons_ h
    exact h2
  | _, x :: xs, n + 1, h => by
    obtain ⟨w, ws, rfl, h1, h2⟩ := RL.cons_ h
    exact RL.cons h1 (RL.erase n h2)
theorem RL.dropLast : ∀ {vs : List V} {xs : List a}, RL H vs xs → RL H vs.dropLast xs.dropLast
  | _, [], h => by rw [RL.nil_ h]; exact RL.nil
  | _, x :: xs, h => by
    obtain ⟨w, ws, rfl, h1, h2⟩ := RL.cons_ h
    cases xs with
    | nil => rw [RL.nil_ h2]; exact RL.nil
    | cons y ys =>
      obtain ⟨w2, ws2, rfl, _, _⟩ := RL.cons_ h2
      exact RL.cons h1 (RL.dropLast h2)
theorem RL.rev : ∀ {vs : List V} {xs : List a}, RL H vs xs → RL H vs.reverse xs.reverse
  | _, [], h => by rw [RL.nil_ h]; exact RL.nil
  | _, x :: xs, h => by
    obtain ⟨w, ws, rfl, h1, h2⟩ := RL.cons_ h
    rw [List.reverse_cons, List.reverse_cons]
    exact RL.snoc (RL.rev h2) h1
theorem RL.ints : ∀ {vs : List V} {xs : List Int}, RL H vs xs → vs = xs.map V.int
  | _, [], h => RL.nil_ h
  | _, x :: xs, h => by
    obtain ⟨w, ws, rfl, h1, h2⟩ := RL.cons_ h
    rw [R.int_ h1, RL.ints h2]
    rfl
theorem RL.of_ints : ∀ {xs : List Int}, RL H (xs.map V.int) xs
  | [] => RL.nil
  | x :: xs => RL.cons R.int RL.of_ints
theorem RL.bls : ∀ {vs : List V} {xs : List Bool}, RL H vs xs → vs = xs.map V.bl
  | _, [], h => RL.nil_ h
  | _, x :: xs, h => by
    obtain ⟨w, ws, rfl, h1, h2⟩ := RL.cons_ h
    rw [R.bl_ h1, RL.bls h2]
    rfl
theorem RL.strs : ∀ {vs : List V} {xs : List Str}, RL H vs xs → vs = xs.map V.str
  | _, [], h => RL.nil_ h
  | _, x :: xs, h => by
    obtain ⟨w, ws, rfl, h1, h2⟩ := RL.cons_ h
    rw [R.str_ h1, RL.strs h2]
    rfl
theorem RL.of_strs : ∀ {xs : List Str}, RL H (xs.map V.str) xs
  | [] => RL.nil
  | x :: xs => RL.cons R.str RL.of_strs
theorem RL.cut {xs : List a} (h : RL H vs xs) (lo hi : Option Int) : RL H (cutV vs lo hi) ((xs.drop (HT.sIx xs.length 0 lo)).take (HT.sIx xs.length xs.length hi - HT.sIx xs.length 0 lo)) := by
  unfold cutV
  rw [h.len]
  exact (h.drop _).take _
end

/-! ### owned cells: F is what is read alone, cs are the cells that the code may change -/
/-- what is known of the heap behind a def, by the heap at its entry; the cells at as may have changed -/
structure Gr (as : List Addr) (F H F' H' : Hp) : Prop where
  f : Same F F'
  s : Same F' H'
  k : ∀ b o, b ∉ as → H b = some o → H' b = some o
  t : ∀ b, H b ≠ none → H' b ≠ none
  n : ∀ b, H b ≠ none → F' b = F b ∨ ∃ xs, H b = some (.tup xs)
  u : ∀ b xs, H' b = some (.tup xs) → H b = none ∨ H b = some (.tup xs)
/-- what may be a cell -/
def noTup : HO → Bool
  | .tup _ => false
  | _ => true
structure Kp (as : List Addr) (H H' : Hp) : Prop where
  k : ∀ b o, b ∉ as → H b = some o → H' b = some o
  t : ∀ b, H b ≠ none → H' b ≠ none
/-- the entry of a def -/
structure Ent where
  as : List Addr
  F : Hp
  H : Hp
structure Ow (Z : Ent) (F : Hp) (cs : List (Addr × HO)) (H : Hp) : Prop where
  g : Gr Z.as Z.F Z.H F H
  cf : ∀ c ∈ cs, F c.1 = none
  ch : ∀ c ∈ cs, H c.1 = some c.2
  nd : (cs.map (·.1)).Nodup
  ca : ∀ c ∈ cs, c.1 ∈ Z.as ∨ Z.H c.1 = none
  nt : ∀ c ∈ cs, noTup c.2 = true
/-- what a def asks of its cells -/
structure Pre (F : Hp) (cs : List (Addr × HO)) (H : Hp) : Prop where
  s : Same F H
  cf : ∀ c ∈ cs, F c.1 = none
  ch : ∀ c ∈ cs, H c.1 = some c.2
  nd : (cs.map (·.1)).Nodup
  nt : ∀ c ∈ cs, noTup c.2 = true
theorem Same.new {H : Hp} {p : Addr} {o : HO} (h : H p = none) : Same H (upd H p o) := fun b u e => by
  rw [upd_ne (ne_of_none e h)]
  exact e
theorem Same.upd2 {F H : Hp} {p : Addr} {o : HO} (s : Same F H) : Same (upd F p o) (upd H p o) := fun b u e => by
  by_cases hb : b = p
  · subst hb
    rw [upd_same] at e ⊢
    exact e
  · rw [upd_ne hb] at e ⊢
    exact s b u e
theorem Same.no {F H : Hp} {p : Addr} (s : Same F H) (h : H p = none) : F p = none := Same.free s h
section
variable {Z : Ent} {F F' H H' : Hp} {cs : List (Addr × HO)} {p a : Addr} {o o' : HO}
theorem Pre.start (P : Pre F cs H) : Ow ⟨cs.map (·.1), F, H⟩ F cs H where
  g := ⟨Same.refl _, P.s, fun _ _ _ e => e, fun _ e => e, fun _ _ => .inl rfl, fun _ _ e => .inr e⟩
  cf := P.cf
  ch := P.ch
  nd := P.nd
  ca := fun c hc => .inl (List.mem_map.mpr ⟨c, hc, rfl⟩)
  nt := P.nt
theorem Ow.s (O : Ow Z F cs H) : Same F H := O.g.s
theorem Ow.pre (O : Ow Z F cs H) : Pre F cs H := ⟨O.g.s, O.cf, O.ch, O.nd, O.nt⟩
theorem Ow.pre0 (O : Ow Z F cs H) : Pre F [] H := ⟨O.g.s, (fun _ h => nomatch h), (fun _ h => nomatch h), List.nodup_nil, fun _ h => nomatch h⟩
theorem Ow.pre1 (O : Ow Z F cs H) (i : Nat) (e : cs[i]? = some (a, o)) : Pre F [(a, o)] H := by
  have m := List.mem_of_getElem? e
  refine ⟨O.g.s, fun c hc => ?_, fun c hc => ?_, by simp, fun c hc => ?_⟩
  · rw [List.mem_singleton.mp hc]; exact O.cf _ m
  · rw [List.mem_singleton.mp hc]; exact O.ch _ m
  · rw [List.mem_singleton.mp hc]; exact O.nt _ m
theorem Ow.at (O : Ow Z F cs H) (i : Nat) (e : cs[i]? = some (a, o)) : H a = some o := O.ch _ (List.mem_of_getElem? e)
theorem Ow.no (O : Ow Z F cs H) (h : H p = none) : F p = none := Same.no O.s h
theorem Gr.new (g : Gr Z.as Z.F Z.H F H) (h : H p = none) : Gr Z.as Z.F Z.H F (upd H p o) where
  f := g.f
  s := g.s.trans (Same.new h)
  k := fun b u hb e => Same.new h b u (g.k b u hb e)
  t := fun b e z => by
    by_cases hb : b = p
    · subst hb; exact g.t _ e h
    · rw [upd_ne hb] at z; exact g.t b e z
  n := g.n
  u := fun b xs e => by
    by_cases hb : b = p
    · subst hb
      cases q : Z.H b with
      | none => exact .inl rfl
      | some u => exact absurd h (g.t b (by rw [q]; simp))
    · rw [upd_ne hb] at e; exact g.u b xs e
/-- a new cell -/
theorem Ow.new (O : Ow Z F cs H) (h : H p = none) (hn : noTup o = true := by rfl) : Ow Z F ((p, o) :: cs) (upd H p o) where
  g := O.g.new h
  cf := fun c hc => by
    rcases List.mem_cons.mp hc with rfl | hc
    · exact O.no h
    · exact O.cf c hc
  ch := fun c hc => by
    rcases List.mem_cons.mp hc with rfl | hc
    · exact upd_same
    · rw [upd_ne (ne_of_none (O.ch c hc) h)]; exact O.ch c hc
  nd := by
    rw [List.map_cons, List.nodup_cons]
    refine ⟨fun hm => ?_, O.nd⟩
    obtain ⟨c, hc, e⟩ := List.mem_map.mp hm
    have z := O.ch c hc
    rw [e] at z
    rw [z] at h
    cases h
  ca := fun c hc => by
    rcases List.mem_cons.mp hc with rfl | hc
    · refine .inr ?_
      cases q : Z.H p with
      | none => rfl
      | some u => exact absurd h (O.g.t p (by rw [q]; simp))
    · exact O.ca c hc
  nt := fun c hc => by
    rcases List.mem_cons.mp hc with rfl | hc
    · exact hn
    · exact O.nt c hc
/-- a new thing that is read alone -/
theorem Ow.put (O : Ow Z F cs H) (h : H p = none) : Ow Z (upd F p o) cs (upd H p o) where
  g := {
    f := O.g.f.trans (Same.new (O.no h))
    s := Same.upd2 O.g.s
    k := (O.g.new h).k
    t := (O.g.new h).t
    n := fun b e => by
      have hb : b ≠ p := fun z => by subst z; exact O.g.t _ e h
      rw [upd_ne hb]
      exact O.g.n b e
    u := (O.g.new h).u }
  cf := fun c hc => by rw [upd_ne (ne_of_none (O.ch c hc) h)]; exact O.cf c hc
  ch := fun c hc => by rw [upd_ne (ne_of_none (O.ch c hc) h)]; exact O.ch c hc
  nd := O.nd
  ca := O.ca
  nt := O.nt
theorem map_set_fst {i : Nat} (e : cs[i]? = some (a, o)) : (cs.set i (a, o')).map (·.1) = cs.map (·.1) := by
  rw [List.map_set]
  obtain ⟨h, e'⟩ := List.getElem?_eq_some_iff.mp e
  refine List.ext_getElem? fun j => ?_
  by_cases hj : i = j
  · subst hj
    rw [List.getElem?_set_self (by simpa using h), List.getElem?_map, e]
    rfl
  · rw [List.getElem?_set_ne hj]
theorem nd_other {i : Nat} (nd : (cs.map (·.1)).Nodup) (e : cs[i]? = some (a, o)) {c : Addr × HO} (hc : c ∈ cs.set i (a, o')) : c = (a, o') ∨ (c ∈ cs ∧ c.1 ≠ a) := by
  obtain ⟨j, hj⟩ := List.mem_iff_getElem?.mp hc
  by_cases hij : i = j
  · subst hij
    obtain ⟨h, _⟩ := List.getElem?_eq_some_iff.mp e
    rw [List.getElem?_set_self h] at hj
    exact .inl (Option.some.inj hj).symm
  · rw [List.getElem?_set_ne hij] at hj
    refine .inr ⟨List.mem_of_getElem? hj, fun z => hij ?_⟩
    have h1 : (cs.map (·.1))[i]? = some a := by rw [List.getElem?_map, e]; rfl
    have h2 : (cs.map (·.1))[j]? = some a := by rw [List.getElem?_map, hj, ← z]; rfl
    exact nd_ix nd h1 h2
/-- a cell is changed -/
theorem Ow.set (O : Ow Z F cs H) (i : Nat) (o' : HO) (e : cs[i]? = some (a, o)) (hn : noTup o' = true := by rfl) : Ow Z F (cs.set i (a, o')) (upd H a o') := by
  have m := List.mem_of_getElem? e
  have ha := O.ca _ m
  refine ⟨⟨O.g.f, fun b u q => ?_, fun b u hb q => ?_, fun b q z => ?_, O.g.n, fun b xs q => ?_⟩, fun c hc => ?_, fun c hc => ?_, ?_, fun c hc => ?_, fun c hc => ?_⟩
  · have hb : b ≠ a := fun z => by subst z; rw [O.cf _ m] at q; cases q
    rw [upd_ne hb]
    exact O.g.s b u q
  · have hba : b ≠ a := fun z => by
      subst z
      rcases ha with ha | ha
      · exact hb ha
      · have q' : Z.H b = some u := q
        have ha' : Z.H b = none := ha
        rw [ha'] at q'; cases q'
    rw [upd_ne hba]
    exact O.g.k b u hb q
  · by_cases hb : b = a
    · subst hb; rw [upd_same] at z; cases z
    · rw [upd_ne hb] at z; exact O.g.t b q z
  · by_cases hb : b = a
    · subst hb
      rw [upd_same] at q
      rw [Option.some.inj q] at hn
      cases hn
    · rw [upd_ne hb] at q; exact O.g.u b xs q
  · rcases nd_other O.nd e hc with rfl | ⟨h1, _⟩
    · exact O.cf (a, o) m
    · exact O.cf c h1
  · rcases nd_other O.nd e hc with rfl | ⟨h1, h2⟩
    · exact upd_same
    · rw [upd_ne h2]; exact O.ch c h1
  · rw [map_set_fst e]; exact O.nd
  · rcases nd_other O.nd e hc with rfl | ⟨h1, _⟩
    · exact ha
    · exact O.ca c h1
  · rcases nd_other O.nd e hc with rfl | ⟨h1, _⟩
    · exact hn
    · exact O.nt c h1
theorem mem_erase {i : Nat} {c : Addr × HO} (h : c ∈ cs.eraseIdx i) : c ∈ cs := List.mem_of_mem_eraseIdx h
theorem nd_erase {i : Nat} (h : (cs.map (·.1)).Nodup) : ((cs.eraseIdx i).map (·.1)).Nodup := by
  exact h.sublist ((List.eraseIdx_sublist cs i).map (fun x => x.1))
/-- a cell that nobody changes any more (it was not there at the entry) -/
theorem Ow.frz (O : Ow Z F cs H) (i : Nat) (e : cs[i]? = some (a, o)) (hz : Z.H a = none) : Ow Z (upd F a o) (cs.eraseIdx i) H := by
  have m := List.mem_of_getElem? e
  have h1 : ∀ c ∈ cs.eraseIdx i, c.1 ≠ a := fun c hc z => by
    have nd := O.nd
    obtain ⟨hi, e'⟩ := List.getElem?_eq_some_iff.mp e
    obtain ⟨j, hj⟩ := List.mem_iff_getElem?.mp hc
    rw [List.getElem?_eraseIdx] at hj
    have h1 : (cs.map (·.1))[i]? = some a := by rw [List.getElem?_map, e]; rfl
    by_cases hji : j < i
    · rw [if_pos hji] at hj
      have h2 : (cs.map (·.1))[j]? = some a := by rw [List.getElem?_map, hj, ← z]; rfl
      have := nd_ix nd h1 h2
      omega
    · rw [if_neg hji] at hj
      have h2 : (cs.map (·.1))[j + 1]? = some a := by rw [List.getElem?_map, hj, ← z]; rfl
      have := nd_ix nd h1 h2
      omega
  refine ⟨⟨O.g.f.trans (Same.new (O.cf _ m)), fun b u q => ?_, O.g.k, O.g.t, fun b q => ?_, O.g.u⟩, fun c hc => ?_, fun c hc => O.ch c (mem_erase hc), nd_erase O.nd, fun c hc => O.ca c (mem_erase hc), fun c hc => O.nt c (mem_erase hc)⟩
  · by_cases hb : b = a
    · subst hb; rw [upd_same] at q; rw [← q]; exact O.ch _ m
    · rw [upd_ne hb] at q; exact O.g.s b u q
  · have hb : b ≠ a := fun z => by subst z; exact q hz
    rw [upd_ne hb]
    exact O.g.n b q
  · rw [upd_ne (h1 c hc)]; exact O.cf c (mem_erase hc)
theorem Ow.drop (O : Ow Z F cs H) (i : Nat) : Ow Z F (cs.eraseIdx i) H := ⟨O.g, fun c hc => O.cf c (mem_erase hc), fun c hc => O.ch c (mem_erase hc), nd_erase O.nd, fun c hc => O.ca c (mem_erase hc), fun c hc => O.nt c (mem_erase hc)⟩
theorem Ow.frzS (O : Ow Z F cs H) (i : Nat) (e : cs[i]? = some (a, o)) : Same F (upd F a o) := Same.new (O.cf _ (List.mem_of_getElem? e))
theorem Ow.putS (O : Ow Z F cs H) (h : H p = none) : Same F (upd F p o) := Same.new (O.no h)
theorem Gr.then {as : List Addr} (g0 : Gr Z.as Z.F Z.H F H) (g : Gr as F H F' H') (ha : ∀ b ∈ as, b ∈ Z.as ∨ Z.H b = none) : Gr Z.as Z.F Z.H F' H' where
  f := g0.f.trans g.f
  s := g.s
  k := fun b u hb e => by
    refine g.k b u (fun z => ?_) (g0.k b u hb e)
    rcases ha b z with h | h
    · exact hb h
    · rw [h] at e; cases e
  t := fun b e => g.t b (g0.t b e)
  n := fun b e => by
    rcases g0.n b e with h0 | h0
    · rcases g.n b (g0.t b e) with h1 | ⟨xs, hx⟩
      · exact .inl (h1.trans h0)
      · rcases g0.u b xs hx with z | z
        · exact absurd z e
        · exact .inr ⟨xs, z⟩
    · exact .inr h0
  u := fun b xs e => by
    rcases g.u b xs e with z | z
    · refine .inl ?_
      cases q : Z.H b with
      | none => rfl
      | some u => exact absurd z (g0.t b (by rw [q]; simp))
    · exact g0.u b xs z
theorem Gr.none {as : List Addr} (g : Gr as F H F' H') {c : Addr × HO} (h : H c.1 = some c.2) (hn : noTup c.2 = true) (hf : F c.1 = Option.none) : F' c.1 = Option.none := by
  rcases g.n c.1 (by rw [h]; simp) with z | ⟨xs, z⟩
  · exact z.trans hf
  · rw [h] at z
    rw [Option.some.inj z] at hn
    cases hn
/-- behind a call that changes none of our cells -/
theorem Ow.call0 (O : Ow Z F cs H) (g : Gr [] F H F' H') : Ow Z F' cs H' where
  g := O.g.then g (fun _ h => nomatch h)
  cf := fun c hc => g.none (O.ch c hc) (O.nt c hc) (O.cf c hc)
  ch := fun c hc => g.k _ _ (fun h => nomatch h) (O.ch c hc)
  nd := O.nd
  ca := O.ca
  nt := O.nt
/-- .. one -/
theorem Ow.call1 (O : Ow Z F cs H) (g : Gr [a] F H F' H') (i : Nat) (e : cs[i]? = some (a, o)) (h' : H' a = some o') (hn : noTup o' = true := by rfl) : Ow Z F' (cs.set i (a, o')) H' := by
  have m := List.mem_of_getElem? e
  refine ⟨O.g.then g (fun b hb => by rw [List.mem_singleton.mp hb]; exact O.ca _ m), fun c hc => ?_, fun c hc => ?_, by rw [map_set_fst e]; exact O.nd, fun c hc => ?_, fun c hc => ?_⟩
  · rcases nd_other O.nd e hc with rfl | ⟨h1, _⟩
    · exact g.none (c := (a, o)) (O.ch (a, o) m) (O.nt (a, o) m) (O.cf (a, o) m)
    · exact g.none (O.ch c h1) (O.nt c h1) (O.cf c h1)
  · rcases nd_other O.nd e hc with rfl | ⟨h1, h2⟩
    · exact h'
    · exact g.k _ _ (fun z => h2 (List.mem_singleton.mp z)) (O.ch c h1)
  · rcases nd_other O.nd e hc with rfl | ⟨h1, _⟩
    · exact O.ca (a, o) m
    · exact O.ca c h1
  · rcases nd_other O.nd e hc with rfl | ⟨h1, _⟩
    · exact hn
    · exact O.nt c h1
/-- a cell that a call made -/
theorem Ow.add {H0 : Hp} {F0 : Hp} (O : Ow Z F cs H) (O0 : Ow Z F0 cs' H0) (hk : ∀ c ∈ cs, c.1 ∈ cs'.map (·.1)) (hn : H0 p = none) (hf : F p = none) (h : H p = some o) (ht : noTup o = true := by rfl) : Ow Z F ((p, o) :: cs) H where
  g := O.g
  cf := fun c hc => by
    rcases List.mem_cons.mp hc with rfl | hc
    · exact hf
    · exact O.cf c hc
  ch := fun c hc => by
    rcases List.mem_cons.mp hc with rfl | hc
    · exact h
    · exact O.ch c hc
  nd := by
    rw [List.map_cons, List.nodup_cons]
    refine ⟨fun hm => ?_, O.nd⟩
    obtain ⟨c, hc, e⟩ := List.mem_map.mp hm
    obtain ⟨c', hc', e'⟩ := List.mem_map.mp (hk c hc)
    have z := O0.ch c' hc'
    rw [e', e] at z
    rw [z] at hn
    cases hn
  ca := fun c hc => by
    rcases List.mem_cons.mp hc with rfl | hc
    · refine .inr ?_
      cases q : Z.H p with
      | none => rfl
      | some u => exact absurd hn (O0.g.t p (by rw [q]; simp))
    · exact O.ca c hc
  nt := fun c hc => by
    rcases List.mem_cons.mp hc with rfl | hc
    · exact ht
    · exact O.nt c hc
theorem Ow.kp (O : Ow Z F cs H) : Kp Z.as Z.H H := ⟨O.g.k, O.g.t⟩
theorem Kp.of {as : List Addr} {H0 H1 : Hp} (g : Gr as F H0 F' H1) : Kp as H0 H1 := ⟨g.k, g.t⟩
/-- an error of a call leaves this def -/
theorem Ow.kpCall {as : List Addr} {H1 : Hp} (O : Ow Z F cs H) (k : Kp as H H1) (ha : ∀ b ∈ as, ∃ o, (b, o) ∈ cs) : Kp Z.as Z.H H1 where
  k := fun b u hb e => by
    refine k.k b u (fun z => ?_) (O.g.k b u hb e)
    obtain ⟨o, hc⟩ := ha b z
    rcases O.ca _ hc with h | h
    · exact hb h
    · have h' : Z.H b = none := h
      rw [h'] at e; cases e
  t := fun b e => k.t b (O.g.t b e)
theorem Ow.kp0 {H1 : Hp} (O : Ow Z F cs H) (k : Kp [] H H1) : Kp Z.as Z.H H1 := O.kpCall k fun _ h => nomatch h
theorem Ow.kp1 {H1 : Hp} (O : Ow Z F cs H) (k : Kp [a] H H1) (i : Nat) (e : cs[i]? = some (a, o)) : Kp Z.as Z.H H1 := O.kpCall k fun b hb => by
  rw [List.mem_singleton.mp hb]
  exact ⟨o, List.mem_of_getElem? e⟩
end
end PG

set_option Elab.async false
set_option linter.all false
set_option maxRecDepth 100000
set_option maxHeartbeats 4000000
namespace PG
open PySem L2
open PySem.W (T3 T4 Datum DatumOrd Holds HoldAll EachIs)
variable {K0 : PySem.W.Frag} [KF K0]
/-! ### rules over typed data -/
section
variable {X : Cx} {pins : List (Addr × Obj)} {σ : St} {H : Hp} {s : Shared} {v : V} {u : Value} {vs : List V} {us : List Value}
theorem R.holds [KF X.K] {a : Type} [Py a] [DecidableEq a] [Datum a] [IsD a] {x : a} (I : Inv X pins σ H s) (h : R H v x) (r : RelV v u) : Holds s.heap u x := by
  obtain ⟨as, q⟩ := Dp.reads I _ _ _ (Rep.dp _ _ h) r
  rw [IsD.eq] at q
  exact ⟨as, q⟩
theorem RL.holds [KF X.K] {a : Type} [Py a] [DecidableEq a] [Datum a] [IsD a] {xs : List a} (I : Inv X pins σ H s) (h : RL H vs xs) (r : Vals vs us) : HoldAll s.heap us xs := by
  obtain ⟨as, q⟩ := Dp.readsAll I _ _ _ (RepA.dp _ _ h) r
  rw [map_toD] at q
  exact ⟨as, q⟩
end
section
variable {X : Cx} (a : Type) [Py a] [DecidableEq a] [Datum a] [IsD a]
def rEqT : R2 := fun x y H Q => ∃ p q : a, R H x p ∧ R H y q ∧ Q (.bl (decide (p = q))) H
def rNeT : R2 := fun x y H Q => ∃ p q : a, R H x p ∧ R H y q ∧ Q (.bl (decide (p ≠ q))) H
theorem op_eqT (hu : X.A.units + 64 < cLine) (hd : Datum.depth a ≤ 64 := by decide) (hK : X.K = K0 := by rfl) : OpR X (compareOp .Eq) (rEqT a) := by
  subst hK
  intro pins s σ H x y v u Q I rx ry h
  obtain ⟨p, q, hp, hq, k⟩ := h
  exact PySem.W.eq_datum (hp.holds I rx) (hq.holds I ry) (by omega) ⟨.bl _, H, I, rfl, k⟩
theorem op_neT (hu : X.A.units + 64 < cLine) (hd : Datum.depth a ≤ 64 := by decide) (hK : X.K = K0 := by rfl) : OpR X (compareOp .NotEq) (rNeT a) := by
  subst hK
  intro pins s σ H x y v u Q I rx ry h
  obtain ⟨p, q, hp, hq, k⟩ := h
  exact PySem.W.ne_datum (hp.holds I rx) (hq.holds I ry) (by omega) ⟨.bl _, H, I, rfl, k⟩
def rInT (neg : Bool) : R2 := fun x y H Q => ∃ (p : a) (l : Addr) (vs : List V) (ys : List a), R H x p ∧ y = .ref l ∧ (H l = some (.lst vs) ∨ TupAt H l vs) ∧ RL H vs ys ∧ Q (.bl (if neg then decide (p ∉ ys) else decide (p ∈ ys))) H
end
section
variable {X : Cx} (a : Type) [Py a] [DecidableEq a] [Datum a] [IsD a]
theorem op_inT (hu : X.A.units + 64 < cLine) (hd : Datum.depth a ≤ 60 := by decide) (hK : X.K = K0 := by rfl) : OpR X (compareOp .In) (rInT a false) := by
  subst hK
  intro pins s σ H x y v u Q I rx ry h
  obtain ⟨p, l, vs, ys, hp, rfl, hl, hy, k⟩ := h
  cases ry
  rcases hl with hl | hl
  · obtain ⟨its, rv, hL, _⟩ := I.list (SqL.of (K := X.K) hl)
    exact PySem.W.in_list_datum hL.isList (by simpa using hy.holds I rv) (hp.holds I rx) (by omega) ⟨.bl _, H, I, rfl, k⟩
  · obtain ⟨its, rv, hL, _⟩ := I.tuple hl.sq
    exact PySem.W.in_tuple_datum (show s.heap.IsTuple l its.toArray from hL) (by simpa using hy.holds I rv) (hp.holds I rx) (by omega) ⟨.bl _, H, I, rfl, k⟩
theorem op_ninT (hu : X.A.units + 64 < cLine) (hd : Datum.depth a ≤ 60 := by decide) (hK : X.K = K0 := by rfl) : OpR X (compareOp .NotIn) (rInT a true) := by
  subst hK
  intro pins s σ H x y v u Q I rx ry h
  obtain ⟨p, l, vs, ys, hp, rfl, hl, hy, k⟩ := h
  cases ry
  rcases hl with hl | hl
  · obtain ⟨its, rv, hL, _⟩ := I.list (SqL.of (K := X.K) hl)
    exact PySem.W.notIn_list_datum hL.isList (by simpa using hy.holds I rv) (hp.holds I rx) (by omega) ⟨.bl _, H, I, rfl, k⟩
  · obtain ⟨its, rv, hL, _⟩ := I.tuple hl.sq
    exact PySem.W.notIn_tuple_datum (show s.heap.IsTuple l its.toArray from hL) (by simpa using hy.holds I rv) (hp.holds I rx) (by omega) ⟨.bl _, H, I, rfl, k⟩
end

/-! ### sorted -/
/-- how data may be sorted: all are tuples with an item, or none is a tuple or None -/
class SortB (a : Type) [DecidableEq a] [Datum a] : Prop where
  ok : (∀ x : a, ∃ d r, Datum.toD x = .tuple (d :: r)) ∨ ∀ x : a, Datum.toD x ≠ .none ∧ ∀ ds, Datum.toD x ≠ .tuple ds
instance : SortB Int := ⟨.inr fun x => ⟨(fun e => nomatch (show PyData.int x = .none from e)), fun ds e => nomatch (show PyData.int x = .tuple ds from e)⟩⟩
instance : SortB Str := ⟨.inr fun x => ⟨(fun e => nomatch (show PyData.str x = .none from e)), fun ds e => nomatch (show PyData.str x = .tuple ds from e)⟩⟩
section
variable {a b c : Type} [DecidableEq a] [Datum a] [DecidableEq b] [Datum b] [DecidableEq c] [Datum c]
instance : SortB (List a) := ⟨.inr fun x => ⟨(fun e => nomatch (show PyData.list _ = .none from e)), fun ds e => nomatch (show PyData.list _ = .tuple ds from e)⟩⟩
instance : SortB (a × b) := ⟨.inl fun x => ⟨_, _, rfl⟩⟩
instance : SortB (T3 a b c) := ⟨.inl fun x => ⟨_, _, rfl⟩⟩
end
/-- Python's order -/
def leT {a : Type} [DecidableEq a] [DatumOrd a] (x y : a) : Bool := !DatumOrd.lt y x
def sortT {a : Type} [DecidableEq a] [DatumOrd a] (xs : List a) : List a := xs.mergeSort leT
theorem dataLe_T {a β : Type} [DecidableEq a] [DatumOrd a] (f : β → a) : PySem.W.dataLe false (fun b => Datum.toD (f b)) = fun x y => leT (f x) (f y) := by
  funext x y
  rw [PySem.W.dataLe_eq]
  show (!PySem.W.dataLt (Datum.toD (f y)) (Datum.toD (f x))) = _
  rw [DatumOrd.lt_eq]
  rfl
section
variable {a : Type} [Py a] [DecidableEq a] [DatumOrd a] [IsD a] {H : Hp}
theorem each_pairs : ∀ {vs : List V} {xs : List a} {us : List Value}, RL H vs xs → Vals vs us → EachIs (fun (u : Value) (p : V × a) => RelV p.1 u ∧ R H p.1 p.2) us (vs.zip xs)
  | _, [], _, h, r => by
    rw [RL.nil_ h] at r ⊢
    cases r
    exact .nil
  | _, x :: xs, _, h, r => by
    obtain ⟨w, ws, rfl, h1, h2⟩ := RL.cons_ h
    cases r with
    | cons r1 r2 => exact .cons ⟨r1, h1⟩ (each_pairs h2 r2)
theorem pairs_vals : ∀ {ps : List (V × a)} {us : List Value}, EachIs (fun (u : Value) (p : V × a) => RelV p.1 u ∧ R H p.1 p.2) us ps → Vals (ps.map (·.1)) us ∧ RL H (ps.map (·.1)) (ps.map (·.2))
  | _, _, .nil => ⟨.nil, RL.nil⟩
  | _, _, .cons ⟨r1, h1⟩ t => ⟨.cons r1 (pairs_vals t).1, RL.cons h1 (pairs_vals t).2⟩
theorem each_imp {β γ : Type} {A B : β → γ → Prop} (f : ∀ x y, A x y → B x y) : ∀ {xs : List β} {ys : List γ}, EachIs A xs ys → EachIs B xs ys
  | _, _, .nil => .nil
  | _, _, .cons h t => .cons (f _ _ h) (each_imp f t)
theorem zip_snd : ∀ {vs : List V} {xs : List a}, vs.length = xs.length → (vs.zip xs).map (·.2) = xs
  | [], [], _ => rfl
  | v :: vs, x :: xs, h => by
    rw [List.zip_cons_cons, List.map_cons, zip_snd (by simpa using h)]
  | [], _ :: _, h => by simp at h
  | _ :: _, [], h => by simp at h
theorem sort_zip {vs : List V} {xs : List a} (h : vs.length = xs.length) : ((vs.zip xs).mergeSort fun p q => leT p.2 q.2).map (·.2) = sortT xs := by
  unfold sortT
  rw [List.map_mergeSort (s := leT) (fun _ _ _ _ => rfl), zip_snd h]
end
section
variable {a : Type} [Py a] [DecidableEq a] [DatumOrd a] [IsD a] {H : Hp}
def sortV (ws : List V) (xs : List a) : List V := ((ws.zip xs).mergeSort fun p q => leT p.2 q.2).map (·.1)
theorem RL.pairs : ∀ {ws : List V} {xs : List a}, RL H ws xs → ∀ p ∈ ws.zip xs, R H p.1 p.2
  | _, [], _, p, hp => by simp at hp
  | _, x :: xs, h, p, hp => by
    obtain ⟨w, ws, rfl, h1, h2⟩ := RL.cons_ h
    rw [List.zip_cons_cons] at hp
    rcases List.mem_cons.mp hp with rfl | hp
    · exact h1
    · exact RL.pairs h2 p hp
theorem RL.of_pairs : ∀ {ps : List (V × a)}, (∀ p ∈ ps, R H p.1 p.2) → RL H (ps.map (·.1)) (ps.map (·.2))
  | [], _ => RL.nil
  | p :: ps, h => RL.cons (h p List.mem_cons_self) (RL.of_pairs fun q hq => h q (List.mem_cons_of_mem _ hq))
theorem RL.sorted {ws : List V} {xs : List a} (h : RL H ws xs) : RL H (sortV ws xs) (sortT xs) := by
  have q : RL H (sortV ws xs) (((ws.zip xs).mergeSort fun p q => leT p.2 q.2).map (·.2)) := RL.of_pairs fun p hp => h.pairs p (List.mem_mergeSort.mp hp)
  rw [sort_zip h.len] at q
  exact q
end
section
variable {X : Cx} (a : Type) [Py a] [DecidableEq a] [DatumOrd a] [IsD a]
/-- sorted(xs) of a list: a new list -/
def rSortedT : List V → Hp → VK → Prop := fun vs H Q => ∃ (l : Addr) (ws : List V) (xs : List a), vs = [.ref l] ∧ H l = some (.lst ws) ∧ RL H ws xs ∧ ∀ (p : Addr), H p = none → Q (.ref p) (upd H p (.lst (sortV ws xs)))
theorem cr_sortedT [SortB a] (hu : X.A.units + 128 < cLine) (hd : Datum.depth a ≤ 100 := by decide) (hK : X.K = K0 := by rfl) : CallR X (.builtin "sorted") (rSortedT a) := by
  subst hK
  intro pins s σ H vs us Q I r h
  obtain ⟨l, ws, xs, rfl, hl, hx, k⟩ := h
  obtain ⟨its, rv, hL, hz⟩ := I.list (SqL.of (K := X.K) hl)
  rw [Vals.ref1 r]
  have hlen : ws.length = xs.length := hx.len
  have hE := each_pairs hx rv
  refine PySem.W.sorted_data (bs := ws.zip xs) (enc := fun p => Datum.toD p.2) hL.isList hE (each_imp (fun u p hp => hp.2.holds I hp.1) hE) (PySem.W.AllAlike.of fun p q => DatumOrd.alike p.2 q.2) ?_ (by rw [List.length_zip, ← hlen, Nat.min_self]; exact hz) (fun p _ => ?_) fun out ho he => ?_
  · rcases SortB.ok (a := a) with q | q
    · exact PySem.W.Sortable.tuples fun p => q p.2
    · exact PySem.W.Sortable.others fun p => q p.2
  · have := Datum.depth_le p.2
    omega
  · rw [dataLe_T (fun p : V × a => p.2)] at he
    obtain ⟨q1, q2⟩ := pairs_vals he
    obtain ⟨ep, he'⟩ := PyProof.Rows.sortedAll_at s.heap its out.toArray
    refine ⟨.ref _, upd H (s.heap.objs.size + 1) (.lst _), I.laid (t' := s.toks) (fun _ _ => PyProof.Rows.sortedAll_old) (Nat.le_succ _) ⟨?_, out, ep, q1, he'⟩, rfl, k _ (I.hok.fresh (Nat.le_succ _))⟩
    rw [List.length_map, List.length_mergeSort, List.length_zip, ← hlen, Nat.min_self]
    exact hz
end
end PG

set_option Elab.async false
set_option linter.all false
set_option maxRecDepth 100000
set_option maxHeartbeats 4000000
namespace PG
open PySem PySem.Spec PyProof.Rows L2
open PySem.W (T3 T4 Datum DatumOrd Holds HoldAll EachIs)
variable {K0 : PySem.W.Frag} [KF K0]

instance (i j : Int) : Decidable (CMulW i j) := inferInstanceAs (Decidable (_ < _))
instance (i j : Int) : Decidable (CDivW i j) := inferInstanceAs (Decidable (_ ∧ _))
instance (i j : Int) : Decidable (CPow i j) := inferInstanceAs (Decidable (_ ∧ _ ∧ _))
theorem szl : sizeLine = 16777216 := sizeLine_eq
theorem lt_line {n : Nat} (h : n < 16777216) : n < sizeLine := by rw [szl]; exact h
theorem le_line {n : Nat} (h : n < 16777216) : n ≤ sizeLine := Nat.le_of_lt (lt_line h)
theorem len_line {vs : List V} (h : vs.length < 16777216 := by (show _ < 16777216); simp) : vs.length ≤ sizeLine := le_line h
theorem SqLF {K : PySem.W.Frag} {F H : Hp} {p : Addr} {vs : List V} (s : Same F H) (h : F p = some (.lst vs)) : SqL K H p vs := SqL.of (s _ _ h)
theorem SqTF {K : PySem.W.Frag} {F H : Hp} {p : Addr} {vs : List V} (s : Same F H) (h : F p = some (.tup vs)) : SqT K H p vs := SqT.of (s _ _ h)
theorem SqTK {F H : Hp} {p : Addr} {vs : List V} (s : Same F H) (h : TupAt F p vs) : SqT K0 H p vs := (h.mono s).sq

/-! ### mirrors of what may go wrong -/
def setI {a : Type} (xs : List a) (i : Int) (y : a) : M (List a) := match ixN xs.length i with
  | some j => .ok (xs.set j y)
  | none => bad
def popI {a : Type} (xs : List a) (i : Int) : M (a × List a) := if xs.length < 16777216 then (match ixN xs.length i with
    | some j => (match xs[j]? with
      | some y => .ok (y, xs.eraseIdx j)
      | none => bad)
    | none => bad) else bad
def popL {a : Type} (xs : List a) : M (a × List a) := match xs[xs.length - 1]? with
  | some y => .ok (y, xs.dropLast)
  | none => bad
def appL {a : Type} (xs : List a) (y : a) : M (List a) := if xs.length < 16777216 then .ok (xs ++ [y]) else bad
def rangeL (lo hi : Int) : List Int := (List.range (hi - lo).toNat).map fun (i : Nat) => lo + (i : Int)
def okR (i : Int) : Prop := -1000000 ≤ i ∧ i ≤ 1000000
instance (i : Int) : Decidable (okR i) := inferInstanceAs (Decidable (_ ∧ _))
theorem okR.lo {i : Int} (h : okR i) : -(2 ^ 62) ≤ i := by obtain ⟨a, b⟩ := h; omega
theorem okR.hi {i : Int} (h : okR i) : i < 2 ^ 62 := by obtain ⟨a, b⟩ := h; omega
theorem rangeL_get {lo hi : Int} {i : Nat} (h : i < (hi - lo).toNat) : (rangeL lo hi).drop i = (lo + (i : Int)) :: (rangeL lo hi).drop (i + 1) := by
  unfold rangeL
  rw [List.drop_eq_getElem_cons (by simpa using h)]
  simp
theorem rangeL_end {lo hi : Int} : (rangeL lo hi).drop (hi - lo).toNat = [] := by
  rw [List.drop_eq_nil_iff]
  unfold rangeL
  simp
section
variable {a b : Type} {Q : a → Prop} {E : String → Prop} {H : Hp}
theorem wp_setI {xs : List b} {i : Int} {y : b} {k : List b → M a} (h : wp (setI xs i y >>= k) Q E) : ∃ j, ixN xs.length i = some j ∧ wp (k (xs.set j y)) Q E := by
  unfold setI at h
  cases e : ixN xs.length i with
  | none => rw [e] at h; exact h.elim
  | some j => rw [e] at h; exact ⟨j, rfl, h⟩
theorem wp_popI {xs : List b} {i : Int} {k : b × List b → M a} (h : wp (popI xs i >>= k) Q E) : ∃ j y, seqIndex? i xs.length = some j ∧ -(2 ^ 63) ≤ i ∧ i < 2 ^ 63 ∧ xs[j]? = some y ∧ wp (k (y, xs.eraseIdx j)) Q E := by
  unfold popI at h
  by_cases hl : xs.length < 16777216
  · rw [if_pos hl] at h
    cases e : ixN xs.length i with
    | none => rw [e] at h; exact h.elim
    | some j =>
      rw [e] at h
      have h : wp ((match xs[j]? with
        | some y => .ok (y, xs.eraseIdx j)
        | none => bad) >>= k) Q E := h
      cases e2 : xs[j]? with
      | none => rw [e2] at h; exact h.elim
      | some y =>
        rw [e2] at h
        obtain ⟨q1, q2, q3, q4⟩ := ixN_seq e
        exact ⟨j, y, q1, by omega, by omega, e2, h⟩
  · rw [if_neg hl] at h
    exact h.elim
theorem wp_popL {xs : List b} {k : b × List b → M a} (h : wp (popL xs >>= k) Q E) : ∃ y, xs[xs.length - 1]? = some y ∧ wp (k (y, xs.dropLast)) Q E := by
  unfold popL at h
  cases e : xs[xs.length - 1]? with
  | none => rw [e] at h; exact h.elim
  | some y => rw [e] at h; exact ⟨y, rfl, h⟩
theorem wp_appL {xs : List b} {y : b} {k : List b → M a} (h : wp (appL xs y >>= k) Q E) : xs.length < sizeLine ∧ wp (k (xs ++ [y])) Q E := by
  unfold appL at h
  by_cases hl : xs.length < 16777216
  · rw [if_pos hl] at h
    exact ⟨lt_line hl, h⟩
  · rw [if_neg hl] at h
    exact h.elim
end
/-! loops, by what is left to be done -/
section
variable {i s r a c : Type} {Q : a → Prop} {E : String → Prop}
theorem loopN_L {b : i → s → M s} {xs : List i} {x : s} {k : s → M a} (h : wp (loopN b xs x >>= k) Q E) :
    ∃ L : List i → s → Prop, L xs x ∧ (∀ y ys x, L (y :: ys) x → wp (b y x) (fun x' => L ys x') E) ∧ ∀ x, L [] x → wp (k x) Q E := by
  refine ⟨fun ys x => wp (loopN b ys x >>= k) Q E, h, fun y ys x hx => ?_, fun x hx => hx⟩
  have hx : wp (loopN b (y :: ys) x >>= k) Q E := hx
  rw [wp_bind] at hx
  have hx : wp (b y x >>= fun x' => loopN b ys x') (fun x => wp (k x) Q E) E := hx
  rw [wp_bind] at hx
  cases e : b y x with
  | ok z =>
    rw [e] at hx
    exact wp_bind.mpr hx
  | error e2 =>
    rw [e] at hx
    cases e2 <;> exact hx
theorem loopM_L {b : i → s → M (Fl s r)} {xs : List i} {x : s} {k : Fl s r → M a} (h : wp (loopM b xs x >>= k) Q E) :
    ∃ L : List i → s → Prop, L xs x ∧ (∀ y ys x, L (y :: ys) x → wp (b y x) (fun f => match f with
      | .nx x' => L ys x'
      | .rt z => wp (k (.rt z)) Q E) E) ∧ ∀ x, L [] x → wp (k (.nx x)) Q E := by
  refine ⟨fun ys x => wp (loopM b ys x >>= k) Q E, h, fun y ys x hx => ?_, fun x hx => hx⟩
  have hx : wp (loopM b (y :: ys) x >>= k) Q E := hx
  rw [wp_bind] at hx
  cases e : b y x with
  | ok z =>
    have hx : wp (b y x >>= fun f => match f with
      | .nx x' => loopM b ys x'
      | .rt z => .ok (.rt z)) (fun x => wp (k x) Q E) E := hx
    rw [e] at hx
    cases z with
    | nx z => exact wp_bind.mpr hx
    | rt z => exact hx
  | error e2 =>
    have hx : wp (b y x >>= fun f => match f with
      | .nx x' => loopM b ys x'
      | .rt z => .ok (.rt z)) (fun x => wp (k x) Q E) E := hx
    rw [e] at hx
    cases e2 <;> exact hx
theorem whileN_L {c : s → M Bool} {b : s → M s} {n : Nat} {x : s} {k : s → M a} (h : wp (whileN c b n x >>= k) Q E) :
    ∃ L : Nat → s → Prop, L n x ∧ ∀ m x, L m x → wp (c x) (fun t => if t = true then ∃ m', m' < m ∧ wp (b x) (fun x' => L m' x') E else wp (k x) Q E) E := by
  refine ⟨fun n x => wp (whileN c b n x >>= k) Q E, h, fun m x hx => ?_⟩
  cases m with
  | zero => exact hx.elim
  | succ m =>
    have hx : wp ((c x >>= fun t => if t = true then b x >>= fun x' => whileN c b m x' else .ok x) >>= k) Q E := hx
    rw [wp_bind, wp_bind] at hx
    cases e : c x with
    | error e2 => rw [e] at hx; cases e2 <;> exact hx
    | ok t =>
      rw [e] at hx
      cases t with
      | false => exact hx
      | true =>
        refine ⟨m, Nat.lt_succ_self m, ?_⟩
        have hx : wp (b x >>= fun x' => whileN c b m x') (fun x => wp (k x) Q E) E := hx
        rw [wp_bind] at hx
        cases e : b x with
        | error e2 => rw [e] at hx; cases e2 <;> exact hx
        | ok z =>
          rw [e] at hx
          exact wp_bind.mpr hx
theorem whileM_L {c : s → M Bool} {b : s → M (Fl s r)} {n : Nat} {x : s} {k : Fl s r → M a} (h : wp (whileM c b n x >>= k) Q E) :
    ∃ L : Nat → s → Prop, L n x ∧ ∀ m x, L m x → wp (c x) (fun t => if t = true then ∃ m', m' < m ∧ wp (b x) (fun f => match f with
      | .nx x' => L m' x'
      | .rt z => wp (k (.rt z)) Q E) E else wp (k (.nx x)) Q E) E := by
  refine ⟨fun n x => wp (whileM c b n x >>= k) Q E, h, fun m x hx => ?_⟩
  cases m with
  | zero => exact hx.elim
  | succ m =>
    have hx : wp ((c x >>= fun t => if t = true then b x >>= fun
      | .nx x' => whileM c b m x'
      | .rt z => .ok (.rt z)
    else .ok (.nx x)) >>= k) Q E := hx
    rw [wp_bind, wp_bind] at hx
    cases e : c x with
    | error e2 => rw [e] at hx; cases e2 <;> exact hx
    | ok t =>
      rw [e] at hx
      cases t with
      | false => exact hx
      | true =>
        refine ⟨m, Nat.lt_succ_self m, ?_⟩
        have hx : wp (b x >>= fun
          | .nx x' => whileM c b m x'
          | .rt z => .ok (.rt z)) (fun x => wp (k x) Q E) E := hx
        rw [wp_bind] at hx
        cases e : b x with
        | error e2 => rw [e] at hx; cases e2 <;> exact hx
        | ok z =>
          rw [e] at hx
          cases z with
          | nx z => exact wp_bind.mpr hx
          | rt z => exact hx
/-- a comprehension: what it has made so far, then the items left; no exception leaves it -/
def compX (b : i → s → M (Option c × s)) : List i → List c → s → M (List c × s)
  | [], acc, x => .ok (acc, x)
  | y :: ys, acc, x => nox (b y x) >>= fun p => compX b ys (match p.1 with
    | some z => acc ++ [z]
    | none => acc) p.2
/-- the list is short enough -/
def compS (b : i → s → M (Option c × s)) (xs : List i) (x : s) : M (List c × s) := chk (xs.length < 16777216) >>= fun _ => compX b xs [] x
theorem compX_L {b : i → s → M (Option c × s)} {k : List c × s → M a} : ∀ {xs : List i} {acc : List c} {x : s}, wp (compX b xs acc x >>= k) Q E →
    ∃ L : List i → List c → s → Prop, L xs acc x ∧ (∀ y ys acc x, L (y :: ys) acc x → wp (b y x) (fun p => L ys (match p.1 with
      | some z => acc ++ [z]
      | none => acc) p.2) (fun _ => False)) ∧ ∀ acc x, L [] acc x → wp (k (acc, x)) Q E := by
  intro xs acc x h
  refine ⟨fun ys acc x => wp (compX b ys acc x >>= k) Q E, h, fun y ys acc x hx => ?_, fun acc x hx => hx⟩
  have hx : wp ((nox (b y x) >>= fun p => compX b ys (match p.1 with
    | some z => acc ++ [z]
    | none => acc) p.2) >>= k) Q E := hx
  rw [wp_bind] at hx
  obtain ⟨p, e, hx⟩ := wp_nox hx
  rw [e]
  exact wp_bind.mpr hx
theorem compS_L {b : i → s → M (Option c × s)} {k : List c × s → M a} {xs : List i} {x : s} (h : wp (compS b xs x >>= k) Q E) : xs.length < 16777216 ∧
    ∃ L : List i → List c → s → Prop, L xs [] x ∧ (∀ y ys acc x, L (y :: ys) acc x → wp (b y x) (fun p => L ys (match p.1 with
      | some z => acc ++ [z]
      | none => acc) p.2) (fun _ => False)) ∧ ∀ acc x, L [] acc x → wp (k (acc, x)) Q E := by
  unfold compS at h
  rw [wp_bind] at h
  obtain ⟨h1, h2⟩ := wp_chk h
  exact ⟨h1, compX_L (wp_bind.mpr h2)⟩
end
theorem drop_at {a : Type} {xs : List a} {i : Nat} {x : a} (h : xs[i]? = some x) : xs.drop i = x :: xs.drop (i + 1) := by
  obtain ⟨h1, h2⟩ := List.getElem?_eq_some_iff.mp h
  rw [List.drop_eq_getElem_cons h1, h2]
theorem drop_end {a : Type} {xs : List a} {vs : List V} (h : vs.length = xs.length) : xs.drop vs.length = [] := by
  rw [h, List.drop_length]

/-! ### a def as it stands -/
structure Df (K : PySem.W.Frag) (mg : Str → Option Value) (x qual : Str) (st : Stmt) (ps : List Str) : Prop where
  ex : ∃ f fd, Fun K x qual st f fd ∧ mg x = some (.ref f) ∧ Binds K fd ps []
structure Ca (P : Program) (w : World) (K : PySem.W.Frag) (mg : Str → Option Value) (base : Heap) (x : Str) (k : Nat) (ps : List Str) (sp : Sp) : Prop where
  ex : ∃ f fd, FnOk P w K mg base (L2.CX P w) k f fd ps sp ∧ mg x = some (.ref f) ∧ PySem.W.keepIn K (.ref f) = true ∧ Binds K fd ps []
/-- an exception class of the program -/
structure Xc (K : PySem.W.Frag) (mg : Str → Option Value) (x : Str) (C : Addr) : Prop where
  g : mg x = some (.ref C)
  x : PySem.W.excIn K C [.type "ValueError", .type "Exception", .type "BaseException", .type "object"] "ValueError.__new__" = true
  k : PySem.W.keepIn K (.ref C) = true
  b : PySem.W.subIn K (.ref C) (.type "BaseException") = some true
  t : PySem.W.typeIn K (.ref C) = some (.type "type")
section
variable {P : Program} {w : World} {K : PySem.W.Frag} {mg : Str → Option Value} {base : Heap}
theorem Ca.mk' {x qual : Str} {st : Stmt} {N ps : List Str} {k : Nat} {sp : Sp} (D : Df K mg x qual st ps) (S : FnScope N ps (defScope st)) (len : ∀ vs H Q E, sp vs H Q E → vs.length = ps.length)
    (hbody : ∀ (qual' : Str) (f : Addr) (cdv : Value) (A : Around) (outer : List Env) (s : Shared) (H : Hp) (vs : List V) (Q : VK) (E : XK), Room k (A.deeper (envOfC qual (defScope st) s.heap.objs.size f cdv)) → sp vs H Q E →
      ∃ t, PSs (cxOf (L2.CX P w) P w K mg base N qual (defScope st) f cdv A outer s H E) (defBody st) t ∧ t { nx := fun _ H' => Q .non H', rt := Q } (start N vs) H) : Ca P w K mg base x (k + 1) ps sp := by
  obtain ⟨f, fd, F, m, b⟩ := D.ex
  exact ⟨f, fd, F.okX S len fun cdv A outer s H vs Q E hr h => hbody qual f cdv A outer s H vs Q E hr h, m, F.kp, b⟩
end
section
variable {X : Cx}
/-- len of a list or tuple -/
def rLenT : List V → Hp → VK → Prop := fun vs H Q => ∃ (l : Addr) (ws : List V) (n : Nat), vs = [.ref l] ∧ (H l = some (.lst ws) ∨ H l = some (.tup ws)) ∧ ws.length = n ∧ Q (.int n) H
theorem call_lenT : CallR X (.builtin "len") rLenT := by
  intro pins s σ H vs us Q I r h
  obtain ⟨l, ws, n, e, hl, rfl, k⟩ := h
  refine call_len_seq pins s σ H vs us Q I r ⟨l, ws, e, ?_, k⟩
  rcases hl with hl | hl
  · exact .inl (SqL.of hl)
  · exact .inr (SqT.of hl)
end

section
variable {Z : Ent} {F F' H H' : Hp} {cs : List (Addr × HO)} {p a : Addr} {o o' : HO}
theorem Ow.putE (O : Ow Z F cs H) (h : H p = none) (o : HO) : ∃ F', Ow Z F' cs (upd H p o) ∧ Same F F' ∧ F' p = some o := ⟨_, O.put h, O.putS h, upd_same⟩
theorem Ow.was (O : Ow Z F cs H) (h : H p = none) : Z.H p = none := by
  cases q : Z.H p with
  | none => rfl
  | some u => exact absurd h (O.g.t p (by rw [q]; simp))
theorem Ow.frzE (O : Ow Z F cs H) (i : Nat) (e : cs[i]? = some (a, o)) (hz : Z.H a = none) : ∃ F', Ow Z F' (cs.eraseIdx i) H ∧ Same F F' ∧ F' a = some o := ⟨_, O.frz i e hz, O.frzS i e, upd_same⟩
/-- a cell that a call made -/
theorem Ow.got (O : Ow Z F cs H) (O' : Ow Z F' cs' H') (hk : cs'.map (·.1) = cs.map (·.1)) (hn : H p = none) (hf : F' p = none) (h : H' p = some o) (ht : noTup o = true := by rfl) : Ow Z F' ((p, o) :: cs') H' :=
  O'.add O (fun c hc => by rw [← hk]; exact List.mem_map.mpr ⟨c, hc, rfl⟩) hn hf h ht
end
theorem rangeL_get0 {n : Int} {i : Nat} (h : i < n.toNat) : (rangeL 0 n).drop i = (0 + (i : Int)) :: (rangeL 0 n).drop (i + 1) := rangeL_get (by simpa using h)
theorem rangeL_end0 {n : Int} : (rangeL 0 n).drop n.toNat = [] := by
  have := rangeL_end (lo := 0) (hi := n)
  simpa using this
theorem iteD {c A B : Prop} [Decidable c] (h1 : c → A) (h2 : ¬ c → B) : if decide c = true then A else B := by
  by_cases h : c
  · rw [decide_eq_true h, if_pos rfl]; exact h1 h
  · rw [decide_eq_false h, if_neg Bool.false_ne_true]; exact h2 h
theorem iteN {c A B : Prop} [Decidable c] (h1 : c → B) (h2 : ¬ c → A) : if (!decide c) = true then A else B := by
  by_cases h : c
  · rw [decide_eq_true h]; exact h1 h
  · rw [decide_eq_false h]; exact h2 h
theorem iteB {b : Bool} {A B : Prop} (h1 : b = true → A) (h2 : ¬ b = true → B) : if b = true then A else B := by
  cases b with
  | true => exact h1 rfl
  | false => exact h2 Bool.false_ne_true
theorem iteBN {b : Bool} {A B : Prop} (h1 : b = true → B) (h2 : ¬ b = true → A) : if (!b) = true then A else B := by
  cases b with
  | true => exact h1 rfl
  | false => exact h2 Bool.false_ne_true
theorem iteNT {A B : Prop} (h : B) : if (!true) = true then A else B := h
theorem iteNF {A B : Prop} (h : A) : if (!false) = true then A else B := h
theorem wp_if {a : Type} {Q : a → Prop} {E : String → Prop} {c : Prop} [Decidable c] {x y : M a} (h : wp (if c then x else y) Q E) (hc : c) : wp x Q E := by
  rw [if_pos hc] at h
  exact h
theorem wp_el {a : Type} {Q : a → Prop} {E : String → Prop} {c : Prop} [Decidable c] {x y : M a} (h : wp (if c then x else y) Q E) (hc : ¬ c) : wp y Q E := by
  rw [if_neg hc] at h
  exact h

theorem hu128_of {A : Around} {k : Nat} (hr : Room k A) : A.units + 128 < cLine := by have := hr.un; omega
def cutL {a : Type} (xs : List a) (lo hi : Option Int) : List a := (xs.drop (HT.sIx xs.length 0 lo)).take (HT.sIx xs.length xs.length hi - HT.sIx xs.length 0 lo)
theorem RL.cutL {a : Type} [Py a] {H : Hp} {vs : List V} {xs : List a} (h : RL H vs xs) (lo hi : Option Int) : RL H (cutV vs lo hi) (PG.cutL xs lo hi) := h.cut lo hi
theorem RL.last {a : Type} [Py a] {H : Hp} {vs : List V} {xs : List a} {y : a} (h : RL H vs xs) (e : xs[xs.length - 1]? = some y) : ∃ w, vs[vs.length - 1]? = some w ∧ R H w y := by
  obtain ⟨w, e1, h1⟩ := h.get e
  exact ⟨w, by rw [h.len]; exact e1, h1⟩

theorem okR.rg1 {n : Int} (h : okR n) : RgOk 0 n := by
  obtain ⟨a, b⟩ := h
  exact ⟨by omega, by omega, by omega, by omega, by omega⟩
theorem rgV_eq (a b : Int) : rgV a b = (rangeL a b).map V.int := by
  unfold rgV rangeL
  rw [List.map_map]
  rfl
theorem RL.rg {H : Hp} {a b : Int} : RL H (rgV a b) (rangeL a b) := by
  rw [rgV_eq]
  exact RL.of_ints

theorem comp_len {b : Type} {w vs : List V} {xs : List b} {i : Nat} {x : V} (la : w.length ≤ i) (hi : vs[i]? = some x) (hl : vs.length = xs.length) (c : xs.length < 16777216) : w.length < sizeLine := by
  have := (List.getElem?_eq_some_iff.mp hi).1
  exact lt_line (by omega)
theorem rangeL_length (lo hi : Int) : (rangeL lo hi).length = (hi - lo).toNat := by
  unfold rangeL
  simp
theorem comp_lenR {w : List V} {lo hi : Int} {i n : Nat} (la : w.length ≤ i) (h : i < n) (e : (hi - lo).toNat = n) (c : (rangeL lo hi).length < 16777216) : w.length < sizeLine := by
  rw [rangeL_length] at c
  exact lt_line (by omega)
theorem tYes_ {σ : L2.St} {H : Hp} {Q : Bool → Hp → Prop} (h : Q true H) : tYes σ H Q := h

/-! lists of own lists of ints -/
abbrev LC := Addr × List Int
def lcell (c : LC) : Addr × HO := (c.1, .lst (c.2.map V.int))
theorem Ow.perm {Z : Ent} {F H : Hp} {cs cs' : List (Addr × HO)} (O : Ow Z F cs H) (h : cs.Perm cs') : Ow Z F cs' H where
  g := O.g
  cf := fun c hc => O.cf c (h.mem_iff.mpr hc)
  ch := fun c hc => O.ch c (h.mem_iff.mpr hc)
  nd := (h.map _).nodup_iff.mp O.nd
  ca := fun c hc => O.ca c (h.mem_iff.mpr hc)
  nt := fun c hc => O.nt c (h.mem_iff.mpr hc)
theorem Ow.sub {Z : Ent} {F H : Hp} {cs cs' : List (Addr × HO)} (O : Ow Z F cs H) (h : cs'.Sublist cs) : Ow Z F cs' H where
  g := O.g
  cf := fun c hc => O.cf c (h.subset hc)
  ch := fun c hc => O.ch c (h.subset hc)
  nd := O.nd.sublist (h.map _)
  ca := fun c hc => O.ca c (h.subset hc)
  nt := fun c hc => O.nt c (h.subset hc)
/-- a new list of new lists -/
structure OwnLL (H F' H' : Hp) (p : Addr) (ps : List LC) : Prop where
  pn : H p = none
  pf : F' p = none
  ph : H' p = some (.lst (ps.map fun c => V.ref c.1))
  qn : ∀ c ∈ ps, H c.1 = none
  qf : ∀ c ∈ ps, F' c.1 = none
  qh : ∀ c ∈ ps, H' c.1 = some (.lst (c.2.map V.int))
  nd : (p :: ps.map (·.1)).Nodup
theorem OwnLL.frz {F H F' H' : Hp} {p : Addr} {ps : List LC} {as : List Addr} (G : Gr as F H F' H') (L : OwnLL H F' H' p ps) :
    ∃ F2, Gr as F H F2 H' ∧ F2 p = none ∧ RL F2 (ps.map fun c => V.ref c.1) (ps.map (·.2)) := by
  refine ⟨fun b => if b ∈ ps.map (·.1) then H' b else F' b, ⟨fun b o e => ?_, fun b o e => ?_, G.k, G.t, fun b e => ?_, G.u⟩, ?_, ?_⟩
  · have h1 := G.f b o e
    by_cases hb : b ∈ ps.map (·.1)
    · obtain ⟨c, hc, rfl⟩ := List.mem_map.mp hb
      rw [L.qf c hc] at h1
      cases h1
    · show (if b ∈ ps.map (·.1) then H' b else F' b) = some o
      rw [if_neg hb]
      exact h1
  · have e : (if b ∈ ps.map (·.1) then H' b else F' b) = some o := e
    by_cases hb : b ∈ ps.map (·.1)
    · rw [if_pos hb] at e
      exact e
    · rw [if_neg hb] at e
      exact G.s b o e
  · show (if b ∈ ps.map (·.1) then H' b else F' b) = F b ∨ _
    have hb : b ∉ ps.map (·.1) := fun hb => by
      obtain ⟨c, hc, rfl⟩ := List.mem_map.mp hb
      exact e (L.qn c hc)
    rw [if_neg hb]
    exact G.n b e
  · show (if p ∈ ps.map (·.1) then H' p else F' p) = none
    rw [if_neg (List.nodup_cons.mp L.nd).1]
    exact L.pf
  · have all : ∀ l : List LC, (∀ c ∈ l, c ∈ ps) → RL (fun b => if b ∈ ps.map (·.1) then H' b else F' b) (l.map fun c => V.ref c.1) (l.map (·.2)) := by
      intro l
      induction l with
      | nil => intro _; exact RL.nil
      | cons c l ih =>
        intro h
        have hc := h c List.mem_cons_self
        refine RL.cons (R.lst (vs := c.2.map V.int) ?_ RL.of_ints) (ih fun d hd => h d (List.mem_cons_of_mem _ hd))
        show (if c.1 ∈ ps.map (·.1) then H' c.1 else F' c.1) = _
        rw [if_pos (List.mem_map.mpr ⟨c, hc, rfl⟩)]
        exact L.qh c hc
    exact all ps fun _ h => h
theorem FnOk.impC {P : Program} {w : World} {K : PySem.W.Frag} {mg : Str → Option Value} {base : Heap} {x : Str} {k : Nat} {ps : List Str} {sp sp' : Sp} (F : Ca P w K mg base x k ps sp) (h : ∀ vs H Q E, sp' vs H Q E → sp vs H Q E) : Ca P w K mg base x k ps sp' := by
  obtain ⟨f, fd, G, m, kp, b⟩ := F.ex
  exact ⟨f, fd, G.imp h, m, kp, b⟩
theorem wp_mono {a : Type} {Q Q' : a → Prop} {E : String → Prop} {m : M a} (h : wp m Q E) (f : ∀ r, Q r → Q' r) : wp m Q' E := wp_tail h (fun r _ q => f r q) fun _ e => e
/-- a scalar call that reads a cell: the cell is as it was, and nothing of the call is kept -/
theorem Ow.borrow {Z : Ent} {F F1 F' H H' : Hp} {cs : List (Addr × HO)} (O : Ow Z F cs H) (s1 : Same F F1) (g : Gr [] F1 H F' H') : Ow Z F cs H' where
  g := ⟨O.g.f, (s1.trans g.f).trans g.s, fun b o hb e => g.k b o (fun h => nomatch h) (O.g.k b o hb e), fun b e => g.t b (O.g.t b e), O.g.n, fun b xs e => by
    rcases g.u b xs e with z | z
    · refine .inl ?_
      cases q : Z.H b with
      | none => rfl
      | some u => exact absurd z (O.g.t b (by rw [q]; simp))
    · exact O.g.u b xs z⟩
  cf := O.cf
  ch := fun c hc => g.k _ _ (fun h => nomatch h) (O.ch c hc)
  nd := O.nd
  ca := O.ca
  nt := O.nt
theorem Ow.lend {Z : Ent} {F H : Hp} {cs : List (Addr × HO)} {a : Addr} {o : HO} (O : Ow Z F cs H) (i : Nat) (e : cs[i]? = some (a, o)) : ∃ F1, Same F F1 ∧ Pre F1 [] H ∧ F1 a = some o := by
  have m := List.mem_of_getElem? e
  refine ⟨upd F a o, Same.new (O.cf _ m), ⟨fun b u q => ?_, (fun _ h => nomatch h), (fun _ h => nomatch h), List.nodup_nil, fun _ h => nomatch h⟩, upd_same⟩
  by_cases hb : b = a
  · subst hb; rw [upd_same] at q; rw [← q]; exact O.ch _ m
  · rw [upd_ne hb] at q; exact O.s b u q

abbrev lrefs (ps : List LC) : List V := ps.map fun (c : LC) => V.ref c.1

def ret {a : Type} (x : a) : M a := .ok x
theorem wp_ret {a b : Type} {Q : a → Prop} {E : String → Prop} {x : b} {k : b → M a} (h : wp (ret x >>= k) Q E) : ∃ y, y = x ∧ wp (k y) Q E := ⟨x, rfl, h⟩

/-- tuples that stand may be read -/
theorem Ow.tups {Z : Ent} {F H : Hp} {cs : List (Addr × HO)} (O : Ow Z F cs H) (bs : List Addr) (h : ∀ b ∈ bs, ∃ xs, H b = some (.tup xs)) : ∃ F', Ow Z F' cs H ∧ Same F F' ∧ ∀ b ∈ bs, F' b = H b := by
  refine ⟨fun b => if b ∈ bs then H b else F b, ⟨⟨fun b o e => ?_, fun b o e => ?_, O.g.k, O.g.t, fun b e => ?_, O.g.u⟩, fun c hc => ?_, O.ch, O.nd, O.ca, O.nt⟩, fun b o e => ?_, fun b hb => if_pos hb⟩
  · have h1 := O.g.f b o e
    show (if b ∈ bs then H b else F b) = some o
    by_cases hb : b ∈ bs
    · rw [if_pos hb]; exact O.s b o h1
    · rw [if_neg hb]; exact h1
  · have e : (if b ∈ bs then H b else F b) = some o := e
    by_cases hb : b ∈ bs
    · rw [if_pos hb] at e; exact e
    · rw [if_neg hb] at e; exact O.s b o e
  · show (if b ∈ bs then H b else F b) = Z.F b ∨ _
    by_cases hb : b ∈ bs
    · obtain ⟨xs, hx⟩ := h b hb
      rcases O.g.u b xs hx with z | z
      · exact absurd z e
      · exact .inr ⟨xs, z⟩
    · rw [if_neg hb]; exact O.g.n b e
  · show (if c.1 ∈ bs then H c.1 else F c.1) = none
    by_cases hb : c.1 ∈ bs
    · obtain ⟨xs, hx⟩ := h c.1 hb
      have hn := O.nt c hc
      rw [O.ch c hc] at hx
      rw [Option.some.inj hx] at hn
      cases hn
    · rw [if_neg hb]; exact O.cf c hc
  · show (if b ∈ bs then H b else F b) = some o
    by_cases hb : b ∈ bs
    · rw [if_pos hb]; exact O.s b o e
    · rw [if_neg hb]; exact e
end PG

set_option Elab.async false
set_option linter.all false
set_option maxRecDepth 100000
set_option maxHeartbeats 4000000
namespace PG
open PySem PySem.Spec PyProof.Rows L2
open PySem.W (T3 T4 Datum DatumOrd Holds HoldAll EachIs)
variable {K0 : PySem.W.Frag} [KF K0]

theorem u1_of {n : Nat} (h : n + 64 < cLine) : n + 1 < cLine := Nat.lt_of_le_of_lt (Nat.add_le_add_left (by decide) _) h
/-! ### dicts: what stands for a key -/
class DK (κ : Type) (K' : outParam Type) where
  kk : κ → K'
  inj : ∀ a b, kk a = kk b → a = b
instance : DK Int Key := ⟨Sum.inl, fun _ _ h => Sum.inl.inj h⟩
instance : DK Str Key := ⟨Sum.inr, fun _ _ h => Sum.inr.inj h⟩
instance : DK (Int × Int) (List Key) := ⟨fun p => [.inl p.1, .inl p.2], fun a b h => by
  injection h with h1 h2
  injection h2 with h2 _
  exact Prod.ext (Sum.inl.inj h1) (Sum.inl.inj h2)⟩
section
variable {κ K' β : Type} [DK κ K'] [Py β]
inductive RD (F : Hp) : List (K' × V) → List (κ × β) → Prop
  | nil : RD F [] []
  | cons {k : κ} {v : V} {y : β} {kvs : List (K' × V)} {xs : List (κ × β)} : R F v y → RD F kvs xs → RD F ((DK.kk k, v) :: kvs) ((k, y) :: xs)
variable {F F' : Hp}
theorem RD.mono {kvs : List (K' × V)} {xs : List (κ × β)} (h : RD F kvs xs) (s : Same F F') : RD F' kvs xs := by
  induction h with
  | nil => exact .nil
  | cons h _ ih => exact .cons (h.mono s) ih
theorem RD.len {kvs : List (K' × V)} {xs : List (κ × β)} (h : RD F kvs xs) : kvs.length = xs.length := by
  induction h with
  | nil => rfl
  | cons h _ ih => rw [List.length_cons, List.length_cons, ih]
theorem RD.keys {kvs : List (K' × V)} {xs : List (κ × β)} (h : RD F kvs xs) : kvs.map (·.1) = (xs.map (·.1)).map DK.kk := by
  induction h with
  | nil => rfl
  | cons h _ ih => rw [List.map_cons, List.map_cons, List.map_cons, ih]
end
section
variable {κ K' β : Type} [DK κ K'] [DecidableEq κ] [DecidableEq K'] [Py β] {F F' : Hp}
def dGet (xs : List (κ × β)) (k : κ) : Option β := (xs.find? fun p => decide (p.1 = k)).map (·.2)
def dPut (xs : List (κ × β)) (k : κ) (y : β) : List (κ × β) :=
  if (xs.any fun p => decide (p.1 = k)) = true then xs.map (fun p => if p.1 = k then (p.1, y) else p) else xs ++ [(k, y)]
def dHas (xs : List (κ × β)) (k : κ) : Bool := (dGet xs k).isSome
theorem kk_dec {a b : κ} : decide ((DK.kk a : K') = DK.kk b) = decide (a = b) := by
  by_cases h : a = b
  · subst h; simp
  · rw [decide_eq_false h, decide_eq_false fun z => h (DK.inj a b z)]
theorem dGet_pos {p : κ × β} {r : List (κ × β)} {k : κ} (e : p.1 = k) : dGet (p :: r) k = some p.2 := by simp [dGet, List.find?_cons, e]
theorem dGet_neg {p : κ × β} {r : List (κ × β)} {k : κ} (e : ¬ p.1 = k) : dGet (p :: r) k = dGet r k := by simp [dGet, List.find?_cons, e]
theorem RD.get {kvs : List (K' × V)} {xs : List (κ × β)} (h : RD F kvs xs) (k : κ) :
    (dGet xs k = none ∧ valV kvs (DK.kk k) = none) ∨ ∃ y v, dGet xs k = some y ∧ valV kvs (DK.kk k) = some v ∧ R F v y := by
  induction h with
  | nil => exact .inl ⟨rfl, rfl⟩
  | @cons j v y kvs xs h hs ih =>
    by_cases e : j = k
    · exact .inr ⟨y, v, dGet_pos e, valV_pos (by rw [e]), h⟩
    · rw [dGet_neg (p := (j, y)) e, valV_neg (fun z => e (DK.inj j k z))]
      exact ih
theorem RD.some {kvs : List (K' × V)} {xs : List (κ × β)} (h : RD F kvs xs) {k : κ} {y : β} (e : dGet xs k = some y) : ∃ v, valV kvs (DK.kk k) = some v ∧ R F v y := by
  rcases h.get k with ⟨a, _⟩ | ⟨y', v, a, b, c⟩
  · rw [e] at a; cases a
  · rw [e] at a; cases a; exact ⟨v, b, c⟩
theorem RD.is {kvs : List (K' × V)} {xs : List (κ × β)} (h : RD F kvs xs) (k : κ) : (valV kvs (DK.kk k)).isSome = dHas xs k := by
  unfold dHas
  rcases h.get k with ⟨a, b⟩ | ⟨y', v, a, b, c⟩
  · rw [a, b]; rfl
  · rw [a, b]; rfl
theorem RD.map {kvs : List (K' × V)} {xs : List (κ × β)} (h : RD F kvs xs) (k : κ) {v : V} {y : β} (hv : R F v y) :
    RD F (kvs.map fun kv => if kv.1 = DK.kk k then (kv.1, v) else kv) (xs.map fun p => if p.1 = k then (p.1, y) else p) := by
  induction h with
  | nil => exact .nil
  | @cons j u z kvs xs h hs ih =>
    rw [List.map_cons, List.map_cons]
    by_cases e : j = k
    · rw [if_pos e, if_pos (show (DK.kk j, u).1 = DK.kk k by rw [e])]
      exact .cons hv ih
    · rw [if_neg e, if_neg (show ¬ (DK.kk j, u).1 = DK.kk k from fun z => e (DK.inj j k z))]
      exact .cons h ih
theorem RD.snoc {kvs : List (K' × V)} {xs : List (κ × β)} (h : RD F kvs xs) (k : κ) {v : V} {y : β} (hv : R F v y) : RD F (kvs ++ [(DK.kk k, v)]) (xs ++ [(k, y)]) := by
  induction h with
  | nil => exact .cons hv .nil
  | cons h _ ih => exact .cons h ih
theorem RD.any {kvs : List (K' × V)} {xs : List (κ × β)} (h : RD F kvs xs) (k : κ) : (kvs.any fun kv => decide (kv.1 = DK.kk k)) = (xs.any fun p => decide (p.1 = k)) := by
  induction h with
  | nil => rfl
  | @cons j u z kvs xs h hs ih => rw [List.any_cons, List.any_cons, ih, kk_dec]
theorem RD.put {kvs : List (K' × V)} {xs : List (κ × β)} (h : RD F kvs xs) (k : κ) {v : V} {y : β} (hv : R F v y) : RD F (putK kvs (DK.kk k) v) (dPut xs k y) := by
  unfold putK dPut
  rw [h.any k]
  by_cases e : (xs.any fun p => decide (p.1 = k)) = true
  · rw [if_pos e, if_pos e]; exact h.map k hv
  · rw [if_neg e, if_neg e]; exact h.snoc k hv
def putD (xs : List (κ × β)) (k : κ) (y : β) : M (List (κ × β)) := if xs.length < 16777216 then .ok (dPut xs k y) else bad
theorem wp_putD {a : Type} {Q : a → Prop} {E : String → Prop} {xs : List (κ × β)} {j : κ} {y : β} {k : List (κ × β) → M a} (h : wp (putD xs j y >>= k) Q E) : xs.length < sizeLine ∧ wp (k (dPut xs j y)) Q E := by
  unfold putD at h
  by_cases hl : xs.length < 16777216
  · rw [if_pos hl] at h
    exact ⟨lt_line hl, h⟩
  · rw [if_neg hl] at h
    exact h.elim
end
/-- a dict that is read alone -/
class DO (K' : Type) where
  ho : List (K' × V) → HO
instance : DO Key := ⟨.dK⟩
instance : DO (List Key) := ⟨.dT⟩
section
variable {κ K' β : Type} [DK κ K'] [Py β] [DO K'] {F F' H : Hp} {v : V} {a b : Addr}
def RDv (F : Hp) (v : V) (xs : List (κ × β)) : Prop := ∃ (a : Addr) (kvs : List (K' × V)), v = .ref a ∧ Rd F a (DO.ho kvs) ∧ RD F kvs xs
theorem rd_mono {u : HO} (s : Same F F') (h : Rd F a u) : Rd F' a u := h.elim (fun e => .inl (s _ _ e)) fun ⟨o, e⟩ => .inr ⟨o, s _ _ e⟩
theorem RDv.mono {xs : List (κ × β)} (h : RDv F v xs) (s : Same F F') : RDv F' v xs := by
  obtain ⟨a, kvs, e, h1, h2⟩ := h
  exact ⟨a, kvs, e, rd_mono s h1, h2.mono s⟩
theorem RDv.mk {xs : List (κ × β)} {kvs : List (K' × V)} (h : Rd F a (DO.ho kvs)) (hr : RD F kvs xs) : RDv F (.ref a) xs := ⟨a, kvs, rfl, h, hr⟩
end
section
variable {β : Type} [Py β] {F H : Hp} {a b : Addr}
theorem dgt {kvs : List (List Key × V)} {k : List Key} (e : Rd H a (.dT kvs)) (eb : H b = some (.tup (k.map kV))) : DGet H a (.ref b) (valV kvs k) := .inr ⟨kvs, k, b, e, rfl, eb, rfl⟩
theorem dgk {kvs : List (Key × V)} {k : Key} (e : Rd H a (.dK kvs)) : DGet H a (kV k) (valV kvs k) := .inl ⟨kvs, k, e, rfl, rfl⟩
theorem dget_T {kvs : List (List Key × V)} {i j : Int} {v : V} (e : Rd H a (.dT kvs)) (eb : H b = some (.tup [.int i, .int j])) (hv : valV kvs (DK.kk (i, j)) = some v) : DGet H a (.ref b) (some v) := by
  rw [← hv]
  exact dgt (k := [.inl i, .inl j]) e eb
theorem dget_I {kvs : List (Key × V)} {i : Int} {v : V} (e : Rd H a (.dK kvs)) (hv : valV kvs (DK.kk i) = some v) : DGet H a (.int i) (some v) := by
  rw [← hv]
  exact dgk (k := .inl i) e
theorem dget_S {kvs : List (Key × V)} {i : Str} {v : V} (e : Rd H a (.dK kvs)) (hv : valV kvs (DK.kk i) = some v) : DGet H a (.str i) (some v) := by
  rw [← hv]
  exact dgk (k := .inr i) e
theorem din_T {kvs : List (List Key × V)} {i j : Int} {xs : List ((Int × Int) × β)} (e : Rd H a (.dT kvs)) (eb : H b = some (.tup [.int i, .int j])) (hr : RD F kvs xs) : ∃ o, DGet H a (.ref b) o ∧ o.isSome = dHas xs (i, j) :=
  ⟨_, dgt (k := [.inl i, .inl j]) e eb, hr.is (i, j)⟩
theorem din_I {kvs : List (Key × V)} {i : Int} {xs : List (Int × β)} (e : Rd H a (.dK kvs)) (hr : RD F kvs xs) : ∃ o, DGet H a (.int i) o ∧ o.isSome = dHas xs i :=
  ⟨_, dgk (k := .inl i) e, hr.is i⟩
theorem din_S {kvs : List (Key × V)} {i : Str} {xs : List (Str × β)} (e : Rd H a (.dK kvs)) (hr : RD F kvs xs) : ∃ o, DGet H a (.str i) o ∧ o.isSome = dHas xs i :=
  ⟨_, dgk (k := .inr i) e, hr.is i⟩
theorem dput_T {kvs : List (List Key × V)} {i j : Int} {v : V} (e : H a = some (.dT kvs)) (eb : H b = some (.tup [.int i, .int j])) (hl : kvs.length < sizeLine) : DPut H a (.ref b) v (upd H a (.dT (putK kvs (DK.kk (i, j)) v))) := DPut.t (k := [.inl i, .inl j]) e eb hl
theorem dput_I {kvs : List (Key × V)} {i : Int} {v : V} (e : H a = some (.dK kvs)) (hl : kvs.length < sizeLine) : DPut H a (.int i) v (upd H a (.dK (putK kvs (DK.kk i) v))) := DPut.k (k := .inl i) e hl
theorem dput_S {kvs : List (Key × V)} {i : Str} {v : V} (e : H a = some (.dK kvs)) (hl : kvs.length < sizeLine) : DPut H a (.str i) v (upd H a (.dK (putK kvs (DK.kk i) v))) := DPut.k (k := .inr i) e hl
end
/-! sorted(d), the keys pairs of whole numbers -/
theorem keys_tups {H : Hp} {kvs : List (List Key × V)} {bs : List Addr} (h : IsKeys H kvs bs) : ∀ b ∈ bs, ∃ xs, H b = some (.tup xs) := by
  unfold IsKeys at h
  induction h with
  | nil => intro b hb; simp at hb
  | cons h t ih =>
    intro c hc
    rcases List.mem_cons.mp hc with rfl | hc
    · exact ⟨_, h⟩
    · exact ih c hc
theorem keys_rl {H : Hp} {kvs : List (List Key × V)} {bs : List Addr} (h : IsKeys H kvs bs) : ∀ {ks : List (Int × Int)}, kvs.map (·.1) = ks.map DK.kk → RL H (bs.map V.ref) ks := by
  unfold IsKeys at h
  induction h with
  | nil =>
    intro ks e
    cases ks with
    | nil => exact RL.nil
    | cons k ks => simp at e
  | cons h t ih =>
    intro ks e
    cases ks with
    | nil => simp at e
    | cons k ks =>
      rw [List.map_cons, List.map_cons] at e
      injection e with e1 e2
      rw [e1] at h
      exact RL.cons (R.t2 h R.int R.int) (ih e2)
theorem keys_in {H F : Hp} {kvs : List (List Key × V)} {bs : List Addr} {ks : List (Int × Int)} (h : IsKeys H kvs bs) (hf : ∀ b ∈ bs, F b = H b) (e : kvs.map (·.1) = ks.map DK.kk) : RL F (bs.map V.ref) ks := by
  refine keys_rl ?_ e
  unfold IsKeys at h ⊢
  clear e
  induction h with
  | nil => exact .nil
  | @cons x b xs bs h t ih =>
    refine .cons ?_ (ih fun c hc => hf c (List.mem_cons_of_mem _ hc))
    rw [hf b List.mem_cons_self]
    exact h
section
variable {X : Cx}
theorem cr_sortedDT (hcalm : X.calm = true) (hu : X.A.units + 128 < cLine) : CallR X (.builtin "sorted") (fun xs H Q => ∃ (d : Addr) (kvs : List (List Key × V)) (ks : List (Int × Int)), xs = [.ref d] ∧ Rd H d (.dT kvs) ∧ kvs.map (·.1) = ks.map DK.kk ∧
    ∀ (bs : List Addr) (p : Addr), IsKeys H kvs bs → H p = none → Q (.ref p) (upd H p (.lst (sortV (bs.map V.ref) ks)))) := by
  haveI : KF X.K := ⟨⟩
  intro pins s σ H xs us Q I r q
  obtain ⟨d, kvs, ks', ex, hd, hks, q⟩ := q
  subst ex
  obtain ⟨u, eu, rx⟩ := vals1 r
  subst eu
  cases rx
  obtain ⟨z, hs, ks, pr, o, es, ep, ho, hx, hdt, he, hn⟩ := (show ObjOk X.prog X.w H s.heap d (.dT kvs) from hd.ok I.hok)
  have l1 : es.size = ks.length := size_of_entries he
  have l2 : kvs.length = ks.length := Paired.length pr
  refine Calls.call_function_entry PyProof.Rows.kind_sorted PyProof.Rows.plain_sorted PyProof.Rows.entry_sorted (PyProof.Rows.args_sorted1 _) ?_
  unfold Builtin.«sorted»
  refine wpAny_bind (m := checkCount "sorted" 1 1 _) (wpAny_pure ?_)
  refine wpAny_bind (PySem.W.kdu_collect (A := X.A.in1) (kdl_raw hs hx hdt) (I.ok.hd hcalm) ho (by omega) fun h' tk acc kp it => ?_)
  have ea : acc.toList = ks.map fun x => Value.ref x.2.1 := by
    have hl : acc.toList.length = ks.length := by rw [Array.length_toList, it.1]; exact l1
    apply List.ext_getElem?
    intro j
    rw [List.getElem?_map]
    cases hj : acc.toList[j]? with
    | none =>
      have h1 := List.getElem?_eq_none_iff.mp hj
      rw [List.getElem?_eq_none (by omega)]
      all_goals rfl
    | some v =>
      obtain ⟨en, hen, hv⟩ := it.2 j v (by rw [← Array.getElem?_toList]; exact hj)
      have qe := entry_at he j
      rw [hen] at qe
      cases hb : ks[j]? with
      | none =>
        rw [hb] at qe
        exact nomatch (show some en = none from qe)
      | some b =>
        rw [hb] at qe
        have e2 : en = entryOfKey (tupleKind (mixKind X.prog X.w)) b := Option.some.inj qe
        rw [hv, e2]
        all_goals rfl
  have eb : acc.toList = (ks.map fun (x : List Key × Addr × Value) => x.2.1).map Value.ref := by rw [ea, List.map_map]; all_goals rfl
  have rv : Vals ((ks.map fun (x : List Key × Addr × Value) => x.2.1).map V.ref) acc.toList := by rw [eb]; exact vals_refs _
  have hik : IsKeys H kvs (ks.map fun (x : List Key × Addr × Value) => x.2.1) := isKeys_of pr
  have hrl := keys_rl hik hks
  have hlen : ((ks.map fun (x : List Key × Addr × Value) => x.2.1).map V.ref).length = ks'.length := hrl.len
  have hal : acc.toList.length = ks.length := by rw [ea, List.length_map]
  have I1 : Inv X pins σ H { s with heap := h', toks := tk } := I.kept kp
  have hE := each_pairs hrl rv
  have hR : EachIs (fun u (p : V × (Int × Int)) => ∃ as, PySem.Reads h' u (Datum.toD p.2) as) acc.toList (((ks.map fun (x : List Key × Addr × Value) => x.2.1).map V.ref).zip ks') := each_imp (fun u p hp => hp.2.holds I1 hp.1) hE
  have hoL : (h'.push (seqObj "list" acc.toList.toArray 0)).get? h'.objs.size = some (seqObj "list" acc.toList.toArray 0) := Heap.get?_push_size _ rfl
  have hz : acc.toList.length ≤ sizeLine := by rw [hal]; omega
  refine wpAny_bind (wpAny_newList ?_ hz)
  show wpAny _ _ _ _ _ { s with heap := h'.push (seqObj "list" acc.toList.toArray 0), toks := tk }
  have er' : EachIs (fun v (p : V × (Int × Int)) => ∃ as, PySem.Reads (PySem.W.sortingHeap (h'.push (seqObj "list" acc.toList.toArray 0)) h'.objs.size acc.toList) v (Datum.toD p.2) as) acc.toList (((ks.map fun (x : List Key × Addr × Value) => x.2.1).map V.ref).zip ks') :=
    hR.mono fun _ _ ⟨as, r⟩ => ⟨as, PyProof.Rows.Reads.keeps (fun b o e => PySem.W.sortingHeap_old (Nat.ne_of_lt (Heap.lt_size e)) (Heap.get?_push_of_some _ e)) r⟩
  have hal2 : PySem.W.AllAlike ((((ks.map fun (x : List Key × Addr × Value) => x.2.1).map V.ref).zip ks').map fun p => Datum.toD p.2) := PySem.W.AllAlike.of fun p q => DatumOrd.alike p.2 q.2
  refine wpAny_bind (wpAny_holding (wpAny_call_entry PyProof.Rows.slot_list_sort ⟨_, hoL, rfl⟩ PyProof.Rows.entry_list_sort
    (PySem.W.list_sort_vals (κ := PySem.W.dataKind (PySem.W.sortingHeap (h'.push (seqObj "list" acc.toList.toArray 0)) h'.objs.size acc.toList) ((((ks.map fun (x : List Key × Addr × Value) => x.2.1).map V.ref).zip ks').map fun p => Datum.toD p.2)) (s := { s with heap := h'.push (seqObj "list" acc.toList.toArray 0), toks := tk }) hoL
      (PySem.W.SortsAt.data (s := { s with heap := PySem.W.sortingHeap (h'.push (seqObj "list" acc.toList.toArray 0)) h'.objs.size acc.toList, toks := tk }) (PySem.W.each_map (R := fun v d => ∃ as, PySem.Reads (PySem.W.sortingHeap (h'.push (seqObj "list" acc.toList.toArray 0)) h'.objs.size acc.toList) v d as) (fun (p : V × (Int × Int)) => Datum.toD p.2) er') hal2 ?_ ?_) hz ⟨_, rfl, ?_⟩)
    (PyProof.Rows.args_list_sort _)))
  · exact PySem.W.Sortable.tuples fun p => ⟨_, _, rfl⟩
  · intro dd hdd
    obtain ⟨p, _, rfl⟩ := List.mem_map.mp hdd
    have hdp : Datum.depth (Int × Int) ≤ 100 := by decide
    have := Datum.depth_le p.2
    have hA : X.A.in1.in1.units ≤ X.A.units + 2 := by simp [Around.in1]
    omega
  · have he2 := PySem.W.sortVals_data (R := fun (u : Value) (p : V × (Int × Int)) => RelV p.1 u ∧ R H p.1 p.2) (enc := fun p => Datum.toD p.2) false hE er' hal2
    rw [dataLe_T (fun p : V × (Int × Int) => p.2)] at he2
    obtain ⟨q1, q2⟩ := pairs_vals he2
    obtain ⟨e', he'⟩ := PyProof.Rows.sortedHeap_at (vs := acc.toList) (out := (PySem.W.sortVals (PySem.W.dataKind (PySem.W.sortingHeap (h'.push (seqObj "list" acc.toList.toArray 0)) h'.objs.size acc.toList) ((((ks.map fun (x : List Key × Addr × Value) => x.2.1).map V.ref).zip ks').map fun p => Datum.toD p.2)) false acc.toList acc.toList).toArray) hoL
    refine wpAny_pure ⟨_, rfl, .ref h'.objs.size, upd H h'.objs.size (.lst (sortV ((ks.map fun (x : List Key × Addr × Value) => x.2.1).map V.ref) ks')), I1.laid (t' := tk) (fun b u e => ?_) (Nat.le_refl _)
      (show ObjOk X.prog X.w _ _ _ (.lst _) from ⟨?_, _, e', q1, he'⟩), rfl, q _ _ hik (I1.hok.fresh (Nat.le_refl _))⟩
    · have hb : b < h'.objs.size := Heap.lt_size e
      rw [PyProof.Rows.sortedHeap_old (Nat.ne_of_lt hb) (by rw [size_push']; exact Nat.lt_succ_of_lt hb)]
      exact Heap.get?_push_of_some _ e
    · unfold sortV
      rw [List.length_map, List.length_mergeSort, List.length_zip, hlen, Nat.min_self, ← hlen, List.length_map, List.length_map]
      omega
end
end PG

set_option Elab.async false
set_option linter.all false
set_option maxRecDepth 100000
set_option maxHeartbeats 4000000
namespace PG
open PySem PySem.Spec PyProof.Rows L2
open PySem.W (T3 T4 Datum DatumOrd Holds HoldAll EachIs)
variable {K0 : PySem.W.Frag} [KF K0]

/-! ### a list of two things of two kinds -/
structure HL2 (a b : Type) where
  a : a
  b : b
  deriving DecidableEq
theorem HL2.same {a b : Type} : ∀ {p q : HL2 a b}, p.a = q.a → p.b = q.b → p = q
  | ⟨_, _⟩, ⟨_, _⟩, rfl, rfl => rfl
section
variable {α β : Type} [DecidableEq α] [Datum α] [DecidableEq β] [Datum β]
instance : Datum (HL2 α β) where
  toD p := .list [Datum.toD p.a, Datum.toD p.b]
  plain p := by simp only [PyData.plain, PyData.plainAll, Datum.plain, Bool.and_self]
  eqv p q := by
    simp only [PyData.eqv, PyData.eqvAll]
    rw [Datum.eqv, Datum.eqv, Bool.and_true, ← Bool.decide_and]
    exact decide_eq_decide.mpr ⟨fun e => HL2.same e.1 e.2, fun e => by rw [e]; exact ⟨rfl, rfl⟩⟩
  depth := max (Datum.depth α) (Datum.depth β) + 1
  depth_le p := by
    simp only [PyData.depth, PyData.depthAll]
    have h0 := Datum.depth_le p.a
    have h1 := Datum.depth_le p.b
    omega
end
instance {a b : Type} [Py a] [Py b] : Py (HL2 a b) := ⟨fun p => .list [Py.toD p.a, Py.toD p.b]⟩
section
variable {a b : Type} [Py a] [DecidableEq a] [Datum a] [IsD a] [Py b] [DecidableEq b] [Datum b] [IsD b]
instance : IsD (HL2 a b) := ⟨fun p => by show PyData.list [_, _] = PyData.list [_, _]; rw [IsD.eq, IsD.eq]⟩
end
theorem R.hl2 {a b : Type} [Py a] [Py b] {H : Hp} {p : Addr} {x : HL2 a b} {v1 v2 : V} (ha : H p = some (.lst [v1, v2])) (h1 : R H v1 x.a) (h2 : R H v2 x.b) : R H (.ref p) x := Rep.lst ha (.cons h1 (.cons h2 .nil))
/-! ### data without lists within -/
class NoL (a : Type) [Py a] : Prop where
  mv : ∀ {K0 : PySem.W.Frag} [KF K0] (F F' : Hp), (∀ b xs, F b = some (.tup xs) → F' b = some (.tup xs)) → ∀ (v : V) (x : a), R F v x → R F' v x
instance : NoL Int := ⟨fun _ _ _ _ _ h => by rw [R.int_ h]; exact R.int⟩
instance : NoL Bool := ⟨fun _ _ _ _ _ h => by rw [R.bl_ h]; exact R.bl⟩
instance : NoL Str := ⟨fun _ _ _ _ _ h => by rw [R.str_ h]; exact R.str⟩
instance {a b : Type} [Py a] [Py b] [NoL a] [NoL b] : NoL (a × b) := ⟨fun _ _ t _ _ h => by
  obtain ⟨p, v1, v2, rfl, hp, h1, h2⟩ := R.t2T_ h
  exact R.t2T (hp.mv t) (NoL.mv _ _ t _ _ h1) (NoL.mv _ _ t _ _ h2)⟩
instance {a b c : Type} [Py a] [Py b] [Py c] [NoL a] [NoL b] [NoL c] : NoL (T3 a b c) := ⟨fun _ _ t _ _ h => by
  obtain ⟨p, v1, v2, v3, rfl, hp, h1, h2, h3⟩ := R.t3T_ h
  exact R.t3T (hp.mv t) (NoL.mv _ _ t _ _ h1) (NoL.mv _ _ t _ _ h2) (NoL.mv _ _ t _ _ h3)⟩
theorem RL.mv {a : Type} [Py a] [NoL a] {F F' : Hp} (t : ∀ b xs, F b = some (.tup xs) → F' b = some (.tup xs)) : ∀ {vs : List V} {xs : List a}, RL F vs xs → RL F' vs xs
  | _, [], h => by rw [RL.nil_ h]; exact RL.nil
  | _, x :: xs, h => by
    obtain ⟨w, ws, rfl, h1, h2⟩ := RL.cons_ h
    exact RL.cons (NoL.mv _ _ t _ _ h1) (RL.mv t h2)
/-! ### cells lent to a call -/
open Classical in
noncomputable def lendF (as : List Addr) (F H : Hp) : Hp := fun b => if b ∈ as then H b else F b
open Classical in
noncomputable def backF (as : List Addr) (F : Hp) : Hp := fun b => if b ∈ as then none else F b
section
variable {Z : Ent} {F F' H H' : Hp} {cs : List (Addr × HO)} {p a q : Addr} {o o' : HO} {as : List Addr}
theorem inA_nil : ∀ b ∈ ([] : List Addr), ∃ o, (b, o) ∈ cs := fun _ h => nomatch h
theorem inA_cons (i : Nat) (e : cs[i]? = some (a, o)) (h : ∀ b ∈ as, ∃ o, (b, o) ∈ cs) : ∀ b ∈ a :: as, ∃ o, (b, o) ∈ cs := fun b hb => by
  rcases List.mem_cons.mp hb with rfl | hb
  · exact ⟨o, List.mem_of_getElem? e⟩
  · exact h b hb
theorem lendF_at (h : a ∈ as) : lendF as F H a = H a := if_pos h
theorem Ow.lendS (O : Ow Z F cs H) (hin : ∀ b ∈ as, ∃ o, (b, o) ∈ cs) : Same F (lendF as F H) := fun b u e => by
  by_cases hb : b ∈ as
  · obtain ⟨o, hc⟩ := hin b hb
    have := O.cf _ hc
    have e' : F b = none := this
    rw [e'] at e; cases e
  · show (if b ∈ as then H b else F b) = _
    rw [if_neg hb]; exact e
theorem Ow.lendP (O : Ow Z F cs H) (hin : ∀ b ∈ as, ∃ o, (b, o) ∈ cs) : Pre (lendF as F H) [] H := by
  refine ⟨fun b u e => ?_, (fun _ h => nomatch h), (fun _ h => nomatch h), List.nodup_nil, fun _ h => nomatch h⟩
  have e : (if b ∈ as then H b else F b) = some u := e
  by_cases hb : b ∈ as
  · rw [if_pos hb] at e; exact e
  · rw [if_neg hb] at e; exact O.s b u e
theorem Ow.unlend (O : Ow Z F cs H) (hin : ∀ b ∈ as, ∃ o, (b, o) ∈ cs) (g : Gr [] (lendF as F H) H F' H') :
    Ow Z (backF as F') cs H' ∧ Same F (backF as F') ∧ (∀ b xs, F' b = some (.tup xs) → backF as F' b = some (.tup xs)) ∧ ∀ b, F' b = none → backF as F' b = none := by
  have inF : ∀ b, b ∉ as → ∀ u, F b = some u → F' b = some u := fun b hb u e => g.f b u (by
    show (if b ∈ as then H b else F b) = _
    rw [if_neg hb]; exact e)
  have nF : ∀ b ∈ as, F b = none := fun b hb => by obtain ⟨o, hc⟩ := hin b hb; exact O.cf _ hc
  have sF : Same F (backF as F') := fun b u e => by
    show (if b ∈ as then none else F' b) = _
    by_cases hb : b ∈ as
    · rw [nF b hb] at e; cases e
    · rw [if_neg hb]; exact inF b hb u e
  refine ⟨⟨⟨O.g.f.trans sF, fun b u e => ?_, fun b u hb e => g.k b u (fun h => nomatch h) (O.g.k b u hb e), fun b e => g.t b (O.g.t b e), fun b e => ?_, fun b xs e => ?_⟩, fun c hc => ?_, fun c hc => g.k _ _ (fun h => nomatch h) (O.ch c hc), O.nd, O.ca, O.nt⟩, sF, fun b xs e => ?_, fun b e => ?_⟩
  · have e : (if b ∈ as then none else F' b) = some u := e
    by_cases hb : b ∈ as
    · rw [if_pos hb] at e; cases e
    · rw [if_neg hb] at e; exact g.s b u e
  · show (if b ∈ as then none else F' b) = _ ∨ _
    by_cases hb : b ∈ as
    · rw [if_pos hb]
      rcases O.g.n b e with h0 | h0
      · rw [nF b hb] at h0; exact .inl h0
      · exact .inr h0
    · rw [if_neg hb]
      rcases O.g.n b e with h0 | h0
      · rcases g.n b (O.g.t b e) with h1 | ⟨xs, hx⟩
        · refine .inl (h1.trans ?_)
          show (if b ∈ as then H b else F b) = _
          rw [if_neg hb]; exact h0
        · rcases O.g.u b xs hx with z | z
          · exact absurd z e
          · exact .inr ⟨xs, z⟩
      · exact .inr h0
  · rcases g.u b xs e with z | z
    · refine .inl ?_
      cases q : Z.H b with
      | none => rfl
      | some u => exact absurd z (O.g.t b (by rw [q]; simp))
    · exact O.g.u b xs z
  · show (if c.1 ∈ as then none else F' c.1) = none
    by_cases hb : c.1 ∈ as
    · rw [if_pos hb]
    · rw [if_neg hb]
      have hl : lendF as F H c.1 = none := by
        show (if c.1 ∈ as then H c.1 else F c.1) = _
        rw [if_neg hb]; exact O.cf c hc
      exact g.none (O.ch c hc) (O.nt c hc) hl
  · show (if b ∈ as then none else F' b) = _
    by_cases hb : b ∈ as
    · obtain ⟨o, hc⟩ := hin b hb
      have h1 : lendF as F H b = some o := by
        show (if b ∈ as then H b else F b) = _
        rw [if_pos hb]; exact O.ch _ hc
      have h2 := g.f b o h1
      rw [e] at h2
      have h3 := O.nt _ hc
      have h3 : noTup o = true := h3
      rw [← Option.some.inj h2] at h3
      cases h3
    · rw [if_neg hb]; exact e
  · show (if b ∈ as then none else F' b) = _
    by_cases hb : b ∈ as
    · rw [if_pos hb]
    · rw [if_neg hb]; exact e
theorem Ow.fresh (O : Ow Z F cs H) (h : H p = none) : p ∉ cs.map (·.1) := fun hm => by
  obtain ⟨c, hc, e⟩ := List.mem_map.mp hm
  have z := O.ch c hc
  rw [e, h] at z
  cases z
theorem Ow.add' (O : Ow Z F cs H) (hm : p ∉ cs.map (·.1)) (hz : Z.H p = none) (hf : F p = none) (h : H p = some o) (ht : noTup o = true := by rfl) : Ow Z F ((p, o) :: cs) H where
  g := O.g
  cf := fun c hc => by
    rcases List.mem_cons.mp hc with rfl | hc
    · exact hf
    · exact O.cf c hc
  ch := fun c hc => by
    rcases List.mem_cons.mp hc with rfl | hc
    · exact h
    · exact O.ch c hc
  nd := by
    rw [List.map_cons, List.nodup_cons]
    exact ⟨hm, O.nd⟩
  ca := fun c hc => by
    rcases List.mem_cons.mp hc with rfl | hc
    · exact .inr hz
    · exact O.ca c hc
  nt := fun c hc => by
    rcases List.mem_cons.mp hc with rfl | hc
    · exact ht
    · exact O.nt c hc
theorem Ow.ne (O : Ow Z F cs H) (i j : Nat) (hij : i ≠ j) (ei : cs[i]? = some (a, o)) (ej : cs[j]? = some (q, o')) : a ≠ q := fun e => by
  subst e
  have h1 : (cs.map (·.1))[i]? = some a := by rw [List.getElem?_map, ei]; rfl
  have h2 : (cs.map (·.1))[j]? = some a := by rw [List.getElem?_map, ej]; rfl
  exact hij (nd_ix O.nd h1 h2)
end
theorem nmem2 {p q : Addr} {l : List Addr} (h : p ≠ q) (h2 : p ∉ l) : p ∉ q :: l := fun m => by
  rcases List.mem_cons.mp m with e | m
  · exact h e
  · exact h2 m
/-! ### while -/
inductive Ws (s r : Type) where
  | go (x : s)
  | stop (x : s)
  | rt (z : r)
def whL {s r : Type} (b : s → M (Ws s r)) : Nat → s → M (Fl s r)
  | 0, _ => bad
  | n + 1, x => b x >>= fun
    | .go x' => whL b n x'
    | .stop x' => .ok (.nx x')
    | .rt z => .ok (.rt z)
theorem whL_L {s r a : Type} {Q : a → Prop} {E : String → Prop} {b : s → M (Ws s r)} {n : Nat} {x : s} {k : Fl s r → M a} (h : wp (whL b n x >>= k) Q E) :
    ∃ (L : Nat → s → Prop) (X : s → Prop), L n x ∧ (∀ m x, L m x → wp (b x) (fun w => match w with
      | .go x' => ∃ m', m' < m ∧ L m' x'
      | .stop x' => X x'
      | .rt z => wp (k (.rt z)) Q E) E) ∧ ∀ x, X x → wp (k (.nx x)) Q E := by
  refine ⟨fun n x => wp (whL b n x >>= k) Q E, fun x => wp (k (.nx x)) Q E, h, fun m x hx => ?_, fun x hx => hx⟩
  cases m with
  | zero => exact hx.elim
  | succ m =>
    have hx : wp ((b x >>= fun
      | .go x' => whL b m x'
      | .stop x' => .ok (.nx x')
      | .rt z => .ok (.rt z)) >>= k) Q E := hx
    rw [wp_bind, wp_bind] at hx
    cases e : b x with
    | error e2 => rw [e] at hx; cases e2 <;> exact hx
    | ok w =>
      rw [e] at hx
      cases w with
      | go x' => exact ⟨m, Nat.lt_succ_self m, wp_bind.mpr hx⟩
      | stop x' => exact hx
      | rt z => exact hx
theorem while_P {c : TT} {tb : TS} {D : Ends} {σ : L2.St} {H : Hp} (W : Nat → L2.St → Hp → Prop) (X : L2.St → Hp → Prop) (n : Nat) (h0 : W n σ H) (exit : ∀ σ H, X σ H → D.nx σ H)
    (turn : (∀ σ H, X σ H → D.nx σ H) → ∀ m σ H, W m σ H → c σ H fun b H1 => if b = true then ∃ N : L2.St → Hp → Prop, (∀ σ' H', N σ' H' → ∃ m', m' < m ∧ W m' σ' H') ∧ tb { D with nx := N, ct := N, bk := D.nx } σ H1 else D.nx σ H1) : tWhile c tb D σ H :=
  ⟨W, ⟨n, h0⟩, turn exit⟩
/-! ### a < b < c < d -/
section
variable {X : Cx} {a b c d : Expr} {ta tb tc td : TE} {pos : Pos}
def tChain3 (r r' r'' : R2) (ta tb tc td : TE) : TE := fun σ H Q => ta σ H fun x H1 => tb σ H1 fun y H2 => r x y H2 fun z H3 => ∃ k, z = .bl k ∧
  (if k = true then tc σ H3 fun w' H4 => r' y w' H4 fun z' H5 => ∃ k', z' = .bl k' ∧ (if k' = true then td σ H5 fun u' H6 => r'' w' u' H6 Q else Q (.bl false) H5) else Q (.bl false) H3)
theorem pt_chain3 {op op' op'' : CmpOp} {r r' r'' : R2} (ho : OpR X (compareOp op) r) (ho' : OpR X (compareOp op') r') (ho'' : OpR X (compareOp op'') r'') (ha : PE X a ta) (hb : PE X b tb) (hc : PE X c tc) (hd : PE X d td)
    (hm : lastMarks [op, op', op''] [b, c, d] = false := by with_unfolding_all rfl) : PT X (.Compare a [op, op', op''] [b, c, d] pos) (tTest (tChain3 r r' r'' ta tb tc td)) := by
  refine ⟨fun pins s σ H Q I h => ?_⟩
  refine isTrue_chain (thn (ha.run pins s σ H _ I h) fun v s1 ⟨x, H1, I1, r1, q1⟩ => test_link (thn (hb.run pins s1 σ H1 _ I1 q1) fun u s2 ⟨y, H2, I2, r2, q2⟩ =>
    thn (ho pins s2 σ H2 x y v u _ I2 r1 r2 q2) fun d1 s3 ⟨z, H3, I3, r3, k, e, q3⟩ => ?_)) hm
  subst e
  cases r3
  refine wpAny_truthy_bool ?_
  cases k with
  | false =>
    obtain ⟨k', e', q'⟩ := q3
    cases e'
    exact ite_ff ⟨H3, I3, q'⟩
  | true =>
    refine ite_tt (test_link (thn (hc.run pins s3 σ H3 _ I3 q3) fun w' s4 ⟨z', H4, I4, r4, q4⟩ => thn (ho' pins s4 σ H4 y z' u w' _ I4 r2 r4 q4) fun d2 s5 ⟨z2, H5, I5, r5, k2, e2, q5⟩ => ?_))
    subst e2
    cases r5
    refine wpAny_truthy_bool ?_
    cases k2 with
    | false =>
      obtain ⟨k', e', q'⟩ := q5
      cases e'
      exact ite_ff ⟨H5, I5, q'⟩
    | true =>
      refine ite_tt (test_last (thn (hd.run pins s5 σ H5 _ I5 q5) fun u' s6 ⟨z3, H6, I6, r6, q6⟩ => thn (ho'' pins s6 σ H6 z' z3 w' u' _ I6 r4 r6 q6) fun d3 s7 ⟨z4, H7, I7, r7, k3, e3, q7⟩ => ?_))
      subst e3
      cases r7
      exact wpAny_truthy_bool ⟨H7, I7, q7⟩
end
/-! ### list.index of whole numbers -/
def ixI (xs : List Int) (y : Int) : M Int := if y ∈ xs then .ok ((xs.findIdx (· == y) : Nat) : Int) else bad
theorem wp_ixI {a : Type} {Q : a → Prop} {E : String → Prop} {xs : List Int} {y : Int} {k : Int → M a} (h : wp (ixI xs y >>= k) Q E) : ∃ j, xs.findIdx (· == y) = j ∧ xs[j]? = some y ∧ (∀ (m : Nat) z, m < j → xs[m]? = some z → z ≠ y) ∧ wp (k (j : Int)) Q E := by
  unfold ixI at h
  by_cases hm : y ∈ xs
  · rw [if_pos hm] at h
    have hlt : xs.findIdx (· == y) < xs.length := List.findIdx_lt_length_of_exists ⟨y, hm, by simp⟩
    refine ⟨_, rfl, ?_, fun m z hmj hz e => ?_, h⟩
    · rw [List.getElem?_eq_getElem hlt]
      have := List.findIdx_getElem (w := hlt)
      rw [eq_of_beq this]
    · have := List.not_of_lt_findIdx hmj
      obtain ⟨hl, hz⟩ := List.getElem?_eq_some_iff.mp hz
      rw [hz, e] at this
      simp at this
  · rw [if_neg hm] at h; exact h.elim
theorem all_flat_int : ∀ xs : List Int, (xs.map V.int).all flatV = true
  | [] => rfl
  | x :: xs => by rw [List.map_cons, List.all_cons, all_flat_int xs]; rfl
theorem int_noeq {xs : List Int} {y : Int} {j : Nat} (h : ∀ (m : Nat) z, m < j → xs[m]? = some z → z ≠ y) : ∀ (m : Nat) (z' : V), m < j → (xs.map V.int)[m]? = some z' → eqV z' (.int y) = false := fun m z' hm hz => by
  rw [List.getElem?_map] at hz
  cases e : xs[m]? with
  | none => rw [e] at hz; cases hz
  | some z =>
    rw [e] at hz
    have hz : V.int z = z' := Option.some.inj hz
    subst hz
    have := h m z hm e
    show (z == y) = false
    simpa using this
theorem int_at {xs : List Int} {y : Int} {j : Nat} (h : xs[j]? = some y) : (xs.map V.int)[j]? = some (.int y) := by rw [List.getElem?_map, h]; rfl
theorem int_eq {y : Int} : eqV (.int y) (.int y) = true := by show (y == y) = true; simp
/-! ### dict(list of pairs), the keys whole numbers -/
section
variable {β : Type} [Py β] {F H : Hp}
def mergeD (xs : List (Int × β)) : List (Int × β) := xs.foldl (fun acc p => dPut acc p.1 p.2) []
theorem merge_rd {kvs : List (Key × V)} {xs : List (Int × β)} (hs : RD F kvs xs) : ∀ {acc : List (Key × V)} {ac : List (Int × β)}, RD F acc ac → RD F (mergeK acc kvs) (xs.foldl (fun acc p => dPut acc p.1 p.2) ac) := by
  induction hs with
  | nil => intro acc ac h; exact h
  | @cons k v y kvs xs hv _ ih =>
    intro acc ac h
    exact ih (h.put k hv)
theorem pairs_of_rl {K : PySem.W.Frag} (s : Same F H) : ∀ {vs : List V} {xs : List (Int × β)}, RL F vs xs → ∃ (ps : List Addr) (kvs : List (Key × V)), vs = ps.map V.ref ∧ Paired (fun p kv => SqT K H p [kV kv.1, kv.2]) ps kvs ∧ RD F kvs xs
  | _, [], h => ⟨[], [], RL.nil_ h, .nil, .nil⟩
  | _, x :: xs, h => by
    obtain ⟨w, ws, rfl, h1, h2⟩ := RL.cons_ h
    obtain ⟨ps, kvs, e, hp, hr⟩ := pairs_of_rl (K := K) s h2
    obtain ⟨p, v1, v2, rfl, hp1, h3, h4⟩ := R.t2_ h1
    rw [R.int_ h3] at hp1
    exact ⟨p :: ps, (.inl x.1, v2) :: kvs, by rw [e]; rfl, .cons (SqT.of (s _ _ hp1)) hp, .cons (k := x.1) h4 hr⟩
end
/-! ### the same rules, the fragment told outright (within a comprehension) -/
section
variable {X : Cx} {K : PySem.W.Frag}
theorem ixTupK (h : X.K = K) : IxR X (rIxT K) := by rw [← h]; exact ix_tup
theorem ixListK (h : X.K = K) : IxR X (rIxL K) := by rw [← h]; exact ix_list
theorem listOfK (h : X.K = K) : CallR X (.type "list") (fun xs H Q => ∃ p ys, xs = [.ref p] ∧ (SqL K H p ys ∨ SqT K H p ys) ∧ ∀ l, H l = none → Q (.ref l) (upd H l (.lst ys))) := by rw [← h]; exact call_list_of
theorem isiK (h : X.K = K) : CallR X (.builtin "isinstance") (rIsi K) := by rw [← h]; exact call_isi
theorem slListK (h : X.K = K) : SlR X (rSlL K) := by rw [← h]; exact sl_list
theorem indexK (h : X.K = K) : MtR X "list.index" (rIndex K) := by rw [← h]; exact mt_index
end
/-! ### enumerate in a comprehension -/
def enumL {b : Type} (xs : List b) : List (Int × b) := xs.zipIdx.map fun p => ((p.2 : Int), p.1)
theorem enumL_get {b : Type} {xs : List b} {i : Nat} {x : b} (h : xs[i]? = some x) : (enumL xs).drop i = ((i : Int), x) :: (enumL xs).drop (i + 1) := by
  apply drop_at
  unfold enumL
  rw [List.getElem?_map, List.getElem?_zipIdx, h]
  simp
theorem enumL_len {b : Type} {xs : List b} : (enumL xs).length = xs.length := by unfold enumL; simp
theorem enumL_end {b : Type} {xs : List b} {vs : List V} (h : vs.length = xs.length) : (enumL xs).drop vs.length = [] := by
  rw [h, ← enumL_len, List.drop_length]
theorem comp_lenE {b : Type} {w vs : List V} {xs : List b} {i : Nat} (la : w.length ≤ i) (hi : i < vs.length) (hl : vs.length = xs.length) (c : (enumL xs).length < 16777216) : w.length < sizeLine := by
  rw [enumL_len] at c
  exact lt_line (by omega)
theorem zip_at {a b : Type} {xs : List a} {ys : List b} {i : Nat} {x : a} {y : b} (h : xs[i]? = some x) (h2 : ys[i]? = some y) : (xs.zip ys).drop i = (x, y) :: (xs.zip ys).drop (i + 1) := by
  apply drop_at
  rw [List.getElem?_zip_eq_some]
  exact ⟨h, h2⟩
theorem zip_end {a b : Type} {xs : List a} {ys : List b} {vs ws : List V} (h : vs.length = xs.length) (h2 : ws.length = ys.length) : (xs.zip ys).drop (min vs.length ws.length) = [] := by
  rw [h, h2, ← List.length_zip, List.drop_length]
theorem comp_lenZ {a b : Type} {w vs ws : List V} {xs : List a} {ys : List b} {i : Nat} (la : w.length ≤ i) (hi : i < min vs.length ws.length) (h : vs.length = xs.length) (h2 : ws.length = ys.length) (c : (xs.zip ys).length < 16777216) : w.length < sizeLine := by
  rw [List.length_zip, ← h, ← h2] at c
  exact lt_line (by omega)
section
variable {X : Cx} {K : PySem.W.Frag}
theorem cr_sumK (hc : X.calm = true) (h : X.K = K) : CallR X (.builtin "sum") (rSum K) := by rw [← h]; exact cr_sum hc
end
end PG

set_option Elab.async false
set_option linter.all false
set_option maxRecDepth 100000
set_option maxHeartbeats 4000000
namespace PG
open PySem PySem.Spec PyProof.Rows L2
open PySem.W (T3 T4 Datum DatumOrd Holds HoldAll EachIs)
variable {K0 : PySem.W.Frag} [KF K0]
/-! ### sums: ("number", n), (word, n), (word,), (word, a, b) -/
inductive Sm where
  | num (w : Str) (n : Int)
  | nam (w : Str)
  | two (w : Str) (a b : Sm)
  deriving DecidableEq
def Sm.d : Sm → PyData
  | .num w n => .tuple [.str w, .int n]
  | .nam w => .tuple [.str w]
  | .two w a b => .tuple [.str w, a.d, b.d]
instance : Py Sm := ⟨Sm.d⟩
def Sm.word : Sm → Str
  | .num w _ => w
  | .nam w => w
  | .two w _ _ => w
def Sm.int? : Sm → Option Int
  | .num _ n => some n
  | _ => none
def Sm.two? : Sm → Option (Sm × Sm)
  | .two _ a b => some (a, b)
  | _ => none
section
variable {F : Hp} {v : V} {p : Addr} {x : Sm}
theorem R.sm_ (h : R F v x) : ∃ p ws, v = .ref p ∧ TupAt F p (V.str x.word :: ws) := by
  cases x with
  | num w n =>
    obtain ⟨p, v1, v2, e, hp, h1, h2⟩ := R.t2T_ (show R (a := Str × Int) F v (w, n) from h)
    rw [R.str_ h1] at hp
    exact ⟨p, [v2], e, hp⟩
  | nam w =>
    have h' : Rep F v (.tuple [.str w]) := h
    cases h' with
    | tup ha hs =>
      cases hs with
      | cons h1 hs =>
        cases hs
        cases h1
        exact ⟨_, _, rfl, ha⟩
  | two w a b =>
    obtain ⟨p, v1, v2, v3, e, hp, h1, h2, h3⟩ := R.t3T_ (show R (a := T3 Str Sm Sm) F v ⟨w, a, b⟩ from h)
    rw [R.str_ h1] at hp
    exact ⟨p, [v2, v3], e, hp⟩
theorem R.sm_int {n : Int} (h : R F v x) (e : x.int? = some n) : ∃ p w, v = .ref p ∧ TupAt F p [V.str w, V.int n] := by
  cases x with
  | num w m =>
    obtain ⟨p, v1, v2, e1, hp, h1, h2⟩ := R.t2T_ (show R (a := Str × Int) F v (w, m) from h)
    rw [R.str_ h1, R.int_ h2] at hp
    have e : some m = some n := e
    cases e
    exact ⟨p, w, e1, hp⟩
  | nam w => cases e
  | two w a b => cases e
theorem R.sm_two {q : Sm × Sm} (h : R F v x) (e : x.two? = some q) : ∃ p w va vb, v = .ref p ∧ TupAt F p [V.str w, va, vb] ∧ R F va q.1 ∧ R F vb q.2 := by
  cases x with
  | num w m => cases e
  | nam w => cases e
  | two w a b =>
    obtain ⟨p, v1, v2, v3, e1, hp, h1, h2, h3⟩ := R.t3T_ (show R (a := T3 Str Sm Sm) F v ⟨w, a, b⟩ from h)
    rw [R.str_ h1] at hp
    have e : some (a, b) = some q := e
    cases e
    exact ⟨p, w, v2, v3, e1, hp, h2, h3⟩
theorem R.of_num {q : Str × Int} (h : R F v q) : R F v (Sm.num q.1 q.2) := h
theorem R.of_two {q : T3 Str Sm Sm} (h : R F v q) : R F v (Sm.two q.a q.b q.c) := h
theorem R.of_nam {w : Str} (h : F p = some (.tup [V.str w])) : R F (.ref p) (Sm.nam w) := Rep.tup (.inl h) (.cons (.str w) .nil)
/-- the module's own tuples -/
theorem R.k_nam {w : Str} (h : KTup K0 p [V.str w]) : R F (.ref p) (Sm.nam w) := Rep.tup (.inr ⟨⟨_, _, rfl⟩, h⟩) (.cons (.str w) .nil)
theorem R.k_num {w : Str} {n : Int} (h : KTup K0 p [V.str w, V.int n]) : R F (.ref p) (Sm.num w n) := Rep.tup (.inr ⟨⟨_, _, rfl⟩, h⟩) (.cons (.str w) (.cons (.int n) .nil))
instance : NoS Sm := ⟨fun x s h => by cases x <;> exact nomatch h⟩
end
/-! ### a whole number or a list of such -/
inductive IL where
  | i (n : Int)
  | l (xs : List Int)
instance : Py IL := ⟨fun
  | .i n => Py.toD n
  | .l xs => Py.toD xs⟩
def IL.i? : IL → Option Int
  | .i n => some n
  | _ => none
def IL.l? : IL → Option (List Int)
  | .l xs => some xs
  | _ => none
section
variable {F : Hp} {v : V}
theorem R.il_i {x : IL} {n : Int} (h : R F v x) (e : x.i? = some n) : R F v n := by
  cases x with
  | i m => have e : some m = some n := e; cases e; exact h
  | l xs => cases e
theorem R.il_l {x : IL} {xs : List Int} (h : R F v x) (e : x.l? = some xs) : R F v xs := by
  cases x with
  | i m => cases e
  | l ys => have e : some ys = some xs := e; cases e; exact h
theorem R.of_i {n : Int} (h : R F v n) : R F v (IL.i n) := h
theorem R.of_l {xs : List Int} (h : R F v xs) : R F v (IL.l xs) := h
end
section
variable {β : Type} [Py β] {F : Hp}
def mergeDS (xs : List (Str × β)) : List (Str × β) := xs.foldl (fun acc p => dPut acc p.1 p.2) []
theorem merge_rdS {kvs : List (Key × V)} {xs : List (Str × β)} (hs : RD F kvs xs) : ∀ {acc : List (Key × V)} {ac : List (Str × β)}, RD F acc ac → RD F (mergeK acc kvs) (xs.foldl (fun acc p => dPut acc p.1 p.2) ac) := by
  induction hs with
  | nil => intro acc ac h; exact h
  | @cons k v y kvs xs hv _ ih =>
    intro acc ac h
    exact ih (h.put k hv)
end
section
variable {X : Cx} {K : PySem.W.Frag} {pos : Pos}
theorem slTupK (h : X.K = K) : SlR X (rSlT K) := by rw [← h]; exact sl_tup
theorem pgLstK (h : X.K = K) {es : List Expr} {k : Nat} {t : TGs} {n : Nat} (hc : X.calm = true) (hp : PGs X es t)
    (hn : (assignEach es X.env).length = n := by rfl) (hst : (assignEach es X.env).findIdx? (·.1) = none := by rfl) : PG X (.Tuple es k pos) (gLst K n t) := by rw [← h]; exact pg_lst hc hp hn hst
end
theorem RL.two {a : Type} [Py a] {F : Hp} {vs : List V} {xs : List a} (h : RL F vs xs) (e : xs.length = 2) : ∃ v1 v2 x1 x2, vs = [v1, v2] ∧ xs = [x1, x2] ∧ R F v1 x1 ∧ R F v2 x2 := by
  match xs, e with
  | [x1, x2], _ =>
    obtain ⟨w, ws, rfl, h1, h2⟩ := RL.cons_ h
    obtain ⟨w2, ws2, rfl, h3, h4⟩ := RL.cons_ h2
    rw [RL.nil_ h4]
    exact ⟨w, w2, x1, x2, rfl, rfl, h1, h3⟩
/-- a list of just two -/
def two2 {a : Type} (xs : List a) : M (a × a) := match xs with
  | [x, y] => .ok (x, y)
  | _ => bad
theorem wp_two2 {a b : Type} {Q : a → Prop} {E : String → Prop} {xs : List b} {k : b × b → M a} (h : wp (two2 xs >>= k) Q E) : ∃ x y, xs = [x, y] ∧ wp (k (x, y)) Q E := by
  match xs, h with
  | [x, y], h => exact ⟨x, y, rfl, h⟩
  | [], h => exact h.elim
  | [_], h => exact h.elim
  | _ :: _ :: _ :: _, h => exact h.elim
theorem sl3 (a b c : V) : ¬ (HT.sIx [a, b, c].length 0 (some (1 : Int)) = 0 ∧ HT.sIx [a, b, c].length [a, b, c].length none = [a, b, c].length) := fun h => absurd h.1 (by show ¬ (HT.sIx 3 0 (some (1 : Int)) = 0); decide)
theorem intB {X : Cx} : CallR X (.type "int") (fun xs H Q => ∃ k, xs = [.bl k] ∧ Q (.int (if k then 1 else 0)) H) := fun pins s σ H xs us Q I r h => call_int1 pins s σ H xs us Q I r (.inr h)
theorem atI0 {a : Type} (x : a) (xs : List a) : L2.atI (x :: xs) (0 : Int) = some x := by
  unfold L2.atI ixN
  rw [if_pos (by omega), if_pos (by rw [List.length_cons]; omega)]
  rfl
end PG

set_option Elab.async false
set_option linter.all false
set_option maxRecDepth 100000
set_option maxHeartbeats 4000000
namespace PG
open PySem PySem.Spec PyProof.Rows L2
open PySem.W (T3 T4 Datum DatumOrd Holds HoldAll EachIs)
variable {K0 : PySem.W.Frag} [KF K0]
/-! ### == of data of any depth, the depth asked outright -/
class DatumX (a : Type) [Py a] [DecidableEq a] : Prop where
  plain : ∀ x : a, (Py.toD x).plain = true
  eqv : ∀ x y : a, PyData.eqv (Py.toD x) (Py.toD y) = decide (x = y)
instance (priority := 50) {a : Type} [Py a] [DecidableEq a] [Datum a] [IsD a] : DatumX a := ⟨fun x => by rw [IsD.eq]; exact Datum.plain x, fun x y => by rw [IsD.eq, IsD.eq]; exact Datum.eqv x y⟩
theorem Sm.pl : ∀ x : Sm, x.d.plain = true
  | .num w n => by simp [Sm.d, PyData.plain, PyData.plainAll]
  | .nam w => by simp [Sm.d, PyData.plain, PyData.plainAll]
  | .two w a b => by simp [Sm.d, PyData.plain, PyData.plainAll, Sm.pl a, Sm.pl b]
theorem ev23 (w w' : Str) (n : PyData) (x y : PyData) : PyData.eqv (.tuple [.str w, n]) (.tuple [.str w', x, y]) = false := by simp [PyData.eqv, PyData.eqvAll]
theorem ev32 (w w' : Str) (n : PyData) (x y : PyData) : PyData.eqv (.tuple [.str w', x, y]) (.tuple [.str w, n]) = false := by simp [PyData.eqv, PyData.eqvAll]
theorem ev13 (w w' : Str) (x y : PyData) : PyData.eqv (.tuple [.str w]) (.tuple [.str w', x, y]) = false := by simp [PyData.eqv, PyData.eqvAll]
theorem ev31 (w w' : Str) (x y : PyData) : PyData.eqv (.tuple [.str w', x, y]) (.tuple [.str w]) = false := by simp [PyData.eqv, PyData.eqvAll]
theorem Sm.ev : ∀ x y : Sm, PyData.eqv x.d y.d = decide (x = y)
  | .num w n, .num w' n' => by
    simp only [Sm.d, PyData.eqv, PyData.eqvAll, Bool.and_true]
    rw [PySem.W.beq_decide, PySem.W.beq_decide, ← Bool.decide_and]
    exact decide_eq_decide.mpr (by rw [Sm.num.injEq])
  | .num w n, .nam w' => by simp [Sm.d, PyData.eqv, PyData.eqvAll]
  | .num w n, .two w' a b => (ev23 w w' (.int n) a.d b.d).trans (by simp)
  | .nam w, .num w' n => by simp [Sm.d, PyData.eqv, PyData.eqvAll]
  | .nam w, .nam w' => by
    simp only [Sm.d, PyData.eqv, PyData.eqvAll, Bool.and_true]
    rw [PySem.W.beq_decide]
    exact decide_eq_decide.mpr (by rw [Sm.nam.injEq])
  | .nam w, .two w' a b => (ev13 w w' a.d b.d).trans (by simp)
  | .two w a b, .num w' n => (ev32 w' w (.int n) a.d b.d).trans (by simp)
  | .two w a b, .nam w' => (ev31 w' w a.d b.d).trans (by simp)
  | .two w a b, .two w' a' b' => by
    simp only [Sm.d, PyData.eqv, PyData.eqvAll, Bool.and_true]
    rw [PySem.W.beq_decide, Sm.ev a a', Sm.ev b b', ← Bool.decide_and, ← Bool.decide_and]
    exact decide_eq_decide.mpr (by rw [Sm.two.injEq])
instance : DatumX Sm := ⟨Sm.pl, Sm.ev⟩
section
variable {a b c d : Type} [Py a] [DecidableEq a] [DatumX a] [Py b] [DecidableEq b] [DatumX b] [Py c] [DecidableEq c] [DatumX c] [Py d] [DecidableEq d] [DatumX d]
theorem plainX : ∀ xs : List a, PyData.plainAll (xs.map Py.toD) = true
  | [] => rfl
  | x :: xs => by
    rw [List.map_cons, PyData.plainAll, DatumX.plain x, plainX xs]
    rfl
theorem eqvX : ∀ xs ys : List a, PyData.eqvAll (xs.map Py.toD) (ys.map Py.toD) = decide (xs = ys)
  | [], [] => by simp only [List.map_nil, PyData.eqvAll, decide_true]
  | [], _ :: _ => by simp [PyData.eqvAll]
  | _ :: _, [] => by simp [PyData.eqvAll]
  | x :: xs, y :: ys => by
    rw [List.map_cons, List.map_cons, PyData.eqvAll, DatumX.eqv x y, eqvX xs ys, ← Bool.decide_and]
    exact decide_eq_decide.mpr (by rw [List.cons.injEq])
instance : DatumX (List a) := ⟨fun xs => by show PyData.plain (.list (xs.map Py.toD)) = true; simp only [PyData.plain]; exact plainX xs, fun xs ys => by show PyData.eqv (.list (xs.map Py.toD)) (.list (ys.map Py.toD)) = _; simp only [PyData.eqv]; exact eqvX xs ys⟩
theorem T4.sm {p q : T4 a b c d} : p = q ↔ p.a = q.a ∧ p.b = q.b ∧ p.c = q.c ∧ p.d = q.d := by
  cases p; cases q
  simp
instance : DatumX (T4 a b c d) := ⟨fun p => by show PyData.plain (.tuple [_, _, _, _]) = true; simp only [PyData.plain, PyData.plainAll, DatumX.plain, Bool.and_self], fun p q => by
  show PyData.eqv (.tuple [_, _, _, _]) (.tuple [_, _, _, _]) = _
  simp only [PyData.eqv, PyData.eqvAll]
  rw [DatumX.eqv, DatumX.eqv, DatumX.eqv, DatumX.eqv, Bool.and_true, ← Bool.decide_and, ← Bool.decide_and, ← Bool.decide_and]
  exact decide_eq_decide.mpr T4.sm.symm⟩
end
def dep {a : Type} [Py a] (x : a) : Nat := (Py.toD x).depth
section
variable {X : Cx} (a : Type) [Py a] [DecidableEq a] [DatumX a]
def rEqX : R2 := fun x y H Q => ∃ p q : a, R H x p ∧ R H y q ∧ min (dep p) (dep q) ≤ 60 ∧ Q (.bl (decide (p = q))) H
def rNeX : R2 := fun x y H Q => ∃ p q : a, R H x p ∧ R H y q ∧ min (dep p) (dep q) ≤ 60 ∧ Q (.bl (decide (p ≠ q))) H
theorem op_eqX (hu : X.A.units + 64 < cLine) (hK : X.K = K0 := by rfl) : OpR X (compareOp .Eq) (rEqX a) := by
  subst hK
  intro pins s σ H x y v u Q I rx ry h
  obtain ⟨p, q, hp, hq, hd, k⟩ := h
  obtain ⟨as, ra⟩ := Dp.reads I _ _ _ (Rep.dp _ _ hp) rx
  obtain ⟨bs, rb⟩ := Dp.reads I _ _ _ (Rep.dp _ _ hq) ry
  have hd' : min (Py.toD p).depth (Py.toD q).depth ≤ 60 := hd
  exact PySem.SeqAt.eq_plain ra rb (DatumX.plain p) (DatumX.plain q) (by omega) (by rw [DatumX.eqv p q]; exact ⟨.bl _, H, I, rfl, k⟩)
theorem op_neX (hu : X.A.units + 64 < cLine) (hK : X.K = K0 := by rfl) : OpR X (compareOp .NotEq) (rNeX a) := by
  subst hK
  intro pins s σ H x y v u Q I rx ry h
  obtain ⟨p, q, hp, hq, hd, k⟩ := h
  obtain ⟨as, ra⟩ := Dp.reads I _ _ _ (Rep.dp _ _ hp) rx
  obtain ⟨bs, rb⟩ := Dp.reads I _ _ _ (Rep.dp _ _ hq) ry
  have hd' : min (Py.toD p).depth (Py.toD q).depth ≤ 60 := hd
  exact PySem.SeqAt.ne_plain ra rb (DatumX.plain p) (DatumX.plain q) (by omega) (by rw [DatumX.eqv p q, ← decide_not]; exact ⟨.bl _, H, I, rfl, k⟩)
end
/-! ### a tuple of things of one kind, of any length -/
structure Tp (a : Type) where
  l : List a
instance {a : Type} [Py a] : Py (Tp a) := ⟨fun t => .tuple (t.l.map Py.toD)⟩
section
variable {a : Type} [Py a] {F : Hp} {v : V}
theorem R.tp_ {x : Tp a} (h : R F v x) : ∃ p vs, v = .ref p ∧ TupAt F p vs ∧ RL F vs x.l := by
  have h' : Rep F v (.tuple (x.l.map Py.toD)) := h
  cases h' with
  | tup ha hs => exact ⟨_, _, rfl, ha, hs⟩
theorem R.tp2 {q : a × a} (h : R F v q) : R F v (Tp.mk [q.1, q.2]) := h
theorem R.tp3 {q : T3 a a a} (h : R F v q) : R F v (Tp.mk [q.a, q.b, q.c]) := h
theorem R.tp1 {w : Str} (h : R F v (Sm.nam w)) : R F v (Tp.mk [w]) := h
end
end PG

set_option Elab.async false
set_option linter.all false
set_option maxRecDepth 100000
set_option maxHeartbeats 4000000
namespace PG
open PySem PySem.Spec PyProof.Rows L2
open PySem.W (T3 T4 Datum DatumOrd Holds HoldAll EachIs)
variable {K0 : PySem.W.Frag} [KF K0]
/-! ### dict(a list of pairs), the keys tuples -/
def mergeT (kvs more : List (List Key × V)) : List (List Key × V) := more.foldl (fun m q => putK m q.1 q.2) kvs
theorem mergeT_kt {H : Hp} {kvs : List (List Key × V)} {xs : List (List Key × Addr × Value)} (r : KT H kvs xs) : ∀ {m : List (List Key × V)} {ms : List (List Key × Addr × Value)}, KT H m ms →
    KT H (mergeT m kvs) (storedAllH ms xs) := by
  induction r with
  | nil => intro m ms h; exact h
  | @cons p q ps qs h t ih =>
    intro m ms hm
    obtain ⟨e, hb, rv⟩ := h
    have := ih (KT.put hm q.1 (b := q.2.1) (by rw [← e]; exact hb) rv)
    unfold mergeT storedAllH at *
    rw [List.foldl_cons, List.foldl_cons, e]
    exact this
def PairT (K : PySem.W.Frag) (H : Hp) (p : Addr × Addr) (q : List Key × V) : Prop := SqT K H p.1 [.ref p.2, q.2] ∧ H p.2 = some (.tup (q.1.map kV))
theorem kt_at {H : Hp} {kvs : List (List Key × V)} {xs : List (List Key × Addr × Value)} (r : KT H kvs xs) : ∀ x ∈ xs, H x.2.1 = some (.tup (x.1.map kV)) := by
  induction r with
  | nil => exact fun x hx => nomatch hx
  | cons h _ ih => intro x hx; rcases List.mem_cons.mp hx with rfl | hx; · rw [← h.1]; exact h.2.1
                   · exact ih x hx
theorem ne_of_none {H : Hp} {b c : Addr} {o : HO} (e : H c = some o) (n : H b = none) : c ≠ b := fun z => by rw [z, n] at e; exact nomatch e
section
variable {X : Cx}
theorem tripT {pins : List (Addr × Obj)} {σ : L2.St} {H : Hp} {s : Shared} (I : Inv X pins σ H s) {ps : List (Addr × Addr)} {kvs : List (List Key × V)} (h : Paired (PairT X.K H) ps kvs) :
    ∃ xs : List (List Key × Addr × Value), KT H kvs xs ∧ xs.length = ps.length ∧ ∀ (j : Nat) q, xs[j]? = some q → ∃ b, ps[j]? = some b ∧ b.2 = q.2.1 ∧ IsTup s.heap b.1 #[.ref q.2.1, q.2.2] := by
  induction h with
  | nil => exact ⟨[], .nil, rfl, fun j q e => by simp at e⟩
  | @cons p kv ps' kvs' h t ih =>
    obtain ⟨xs, r, hl, hx⟩ := ih
    obtain ⟨h1, h2⟩ := h
    obtain ⟨its, rv, ht, _⟩ := I.tuple h1
    obtain ⟨u, y, ei, ru, ry⟩ := vals2 rv
    subst ei
    cases ru
    refine ⟨(kv.1, p.2, y) :: xs, .cons ⟨rfl, h2, ry⟩ r, by simp [hl], fun j q e => ?_⟩
    cases j with
    | zero =>
      have e' : (kv.1, p.2, y) = q := Option.some.inj e
      subst e'
      exact ⟨p, rfl, rfl, ht⟩
    | succ j => exact (hx j q (by simpa using e)).imp fun b z => ⟨by simpa using z.1, z.2⟩
theorem refs_pT : ∀ {ps : List (Addr × Addr)} {us : List Value}, Vals (ps.map fun p => V.ref p.1) us → us = ps.map fun p => Value.ref p.1
  | [], us, r => by rw [List.map_nil] at r; cases r; rfl
  | p :: ps, us, r => by
    rw [List.map_cons] at r
    cases r with
    | cons h t => cases h; rw [List.map_cons, ← refs_pT t]
theorem call_dictT (hcalm : X.calm = true) (hu : X.A.units + 64 < cLine) : CallR X (.type "dict") (fun xs H Q => ∃ (a : Addr) (ps : List (Addr × Addr)) (kvs : List (List Key × V)), xs = [.ref a] ∧
    SqL X.K H a (ps.map fun p => V.ref p.1) ∧ Paired (PairT X.K H) ps kvs ∧ ∀ p, H p = none → Q (.ref p) (upd H p (.dT (mergeT [] kvs)))) := by
  intro pins s σ H zs us Q I r q
  obtain ⟨a, ps, kvs, ez, hq, hp, q⟩ := q
  subst ez
  obtain ⟨u, eu, rx⟩ := vals1 r
  subst eu
  cases rx
  obtain ⟨its, rv, pl, hz⟩ := I.list hq
  have ei := refs_pT rv
  subst ei
  obtain ⟨xs, rel, hl, hx⟩ := tripT I hp
  obtain ⟨o, n, ho, hc, hd, hdat⟩ := pl
  have hz' : ps.length ≤ sizeLine := by simpa using hz
  have hkey : ∀ x ∈ xs, (tupleKind (mixKind X.prog X.w)).is s.heap x.1 x.2.1 := fun x hxm => key_of I.hok (kt_at rel x hxm)
  have hps : ∀ (j : Nat) (k v : Value), (xs.map fun x => (Value.ref x.2.1, x.2.2))[j]? = some (k, v) → ∃ q, xs[j]? = some q ∧ k = .ref q.2.1 ∧ v = q.2.2 := fun j k v e => by
    rw [List.getElem?_map] at e
    cases hq' : xs[j]? with
    | none => rw [hq'] at e; exact nomatch e
    | some q' => rw [hq'] at e; cases e; exact ⟨q', rfl, rfl, rfl⟩
  refine call_dict_pairsH (knd := tupleKind (mixKind X.prog X.w)) (ps := xs)
    (PairArg.list a _ (fun j => ((ps[j]?).map (·.1)).getD 0) (xs.map fun x => (Value.ref x.2.1, x.2.2))) (I.ok.hd hcalm) (show X.A.units + 1 + 1 < cLine by omega)
    ⟨⟨o, n, ho, hc, hd, hdat⟩, ⟨by simp [hl], fun j k v e => ?_⟩⟩ ⟨by simp, fun i k v e => ?_⟩ (fun h' hk x hxm => ?_) (by simpa [hl] using hz') fun h' tk hd' hk => ?_
  · obtain ⟨q', e1, rfl, rfl⟩ := hps j k v e
    obtain ⟨b, e2, _, ht⟩ := hx j q' e1
    have e3 : ((ps[j]?).map (·.1)).getD 0 = b.1 := by rw [e2]; rfl
    show _ ∧ PairAt s.heap (((ps[j]?).map (·.1)).getD 0) _ _
    rw [e3]
    exact ⟨by show _ = some (Value.ref (((ps[j]?).map (·.1)).getD 0)); rw [e3]; simp [e2], .inl ht⟩
  · obtain ⟨q', e1, rfl, rfl⟩ := hps i k v e
    exact ⟨q'.1, q'.2.1, e1, rfl⟩
  · obtain ⟨o', its', n', h1, h2⟩ := hkey x hxm
    exact ⟨o', its', n', hk _ _ (Nat.ne_of_lt (Heap.lt_size h1)) (fun z => nomatch z) h1, h2⟩
  · have hm : (s.heap.objs.size == sysModules) = false := beq_eq_false_iff_ne.mpr (Nat.ne_of_gt I.big)
    have hlen : (mergeT [] kvs).length ≤ sizeLine := by
      have h1 := Paired.length (mergeT_kt rel (m := []) (ms := []) .nil)
      have h2 := storedAllH_length xs ([] : List (List Key × Addr × Value))
      rw [List.length_nil, Nat.zero_add] at h2
      rw [h1]
      exact Nat.le_trans h2 (by rw [hl]; exact hz')
    obtain ⟨q', es, ep, g1, g2, g3, g4, _, g5⟩ := hd'
    refine ⟨.ref s.heap.objs.size, upd H s.heap.objs.size (.dT (mergeT [] kvs)), I.laid (t' := tk) (fun b o' e => hk b o' (fun z => nomatch z) e) (Nat.le_refl _) ⟨hlen, hm, _, (mergeT_kt rel .nil).keeps fun c ys ec => ?_, q', es, ep, g1, g2, g3, g4, g5⟩,
      rfl, q _ (I.hok.fresh (Nat.le_refl _))⟩
    rw [upd_ne (ne_of_none ec (I.hok.fresh (Nat.le_refl _)))]
    exact ec
end
section
variable {β : Type} [Py β] {F H : Hp}
def mergeDT (xs : List ((Int × Int) × β)) : List ((Int × Int) × β) := xs.foldl (fun m p => dPut m p.1 p.2) []
theorem mergeT_rd {kvs : List (List Key × V)} {xs : List ((Int × Int) × β)} (hs : RD F kvs xs) : ∀ {m : List (List Key × V)} {ms : List ((Int × Int) × β)}, RD F m ms → RD F (mergeT m kvs) (xs.foldl (fun m p => dPut m p.1 p.2) ms) := by
  induction hs with
  | nil => intro m ms h; exact h
  | @cons k v y kvs xs hv _ ih =>
    intro m ms h
    exact ih (h.put k hv)
theorem pairsT_of_rl {K : PySem.W.Frag} (s : Same F H) : ∀ {vs : List V} {xs : List ((Int × Int) × β)}, RL F vs xs → ∃ (ps : List (Addr × Addr)) (kvs : List (List Key × V)),
    vs = (ps.map fun p => V.ref p.1) ∧ Paired (PairT K H) ps kvs ∧ RD F kvs xs
  | _, [], h => ⟨[], [], RL.nil_ h, .nil, .nil⟩
  | _, x :: xs, h => by
    obtain ⟨w, ws, rfl, h1, h2⟩ := RL.cons_ h
    obtain ⟨ps, kvs, e, hp, hr⟩ := pairsT_of_rl (K := K) s h2
    obtain ⟨p, v1, v2, rfl, hp1, h3, h4⟩ := R.t2_ h1
    obtain ⟨b, w1, w2, rfl, hb, h5, h6⟩ := R.t2_ h3
    rw [R.int_ h5, R.int_ h6] at hb
    exact ⟨(p, b) :: ps, ([.inl x.1.1, .inl x.1.2], v2) :: kvs, by rw [e]; rfl, .cons ⟨SqT.of (s _ _ hp1), s _ _ hb⟩ hp, .cons (k := x.1) h4 hr⟩
end
/-! ### max and min of a list -/
def mxI : List Int → Option Int
  | [] => none
  | x :: xs => match mxI xs with
    | none => some x
    | some m => some (if m < x then x else m)
def mnI : List Int → Option Int
  | [] => none
  | x :: xs => match mnI xs with
    | none => some x
    | some m => some (if x < m then x else m)
theorem mxI_none : ∀ {xs : List Int}, mxI xs = none → xs = []
  | [], _ => rfl
  | x :: xs, h => by
    unfold mxI at h
    cases e : mxI xs <;> rw [e] at h <;> exact nomatch h
theorem mnI_none : ∀ {xs : List Int}, mnI xs = none → xs = []
  | [], _ => rfl
  | x :: xs, h => by
    unfold mnI at h
    cases e : mnI xs <;> rw [e] at h <;> exact nomatch h
theorem mxI_is : ∀ {xs : List Int} {m : Int}, mxI xs = some m → m ∈ xs ∧ ∀ y ∈ xs, y ≤ m
  | [], _, h => nomatch h
  | x :: xs, m, h => by
    unfold mxI at h
    cases e : mxI xs with
    | none =>
      rw [e] at h
      cases h
      rw [mxI_none e]
      exact ⟨List.mem_cons_self, fun y hy => by rw [List.mem_singleton.mp hy]; exact Int.le_refl _⟩
    | some n =>
      rw [e] at h
      obtain ⟨h1, h2⟩ := mxI_is e
      have h : (if n < x then x else n) = m := Option.some.inj h
      by_cases z : n < x
      · rw [if_pos z] at h
        subst h
        refine ⟨List.mem_cons_self, fun y hy => ?_⟩
        rcases List.mem_cons.mp hy with hy | hy
        · omega
        · have := h2 y hy; omega
      · rw [if_neg z] at h
        subst h
        refine ⟨List.mem_cons_of_mem _ h1, fun y hy => ?_⟩
        rcases List.mem_cons.mp hy with hy | hy
        · omega
        · exact h2 y hy
theorem mnI_is : ∀ {xs : List Int} {m : Int}, mnI xs = some m → m ∈ xs ∧ ∀ y ∈ xs, m ≤ y
  | [], _, h => nomatch h
  | x :: xs, m, h => by
    unfold mnI at h
    cases e : mnI xs with
    | none =>
      rw [e] at h
      cases h
      rw [mnI_none e]
      exact ⟨List.mem_cons_self, fun y hy => by rw [List.mem_singleton.mp hy]; exact Int.le_refl _⟩
    | some n =>
      rw [e] at h
      obtain ⟨h1, h2⟩ := mnI_is e
      have h : (if x < n then x else n) = m := Option.some.inj h
      by_cases z : x < n
      · rw [if_pos z] at h
        subst h
        refine ⟨List.mem_cons_self, fun y hy => ?_⟩
        rcases List.mem_cons.mp hy with hy | hy
        · omega
        · have := h2 y hy; omega
      · rw [if_neg z] at h
        subst h
        refine ⟨List.mem_cons_of_mem _ h1, fun y hy => ?_⟩
        rcases List.mem_cons.mp hy with hy | hy
        · omega
        · exact h2 y hy
theorem mxI_uq {xs : List Int} {m n : Int} (h : mxI xs = some m) (h1 : n ∈ xs) (h2 : ∀ y ∈ xs, y ≤ n) : m = n := by
  have a := mxI_is h
  have b := a.2 n h1
  have c := h2 m a.1
  omega
theorem mnI_uq {xs : List Int} {m n : Int} (h : mnI xs = some m) (h1 : n ∈ xs) (h2 : ∀ y ∈ xs, n ≤ y) : m = n := by
  have a := mnI_is h
  have b := a.2 n h1
  have c := h2 m a.1
  omega
section
variable {X : Cx} {K : PySem.W.Frag}
theorem cr_maxK (hc : X.calm = true) (h : X.K = K) : CallR X (.builtin "max") (rMax K) := by rw [← h]; exact cr_max hc
theorem cr_minK (hc : X.calm = true) (h : X.K = K) : CallR X (.builtin "min") (rMin K) := by rw [← h]; exact cr_min hc
end
end PG

set_option Elab.async false
set_option linter.all false
set_option maxRecDepth 100000
set_option maxHeartbeats 4000000
namespace PG
open PySem PySem.Spec PyProof.Rows L2
open PySem.W (T3 T4 Datum DatumOrd Holds HoldAll EachIs)
variable {K0 : PySem.W.Frag} [KF K0]
/-! ### an exception that was caught and is kept: tracked from then on -/
def excAt (cls : Value) (d : Option Addr) (a : Addr) : Heap → Prop := fun h => ∃ o vs, h.get? a = some o ∧ Zc cls d o ∧ o.data = .fields vs
def excO (cls : Value) (d : Option Addr) (a : Addr) : HO := .ext (excAt cls d a)
section
variable {X : Cx} {pins : List (Addr × Obj)} {σ : L2.St} {H : Hp} {s : Shared}
theorem adopt {a : Addr} {cls : Value} {d : Option Addr} (I : L2.Inv X pins σ H s) (ha : H a = none) (hp : excAt cls d a s.heap) (h0 : X.s_0.heap.get? a = none) (nL : a ≠ X.env.locals) (np : ∀ p ∈ X.pn ++ pins, p.1 ≠ a) :
    L2.Inv X pins σ (upd H a (excO cls d a)) s := by
  obtain ⟨o, vs, ho, hz, hd⟩ := id hp
  have keep : ∀ {b : Addr} {u : HO}, H b = some u → upd H a (excO cls d a) b = some u := fun {b u} q => (upd_ne (ne_of_none q ha)).trans q
  have bare : ∀ {b : Addr}, b ≠ a → H b = none → upd H a (excO cls d a) b = none := fun {b} z q => (upd_ne z).trans q
  refine ⟨I.ok, I.os, I.bare, ⟨I.base.keep, I.base.slot, fun b u q n hx => bare (fun z => ?_) (I.base.free b u q n hx), I.base.there, fun b xs q => keep (I.base.tups b xs q), fun b u v q => keep (I.base.frzs b u v q), fun b ps q => ?_⟩, I.loc, I.cell, bare (Ne.symm nL) I.free, fun y k e => bare (fun z => ?_) (I.freeC y k e), fun p hq => ?_, ?_, I.len⟩
  · rw [z, h0] at q; exact nomatch q
  · obtain ⟨more, r⟩ := I.base.tbls b ps q
    exact ⟨more, keep r⟩
  · obtain ⟨v, w, hw, hv⟩ := I.cell y k e
    rw [z, ho] at hw
    cases hw
    rw [hd] at hv
    exact nomatch hv
  · obtain ⟨q1, q2, q3⟩ := I.pin p hq
    exact ⟨q1, bare (np p hq) q2, q3⟩
  · exact L2.HOk.laidN I.hok (fun _ _ q => q) ha ⟨hp, ⟨o, ho⟩, fun g1 g2 x k => x.imp fun o' y => y.imp fun vs' z => ⟨k _ z.1, z.2⟩⟩
end
/-- what the clause 'except x as n', whose suite keeps the exception, wishes -/
def wKeep (K : PySem.W.Frag) (c : Value) (i : Nat) (ts : Addr → TS) (out : WX) (D : Ends) : WX := fun cls d σ H =>
  ∃ b, PySem.W.exmOne K cls c = some b ∧ (b = true → ∀ a, H a = none → ts a { nx := fun σ' H' => D.nx (σ'.set i none) (upd H' a (excO cls d a)), rt := fun _ _ => False, bk := fun _ _ => False, ct := fun _ _ => False } (σ.set i (some (.ref a))) H) ∧ (b = false → out cls d σ H)
section
variable {X : Cx} {x n : Str} {c : Value} {i : Nat} {body suite : List Stmt} {b1 : Stmt} {np q1 q2 : Pos} {tb : WX → TS} {ts : Addr → TS} {out : WX}
theorem ps_try_keep (hs : X.stack = X.env :: X.outer) (hf : X.env.frame = some X.env.locals) (hex : X.ex = []) (hN : X.N.Nodup) (hi : X.N[i]? = some n) (hl : X.env.kindOf n = some .local) (hc : Names X x c) (tk : Takes X out)
    (hb : ∀ (W : WX) (pn : List (Addr × Obj)) (xe : Value → Shared → Prop), Takes (X.tr pn xe) W → PassesOwn (model X.prog X.w) X.A X.env xe → PSs (X.tr pn xe) body (tb W))
    (hsu : ∀ (a : Addr) (o : Obj) (pn : List (Addr × Obj)), PSs (X.suite a ((a, o) :: pn)) (b1 :: suite) (ts a)) :
    PS X (.Try body [.ExceptHandler (some (.Name x np)) (some n) (b1 :: suite) q1] [] [] q2) (fun D σ H => tb (wKeep X.K c i ts out D) D σ H) := by
  refine ⟨fun pins s σ H D I wish => wpAny_Try_except ?_⟩
  have ok := I.ok
  have hfr : X.A.frames = some (X.env :: X.outer) := ok.frames.trans (by rw [hs])
  have run := (hb (wKeep X.K c i ts out D) (X.pn ++ pins) (fun e g1 => wpAny (model X.prog X.w) X.A (noteFrame e X.env) (fun _ g2 => wpAny (model X.prog X.w) X.A (setFlight e none)
    (fun _ g3 => wpAny (model X.prog X.w) X.A (handleBy e X.env [.ExceptHandler (some (.Name x np)) (some n) (b1 :: suite) q1]) (SP X pins D) X.xe g3) X.xe g2) X.xe g1)
    (fun u g ⟨a, B, sI, ps, τ, G, cls, d, eu, J0, nb, up, sky, na, eos, ag, b, hb1, yes, no⟩ => by
      subst eu
      have J : L2.Inv X pins τ G sI := J0.ofTry ok
      show wpAny (model X.prog X.w) X.A (noteFrame (.ref a) X.env) _ _ _
      refine Sky.land Zc.steady hfr hf (show Sky B (X.env :: X.outer) a (Zc cls d) X.env.locals g.heap by rw [← hs]; exact sky) fun k1 fl1 up1 => ?_
      have J1 : L2.Inv X pins τ G { g with heap := k1 } := J.landed nb fl1.1 (up.trans up1) eos ag
      obtain ⟨o1, vs1, ho1, hz1, hd1⟩ := fl1.there
      have off : a ∉ frs (X.env :: X.outer) := fun hm => by
        obtain ⟨_, o', eo, hnf⟩ := fl1.2.2.1.mem hm
        rw [ho1] at eo
        cases eo
        exact hnf _ hd1
      have nL : a ≠ X.env.locals := fun z => off (List.mem_filterMap.mpr ⟨X.env, List.mem_cons_self, by rw [hf, z]⟩)
      have nF : a ∉ X.fs := fun hm => by
        obtain ⟨e, he, q⟩ := List.mem_filterMap.mp hm
        exact off (List.mem_filterMap.mpr ⟨e, List.mem_cons_of_mem _ he, q⟩)
      have young : ∀ o, sI.heap.get? a ≠ some o := fun o q => by
        have z := nb a o q (by rw [hs]; exact off)
        rw [fl1.2.1] at z
        exact nomatch z
      have h0 : X.s_0.heap.get? a = none := by
        cases q : X.s_0.heap.get? a with
        | none => rfl
        | some o =>
          obtain ⟨o', z⟩ := J.base.there a o q (by rw [hex]; exact fun z => nomatch z)
          exact (young _ z).elim
      have offp : ∀ p ∈ X.pn ++ pins, p.1 ≠ a := fun p hp z => young p.2 (by rw [← z]; exact (J.pin p hp).1)
      have S1 := J1.suite ho1 hd1 na nL nF
      refine wpAny_handleBy_cons (codeAny_handlers_test ?_) (fun q => nomatch q)
      have look : PySem.W.Looks (model X.prog X.w) k1 (typeOf (.ref a)) cls := fun _ _ _ _ k q => wpAny_typeOf_ref (k _ _ ho1) (by rw [hz1.1]; exact q)
      have match_ := PySem.W.exm_one (M := model X.prog X.w) J1.kIn look hb1
      have named : ∀ {Q : Value → Shared → Prop} {E : Value → Shared → Prop}, Q c { g with heap := k1 } → wpAny (model X.prog X.w) (X.A.mark (some (.ref a))) (eval (.Name x np) X.env) Q E { g with heap := k1 } := fun {Q E} q => by
        obtain ⟨hg, hdbg, hm | ⟨hm, hv, hnn⟩⟩ := hc
        · exact ld_glob (X := X.suite a ((a, o1) :: (X.pn ++ pins))) S1 hg hm q hdbg
        · exact ld_blt (X := X.suite a ((a, o1) :: (X.pn ++ pins))) S1 hg hm hv q hnn hdbg
      refine named (match_.here ?_)
      cases b with
      | true =>
        refine codeAny_handlers_suite_as (HandSPX.lands_againZ fl1 fun k2 fl2 up2 => ?_)
        have J2 : L2.Inv X pins τ G { g with heap := k2 } := J.landed nb fl2.1 ((up.trans up1).trans up2) eos ag
        obtain ⟨o2, vs2, ho2, hz2, hd2⟩ := fl2.there
        refine store_ok (X := X.suite a ((a, o2) :: (X.pn ++ pins))) (v := .ref a) (J2.suite ho2 hd2 na nL nF) hN hi (.inl hl) rfl (fun g5 S5 => ?_) (.inr hl)
        refine wpAny_mono ((hsu a o2 (X.pn ++ pins)).run [] g5 _ G _ S5 (yes rfl a na)) (fun f g6 hsp => ?_) (fun _ _ z => z.elim)
        cases f with
        | next =>
          obtain ⟨τ6, G6, S6, q6⟩ := hsp
          refine gone_ok (X := X.suite a ((a, o2) :: (X.pn ++ pins))) S6 hN hi hl fun g7 S7 => ?_
          obtain ⟨hget, hn7, _⟩ := S7.pin (a, o2) (List.mem_append_left _ List.mem_cons_self)
          exact ⟨_, _, adopt (S7.unsuite ok) hn7 ⟨o2, vs2, hget, hz2, hd2⟩ h0 nL offp, q6⟩
        | brk => obtain ⟨_, _, _, q6⟩ := hsp; exact q6.elim
        | cont => obtain ⟨_, _, _, q6⟩ := hsp; exact q6.elim
        | ret u => obtain ⟨_, _, _, _, _, q6⟩ := hsp; exact q6.elim
      | false =>
        refine wpAny_handleBy_nil ?_
        obtain ⟨_, _, _, o3, vs3, T, oT, ts3, he, hz, hd, h1, hr⟩ := id fl1
        unfold PySem.passOn
        refine wpAny_bind (wpAny_field he hd h1 ?_)
        rw [if_neg (by simp : ¬ ((Value.ref T == Value.none) = true))]
        have up_ : wpAny (model X.prog X.w) X.A (setFlight (.ref a) X.env.frame) (fun _ g4 => wpAny (model X.prog X.w) X.A (throw (.ref a) : Sem Flow) (SP X pins D) X.xe g4) X.xe { g with heap := k1 } := by
          rw [hf]
          exact HandSPX.setFlight_upZ fl1 fun k2 fl2 up2 => wpAny_throw (tk _ _ ⟨a, B, sI, pins, τ, G, cls, d, rfl, J, nb, (up.trans up1).trans up2, .inr (.inr (by rw [hs]; exact fl2)), na, eos, ag, no rfl⟩)
        first
          | exact wpAny_bind up_
          | exact wpAny_bind (wpAny_pure (wpAny_bind up_)))
    PassesOwn.looking).run [] s σ H D (I.toTry _) wish
  refine wpAny_mono run (fun f g hsp => ?_) (fun _ _ z => z)
  cases f with
  | next => obtain ⟨τ, G, J, q⟩ := hsp; exact wpAny_execs_nil ⟨τ, G, J.ofTry ok, q⟩
  | brk => obtain ⟨τ, G, J, q⟩ := hsp; exact ⟨τ, G, J.ofTry ok, q⟩
  | cont => obtain ⟨τ, G, J, q⟩ := hsp; exact ⟨τ, G, J.ofTry ok, q⟩
  | ret u => obtain ⟨v, τ, G, J, r, q⟩ := hsp; exact ⟨v, τ, G, J.ofTry ok, r, q⟩
end
/-! ### isinstance of what was caught -/
section
variable {X : Cx}
theorem inst_of {a D : Addr} {h : Heap} (x : excAt (.ref D) none a h) : ∃ o, PySem.W.InstAt h a o D none := by
  obtain ⟨⟨oc, od, oda, osl⟩, vs, hg, ⟨h1, h2⟩, h3⟩ := x
  dsimp only at h1 h2 h3
  subst h1 h2 h3
  exact ⟨_, hg, rfl, rfl, trivial⟩
/-- whose class is t: what was caught, or a value of a built-in type -/
inductive KX (K : PySem.W.Frag) (H : Hp) : V → Value → Prop where
  | exc {a D : Addr} (e : H a = some (excO (.ref D) none a)) (c : ExcC K D) : KX K H (.ref a) (.ref D)
  | base {x : V} {t : Value} (h : TyX K H x t) : KX K H x t
theorem kx_of {pins : List (Addr × Obj)} {σ : L2.St} {H : Hp} {s : Shared} {x : V} {u t : Value} (I : L2.Inv X pins σ H s) (rx : RelV x u) (k : KX X.K H x t) : ∃ P : Heap → Prop, PySem.W.KitX X.K u t P ∧ P s.heap ∧ u ≠ .builtin "__main__.__loader__#opaque" := by
  cases k with
  | @exc a D e C =>
    cases (show u = Value.ref a from rx)
    obtain ⟨o, J⟩ := inst_of (show excAt (.ref D) none a s.heap from (I.hok a _ e).1)
    exact ⟨_, PySem.W.handS_kitx_exc C.hg C.hk C.hs C.hd C.ha C.hn C.ht C.hm, J, fun z => nomatch z⟩
  | base h => exact kit_of I rx h
def rIsU (K : PySem.W.Frag) : List V → Hp → VK → Prop := fun xs H Q => ∃ (x c : V) (t u : Value) (b : Bool), xs = [x, c] ∧ ClsV c u ∧ KX K H x t ∧ PySem.W.kitOne K t u = some b ∧ Q (.bl b) H
theorem isuK {K : PySem.W.Frag} (hK : X.K = K) : CallR X (.builtin "isinstance") (rIsU K) := by
  subst hK
  intro pins s σ H xs us Q I r ⟨x, c, t, u, b, ex, hc, k, e, q⟩
  subst ex
  obtain ⟨u1, u2, rfl, r1, r2⟩ := vals2 r
  cases hc.eq r2
  obtain ⟨P, Z, p, hx⟩ := kx_of I r1 k
  exact PySem.W.kia_one Z I.kIn p e hx fun tk => ⟨.bl b, H, I.tok tk, rfl, q⟩
def rIsUT (K : PySem.W.Frag) : List V → Hp → VK → Prop := fun xs H Q => ∃ (x : V) (tp : Addr) (cs : List V) (t : Value) (ws : List Value) (b : Bool), xs = [x, .ref tp] ∧ H tp = some (.tup cs) ∧ Paired ClsV cs ws ∧ KX K H x t ∧ PySem.W.kitAny K t ws = some b ∧ Q (.bl b) H
theorem isutK {K : PySem.W.Frag} (hK : X.K = K) : CallR X (.builtin "isinstance") (rIsUT K) := by
  subst hK
  intro pins s σ H xs us Q I r ⟨x, tp, cs, t, ws, b, ex, hT, hc, k, e, q⟩
  subst ex
  obtain ⟨u1, u2, rfl, r1, r2⟩ := vals2 r
  cases (show u2 = Value.ref tp from r2)
  obtain ⟨P, Z, p, hx⟩ := kx_of I r1 k
  obtain ⟨_, its, rv, ⟨oc, od, dt, sl⟩, h1, h2, n, h3⟩ := (show ObjOk X.prog X.w H s.heap tp (.tup cs) from I.hok tp _ hT)
  have e3 := ClsV.all hc rv
  subst e3
  dsimp only at h2 h3
  subst h2 h3
  exact PySem.W.kia_tup Z I.kIn p h1 e hx fun tk => ⟨.bl b, H, I.tok tk, rfl, q⟩
end
theorem kit_own {K : PySem.W.Frag} {t : Value} {C : Addr} {b : Bool} (hd : PySem.W.hasDictIn K C = true) (ht : PySem.W.typeIn K (.ref C) = some (.type "type")) (hs : PySem.W.subIn K t (.ref C) = some b) (ho : PySem.W.subIn K (.ref C) (.ref C) = some true) : PySem.W.kitOne K t (.ref C) = some b := by
  obtain ⟨cd, hc, _⟩ := PySem.W.any_some hd
  unfold PySem.W.kitOne PySem.W.kitCls
  by_cases z : (t == .ref C) = true
  · rw [if_pos z]
    have z := beq_iff_eq.mp z
    subst z
    exact ho.symm.trans hs
  · rw [if_neg z]
    show (if ((PySem.W.clsIn K C).isSome && PySem.W.typeIn K (.ref C) == some (.type "type")) = true then _ else _) = _
    rw [if_pos (by rw [hc, ht]; rfl)]
    exact hs
theorem kit_blt {K : PySem.W.Frag} {D : Addr} {T : String} {b : Bool} (hm : PySem.W.kitMeta T = true) (hs : PySem.W.subIn K (.ref D) (.type T) = some b) : PySem.W.kitOne K (.ref D) (.type T) = some b := by
  unfold PySem.W.kitOne PySem.W.kitCls
  rw [if_neg (by simp)]
  show (if PySem.W.kitMeta T = true then _ else _) = _
  rw [if_pos hm]
  exact hs
theorem any_no {K : PySem.W.Frag} {t c : Value} {cs : List Value} {r : Bool} (h : PySem.W.kitOne K t c = some false) (hr : PySem.W.kitAny K t cs = some r) : PySem.W.kitAny K t (c :: cs) = some r := kitAny_cons h (fun _ => hr) fun z => nomatch z
theorem any_yes {K : PySem.W.Frag} {t c : Value} {cs : List Value} (h : PySem.W.kitOne K t c = some true) : PySem.W.kitAny K t (c :: cs) = some true := kitAny_cons h (fun z => nomatch z) fun _ => rfl
/-! ### a call within a try -/
def tCallW (sp : Sp) (W : WX) (t : TA) : TE := fun σ H Q => t σ H fun vs H1 => sp vs H1 Q fun cls d H' => W cls d σ H'
theorem pe_callW {X : Cx} {k : Nat} {f : Addr} {fd : FuncData} {ps : List Str} {sp : Sp} {W : WX} {x : Str} {p pos : Pos} {e : Expr} {es : List Expr} {t : TA} (F : FnOk X.prog X.w X.K X.mg X.base (L2.CX X.prog X.w) k f fd ps sp) (hr : Room k X.A) (hg : Gl X x) (hm : X.mg x = some (.ref f)) (hk : PySem.W.keepIn X.K (.ref f) = true) (hb : Binds X.K fd ps [])
    (tk : Takes X W) (ha : PA X (e :: es) t) (hdb : (x == ("__debug__" : Str)) = false := by decide) (he : starEach (e :: es) X.env = (false, eval e X.env) :: starEach es X.env := by rfl) (hpl : (backTo pos (starEach es X.env)).any (·.1) = false := by rfl) :
    PE X (.Call (.Name x p) (e :: es) [] pos) (tCallW sp W t) := by
  refine ⟨fun pins s σ H Q I h => wpAny_Call_Name_kw (ld_glob I hg hm ?_ hdb)⟩
  refine PySem.W.callWith_K (h₀ := X.base) I.ok.mod.kin hk (thn (ha.run pos pins s σ H _ I h) fun us g ⟨vs, G, J, r, q⟩ => ⟨J.kIn, ?_⟩) he hpl
  have hl : us.length = ps.length := by rw [← r.length]; exact F.len _ _ _ _ q
  refine wpAny_call (codeAny_mono (F.run X.A X.stack g G ⟨us, []⟩ us vs Q (fun cls d H' => W cls d σ H') hr J.env0 (by have := hb g us J.kIn (by simpa using hl); simpa using this) r q) fun res g' hq => ?_)
  cases res with
  | error z => exact tk _ _ (XE.of_call J (fun _ _ _ h => h) hq)
  | ok fl =>
    cases fl with
    | ret u => exact J.after hq
    | next => exact hq.elim
    | brk => exact hq.elim
    | cont => exact hq.elim
/-- try: m, except one of those of L: k1, else k0 -/
def tryK {a : Type} (L : List String) (m : M Unit) (k0 : M a) (k1 : String → M a) : M a := match m with
  | .ok _ => k0
  | .error .bad => bad
  | .error (.exc n) => if n ∈ L then k1 n else bad
theorem wp_tryK {b : Type} {L : List String} {m : M Unit} {k0 : M b} {k1 : String → M b} {Q : b → Prop} {E : String → Prop} (h : wp (tryK L m k0 k1) Q E) : wp m (fun _ => wp k0 Q E) fun n => n ∈ L ∧ wp (k1 n) Q E := by
  cases m with
  | ok x => exact h
  | error e =>
    cases e with
    | bad => exact h
    | exc n =>
      by_cases z : n ∈ L
      · have e : tryK L (.error (.exc n)) k0 k1 = k1 n := if_pos z
        rw [e] at h
        exact ⟨z, h⟩
      · have e : tryK L (.error (.exc n)) k0 k1 = bad := if_neg z
        rw [e] at h
        exact h.elim
theorem wp_okE {a : Type} {x : a} {Q : a → Prop} {E : String → Prop} (h : wp (.ok x : M a) Q E) : Q x := h
theorem Ow.exc {Z : Ent} {F H H1 : Hp} {cs : List (Addr × HO)} (O : Ow Z F cs H) (k : Kp [] H H1) : Ow Z F cs H1 where
  g := {
    f := O.g.f
    s := fun b o e => k.k b o (fun z => nomatch z) (O.g.s b o e)
    k := fun b o hb e => k.k b o (fun z => nomatch z) (O.g.k b o hb e)
    t := fun b h => k.t b (O.g.t b h)
    n := O.g.n
    u := fun b xs e => by
      cases q : H b with
      | none =>
        left
        cases z : Z.H b with
        | none => rfl
        | some o => exact (O.g.t b (by rw [z]; exact fun w => nomatch w) q).elim
      | some o =>
        have := k.k b o (fun z => nomatch z) q
        rw [e] at this
        cases this
        exact O.g.u b xs q }
  cf := O.cf
  ch := fun c hc => k.k _ _ (fun z => nomatch z) (O.ch c hc)
  nd := O.nd
  ca := O.ca
  nt := O.nt
theorem mem1 {n a : String} (h : n ∈ [a]) : n = a := List.mem_singleton.mp h
theorem mem2 {n a b : String} (h : n ∈ [a, b]) : n = a ∨ n = b := by simpa using h
/-! ### lists of truths: count, index -/
theorem RL.bools {H : Hp} : ∀ {vs : List V} {xs : List Bool}, RL H vs xs → vs = xs.map V.bl
  | _, [], h => RL.nil_ h
  | _, x :: xs, h => by
    obtain ⟨w, ws, rfl, h1, h2⟩ := RL.cons_ h
    rw [R.bl_ h1, RL.bools h2]
    rfl
def cntB (k : Bool) : List Bool → Int
  | [] => 0
  | y :: r => (if y = k then 1 else 0) + cntB k r
theorem cnt_in (k : Bool) : ∀ bs : List Bool, PySem.Spec.countIn (.bool k) (bs.map PyData.bool) = cntB k bs
  | [] => rfl
  | b :: bs => by
    show (if same (PyData.bool b) (PyData.bool k) = true then (1 : Int) else 0) + PySem.Spec.countIn _ _ = _
    rw [cnt_in k bs]
    cases b <;> cases k <;> rfl
theorem bools_vals : ∀ {bs : List Bool} {its : List Value}, Vals (bs.map V.bl) its → its = bs.map Value.bool
  | [], its, r => by rw [List.map_nil] at r; cases r; rfl
  | b :: bs, its, r => by
    rw [List.map_cons] at r
    cases r with
    | cons h t => cases h; rw [List.map_cons, ← bools_vals t]
theorem reads_bools {hp : Heap} : ∀ bs : List Bool, ReadsAll hp (bs.map Value.bool) (bs.map PyData.bool) []
  | [] => .nil
  | b :: bs => .cons (as := []) (bs := []) (.bool b) (reads_bools bs)
def rCntB (K : PySem.W.Frag) : V → List V → Hp → VK → Prop := fun x xs H Q => ∃ (a : Addr) (bs : List Bool) (k : Bool), x = .ref a ∧ xs = [.bl k] ∧ SqL K H a (bs.map V.bl) ∧ Q (.int (cntB k bs)) H
theorem countBK {X : Cx} {K : PySem.W.Frag} (hK : X.K = K) : MtR X "list.count" (rCntB K) := by
  subst hK
  intro pins s σ H x xs v us Q I rx r ⟨a, bs, k, ex, exs, hs, q⟩
  subst ex exs
  cases rx
  obtain ⟨u, rfl, ru⟩ := vals1 r
  cases ru
  obtain ⟨its, rv, pl, _⟩ := I.list hs
  cases bools_vals rv
  refine count_list_bools (hp := s.heap) (xs := bs.map PyData.bool) pl.isList (reads_bools bs) (List.all_eq_true.mpr fun y hy => ?_) ?_
  · obtain ⟨b, _, rfl⟩ := List.mem_map.mp hy
    rfl
  · rw [cnt_in]
    exact ⟨.int (cntB k bs), H, I.tok _, ⟨_, rfl⟩, q⟩
def ixB (xs : List Bool) (y : Bool) : M Int := if y ∈ xs then .ok ((xs.findIdx (· == y) : Nat) : Int) else bad
theorem wp_ixB {a : Type} {Q : a → Prop} {E : String → Prop} {xs : List Bool} {y : Bool} {k : Int → M a} (h : wp (ixB xs y >>= k) Q E) : ∃ j, xs.findIdx (· == y) = j ∧ xs[j]? = some y ∧ (∀ (m : Nat) z, m < j → xs[m]? = some z → z ≠ y) ∧ wp (k (j : Int)) Q E := by
  unfold ixB at h
  by_cases hm : y ∈ xs
  · rw [if_pos hm] at h
    have hlt : xs.findIdx (· == y) < xs.length := List.findIdx_lt_length_of_exists ⟨y, hm, by simp⟩
    refine ⟨_, rfl, ?_, fun m z hmj hz e => ?_, h⟩
    · rw [List.getElem?_eq_getElem hlt]
      have := List.findIdx_getElem (w := hlt)
      rw [eq_of_beq this]
    · have := List.not_of_lt_findIdx hmj
      obtain ⟨hl, hz⟩ := List.getElem?_eq_some_iff.mp hz
      rw [hz, e] at this
      simp at this
  · rw [if_neg hm] at h; exact h.elim
theorem all_flat_bl : ∀ xs : List Bool, (xs.map V.bl).all flatV = true
  | [] => rfl
  | x :: xs => by rw [List.map_cons, List.all_cons, all_flat_bl xs]; rfl
theorem bl_noeq {xs : List Bool} {y : Bool} {j : Nat} (h : ∀ (m : Nat) z, m < j → xs[m]? = some z → z ≠ y) : ∀ (m : Nat) (z' : V), m < j → (xs.map V.bl)[m]? = some z' → eqV z' (.bl y) = false := fun m z' hm hz => by
  rw [List.getElem?_map] at hz
  cases e : xs[m]? with
  | none => rw [e] at hz; cases hz
  | some z =>
    rw [e] at hz
    have hz : V.bl z = z' := Option.some.inj hz
    subst hz
    have := h m z hm e
    revert this
    cases z <;> cases y <;> intro this <;> first | rfl | exact (this rfl).elim
theorem bl_at {xs : List Bool} {y : Bool} {j : Nat} (h : xs[j]? = some y) : (xs.map V.bl)[j]? = some (.bl y) := by rw [List.getElem?_map, h]; rfl
theorem bl_eq {y : Bool} : eqV (.bl y) (.bl y) = true := by cases y <;> rfl
/-- x in xs, of data that are no scalars -/
def inD {a : Type} [DecidableEq a] (x : a) (xs : List a) : Prop := x ∈ xs
instance {a : Type} [DecidableEq a] (x : a) (xs : List a) : Decidable (inD x xs) := @List.instDecidableMemOfLawfulBEq a instBEqOfDecidableEq _ x xs
theorem iteDx {c A B : Prop} {i : Decidable c} (h1 : c → A) (h2 : ¬ c → B) : if @decide c i = true then A else B := @iteD c A B i h1 h2
theorem iteNx {c A B : Prop} {i : Decidable c} (h1 : c → B) (h2 : ¬ c → A) : if (!@decide c i) = true then A else B := @iteN c A B i h1 h2
theorem sl43 (a b c d : V) : ¬ (HT.sIx [a, b, c, d].length 0 none = 0 ∧ HT.sIx [a, b, c, d].length [a, b, c, d].length (some (3 : Int)) = [a, b, c, d].length) := fun h => absurd h.2 (by show ¬ (HT.sIx 4 4 (some (3 : Int)) = 4); decide)
theorem dgetD_S {β : Type} [Py β] {F H : Hp} {a : Addr} {kvs : List (Key × V)} {i : Str} {xs : List (Str × β)} {z : V} {y : β} (e : Rd H a (.dK kvs)) (hr : RD F kvs xs) (hz : R F z y) : ∃ o, DGet H a (.str i) o ∧ R F (o.getD z) ((dGet xs i).getD y) := by
  refine ⟨valV kvs (.inr i), dgk (k := .inr i) e, ?_⟩
  rcases hr.get i with ⟨h1, h2⟩ | ⟨u, v, h1, h2, h3⟩
  · rw [h1, show valV kvs (.inr i) = none from h2]; exact hz
  · rw [h1, show valV kvs (.inr i) = some v from h2]; exact h3
end PG

set_option Elab.async false
set_option linter.all false
set_option maxRecDepth 100000
set_option maxHeartbeats 4000000
namespace PG
open PySem PySem.Spec PyProof.Rows L2
open PySem.W (T3 T4 Datum DatumOrd Holds HoldAll EachIs)
variable {K0 : PySem.W.Frag} [KF K0]
/-! ### a list of lists that are all ours: the outer cell and the inner ones, any number of them, behind the other cells -/
abbrev LCV := Addr × List V
def lcV (c : LCV) : Addr × HO := (c.1, .lst c.2)
def llC (p : Addr) (ps : List LCV) : List (Addr × HO) := (p, .lst (ps.map fun c => V.ref c.1)) :: ps.map lcV
/-- the inner lists stand for these -/
inductive LLR {a : Type} [Py a] (F : Hp) : List LCV → List (List a) → Prop
  | nil : LLR F [] []
  | cons {c : LCV} {xs : List a} {ps : List LCV} {p : List (List a)} : RL F c.2 xs → LLR F ps p → LLR F (c :: ps) (xs :: p)
section
variable {a : Type} [Py a] {F F' : Hp}
theorem LLR.mono {ps : List LCV} {p : List (List a)} (h : LLR F ps p) (s : Same F F') : LLR F' ps p := by
  induction h with
  | nil => exact .nil
  | cons h _ ih => exact .cons (h.mono s) ih
theorem LLR.len {ps : List LCV} {p : List (List a)} (h : LLR F ps p) : ps.length = p.length := by
  induction h with
  | nil => rfl
  | cons _ _ ih => rw [List.length_cons, List.length_cons, ih]
theorem LLR.got {ps : List LCV} {p : List (List a)} (h : LLR F ps p) : ∀ {j : Nat} {xs : List a}, p[j]? = some xs → ∃ c, ps[j]? = some c ∧ RL F c.2 xs := by
  induction h with
  | nil => intro j xs e; simp at e
  | @cons c ys ps p h _ ih =>
    intro j xs e
    cases j with
    | zero =>
      have e : ys = xs := Option.some.inj e
      subst e
      exact ⟨c, rfl, h⟩
    | succ j => exact ih e
theorem LLR.set {ps : List LCV} {p : List (List a)} (h : LLR F ps p) {w : List V} {xs : List a} (hw : RL F w xs) (q : Addr) : ∀ j : Nat, LLR F (ps.set j (q, w)) (p.set j xs) := by
  induction h with
  | nil => intro j; exact .nil
  | cons h hs ih =>
    intro j
    cases j with
    | zero => exact .cons hw hs
    | succ j => exact .cons h (ih j)
theorem LLR.snoc {ps : List LCV} {p : List (List a)} (h : LLR F ps p) {w : List V} {xs : List a} (hw : RL F w xs) (q : Addr) : LLR F (ps ++ [(q, w)]) (p ++ [xs]) := by
  induction h with
  | nil => exact .cons hw .nil
  | cons h _ ih => exact .cons h ih
end
section
variable {Z : Ent} {F H : Hp} {S : List (Addr × HO)} {p : Addr} {ps : List LCV} {c : LCV} {j : Nat}
theorem ref_set (hj : ps[j]? = some c) (w : List V) : ((ps.set j (c.1, w)).map fun c => V.ref c.1) = ps.map fun c => V.ref c.1 := by
  refine List.ext_getElem? fun i => ?_
  rw [List.getElem?_map, List.getElem?_map, List.getElem?_set]
  by_cases h : j = i
  · subst h
    rw [if_pos rfl, hj]
    rw [if_pos (List.getElem?_eq_some_iff.mp hj).1]
    rfl
  · rw [if_neg h]
theorem llC_at (hj : ps[j]? = some c) : (S ++ llC p ps)[S.length + 1 + j]? = some (c.1, .lst c.2) := by
  rw [List.getElem?_append_right (by omega)]
  show (llC p ps)[S.length + 1 + j - S.length]? = _
  rw [show S.length + 1 + j - S.length = j + 1 by omega]
  show (ps.map lcV)[j]? = _
  rw [List.getElem?_map, hj]
  rfl
theorem llC_top : (S ++ llC p ps)[S.length]? = some (p, .lst (ps.map fun c => V.ref c.1)) := by
  rw [List.getElem?_append_right (Nat.le_refl _), Nat.sub_self]
  rfl
theorem Ow.llAt (O : Ow Z F (S ++ llC p ps) H) (hj : ps[j]? = some c) : H c.1 = some (.lst c.2) := O.at _ (llC_at hj)
theorem Ow.llTop (O : Ow Z F (S ++ llC p ps) H) : H p = some (.lst (ps.map fun c => V.ref c.1)) := O.at _ llC_top
/-- one of the inner lists becomes w -/
theorem Ow.llSet (O : Ow Z F (S ++ llC p ps) H) (hj : ps[j]? = some c) (w : List V) : Ow Z F (S ++ llC p (ps.set j (c.1, w))) (upd H c.1 (.lst w)) := by
  have z := O.set (S.length + 1 + j) (.lst w) (llC_at hj)
  have e : (S ++ llC p ps).set (S.length + 1 + j) (c.1, .lst w) = S ++ llC p (ps.set j (c.1, w)) := by
    rw [List.set_append_right _ _ (by omega), show S.length + 1 + j - S.length = j + 1 by omega]
    unfold llC
    rw [ref_set hj w, List.set_cons_succ, List.map_set]
    rfl
  rw [e] at z
  exact z
/-- a new inner list goes behind -/
theorem Ow.llPush {q : Addr} {w : List V} (O : Ow Z F ((q, .lst w) :: (S ++ llC p ps)) H) : Ow Z F (S ++ llC p (ps ++ [(q, w)])) (upd H p (.lst ((ps.map fun c => V.ref c.1) ++ [V.ref q]))) := by
  have z := O.set (S.length + 1) (.lst ((ps.map fun c => V.ref c.1) ++ [V.ref q])) (show ((q, HO.lst w) :: (S ++ llC p ps))[S.length + 1]? = some (p, _) from llC_top)
  refine z.perm ?_
  have e : ((q, HO.lst w) :: (S ++ llC p ps)).set (S.length + 1) (p, .lst ((ps.map fun c => V.ref c.1) ++ [V.ref q])) = (q, HO.lst w) :: (S ++ ((p, .lst ((ps.map fun c => V.ref c.1) ++ [V.ref q])) :: ps.map lcV)) := by
    rw [List.set_cons_succ, List.set_append_right _ _ (Nat.le_refl _), Nat.sub_self]
    rfl
  rw [e]
  unfold llC
  rw [List.map_append, List.map_append]
  show ((q, HO.lst w) :: (S ++ ((p, HO.lst ((ps.map fun c => V.ref c.1) ++ [V.ref q])) :: ps.map lcV))).Perm (S ++ ((p, HO.lst ((ps.map fun c => V.ref c.1) ++ [V.ref q])) :: (ps.map lcV ++ [(q, HO.lst w)])))
  have e2 : S ++ ((p, HO.lst ((ps.map fun c => V.ref c.1) ++ [V.ref q])) :: (ps.map lcV ++ [(q, HO.lst w)])) = (S ++ ((p, HO.lst ((ps.map fun c => V.ref c.1) ++ [V.ref q])) :: ps.map lcV)) ++ [(q, HO.lst w)] := by
    rw [List.append_assoc, List.cons_append]
  rw [e2]
  exact (List.perm_append_singleton _ _).symm
/-- an empty one: a new outer list -/
theorem Ow.llNew (O : Ow Z F ((p, .lst []) :: S) H) : Ow Z F (S ++ llC p []) H := O.perm (List.perm_append_singleton _ _).symm
theorem Ow.frzM {A B : List (Addr × HO)} {b : Addr} {o : HO} (O : Ow Z F (A ++ (b, o) :: B) H) (hz : Z.H b = none) : ∃ F', Ow Z F' (A ++ B) H ∧ Same F F' ∧ F' b = some o := by
  have e : (A ++ (b, o) :: B)[A.length]? = some (b, o) := by rw [List.getElem?_append_right (Nat.le_refl _), Nat.sub_self]; rfl
  obtain ⟨F', O', s, h⟩ := O.frzE A.length e hz
  rw [List.eraseIdx_append_of_length_le (Nat.le_refl _), Nat.sub_self] at O'
  exact ⟨F', O', s, h⟩
theorem Ow.frzAll {a : Type} [Py a] : ∀ {ps : List LCV} {F : Hp} {A : List (Addr × HO)} {xs : List (List a)}, Ow Z F (A ++ ps.map lcV) H → (∀ c ∈ ps, Z.H c.1 = none) → LLR F ps xs →
    ∃ F', Ow Z F' A H ∧ Same F F' ∧ RL F' (ps.map fun c => V.ref c.1) xs
  | [], F, A, xs, O, _, r => by
    cases r
    rw [List.map_nil, List.append_nil] at O
    exact ⟨F, O, Same.refl _, RL.nil⟩
  | c :: ps, F, A, xs, O, hz, r => by
    cases r with
    | @cons _ x _ q h1 h2 =>
      obtain ⟨F1, O1, s1, g1⟩ := Ow.frzM (A := A) (B := ps.map lcV) (b := c.1) (o := .lst c.2) O (hz c List.mem_cons_self)
      obtain ⟨F2, O2, s2, r2⟩ := Ow.frzAll O1 (fun d hd => hz d (List.mem_cons_of_mem _ hd)) (h2.mono s1)
      exact ⟨F2, O2, s1.trans s2, RL.cons (R.lst (s2 _ _ g1) ((h1.mono s1).mono s2)) r2⟩
/-- all of it is read alone from now on -/
theorem Ow.llFrz {a : Type} [Py a] {xs : List (List a)} (O : Ow Z F (S ++ llC p ps) H) (hp : Z.H p = none) (hz : ∀ c ∈ ps, Z.H c.1 = none) (r : LLR F ps xs) : ∃ F', Ow Z F' S H ∧ Same F F' ∧ R F' (.ref p) xs := by
  obtain ⟨F1, O1, s1, g1⟩ := Ow.frzM (A := S) (B := ps.map lcV) (b := p) (o := .lst (ps.map fun c => V.ref c.1)) O hp
  obtain ⟨F2, O2, s2, r2⟩ := Ow.frzAll O1 hz (r.mono s1)
  exact ⟨F2, O2, s1.trans s2, R.lst (s2 _ _ g1) r2⟩
end
section
variable {a : Type} [Py a] {F : Hp}
theorem LLR.atI {ps : List LCV} {p : List (List a)} (h : LLR F ps p) {i : Int} {y : List a} (e : L2.atI p i = some y) :
    ∃ j c, L2.atI (ps.map fun c => V.ref c.1) i = some (V.ref c.1) ∧ ps[j]? = some c ∧ RL F c.2 y ∧ ixN p.length i = some j := by
  unfold L2.atI at e
  cases hx : ixN p.length i with
  | none => rw [hx] at e; exact nomatch e
  | some j =>
    rw [hx] at e
    have e : p[j]? = some y := e
    obtain ⟨c, hc, hr⟩ := h.got e
    refine ⟨j, c, ?_, hc, hr, rfl⟩
    unfold L2.atI
    rw [List.length_map, h.len, hx]
    show (ps.map fun c => V.ref c.1)[j]? = _
    rw [List.getElem?_map, hc]
    rfl
theorem zs_set {H : Hp} {ps : List LCV} {c : LCV} {j : Nat} (h : ∀ d ∈ ps, H d.1 = none) (hj : ps[j]? = some c) (w : List V) : ∀ d ∈ ps.set j (c.1, w), H d.1 = none := fun d hd => by
  rcases List.mem_or_eq_of_mem_set hd with hd | hd
  · exact h d hd
  · rw [hd]; exact h c (List.mem_of_getElem? hj)
theorem zs_snoc {H : Hp} {ps : List LCV} {q : Addr} {w : List V} (h : ∀ d ∈ ps, H d.1 = none) (hq : H q = none) : ∀ d ∈ ps ++ [(q, w)], H d.1 = none := fun d hd => by
  rcases List.mem_append.mp hd with hd | hd
  · exact h d hd
  · rw [List.mem_singleton.mp hd]; exact hq
end
/-! ### a list so many times -/
def repL {a : Type} (k : Int) (xs : List a) : List a := (List.replicate k.toNat xs).flatten
theorem RL.rep {a : Type} [Py a] {H : Hp} {vs : List V} {xs : List a} (h : RL H vs xs) (k : Int) : RL H (repL k vs) (repL k xs) := by
  unfold repL
  induction k.toNat with
  | zero => exact RL.nil
  | succ n ih =>
    rw [List.replicate_succ, List.replicate_succ, List.flatten_cons, List.flatten_cons]
    exact RL.app h ih
def CRep (n : Nat) (k : Int) : Prop := -(2 ^ 63) ≤ k ∧ k < 2 ^ 63 ∧ n * k.toNat < 16777216
instance (n : Nat) (k : Int) : Decidable (CRep n k) := by unfold CRep; infer_instance
theorem R.tpN {a : Type} [Py a] {F : Hp} {p : Addr} {vs : List V} {xs : List a} (h : F p = some (.tup vs)) (r : RL F vs xs) : R F (.ref p) (Tp.mk xs) := by
  show Rep F (.ref p) (.tuple (xs.map Py.toD))
  exact .tup (.inl h) r
/-! ### what is walked, K told outright (for comprehensions within one another) -/
section
variable {X : Cx} {K : PySem.W.Frag} {tg : Expr}
theorem piListK (h : X.K = K) {l : Expr} {tl : TE} (hl : PE X l tl) : PI X tg l (iList K tl) := by rw [← h]; exact pi_list hl
theorem piTupK (h : X.K = K) {l : Expr} {tl : TE} (hl : PE X l tl) : PI X tg l (iTup K tl) := by rw [← h]; exact pi_tup hl
theorem piEnumK (h : X.K = K) {e : Expr} {ta : TA} (hp : PI X tg e (iEnum X.K ta)) : PI X tg e (iEnum K ta) := by rw [← h]; exact hp
theorem piZipK (h : X.K = K) {e : Expr} {ta : TA} (hp : PI X tg e (iZip X.K ta)) : PI X tg e (iZip K ta) := by rw [← h]; exact hp
end
end PG

set_option Elab.async false
set_option linter.all false
set_option maxRecDepth 100000
set_option maxHeartbeats 4000000
namespace PG
open PySem PySem.Spec PyProof.Rows L2
open PySem.W (T3 T4 Datum DatumOrd Holds HoldAll EachIs)
variable {K0 : PySem.W.Frag} [KF K0]
/-! ### one of two kinds -/
inductive Un (a b : Type) where
  | l (x : a)
  | r (y : b)
  deriving DecidableEq
instance {a b : Type} [Py a] [Py b] : Py (Un a b) := ⟨fun
  | .l x => Py.toD x
  | .r y => Py.toD y⟩
section
variable {a b : Type} [Py a] [Py b] {F : Hp} {v : V}
theorem R.un_l {x : a} (h : R F v x) : R F v (Un.l x : Un a b) := h
theorem R.un_r {y : b} (h : R F v y) : R F v (Un.r y : Un a b) := h
end
instance {a b : Type} [Py a] [Py b] [DecidableEq a] [DecidableEq b] [DatumX (a × b)] : DatumX (Un (a × b) Str) := ⟨fun
  | .l x => DatumX.plain x
  | .r y => by show PyData.plain (.str y) = true; simp only [PyData.plain], fun
  | .l x, .l y => by
    show PyData.eqv (Py.toD x) (Py.toD y) = _
    rw [DatumX.eqv x y]
    exact decide_eq_decide.mpr (by rw [Un.l.injEq])
  | .l x, .r y => by
    show PyData.eqv (.tuple [_, _]) (.str y) = _
    simp [PyData.eqv]
  | .r x, .l y => by
    show PyData.eqv (.str x) (.tuple [_, _]) = _
    simp [PyData.eqv]
  | .r x, .r y => by
    show PyData.eqv (.str x) (.str y) = _
    simp only [PyData.eqv]
    rw [PySem.W.beq_decide]
    exact decide_eq_decide.mpr (by rw [Un.r.injEq])⟩
/-! ### is None -/
class NN (a : Type) [Py a] : Prop where
  nn : ∀ x : a, Py.toD x ≠ .none
instance : NN Int := ⟨fun _ h => nomatch h⟩
instance : NN Bool := ⟨fun _ h => nomatch h⟩
instance : NN Str := ⟨fun _ h => nomatch h⟩
instance : NN Sm := ⟨fun x h => by cases x <;> exact nomatch (show PyData.tuple _ = .none from h)⟩
section
variable {a b c d : Type} [Py a] [Py b] [Py c] [Py d]
instance : NN (List a) := ⟨fun _ h => nomatch (show PyData.list _ = .none from h)⟩
instance : NN (a × b) := ⟨fun _ h => nomatch (show PyData.tuple _ = .none from h)⟩
instance : NN (T3 a b c) := ⟨fun _ h => nomatch (show PyData.tuple _ = .none from h)⟩
instance : NN (T4 a b c d) := ⟨fun _ h => nomatch (show PyData.tuple _ = .none from h)⟩
instance : NN (Tp a) := ⟨fun _ h => nomatch (show PyData.tuple _ = .none from h)⟩
theorem rep_non {F : Hp} {x : PyData} (h : Rep F .non x) : x = .none := by cases h; rfl
theorem isN_opt [NN a] {F : Hp} {v : V} {o : Option a} (h : R F v o) : decide (v = .non) = o.isNone := by
  cases o with
  | none =>
    rw [R.non_ h]
    rfl
  | some x =>
    have h : Rep F v (Py.toD x) := h
    refine decide_eq_false fun e => ?_
    rw [e] at h
    exact NN.nn x (rep_non h)
end
theorem dNon_t : decide (V.non = V.non) = true := decide_eq_true rfl
theorem dNon_f {p : Addr} : decide (V.ref p = V.non) = false := decide_eq_false fun h => nomatch h
/-! ### lists: insert, extend, all -/
def insL {a : Type} (xs : List a) (i : Int) (y : a) : List a := xs.take i.toNat ++ [y] ++ xs.drop i.toNat
theorem RL.ins {a : Type} [Py a] {F : Hp} {vs : List V} {xs : List a} (h : RL F vs xs) (i : Int) {v : V} {y : a} (hy : R F v y) : RL F (insL vs i v) (insL xs i y) := RL.app (RL.app (h.take _) (RL.cons hy RL.nil)) (h.drop _)
def CIns (n : Nat) (i : Int) : Prop := n < 16777216 ∧ 0 ≤ i ∧ i < 2 ^ 63
instance (n : Nat) (i : Int) : Decidable (CIns n i) := by unfold CIns; infer_instance
instance (i j : Int) : Decidable (CPow i j) := by unfold CPow; infer_instance
section
variable {X : Cx} {K : PySem.W.Frag}
theorem cr_allK (hc : X.calm = true) (h : X.K = K) : CallR X (.builtin "all") (rAll K) := by rw [← h]; exact cr_all hc
theorem cr_anyK (hc : X.calm = true) (h : X.K = K) : CallR X (.builtin "any") (rAny K) := by rw [← h]; exact cr_any hc
/-- len of what is read -/
def rLenS (K : PySem.W.Frag) : List V → Hp → VK → Prop := fun vs H Q => ∃ (a : Addr) (xs : List V), vs = [V.ref a] ∧ SqL K H a xs ∧ Q (.int xs.length) H
theorem call_lenS (h : X.K = K) : CallR X (.builtin "len") (rLenS K) := fun pins s σ H xs us Q I r hq => by
  obtain ⟨a, ys, rfl, hs, q⟩ := hq
  subst h
  exact call_len pins s σ H _ us Q I r ⟨.ref a, ys.length, rfl, .inl ⟨ys, hs, rfl⟩, q⟩
end
/-! ### try whose suite binds a name: what follows is handed on as the suite's result -/
def tryF {a : Type} (L : List String) (m : M (Unit → M a)) (k1 : String → M a) : M a := match m with
  | .ok f => f ()
  | .error .bad => bad
  | .error (.exc n) => if n ∈ L then k1 n else bad
theorem wp_tryF {b : Type} {L : List String} {m : M (Unit → M b)} {k1 : String → M b} {Q : b → Prop} {E : String → Prop} (h : wp (tryF L m k1) Q E) : wp m (fun f => wp (f ()) Q E) fun n => n ∈ L ∧ wp (k1 n) Q E := by
  cases m with
  | ok x => exact h
  | error e =>
    cases e with
    | bad => exact h
    | exc n =>
      by_cases z : n ∈ L
      · have e : tryF L (.error (.exc n)) k1 = k1 n := if_pos z
        rw [e] at h
        exact ⟨z, h⟩
      · have e : tryF L (.error (.exc n)) k1 = bad := if_neg z
        rw [e] at h
        exact h.elim
/-! ### xs[::-1]; a, b, c = a list of three -/
section
variable {X : Cx} {K : PySem.W.Frag}
theorem pe_revLK (h : X.K = K) {e : Expr} {te : TE} {k : Nat} {p1 p2 p3 pos : Pos} (he : PE X e te) : PE X (.Subscript e (.Slice none none (some (.UnaryOp .USub (.Constant (.int 1) k p1) p2)) p3) pos) (tRevL K te) := by rw [← h]; exact pe_revL he
end
def two3 {a : Type} (xs : List a) : M (a × a × a) := match xs with
  | [x, y, z] => .ok (x, y, z)
  | _ => bad
theorem wp_two3 {a b : Type} {Q : a → Prop} {E : String → Prop} {xs : List b} {k : b × b × b → M a} (h : wp (two3 xs >>= k) Q E) : ∃ x y z, xs = [x, y, z] ∧ wp (k (x, y, z)) Q E := by
  match xs, h with
  | [x, y, z], h => exact ⟨x, y, z, rfl, h⟩
  | [], h => exact h.elim
  | [_], h => exact h.elim
  | [_, _], h => exact h.elim
  | _ :: _ :: _ :: _ :: _, h => exact h.elim
section
variable {X : Cx} {K : PySem.W.Frag}
theorem bmK (h : X.K = K) {c : Expr} {T : String} {r : V → List V → Hp → VK → Prop} {to : TE} {t : TA} (hp : PE X c (tBM X.K T r to t)) : PE X c (tBM K T r to t) := by rw [← h]; exact hp
theorem bm0K (h : X.K = K) {c : Expr} {T : String} {r : V → List V → Hp → VK → Prop} {to : TE} (hp : PE X c (tBM0 X.K T r to)) : PE X c (tBM0 K T r to) := by rw [← h]; exact hp
end
end PG

set_option Elab.async false
set_option linter.all false
set_option maxRecDepth 100000
set_option maxHeartbeats 4000000
namespace PG
open PySem PySem.Spec PyProof.Rows L2
open PySem.W (T3 T4 Datum DatumOrd Holds HoldAll EachIs)
variable {K0 : PySem.W.Frag} [KF K0]
/-! ### lists of our lists: handed back, lent -/
section
variable {Z : Ent} {F F0 H H0 : Hp} {S cs cs0 : List (Addr × HO)} {p : Addr} {ps : List LCV}
theorem llC_nt : ∀ c ∈ llC p ps, noTup c.2 = true := fun c hc => by
  rcases List.mem_cons.mp hc with e | hc
  · rw [e]; rfl
  · obtain ⟨d, _, e⟩ := List.mem_map.mp hc
    rw [← e]; rfl
theorem Ow.llOut (O : Ow Z F (S ++ llC p ps) H) (hp : Z.H p = none) (hz : ∀ c ∈ ps, Z.H c.1 = none) :
    (∀ c ∈ llC p ps, Z.H c.1 = none) ∧ (∀ c ∈ llC p ps, F c.1 = none ∧ H c.1 = some c.2) ∧ ((llC p ps).map (·.1)).Nodup := by
  refine ⟨fun c hc => ?_, fun c hc => ⟨O.cf c (List.mem_append_right _ hc), O.ch c (List.mem_append_right _ hc)⟩, ?_⟩
  · rcases List.mem_cons.mp hc with e | hc
    · rw [e]; exact hp
    · obtain ⟨d, hd, e⟩ := List.mem_map.mp hc
      rw [← e]; exact hz d hd
  · have := O.nd
    rw [List.map_append] at this
    exact (List.nodup_append.mp this).2.1
theorem Ow.llGot (O0 : Ow Z F0 cs0 H0) (O : Ow Z F cs H) (hk : cs.map (·.1) = cs0.map (·.1)) (hn : ∀ c ∈ llC p ps, H0 c.1 = none) (hf : ∀ c ∈ llC p ps, F c.1 = none ∧ H c.1 = some c.2) (nd : ((llC p ps).map (·.1)).Nodup) :
    Ow Z F (cs ++ llC p ps) H where
  g := O.g
  cf := fun c hc => by
    rcases List.mem_append.mp hc with hc | hc
    · exact O.cf c hc
    · exact (hf c hc).1
  ch := fun c hc => by
    rcases List.mem_append.mp hc with hc | hc
    · exact O.ch c hc
    · exact (hf c hc).2
  nd := by
    rw [List.map_append]
    refine List.nodup_append.mpr ⟨O.nd, nd, fun x hx y hy e => ?_⟩
    obtain ⟨d, hd, e2⟩ := List.mem_map.mp hy
    rw [hk] at hx
    obtain ⟨c0, hc0, e3⟩ := List.mem_map.mp hx
    have h1 := O0.ch c0 hc0
    rw [e3, e, ← e2, hn d hd] at h1
    exact nomatch h1
  ca := fun c hc => by
    rcases List.mem_append.mp hc with hc | hc
    · exact O.ca c hc
    · exact .inr (O0.was (hn c hc))
  nt := fun c hc => by
    rcases List.mem_append.mp hc with hc | hc
    · exact O.nt c hc
    · exact llC_nt c hc
theorem Ow.llWas (O0 : Ow Z F0 cs0 H0) (hn : ∀ c ∈ llC p ps, H0 c.1 = none) : Z.H p = none ∧ ∀ c ∈ ps, Z.H c.1 = none :=
  ⟨O0.was (hn (p, _) List.mem_cons_self), fun c hc => O0.was (hn (lcV c) (List.mem_cons_of_mem _ (List.mem_map.mpr ⟨c, hc, rfl⟩)))⟩
theorem inA_ll : ∀ b ∈ (llC p ps).map (·.1), ∃ o, (b, o) ∈ S ++ llC p ps := fun b hb => by
  obtain ⟨c, hc, e⟩ := List.mem_map.mp hb
  exact ⟨c.2, List.mem_append_right _ (by rw [← e]; exact hc)⟩
theorem inA_app {as bs : List Addr} (h1 : ∀ b ∈ as, ∃ o, (b, o) ∈ cs) (h2 : ∀ b ∈ bs, ∃ o, (b, o) ∈ cs) : ∀ b ∈ as ++ bs, ∃ o, (b, o) ∈ cs := fun b hb => by
  rcases List.mem_append.mp hb with hb | hb
  · exact h1 b hb
  · exact h2 b hb
theorem LLR.of_at {a : Type} [Py a] : ∀ {ps : List LCV} {xs : List (List a)}, LLR F ps xs → (∀ c ∈ ps, F c.1 = some (.lst c.2)) → RL F (ps.map fun c => V.ref c.1) xs
  | [], xs, h, _ => by cases h; exact RL.nil
  | c :: ps, xs, h, hat => by
    cases h with
    | cons h1 h2 => exact RL.cons (R.lst (hat c List.mem_cons_self) h1) (LLR.of_at h2 fun d hd => hat d (List.mem_cons_of_mem _ hd))
theorem Ow.llLend {a : Type} [Py a] {as : List Addr} {xs : List (List a)} (O : Ow Z F (S ++ llC p ps) H) (hs : Same F (lendF as F H)) (hin : ∀ c ∈ llC p ps, c.1 ∈ as) (r : LLR F ps xs) : R (lendF as F H) (.ref p) xs := by
  have at_ : ∀ c ∈ llC p ps, lendF as F H c.1 = some c.2 := fun c hc => (lendF_at (hin c hc)).trans (O.ch c (List.mem_append_right _ hc))
  exact R.lst (at_ (p, _) List.mem_cons_self) ((r.mono hs).of_at fun c hc => at_ (lcV c) (List.mem_cons_of_mem _ (List.mem_map.mpr ⟨c, hc, rfl⟩)))
end
/-! ### rows that are never reached -/
def tNever : TS := fun _ _ _ => False
def eNever : TE := fun _ _ _ => False
def uNever : TT := fun _ _ _ => False
theorem psNever {X : Cx} {st : Stmt} : PS X st tNever := ⟨fun _ _ _ _ _ _ h => h.elim⟩
theorem peNever {X : Cx} {e : Expr} : PE X e eNever := ⟨fun _ _ _ _ _ _ h => h.elim⟩
theorem ptNever {X : Cx} {e : Expr} : PT X e uNever := ⟨fun _ _ _ _ _ _ h => h.elim⟩
theorem pwNever {X : Cx} {e : Expr} : PW X e uNever := ⟨fun _ _ _ _ _ _ _ h => h.elim⟩
/-! ### lists in which nothing is None -/
def some1 {a : Type} (xs : List (Option a)) : Option (List a) := xs.mapM id
def some2 {a : Type} (xs : List (List (Option a))) : Option (List (List a)) := xs.mapM some1
section
variable {a : Type} [Py a] {F : Hp} {v : V}
theorem mapM_cons_some {b c : Type} {f : b → Option c} {x : b} {xs : List b} {ys : List c} (h : (x :: xs).mapM f = some ys) : ∃ y zs, f x = some y ∧ xs.mapM f = some zs ∧ ys = y :: zs := by
  rw [List.mapM_cons] at h
  cases e : f x with
  | none => rw [e] at h; exact nomatch h
  | some y =>
    rw [e] at h
    cases e2 : xs.mapM f with
    | none =>
      have h : ((xs.mapM f) >>= fun bs => pure (y :: bs)) = some ys := h
      rw [e2] at h; exact nomatch h
    | some zs =>
      have h : ((xs.mapM f) >>= fun bs => pure (y :: bs)) = some ys := h
      rw [e2] at h
      exact ⟨y, zs, rfl, rfl, (Option.some.inj h).symm⟩
theorem mapM_nil_some {b c : Type} {f : b → Option c} {ys : List c} (h : ([] : List b).mapM f = some ys) : ys = [] := (Option.some.inj h).symm
theorem RL.some1 : ∀ {xs : List (Option a)} {vs : List V} {ys : List a}, RL F vs xs → xs.mapM id = some ys → RL F vs ys
  | [], vs, ys, h, e => by
    rw [mapM_nil_some e, RL.nil_ h]
    exact RL.nil
  | x :: xs, vs, ys, h, e => by
    obtain ⟨w, ws, rfl, h1, h2⟩ := RL.cons_ h
    obtain ⟨y, zs, e1, e2, e3⟩ := mapM_cons_some e
    rw [e3]
    have e1 : x = some y := e1
    rw [e1] at h1
    exact RL.cons (R.jst_ h1) (RL.some1 h2 e2)
theorem R.some1 {xs : List (Option a)} {ys : List a} (h : R F v xs) (e : PG.some1 xs = some ys) : R F v ys := by
  obtain ⟨p, vs, rfl, hp, hr⟩ := R.lst_ h
  exact R.lst hp (RL.some1 hr e)
theorem RL.some2 : ∀ {xs : List (List (Option a))} {vs : List V} {ys : List (List a)}, RL F vs xs → xs.mapM PG.some1 = some ys → RL F vs ys
  | [], vs, ys, h, e => by
    rw [mapM_nil_some e, RL.nil_ h]
    exact RL.nil
  | x :: xs, vs, ys, h, e => by
    obtain ⟨w, ws, rfl, h1, h2⟩ := RL.cons_ h
    obtain ⟨y, zs, e1, e2, e3⟩ := mapM_cons_some e
    rw [e3]
    exact RL.cons (R.some1 h1 e1) (RL.some2 h2 e2)
theorem R.some2 {xs : List (List (Option a))} {ys : List (List a)} (h : R F v xs) (e : PG.some2 xs = some ys) : R F v ys := by
  obtain ⟨p, vs, rfl, hp, hr⟩ := R.lst_ h
  exact R.lst hp (RL.some2 hr e)
end
/-! ### products one factor of which is small -/
def CMulX (i j : Int) : Prop := CMul i j ∨ CMulW i j
instance (i j : Int) : Decidable (CMulX i j) := by unfold CMulX CMul CMulW; infer_instance
theorem op_mulX {X : Cx} : OpR X (binaryOp .Mult) (rI CMulX fun i j => .int (i * j)) := opI fun _ _ _ _ _ _ _ hc q => mul_int q (by
  rcases hc with h | h
  · exact h.ok
  · exact h.ok)
end PG

set_option Elab.async false
set_option linter.all false
set_option maxRecDepth 100000
set_option maxHeartbeats 4000000
namespace PG
open PySem PySem.Spec PyProof.Rows L2
open PySem.W (T3 T4 Datum DatumOrd Holds HoldAll EachIs)
variable {K0 : PySem.W.Frag} [KF K0]
/-! ### an except clause whose suite asks of the exception: it is tracked within the suite -/
section
variable {X : Cx} {pins pn pn' : List (Addr × Obj)} {σ : L2.St} {H : Hp} {s : Shared} {a : Addr} {q : Addr × Obj}
theorem lessPin (I : L2.Inv (X.suite a (q :: pn)) pn' σ H s) (ok : X.Ok) : L2.Inv (X.suite a pn) pn' σ H s :=
  ⟨ok.suite _ _, I.os, I.bare, I.base, I.loc, I.cell, I.free, I.freeC, fun p hp => I.pin p (List.mem_cons_of_mem _ hp), I.hok, I.len⟩
theorem unsuite0 (I : L2.Inv (X.suite a (X.pn ++ pins)) [] σ H s) (ok : X.Ok) : L2.Inv X pins σ H s :=
  ⟨ok, I.os, I.bare, I.base, I.loc, I.cell, I.free, I.freeC, fun p hp => I.pin p (List.mem_append_left _ hp), I.hok, I.len⟩
end
/-- what such a clause wishes -/
def wTell (K : PySem.W.Frag) (c : Value) (i : Nat) (ts : Addr → TS) (out : WX) (D : Ends) : WX := fun cls d σ H =>
  ∃ b, PySem.W.exmOne K cls c = some b ∧ (b = true → ∀ a, H a = none → ts a { nx := fun σ' H' => D.nx (σ'.set i none) H', rt := fun _ _ => False, bk := fun _ _ => False, ct := fun _ _ => False } (σ.set i (some (.ref a))) (upd H a (excO cls d a))) ∧ (b = false → out cls d σ H)
section
variable {X : Cx} {x n : Str} {c : Value} {i : Nat} {body suite : List Stmt} {b1 : Stmt} {np q1 q2 : Pos} {tb : WX → TS} {ts : Addr → TS} {out : WX}
theorem ps_try_tell (hs : X.stack = X.env :: X.outer) (hf : X.env.frame = some X.env.locals) (hex : X.ex = []) (hN : X.N.Nodup) (hi : X.N[i]? = some n) (hl : X.env.kindOf n = some .local) (hc : Names X x c) (tk : Takes X out)
    (hb : ∀ (W : WX) (pn : List (Addr × Obj)) (xe : Value → Shared → Prop), Takes (X.tr pn xe) W → PassesOwn (model X.prog X.w) X.A X.env xe → PSs (X.tr pn xe) body (tb W))
    (hsu : ∀ (a : Addr) (pn : List (Addr × Obj)), PSs (X.suite a pn) (b1 :: suite) (ts a)) :
    PS X (.Try body [.ExceptHandler (some (.Name x np)) (some n) (b1 :: suite) q1] [] [] q2) (fun D σ H => tb (wTell X.K c i ts out D) D σ H) := by
  refine ⟨fun pins s σ H D I wish => wpAny_Try_except ?_⟩
  have ok := I.ok
  have hfr : X.A.frames = some (X.env :: X.outer) := ok.frames.trans (by rw [hs])
  have run := (hb (wTell X.K c i ts out D) (X.pn ++ pins) (fun e g1 => wpAny (model X.prog X.w) X.A (noteFrame e X.env) (fun _ g2 => wpAny (model X.prog X.w) X.A (setFlight e none)
    (fun _ g3 => wpAny (model X.prog X.w) X.A (handleBy e X.env [.ExceptHandler (some (.Name x np)) (some n) (b1 :: suite) q1]) (SP X pins D) X.xe g3) X.xe g2) X.xe g1)
    (fun u g ⟨a, B, sI, ps, τ, G, cls, d, eu, J0, nb, up, sky, na, eos, ag, b, hb1, yes, no⟩ => by
      subst eu
      have J : L2.Inv X pins τ G sI := J0.ofTry ok
      show wpAny (model X.prog X.w) X.A (noteFrame (.ref a) X.env) _ _ _
      refine Sky.land Zc.steady hfr hf (show Sky B (X.env :: X.outer) a (Zc cls d) X.env.locals g.heap by rw [← hs]; exact sky) fun k1 fl1 up1 => ?_
      have J1 : L2.Inv X pins τ G { g with heap := k1 } := J.landed nb fl1.1 (up.trans up1) eos ag
      obtain ⟨o1, vs1, ho1, hz1, hd1⟩ := fl1.there
      have off : a ∉ frs (X.env :: X.outer) := fun hm => by
        obtain ⟨_, o', eo, hnf⟩ := fl1.2.2.1.mem hm
        rw [ho1] at eo
        cases eo
        exact hnf _ hd1
      have nL : a ≠ X.env.locals := fun z => off (List.mem_filterMap.mpr ⟨X.env, List.mem_cons_self, by rw [hf, z]⟩)
      have nF : a ∉ X.fs := fun hm => by
        obtain ⟨e, he, q⟩ := List.mem_filterMap.mp hm
        exact off (List.mem_filterMap.mpr ⟨e, List.mem_cons_of_mem _ he, q⟩)
      have young : ∀ o, sI.heap.get? a ≠ some o := fun o q => by
        have z := nb a o q (by rw [hs]; exact off)
        rw [fl1.2.1] at z
        exact nomatch z
      have h0 : X.s_0.heap.get? a = none := by
        cases q : X.s_0.heap.get? a with
        | none => rfl
        | some o =>
          obtain ⟨o', z⟩ := J.base.there a o q (by rw [hex]; exact fun z => nomatch z)
          exact (young _ z).elim
      have offp : ∀ p ∈ X.pn ++ pins, p.1 ≠ a := fun p hp z => young p.2 (by rw [← z]; exact (J.pin p hp).1)
      have S1 := J1.suite ho1 hd1 na nL nF
      refine wpAny_handleBy_cons (codeAny_handlers_test ?_) (fun q => nomatch q)
      have look : PySem.W.Looks (model X.prog X.w) k1 (typeOf (.ref a)) cls := fun _ _ _ _ k q => wpAny_typeOf_ref (k _ _ ho1) (by rw [hz1.1]; exact q)
      have match_ := PySem.W.exm_one (M := model X.prog X.w) J1.kIn look hb1
      have named : ∀ {Q : Value → Shared → Prop} {E : Value → Shared → Prop}, Q c { g with heap := k1 } → wpAny (model X.prog X.w) (X.A.mark (some (.ref a))) (eval (.Name x np) X.env) Q E { g with heap := k1 } := fun {Q E} q => by
        obtain ⟨hg, hdbg, hm | ⟨hm, hv, hnn⟩⟩ := hc
        · exact ld_glob (X := X.suite a ((a, o1) :: (X.pn ++ pins))) S1 hg hm q hdbg
        · exact ld_blt (X := X.suite a ((a, o1) :: (X.pn ++ pins))) S1 hg hm hv q hnn hdbg
      refine named (match_.here ?_)
      cases b with
      | true =>
        refine codeAny_handlers_suite_as (HandSPX.lands_againZ fl1 fun k2 fl2 up2 => ?_)
        have J2 : L2.Inv X pins τ G { g with heap := k2 } := J.landed nb fl2.1 ((up.trans up1).trans up2) eos ag
        obtain ⟨o2, vs2, ho2, hz2, hd2⟩ := fl2.there
        refine store_ok (X := X.suite a ((a, o2) :: (X.pn ++ pins))) (v := .ref a) (J2.suite ho2 hd2 na nL nF) hN hi (.inl hl) rfl (fun g5 S5 => ?_) (.inr hl)
        obtain ⟨hget5, _⟩ := S5.pin (a, o2) (List.mem_append_left _ List.mem_cons_self)
        have A5 := adopt (X := X.suite a (X.pn ++ pins)) (lessPin S5 ok) na ⟨o2, vs2, hget5, hz2, hd2⟩ h0 nL (fun p hp => offp p (by rw [List.append_nil] at hp; exact hp))
        refine wpAny_mono ((hsu a (X.pn ++ pins)).run [] g5 _ _ _ A5 (yes rfl a na)) (fun f g6 hsp => ?_) (fun _ _ z => z.elim)
        cases f with
        | next =>
          obtain ⟨τ6, G6, S6, q6⟩ := hsp
          exact gone_ok (X := X.suite a (X.pn ++ pins)) S6 hN hi hl fun g7 S7 => ⟨_, _, unsuite0 S7 ok, q6⟩
        | brk => obtain ⟨_, _, _, q6⟩ := hsp; exact q6.elim
        | cont => obtain ⟨_, _, _, q6⟩ := hsp; exact q6.elim
        | ret u => obtain ⟨_, _, _, _, _, q6⟩ := hsp; exact q6.elim
      | false =>
        refine wpAny_handleBy_nil ?_
        obtain ⟨_, _, _, o3, vs3, T, oT, ts3, he, hz, hd, h1, hr⟩ := id fl1
        unfold PySem.passOn
        refine wpAny_bind (wpAny_field he hd h1 ?_)
        rw [if_neg (by simp : ¬ ((Value.ref T == Value.none) = true))]
        have up_ : wpAny (model X.prog X.w) X.A (setFlight (.ref a) X.env.frame) (fun _ g4 => wpAny (model X.prog X.w) X.A (throw (.ref a) : Sem Flow) (SP X pins D) X.xe g4) X.xe { g with heap := k1 } := by
          rw [hf]
          exact HandSPX.setFlight_upZ fl1 fun k2 fl2 up2 => wpAny_throw (tk _ _ ⟨a, B, sI, pins, τ, G, cls, d, rfl, J, nb, (up.trans up1).trans up2, .inr (.inr (by rw [hs]; exact fl2)), na, eos, ag, no rfl⟩)
        first
          | exact wpAny_bind up_
          | exact wpAny_bind (wpAny_pure (wpAny_bind up_)))
    PassesOwn.looking).run [] s σ H D (I.toTry _) wish
  refine wpAny_mono run (fun f g hsp => ?_) (fun _ _ z => z)
  cases f with
  | next => obtain ⟨τ, G, J, q⟩ := hsp; exact wpAny_execs_nil ⟨τ, G, J.ofTry ok, q⟩
  | brk => obtain ⟨τ, G, J, q⟩ := hsp; exact ⟨τ, G, J.ofTry ok, q⟩
  | cont => obtain ⟨τ, G, J, q⟩ := hsp; exact ⟨τ, G, J.ofTry ok, q⟩
  | ret u => obtain ⟨v, τ, G, J, r, q⟩ := hsp; exact ⟨v, τ, G, J.ofTry ok, r, q⟩
end
end PG

set_option Elab.async false
set_option linter.all false
set_option maxRecDepth 100000
set_option maxHeartbeats 4000000
namespace PG
open PySem PySem.Spec PyProof.Rows L2
open PySem.W (T3 T4 Datum DatumOrd Holds HoldAll EachIs)
variable {K0 : PySem.W.Frag} [KF K0]
/-! ### xs.remove(y) of a list of data, y in it -/
/-- where y stands in xs -/
def ixL {a : Type} [DecidableEq a] (xs : List a) (y : a) : Nat := xs.idxOf y
def remL {a : Type} [DecidableEq a] (xs : List a) (y : a) : List a := xs.take (ixL xs y) ++ xs.drop (ixL xs y + 1)
section
variable {a : Type} [Py a] [DecidableEq a] [Datum a] [IsD a]
theorem RL.rem {F : Hp} {vs : List V} {xs : List a} (h : RL F vs xs) (y : a) : RL F (vs.take (ixL xs y) ++ vs.drop (ixL xs y + 1)) (remL xs y) := RL.app (h.take _) (h.drop _)
omit [Py a] [IsD a] in
theorem place_of : ∀ {xs : List a} {y : a}, y ∈ xs → SeqAt.dataPlace (xs.map Datum.toD) (Datum.toD y) = some (xs.idxOf y)
  | [], _, h => nomatch h
  | x :: xs, y, h => by
    unfold SeqAt.dataPlace
    rw [List.map_cons, List.findIdx?_cons, Datum.eqv, List.idxOf_cons]
    by_cases c : x = y
    · rw [if_pos (decide_eq_true c)]
      rw [show (x == y) = true from by rw [c]; exact beq_self_eq_true y]
      rfl
    · rw [if_neg (fun z => c (of_decide_eq_true z))]
      rw [show (x == y) = false from beq_eq_false_iff_ne.mpr c]
      have hm : y ∈ xs := by
        rcases List.mem_cons.mp h with e | e
        · exact (c e.symm).elim
        · exact e
      have ih := place_of hm
      unfold SeqAt.dataPlace at ih
      rw [ih]
      rfl
end
def rRemT (a : Type) [Py a] [DecidableEq a] : V → List V → Hp → VK → Prop := fun x xs H Q => ∃ (l : Addr) (vs : List V) (ys : List a) (y : V) (p : a), x = .ref l ∧ xs = [y] ∧ H l = some (.lst vs) ∧ RL H vs ys ∧ R H y p ∧ p ∈ ys ∧ Q .non (upd H l (.lst (vs.take (ixL ys p) ++ vs.drop (ixL ys p + 1))))
section
variable {X : Cx} (a : Type) [Py a] [DecidableEq a] [Datum a] [IsD a]
theorem mt_removeT (hu : X.A.units + 64 < cLine) (hd : Datum.depth a ≤ 60 := by decide) (hK : X.K = K0 := by rfl) : MtR X "list.remove" (rRemT a) := by
  subst hK
  intro pins s σ H x xs v us Q I rx rxs h
  obtain ⟨l, vs, ys, y, p, rfl, rfl, hH, hl, hp, hm, q⟩ := h
  cases rx
  obtain ⟨u, rfl, ru⟩ := rxs.one
  obtain ⟨z, its, n, r, hlen, e⟩ := I.lstM hH
  obtain ⟨as, rs⟩ := hl.holds I r
  obtain ⟨bs, rx⟩ := hp.holds I ru
  refine SeqAt.remove_list_data (vs := its.toArray) ⟨_, e, rfl, n, rfl⟩ (by simpa using rs) rx (PySem.W.plainAll_map ys) (Datum.plain p) (PySem.W.room_items (PySem.W.depthAll_map ys) (by omega)) (place_of hm) (by rw [List.size_toArray]; omega) ?_
  refine ⟨.non, _, I.lset (its' := its.take (ixL ys p) ++ its.drop (ixL ys p + 1)) hH e ?_ ((r.take _).append (r.drop _)) ?_, rfl, q⟩
  · show its.toArray.eraseIdxIfInBounds (ixL ys p) = _
    rw [List.eraseIdxIfInBounds_toArray, List.eraseIdx_eq_take_drop_succ]
  · rw [List.length_append, List.length_take, List.length_drop]
    omega
end
/-! ### a list seen as one of options -/
theorem RL.somes {a : Type} [Py a] {F : Hp} : ∀ {xs : List a} {vs : List V}, RL F vs xs → RL F vs (xs.map some)
  | [], vs, h => by
    rw [RL.nil_ h]
    exact RL.nil
  | x :: xs, vs, h => by
    obtain ⟨w, ws, rfl, h1, h2⟩ := RL.cons_ h
    exact RL.cons (R.jst h1) (RL.somes h2)
/-! ### range(hi, lo, -1) -/
def rangeD (hi lo : Int) : List Int := (List.range (hi - lo).toNat).map fun (i : Nat) => hi + (i : Int) * (-(1 : Int))
theorem rangeD_len {hi lo : Int} : (rangeD hi lo).length = (hi - lo).toNat := by
  unfold rangeD
  rw [List.length_map, List.length_range]
theorem rangeD_get {hi lo : Int} {i : Nat} (h : i < (hi - lo).toNat) : (rangeD hi lo).drop i = (hi + (i : Int) * (-(1 : Int))) :: (rangeD hi lo).drop (i + 1) := by
  apply drop_at
  unfold rangeD
  rw [List.getElem?_map, List.getElem?_range h]
  rfl
theorem rangeD_end {hi lo : Int} : (rangeD hi lo).drop (hi - lo).toNat = [] := List.drop_eq_nil_of_le (by rw [rangeD_len]; exact Nat.le_refl _)
end PG

set_option Elab.async false
set_option linter.all false
set_option maxRecDepth 100000
set_option maxHeartbeats 4000000
namespace PG
open PySem PySem.Spec PyProof.Rows L2
open PySem.W (T3 T4 Datum DatumOrd Holds HoldAll EachIs)
variable {K0 : PySem.W.Frag} [KF K0]
/-! ### for k in d, keys pairs of whole numbers -/
theorem rd_got {κ K' β : Type} [DK κ K'] [Py β] {F : Hp} {kvs : List (K' × V)} {xs : List (κ × β)} (h : RD F kvs xs) : ∀ {i : Nat} {k : K'} {v : V}, kvs[i]? = some (k, v) → ∃ (y : κ) (b : β), xs[i]? = some (y, b) ∧ k = DK.kk y := by
  induction h with
  | nil =>
    intro i k v e
    simp at e
  | @cons k0 v0 y0 kvs xs h t ih =>
    intro i k v e
    cases i with
    | zero =>
      have e := Option.some.inj e
      injection e with e1 e2
      exact ⟨k0, y0, rfl, e1.symm⟩
    | succ i => exact ih (i := i) (by simpa using e)
theorem keys_at {κ β : Type} {xs : List (κ × β)} {i : Nat} {y : κ} {b : β} (e : xs[i]? = some (y, b)) : (List.map (fun x => x.1) xs)[i]? = some y := by rw [List.getElem?_map, e]; rfl
theorem one_tup {H : Hp} {q : Addr} {xs : List V} (h : H q = some (.tup xs)) : ∀ b ∈ [q], ∃ xs, H b = some (.tup xs) := fun b hb => by rw [List.mem_singleton.mp hb]; exact ⟨_, h⟩
theorem key_R {F H : Hp} {q : Addr} {k : List Key} {y : Int × Int} (e : k = DK.kk y) (h : H q = some (.tup (k.map kV))) (hb : ∀ b ∈ [q], F b = H b) : R F (.ref q) y := by
  rw [e] at h
  have h2 : F q = some (.tup [.int y.1, .int y.2]) := (hb q (List.mem_singleton.mpr rfl)).trans h
  exact R.t2 h2 R.int R.int
theorem rd_klen {κ K' β : Type} [DK κ K'] [Py β] {F : Hp} {kvs : List (K' × V)} {xs : List (κ × β)} (h : RD F kvs xs) : kvs.length = (List.map (fun x => x.1) xs).length := by rw [List.length_map]; exact h.len
theorem drop_endK {a b : Type} {ys : List a} {xs : List b} (h : ys.length = xs.length) : xs.drop ys.length = [] := List.drop_eq_nil_of_le (by omega)
/-! ### the state told anew behind a name's binding (else Lean's unifier walks through all bindings again) -/
def gNameN (i : Nat) : TG := fun v σ H Q => ∃ σ' : L2.St, σ' = σ.set i (some v) ∧ Q σ' H
theorem gNameN_eq (i : Nat) : gNameN i = gName i := by
  funext v σ H Q
  exact propext ⟨fun ⟨_, e, q⟩ => by subst e; exact q, fun q => ⟨_, rfl, q⟩⟩
theorem ps_toN {X : Cx} {st : Stmt} {te : TE} {i : Nat} (h : PS X st (tAsg te (gName i))) : PS X st (tAsg te (gNameN i)) := by
  rw [gNameN_eq]
  exact h
theorem to_dec {p : Prop} (i j : Decidable p) : @decide p i = @decide p j := by cases i <;> cases j <;> first | rfl | contradiction
/-! ### tuple(xs) of two, t[:2] of three -/
def twoL {a : Type} : List a → Option (a × a)
  | [x, y] => some (x, y)
  | _ => none
theorem RL.tw {a : Type} [Py a] {F : Hp} {vs : List V} {xs : List a} {y : a × a} (h : RL F vs xs) (e : twoL xs = some y) : ∃ v w, vs = [v, w] ∧ R F v y.1 ∧ R F w y.2 := by
  match xs, e with
  | [x1, x2], e =>
    have e := Option.some.inj e
    subst e
    obtain ⟨v, ws, rfl, h1, h2⟩ := RL.cons_ h
    obtain ⟨w, ws, rfl, h3, h4⟩ := RL.cons_ h2
    have := RL.nil_ h4
    subst this
    exact ⟨v, w, rfl, h1, h3⟩
theorem sl32 (a b c : V) : ¬ (HT.sIx [a, b, c].length 0 none = 0 ∧ HT.sIx [a, b, c].length [a, b, c].length (some (2 : Int)) = [a, b, c].length) := fun h => absurd h.2 (by show ¬ (2 : Nat) = 3; decide)
/-! ### d.get(k) -/
section
variable {β : Type} {H : Hp} {a b : Addr}
theorem dgo_T {kvs : List (List Key × V)} {i j : Int} (e : Rd H a (.dT kvs)) (eb : H b = some (.tup [.int i, .int j])) : DGet H a (.ref b) (valV kvs (DK.kk (i, j))) := dgt (k := [.inl i, .inl j]) e eb
theorem dgo_I {kvs : List (Key × V)} {i : Int} (e : Rd H a (.dK kvs)) : DGet H a (.int i) (valV kvs (DK.kk i)) := dgk (k := .inl i) e
theorem dgo_S {kvs : List (Key × V)} {i : Str} (e : Rd H a (.dK kvs)) : DGet H a (.str i) (valV kvs (DK.kk i)) := dgk (k := .inr i) e
end
theorem dget1 {κ K' β : Type} [DK κ K'] [DecidableEq κ] [DecidableEq K'] [Py β] {F : Hp} {kvs : List (K' × V)} {xs : List (κ × β)} (h : RD F kvs xs) (k : κ) : ∃ v, (valV kvs (DK.kk k)).getD .non = v ∧ R F v (dGet xs k) := by
  rcases h.get k with ⟨a, b⟩ | ⟨y, v, a, b, c⟩
  · rw [a, b]; exact ⟨_, rfl, R.non⟩
  · rw [a, b]; exact ⟨_, rfl, R.jst c⟩
theorem dget1J {κ K' β : Type} [DK κ K'] [DecidableEq κ] [DecidableEq K'] [Py β] {F : Hp} {kvs : List (K' × V)} {xs : List (κ × Option β)} (h : RD F kvs xs) (k : κ) : ∃ v, (valV kvs (DK.kk k)).getD .non = v ∧ R F v ((dGet xs k).join) := by
  rcases h.get k with ⟨a, b⟩ | ⟨y, v, a, b, c⟩
  · rw [a, b]; exact ⟨_, rfl, R.non⟩
  · rw [a, b]; exact ⟨_, rfl, c⟩
/-! ### t[::-1] of a pair -/
section
variable {prog : Program} {w : World} {A : Around} {E : Value → Shared → Prop} {s : Shared}
theorem pair_back {t sl : Addr} {u1 u2 vs : Value} {Q : Value → Shared → Prop} (ht : IsTup s.heap t #[u1, u2]) (hs : s.heap.IsSliceOf sl .none .none vs) (ps : IsPart vs (some (-1)))
    (h : Q (.ref s.heap.objs.size) { s with heap := s.heap.push { cls := .type "tuple", data := .seq #[u2, u1] } }) : wpAny (model prog w) A (getItem (.ref t) (.ref sl)) Q E s := by
  obtain ⟨os, hos, hcs, hds⟩ := id hs
  have hTs : s.TypeIs (.ref sl) "slice" := ⟨os, hos, hcs⟩
  unfold getItem
  try with_reducible refine wpAny_holding ?_
  first | refine wpAny_bind (wpAny_pure ?_) | skip
  refine wpAny_bind (wpAny_sequenceKey ht.typeIs (by decide) ?_)
  refine wpAny_bind (wpAny_callSpecial?_slot (name := Str.ofString "__getitem__") ht.typeIs PyProof.Rows.slot_tuple_getitem
    (wpAny_call_entry PyProof.Rows.slot_tuple_getitem ht.typeIs PyProof.Rows.entry_tuple_getitem ?_ (PyProof.Rows.args_tuple_getitem _ _)))
  show wpAny _ _ (Builtin.Tuple.tupleItemsOf (.ref t) >>= _) _ _ s
  refine wpAny_bind (tupleItemsOf_ ht ?_)
  refine wpAny_bind (wpAny_typeOf hTs ?_)
  rw [if_pos (by decide)]
  have hp : ∀ {A : Around} {Q : Option Int → Shared → Prop} {s : Shared}, Q (some (-1)) s → wpAny (model prog w) A (Builtin.Slice.slicePartIndex vs) Q E s := by
    intro A Q s hq
    cases ps with
    | int i t => exact slicePart_int hq
  have key : ∀ {A : Around} {Q : Int × Int × Nat → Shared → Prop}, Q (1, -1, 2) s → wpAny (model prog w) A (Builtin.Slice.sliceApplied (.ref sl) (pure (2 : Int))) Q E s := by
    intro A Q hq
    unfold Builtin.Slice.sliceApplied Builtin.Slice.sliceFields
    refine wpAny_bind (wpAny_bind (wpAny_field hos hds (x := .none) rfl (wpAny_bind (wpAny_field hos hds (x := .none) rfl (wpAny_bind (wpAny_field hos hds (x := vs) rfl (wpAny_pure ?_)))))))
    refine wpAny_bind (hp ?_)
    show wpAny _ _ (if ((-1 : Int) == 0) = true then _ else _) _ _ s
    rw [if_neg (by decide)]
    refine wpAny_bind (slicePart_none (wpAny_bind (slicePart_none (wpAny_bind (wpAny_pure ?_)))))
    exact wpAny_pure hq
  refine wpAny_bind (key ?_)
  show wpAny _ _ (if (((1 : Int) == 0 && (-1 : Int) == 1 && (2 : Nat) == 2) = true) then _ else _) _ _ s
  rw [if_neg (by decide)]
  first
    | exact wpAny_bind (m := Builtin.Tuple.tupleExact _) (wpAny_newObj_type (wpAny_pure ⟨_, rfl, wpAny_pure h⟩) (by show (2 : Nat) ≤ sizeLine; decide))
    | exact wpAny_bind (m := Builtin.Tuple.tupleExact _) (wpAny_newObj_type (wpAny_bind (wpAny_pure (wpAny_pure ⟨_, rfl, wpAny_pure h⟩))) (by show (2 : Nat) ≤ sizeLine; decide))
    | exact wpAny_bind (wpAny_bind (m := Builtin.Tuple.tupleExact _) (wpAny_newObj_type (wpAny_pure (wpAny_pure ⟨_, rfl, wpAny_pure h⟩)) (by show (2 : Nat) ≤ sizeLine; decide)))
end
def tRevT2 (K : PySem.W.Frag) (te : TE) : TE := fun σ H Q => te σ H fun x H1 => ∃ a v1 v2, x = .ref a ∧ SqT K H1 a [v1, v2] ∧ ∀ p, H1 p = none → Q (.ref p) (upd H1 p (.tup [v2, v1]))
theorem pe_revT2 {X : Cx} {K : PySem.W.Frag} (hK : X.K = K) {e : Expr} {te : TE} {k : Nat} {p1 p2 p3 pos : Pos} (he : PE X e te) : PE X (.Subscript e (.Slice none none (some (.UnaryOp .USub (.Constant (.int 1) k p1) p2)) p3) pos) (tRevT2 K te) := by
  subst hK
  constructor
  intro pins s σ H Q I hw
  refine Subscript_ (thn (he.run pins s σ H _ I hw) ?_)
  rintro v s1 ⟨x, H1, I1, r1, a, v1, v2, rfl, hx, q⟩
  cases r1
  have hst : PO X (some (.UnaryOp .USub (.Constant (.int 1) k p1) p2)) (tPart (tUn (rU fun i => .int (-i)) (tC (.int 1)))) := po_some (pe_un un_neg pe_int)
  refine wpAny_Slice (thn (po_none.run pins s1 σ H1 (fun o H2 => o = none ∧ H2 = H1) I1 ⟨rfl, rfl⟩) ?_)
  rintro vl s2 ⟨l, H2, I2, pl, rfl, rfl⟩
  refine thn (po_none.run pins s2 σ H2 (fun o H3 => o = none ∧ H3 = H2) I2 ⟨rfl, rfl⟩) ?_
  rintro vu s3 ⟨u, H3, I3, pu, rfl, rfl⟩
  refine thn (hst.run pins s3 σ H3 (fun o H4 => o = some (-1) ∧ H4 = H3) I3 ⟨1, rfl, -1, rfl, rfl, rfl⟩) ?_
  rintro vs s4 ⟨o, H4, I4, ps, rfl, rfl⟩
  cases pl
  cases pu
  have I5 : Inv X pins σ H4 { s4 with heap := s4.heap.push { cls := .type "slice", data := .fields #[.none, .none, vs] } } := I4.kept (t' := s4.toks) fun b ob q => Heap.get?_push_of_some _ q
  obtain ⟨its, r, ht, hz⟩ := I5.tuple hx
  obtain ⟨w1, w2, rfl, m1, m2⟩ : ∃ w1 w2, its = [w1, w2] ∧ RelV v1 w1 ∧ RelV v2 w2 := by
    cases r with
    | cons a b =>
      cases b with
      | cons c d =>
        cases d
        exact ⟨_, _, rfl, a, c⟩
  show wpAny (model X.prog X.w) X.A (subscriptTail e (.Slice none none (some (.UnaryOp .USub (.Constant (.int 1) k p1) p2)) p3) (.ref a) (.ref s4.heap.objs.size)) (EP X pins σ Q) X.xe { s4 with heap := s4.heap.push { cls := .type "slice", data := .fields #[.none, .none, vs] } }
  refine tail_any (ops := [.ref a, .ref s4.heap.objs.size]) ht.typeIs (PyProof.Rows.slot_tuple_getitem.lookup) ?_ (by with_unfolding_all rfl)
  refine pair_back ht (Heap.IsSliceOf.new _ .none .none vs) ps ?_
  refine ⟨.ref _, _, I5.laid (t' := s4.toks) (o := .tup [v2, v1]) (fun b ob q => Heap.get?_push_of_some _ q) (Nat.le_refl _) ?_, rfl, q _ (I5.hok.fresh (Nat.le_refl _))⟩
  exact ⟨by show (2 : Nat) ≤ sizeLine; decide, _, .cons m2 (.cons m1 .nil), IsTup.new _ _⟩
/-! ### reversed(xs) -/
theorem lc_rev {K : PySem.W.Frag} {a : Addr} {xs : List V} {g : TG} {tt : TT} {te : TE} {vs : List Nat} {σ : L2.St} {H1 : Hp} {D : Addr} {Qd : Hp → Prop} (Pv : Nat → Hp → Prop) (h0 : Pv 0 (upd H1 D (.lst []))) (hl : ∀ i H, i ≤ xs.length → Pv i H → SqL K H a xs)
    (hs : ∀ i x H, xs.reverse[i]? = some x → Pv i H → g x (wipe σ vs) H fun σ2 H2 => wipe σ2 vs = wipe σ vs ∧ tt σ2 H2 fun b H3 =>
      if b = true then te σ2 H3 fun y H4 => ∃ acc, H4 D = some (.lst acc) ∧ acc.length < sizeLine ∧ Pv (i + 1) (upd H4 D (.lst (acc ++ [y]))) else Pv (i + 1) H3) (hd : ∀ H, Pv xs.length H → Qd H) :
    ∃ W : Nat → Nat → Hp → Prop, (∃ m, W 0 m (upd H1 D (.lst []))) ∧ ∀ i m H, W i m H →
      ((Itv K a xs.length).stop i H ∧ Qd H) ∨ ((Itv K a xs.length).go i H ∧ ∃ Nx : Hp → Prop, (∀ H', Nx H' → ∃ m', m' < m ∧ W (i + 1) m' H') ∧ ∀ x H', (Itv K a xs.length).yld i H x H' → g x (wipe σ vs) H' fun σ2 H2 => wipe σ2 vs = wipe σ vs ∧ tt σ2 H2 fun b H3 =>
        if b = true then te σ2 H3 fun y H4 => ∃ acc, H4 D = some (.lst acc) ∧ acc.length < sizeLine ∧ Nx (upd H4 D (.lst (acc ++ [y]))) else Nx H3) :=
  lc_it walk_rev Pv h0 hl (fun i x H H' hi p y => by obtain ⟨rfl, e⟩ := y; exact hs i x _ (by rw [List.getElem?_reverse hi]; exact e) p) hd
theorem piRevK {X : Cx} {K : PySem.W.Frag} {tg e : Expr} {ta : TA} (h : X.K = K) (hp : PI X tg e (iRev X.K ta)) : PI X tg e (iRev K ta) := by rw [← h]; exact hp
theorem rev_len {a : Type} [Py a] {F : Hp} {vs : List V} {xs : List a} (h : RL F vs xs) : vs.length = xs.reverse.length := by rw [List.length_reverse]; exact h.len
theorem atI_ix {a : Type} {xs : List a} {i : Int} {x : a} (e : L2.atI xs i = some x) : ∃ n, ixN xs.length i = some n ∧ xs[n]? = some x := by
  unfold L2.atI at e
  cases h : ixN xs.length i with
  | none => rw [h] at e; exact nomatch e
  | some n => rw [h] at e; exact ⟨n, rfl, e⟩
/-! ### rows that stand alone: a list of pairs of a branch and a list of its own, one of which is changed -/
def SepP (Z F : Hp) (ws : List V) : Prop := ∃ qs : List (Addr × V × Addr × List V), ws = qs.map (fun q => V.ref q.1) ∧
  (∀ q ∈ qs, F q.1 = some (.tup [q.2.1, .ref q.2.2.1]) ∧ F q.2.2.1 = some (.lst q.2.2.2) ∧ Z q.2.2.1 = none) ∧ (qs.map fun q => q.2.2.1).Nodup
def SepA (Z F : Hp) (p : Addr) : Prop := ∃ ws, F p = some (.lst ws) ∧ SepP Z F ws
theorem SepP.nil {Z F : Hp} : SepP Z F [] := ⟨[], rfl, fun _ h => (nomatch h), List.nodup_nil⟩
theorem SepP.mono {Z F F' : Hp} {ws : List V} (h : SepP Z F ws) (S : Same F F') : SepP Z F' ws := by
  obtain ⟨qs, e, k, nd⟩ := h
  exact ⟨qs, e, fun q hq => ⟨S _ _ (k q hq).1, S _ _ (k q hq).2.1, (k q hq).2.2⟩, nd⟩
theorem SepA.mono {Z F F' : Hp} {p : Addr} (h : SepA Z F p) (S : Same F F') : SepA Z F' p := by
  obtain ⟨ws, e, k⟩ := h
  exact ⟨ws, S _ _ e, k.mono S⟩
theorem SepP.snoc {Z F F' : Hp} {ws us : List V} {q r : Addr} {b : V} (h : SepP Z F ws) (S : Same F F') (hf : F r = none) (hz : Z r = none) (ht : F' q = some (.tup [b, .ref r])) (hr : F' r = some (.lst us)) : SepP Z F' (ws ++ [.ref q]) := by
  obtain ⟨qs, e, k, nd⟩ := h
  refine ⟨qs ++ [(q, b, r, us)], by rw [e, List.map_append]; rfl, fun x hx => ?_, ?_⟩
  · rcases List.mem_append.mp hx with hx | hx
    · exact ⟨S _ _ (k x hx).1, S _ _ (k x hx).2.1, (k x hx).2.2⟩
    · rw [List.mem_singleton.mp hx]; exact ⟨ht, hr, hz⟩
  · rw [List.map_append, List.nodup_append]
    refine ⟨nd, by simp, fun x hx y hy z => ?_⟩
    obtain ⟨w, hw, rfl⟩ := List.mem_map.mp hx
    have hy : y = r := by simpa using hy
    have := (k w hw).2.1
    rw [z, hy, hf] at this
    exact nomatch this
theorem RL.pt {a : Type} [Py a] {F : Hp} : ∀ {ws : List V} {xs : List a}, ws.length = xs.length → (∀ (m : Nat) (w : V) (x : a), ws[m]? = some w → xs[m]? = some x → R F w x) → RL F ws xs
  | [], [], _, _ => RL.nil
  | [], _ :: _, e, _ => by simp at e
  | _ :: _, [], e, _ => by simp at e
  | w :: ws, x :: xs, e, h => RL.cons (h 0 w x rfl rfl) (RL.pt (by simpa using e) fun m w x a b => h (m + 1) w x a b)
theorem sep_put {Z : Ent} {F H : Hp} (O : Ow Z F [] H) (P0 : Same Z.F Z.H) {pa q r : Addr} {b : V} {ws us : List V} {xs : List ((Int × Int) × List Int)} {row : List Int} {y : Int × Int} {n j : Nat} {v : Int}
    (hS : SepA Z.H F pa) (hpa : F pa = some (.lst ws)) (hl : RL F ws xs) (e : ws[n]? = some (.ref q)) (hq : F q = some (.tup [b, .ref r])) (hr : F r = some (.lst us)) (hb : R F b y) (hus : RL F us row) :
    ∃ F', Ow Z F' [] (upd H r (.lst (us.set j (.int v)))) ∧ Same Z.F F' ∧ R F' (.ref pa) (xs.set n (y, row.set j v)) := by
  obtain ⟨ws', e1, qs, e2, k, nd⟩ := hS
  rw [hpa] at e1
  have e1 : ws = ws' := by injection e1 with e1; injection e1
  subst e1
  have at_ : ∀ {m : Nat} {w : V}, ws[m]? = some w → ∃ x, qs[m]? = some x ∧ w = .ref x.1 := fun {m w} h => by
    rw [e2, List.getElem?_map] at h
    cases h2 : qs[m]? with
    | none => rw [h2] at h; exact nomatch h
    | some x => rw [h2] at h; exact ⟨x, rfl, (Option.some.inj h).symm⟩
  obtain ⟨x0, hx0, ex0⟩ := at_ e
  have kx := k x0 (List.mem_of_getElem? hx0)
  have eq0 : q = x0.1 := by injection ex0
  subst eq0
  rw [hq] at kx
  have two : ∀ {b b' : V} {r r' : Addr}, (some (HO.tup [b, .ref r]) : Option HO) = some (.tup [b', .ref r']) → r = r' := fun h => by
    injection h with h
    injection h with h
    injection h with _ h
    injection h with h
    injection h
  have er : r = x0.2.2.1 := two kx.1
  have hz : Z.H r = none := by rw [er]; exact kx.2.2
  have hzf : Z.F r = none := by
    cases h : Z.F r with
    | none => rfl
    | some o => rw [P0 _ _ h] at hz; exact nomatch hz
  have hus' := RL.ints hus
  refine ⟨upd F r (.lst (us.set j (.int v))), ⟨⟨fun c u h => ?_, Same.upd2 O.g.s, fun c u hc h => ?_, fun c h => ?_, fun c h => ?_, fun c z h => ?_⟩, fun _ h => (nomatch h), fun _ h => (nomatch h), List.nodup_nil, fun _ h => (nomatch h), fun _ h => nomatch h⟩, fun c u h => ?_, ?_⟩
  · rw [upd_ne (fun z => by subst z; rw [hzf] at h; exact nomatch h)]
    exact O.g.f _ _ h
  · rw [upd_ne (fun z => by subst z; rw [hz] at h; exact nomatch h)]
    exact O.g.k _ _ hc h
  · by_cases z : c = r
    · subst z; rw [upd_same]; exact fun z => nomatch z
    · rw [upd_ne z]; exact O.g.t _ h
  · rw [upd_ne (fun z => by subst z; exact h hz)]
    exact O.g.n _ h
  · by_cases w : c = r
    · subst w; rw [upd_same] at h; exact nomatch h
    · rw [upd_ne w] at h; exact O.g.u _ _ h
  · rw [upd_ne (fun z => by subst z; rw [hzf] at h; exact nomatch h)]
    exact O.g.f _ _ h
  · have tp : ∀ (c : Addr) (z : List V), F c = some (.tup z) → upd F r (.lst (us.set j (.int v))) c = some (.tup z) := fun c z h => by
      rw [upd_ne (fun w => by subst w; rw [hr] at h; exact nomatch h)]
      exact h
    have hpr : pa ≠ r := fun z => by
      subst z
      rw [hpa] at hr
      have hr : ws = us := by injection hr with hr; injection hr
      rw [hr, hus', List.getElem?_map] at e
      cases h2 : row[n]? with
      | none => rw [h2] at e; exact nomatch e
      | some x => rw [h2] at e; exact nomatch e
    refine R.lst (by rw [upd_ne hpr]; exact hpa) (RL.pt (by rw [List.length_set]; exact hl.len) fun m w x h1 h2 => ?_)
    by_cases c : n = m
    · subst c
      have hn : n < xs.length := by
        rw [← hl.len]
        exact (List.getElem?_eq_some_iff.mp h1).1
      rw [List.getElem?_set_self hn] at h2
      rw [e] at h1
      cases h1
      cases h2
      refine R.t2 (tp _ _ hq) (NoL.mv _ _ tp _ _ hb) ?_
      refine R.lst upd_same ?_
      rw [hus']
      have := RL.of_ints (H := upd F r (.lst (us.set j (.int v)))) (xs := row.set j v)
      rw [List.map_set] at this
      rw [hus'] at this
      exact this
    · rw [List.getElem?_set_ne c] at h2
      obtain ⟨w', hw', rw'⟩ := hl.get h2
      rw [h1] at hw'
      cases hw'
      obtain ⟨q1, b1, v1, e3, hq1, hb1, hv1⟩ := R.t2_ rw'
      subst e3
      obtain ⟨r1, us1, e4, hr1, hu1⟩ := R.lst_ hv1
      subst e4
      obtain ⟨x1, hx1, ex1⟩ := at_ h1
      have k1 := k x1 (List.mem_of_getElem? hx1)
      have eq1 : q1 = x1.1 := by injection ex1
      subst eq1
      rw [hq1] at k1
      have er1 : r1 = x1.2.2.1 := two k1.1
      have hne : r1 ≠ r := fun z => by
        have g1 : (qs.map fun q => q.2.2.1)[n]? = some r := by rw [List.getElem?_map, hx0, er]; rfl
        have g2 : (qs.map fun q => q.2.2.1)[m]? = some r := by rw [List.getElem?_map, hx1, ← z, er1]; rfl
        exact c (nd_ix nd g1 g2)
      refine R.t2 (tp _ _ hq1) (NoL.mv _ _ tp _ _ hb1) (R.lst (by rw [upd_ne hne]; exact hr1) ?_)
      rw [RL.ints hu1]
      exact RL.of_ints
/-! ### d.setdefault(k, z), d.get(k, z) -/
def dSetd {κ β : Type} [DecidableEq κ] (xs : List (κ × β)) (k : κ) (z : β) : List (κ × β) := match dGet xs k with
  | some _ => xs
  | none => dPut xs k z
def setdD {κ β : Type} [DecidableEq κ] (xs : List (κ × β)) (k : κ) (z : β) : M (β × List (κ × β)) := if xs.length < 16777216 then .ok ((dGet xs k).getD z, dSetd xs k z) else bad
theorem wp_setdD {κ β a : Type} [DecidableEq κ] {Q : a → Prop} {E : String → Prop} {xs : List (κ × β)} {j : κ} {y : β} {k : β × List (κ × β) → M a} (h : wp (setdD xs j y >>= k) Q E) : xs.length < sizeLine ∧ wp (k ((dGet xs j).getD y, dSetd xs j y)) Q E := by
  unfold setdD at h
  by_cases hl : xs.length < 16777216
  · rw [if_pos hl] at h
    exact ⟨lt_line hl, h⟩
  · rw [if_neg hl] at h
    exact h.elim
section
variable {κ K' β : Type} [DK κ K'] [DecidableEq κ] [DecidableEq K'] [Py β] {F : Hp} {kvs : List (K' × V)} {xs : List (κ × β)}
theorem setd_ok (h : RD F kvs xs) (k : κ) {vz : V} {z : β} (hz : R F vz z) : ∃ v' kvs', RD F kvs' (dSetd xs k z) ∧ R F v' ((dGet xs k).getD z) ∧ (valV kvs (DK.kk k) = none → v' = vz ∧ kvs' = putK kvs (DK.kk k) vz) ∧ (∀ u, valV kvs (DK.kk k) = some u → v' = u ∧ kvs' = kvs) := by
  unfold dSetd
  rcases h.get k with ⟨a, b⟩ | ⟨y, v, a, b, c⟩
  · rw [a, b]; exact ⟨vz, _, h.put k hz, hz, fun _ => ⟨rfl, rfl⟩, fun u e => nomatch e⟩
  · rw [a, b]; exact ⟨v, kvs, h, c, fun e => (nomatch e), fun u e => ⟨Option.some.inj e, rfl⟩⟩
theorem dgetD_any (h : RD F kvs xs) (k : κ) {vz : V} {z : β} (hz : R F vz z) : ∃ v, (valV kvs (DK.kk k)).getD vz = v ∧ R F v ((dGet xs k).getD z) := by
  rcases h.get k with ⟨a, b⟩ | ⟨y, v, a, b, c⟩
  · rw [a, b]; exact ⟨_, rfl, hz⟩
  · rw [a, b]; exact ⟨_, rfl, c⟩
end
def tDSetdX (td ty tx : TE) : TE := fun σ H Q => td σ H fun x H1 => ∃ a, x = .ref a ∧ L2.IsD H1 a ∧ ty σ H1 fun y H2 => tx σ H2 fun z H3 => ∃ (kvs : List (Key × V)) (k : Key) (v' : V) (kvs' : List (Key × V)), H3 a = some (.dK kvs) ∧ y = kV k ∧ kvs.length < sizeLine ∧
  (valV kvs k = none → v' = z ∧ kvs' = putK kvs k z) ∧ (∀ u, valV kvs k = some u → v' = u ∧ kvs' = kvs) ∧ Q v' (upd H3 a (.dK kvs'))
theorem pe_dsetdX {X : Cx} {o e f : Expr} {td ty tx : TE} {apos cpos : Pos} (ho : PE X o td) (he : PE X e ty) (hf : PE X f tx) (m : M2 X o "setdefault" apos e f cpos) : PE X (.Call (.Attribute o "setdefault" apos) [e, f] [] cpos) (tDSetdX td ty tx) := by
  refine ⟨fun pins s σ H Q I h => ?_⟩
  refine wpAny_Call_method m.base m.few m.line PySem.F.plainAttrs_dict PySem.F.slot_dict_setdefault PySem.F.type_dict_setdefault (thn (ho.run pins s σ H _ I h) fun u s1 ⟨x, H1, I1, rx, a, ex, d, q1⟩ => ?_)
  subst ex
  obtain rfl : u = Value.ref a := rx
  obtain ⟨t1, t2, _⟩ := isD_at I1 d
  refine ⟨t1, t2, ?_⟩
  rw [m.trees]
  refine Calls.callWith_builtin rfl (Calls.evalArgs_plain (Calls.spliced_cons (thn (he.run pins s1 σ H1 _ I1 q1) fun iv s2 ⟨y, H2, I2, ry, q2⟩ =>
    Calls.spliced_cons (thn (hf.run pins s2 σ H2 _ I2 q2) fun fv s3 ⟨z, H3, I3, rz, kvs, k, v', kvs', ea, ey, hl, q3, q4, q5⟩ => Calls.spliced_nil ?_))))
  subst ey
  refine d_setd I3 ea ry rz hl (fun v hv w' s4 I4 rw' => ?_) fun hn w' s4 I4 rw' => ?_
  · obtain ⟨e1, e2⟩ := q4 v hv
    rw [e1, e2] at q5
    have eH : upd H3 a (.dK kvs) = H3 := by
      funext b
      by_cases c : b = a
      · subst c; rw [upd_same, ea]
      · rw [upd_ne c]
    rw [eH] at q5
    exact ⟨v, _, I4, rw', q5⟩
  · obtain ⟨e1, e2⟩ := q3 hn
    rw [e1, e2] at q5
    exact ⟨z, _, I4, rw', q5⟩
/-! ### an option of a whole number is told of any heap -/
theorem R.oi_mv {F F' : Hp} {v : V} {x : Option Int} (h : R F v x) : R F' v x := by
  cases x with
  | none => rw [R.non_ h]; exact R.non
  | some i => rw [R.int_ (R.jst_ h)]; exact R.jst R.int
instance : NoL (Option Int) := ⟨fun _ _ _ _ _ h => R.oi_mv h⟩
end PG

set_option Elab.async false
set_option linter.all false
set_option maxRecDepth 100000
set_option maxHeartbeats 4000000
namespace PG
open PySem PySem.Spec PyProof.Rows L2
open PySem.W (T3 T4 Datum DatumOrd Holds HoldAll EachIs)
variable {K0 : PySem.W.Frag} [KF K0]
/-! ### classes: their defs as they stand, as callers use them -/
structure DfM (K : PySem.W.Frag) (C : Addr) (m qual : Str) (st : Stmt) (ps : List Str) : Prop where
  ex : ∃ f fd, Fun K m qual st f fd ∧ Meth K C m f ∧ Binds K fd ps []
structure CaM (P : Program) (w : World) (K : PySem.W.Frag) (mg : Str → Option Value) (base : Heap) (C : Addr) (m : Str) (k : Nat) (ps : List Str) (sp : Sp) : Prop where
  ex : ∃ f fd, FnOk P w K mg base (L2.CX P w) k f fd ps sp ∧ Meth K C m f ∧ True ∧ Binds K fd ps []
structure DfI (K : PySem.W.Frag) (C : Addr) (qual : Str) (st : Stmt) (ps : List Str) : Prop where
  ex : ∃ f fd, Fun K "__init__" qual st f fd ∧ Mk K C f ∧ Binds K fd ps []
structure CaI (P : Program) (w : World) (K : PySem.W.Frag) (mg : Str → Option Value) (base : Heap) (C : Addr) (k : Nat) (ps : List Str) (sp : Sp) : Prop where
  ex : ∃ f fd, FnOk P w K mg base (L2.CX P w) k f fd ps sp ∧ Mk K C f ∧ True ∧ Binds K fd ps []
section
variable {P : Program} {w : World} {K : PySem.W.Frag} {mg : Str → Option Value} {base : Heap} {C : Addr}
theorem CaM.mk' {m qual : Str} {st : Stmt} {N ps : List Str} {k : Nat} {sp : Sp} (D : DfM K C m qual st ps) (S : FnScope N ps (defScope st)) (len : ∀ vs H Q E, sp vs H Q E → vs.length = ps.length)
    (hbody : ∀ (qual' : Str) (f : Addr) (cdv : Value) (A : Around) (outer : List Env) (s : Shared) (H : Hp) (vs : List V) (Q : VK) (E : XK), Room k (A.deeper (envOfC qual (defScope st) s.heap.objs.size f cdv)) → sp vs H Q E →
      ∃ t, PSs (cxOf (L2.CX P w) P w K mg base N qual (defScope st) f cdv A outer s H E) (defBody st) t ∧ t { nx := fun _ H' => Q .non H', rt := Q } (start N vs) H) : CaM P w K mg base C m (k + 1) ps sp := by
  obtain ⟨f, fd, F, m, b⟩ := D.ex
  exact ⟨f, fd, F.okX S len fun cdv A outer s H vs Q E hr h => hbody qual f cdv A outer s H vs Q E hr h, m, trivial, b⟩
theorem CaI.mk' {qual : Str} {st : Stmt} {N ps : List Str} {k : Nat} {sp : Sp} (D : DfI K C qual st ps) (S : FnScope N ps (defScope st)) (len : ∀ vs H Q E, sp vs H Q E → vs.length = ps.length)
    (hbody : ∀ (qual' : Str) (f : Addr) (cdv : Value) (A : Around) (outer : List Env) (s : Shared) (H : Hp) (vs : List V) (Q : VK) (E : XK), Room k (A.deeper (envOfC qual (defScope st) s.heap.objs.size f cdv)) → sp vs H Q E →
      ∃ t, PSs (cxOf (L2.CX P w) P w K mg base N qual (defScope st) f cdv A outer s H E) (defBody st) t ∧ t { nx := fun _ H' => Q .non H', rt := Q } (start N vs) H) : CaI P w K mg base C (k + 1) ps sp := by
  obtain ⟨f, fd, F, m, b⟩ := D.ex
  exact ⟨f, fd, F.okX S len fun cdv A outer s H vs Q E hr h => hbody qual f cdv A outer s H vs Q E hr h, m, trivial, b⟩
end
/-! ### calls of methods, and a class made, within a try -/
section
variable {X : Cx} {k : Nat} {f C : Addr} {fd : FuncData} {ps : List Str} {sp : Sp} {W : WX} {x m : Str} {p apos pos : Pos} {o e : Expr} {es : List Expr} {ta : TE} {t : TA}
def tMethW (C : Addr) (m : Str) (sp : Sp) (W : WX) (ta : TE) (t : TA) : TE := fun σ H Q => ta σ H fun x H1 => ∃ a dx fs, x = .ref a ∧ H1 a = some (.ins C dx fs) ∧ fs.lookup m = none ∧
  t σ H1 fun vs H2 => sp (x :: (vs ++ [])) H2 Q fun cls d H' => W cls d σ H'
theorem pe_methW {pl : Sem Bool} (he : PE X o ta) (c : Cls X.K C) (hm : Meth X.K C m f) (F : FnOk X.prog X.w X.K X.mg X.base (L2.CX X.prog X.w) k f fd ps sp) (hr : Room k X.A) (hb : Binds X.K fd ps []) (tk : Takes X W) (ha : PA X (e :: es) t)
    (hst : starEach (e :: es) X.env = (false, eval e X.env) :: starEach es X.env := by rfl) (hpl : (backTo pos (starEach es X.env)).any (·.1) = false := by rfl)
    (ht : eval (.Call (.Attribute o m apos) (e :: es) [] pos) X.env = (do
      let ov ← eval o X.env
      standAt apos.atName
      let (f, first) ← holding [ov] (getMethod ov m pl)
      callWith pos f first (backTo pos (starEach (e :: es) X.env)) (backToKw pos (keywordEach [] X.env))) := by rfl) :
    PE X (.Call (.Attribute o m apos) (e :: es) [] pos) (tMethW C m sp W ta t) := by
  refine ⟨fun pins s σ H Q I h => ?_⟩
  refine PySem.W.methodCall_KW (pl := pl) (thn (he.run pins s σ H _ I h) fun u s1 ⟨x, H1, I1, rx, a, dx, fs, ex, ea, l, q⟩ => ?_) ht
  subst ex
  obtain rfl : u = Value.ref a := rx
  refine getmeth_ok I1 ea c hm l ?_
  refine PySem.W.callWith_K (first := [.ref a]) (h₀ := X.base) I1.ok.mod.kin hm.kp (thn (ha.run pos pins s1 σ H1 _ I1 q) fun us g ⟨vs, G, J, r, q2⟩ => ⟨J.kIn, ?_⟩) hst hpl
  have r2 : Vals (V.ref a :: (vs ++ [])) (Value.ref a :: us) := by
    rw [List.append_nil]; exact .cons rfl r
  have hl : (Value.ref a :: us).length = ps.length := by rw [← r2.length]; exact F.len _ _ _ _ q2
  refine wpAny_call (codeAny_mono (F.run X.A X.stack g G ⟨Value.ref a :: us, []⟩ (Value.ref a :: us) (V.ref a :: (vs ++ [])) Q (fun cls d H' => W cls d σ H') hr J.env0 (by have := hb g (Value.ref a :: us) J.kIn (by simpa using hl); simpa using this) r2 q2) fun res g' hq => ?_)
  cases res with
  | error z => exact tk _ _ (XE.of_call J (fun _ _ _ h => h) hq)
  | ok fl =>
    cases fl with
    | ret u => exact J.after hq
    | next => exact hq.elim
    | brk => exact hq.elim
    | cont => exact hq.elim
def tMakeW (C : Addr) (sp : Sp) (W : WX) (t : TA) : TE := fun σ H Q => t σ H fun vs H1 => ∀ x dx, H1 x = none → H1 dx = none → dx ≠ x →
  sp (.ref x :: (vs ++ [])) (upd (upd H1 dx (.own x)) x (.ins C dx [])) (fun v H2 => v = .non ∧ Q (.ref x) H2) fun cls d H' => W cls d σ H'
theorem pe_makeW (M : Mk X.K C f) (F : FnOk X.prog X.w X.K X.mg X.base (L2.CX X.prog X.w) k f fd ps sp) (hr : Room (k + 1) X.A) (hg : Gl X x) (hm : X.mg x = some (.ref C)) (hb : Binds X.K fd ps []) (tk : Takes X W)
    (ha : PA X (e :: es) t) (hdb : (x == ("__debug__" : Str)) = false := by decide) (he : starEach (e :: es) X.env = (false, eval e X.env) :: starEach es X.env := by rfl) (hpl : (backTo pos (starEach es X.env)).any (·.1) = false := by rfl) :
    PE X (.Call (.Name x p) (e :: es) [] pos) (tMakeW C sp W t) := by
  refine ⟨fun pins s σ H Q I h => wpAny_Call_Name_kw (ld_glob I hg hm ?_ hdb)⟩
  refine PySem.W.callWith_K (h₀ := X.base) I.ok.mod.kin M.kp (thn (ha.run pos pins s σ H _ I h) fun us s1 ⟨vs, H1, I1, r, h⟩ => ⟨I1.kIn, ?_⟩) he hpl
  have hq := h (s1.heap.objs.size + 1) s1.heap.objs.size (I1.hok.fresh (Nat.le_succ _)) (I1.hok.fresh (Nat.le_refl _)) (Nat.ne_of_lt (Nat.lt_succ_self _))
  have I2 := Inv.made (C := C) I1
  have r2 : Vals (V.ref (s1.heap.objs.size + 1) :: (vs ++ [])) (Value.ref (s1.heap.objs.size + 1) :: us) := by
    rw [List.append_nil]; exact .cons rfl r
  have hl : (Value.ref (s1.heap.objs.size + 1) :: us).length = ps.length := by
    have e := r2.length
    rw [F.len _ _ _ _ hq] at e
    exact e.symm
  refine wpAny_call (make_map (f := f) I1.kIn M.makes M.init (beq_iff_eq.mp M.fn) (codeAny_mono (F.run _ X.stack _ _ ⟨Value.ref (s1.heap.objs.size + 1) :: us, []⟩ (Value.ref (s1.heap.objs.size + 1) :: us) _ _ (fun cls d H' => W cls d σ H') (hr.make C us [])
    (I2.env0.make C us []) (by have := hb _ (Value.ref (s1.heap.objs.size + 1) :: us) I2.kIn (by simpa using hl); simpa using this) r2 hq) fun r s' hq' => ?_))
  cases r with
  | error e => exact tk _ _ (XE.of_call I2 (fun _ _ _ h => h) hq')
  | ok fl =>
    cases fl with
    | ret u =>
      obtain ⟨v, H', I3, rv, ev, q3⟩ := I2.after hq'
      subst ev
      exact ⟨rv, ⟨V.ref (s1.heap.objs.size + 1), H', I3, rfl, q3⟩⟩
    | next => exact False.elim hq'
    | brk => exact False.elim hq'
    | cont => exact False.elim hq'
end
/-! ### cells handed on: some that stay as they are, some that change -/
section
variable {Z : Ent} {F F' H H' : Hp} {cs ds : List (Addr × HO)} {as : List Addr} {p a q : Addr} {o o' : HO}
inductive Pk (cs : List (Addr × HO)) : List Nat → List (Addr × HO) → Prop
  | nil : Pk cs [] []
  | cons {i : Nat} {is : List Nat} {d : Addr × HO} {ds : List (Addr × HO)} : cs[i]? = some d → Pk cs is ds → Pk cs (i :: is) (d :: ds)
theorem Pk.mem {is : List Nat} : ∀ {is : List Nat} {ds : List (Addr × HO)}, Pk cs is ds → ∀ d ∈ ds, d ∈ cs ∧ ∃ i ∈ is, cs[i]? = some d
  | _, _, .nil, d, h => nomatch h
  | _, _, .cons e r, d, h => by
    rcases List.mem_cons.mp h with rfl | h
    · exact ⟨List.mem_of_getElem? e, _, List.mem_cons_self, e⟩
    · obtain ⟨h1, i, h2, h3⟩ := Pk.mem (is := []) r d h
      exact ⟨h1, i, List.mem_cons_of_mem _ h2, h3⟩
theorem Pk.nodup (nd : (cs.map (·.1)).Nodup) : ∀ {is : List Nat} {ds : List (Addr × HO)}, Pk cs is ds → is.Nodup → (ds.map (·.1)).Nodup
  | _, _, .nil, _ => List.nodup_nil
  | _, _, .cons (i := i) (d := d) e r, n => by
    have n := List.nodup_cons.mp n
    rw [List.map_cons, List.nodup_cons]
    refine ⟨fun hm => ?_, Pk.nodup nd r n.2⟩
    obtain ⟨c, hc, ec⟩ := List.mem_map.mp hm
    obtain ⟨_, j, hj, ej⟩ := Pk.mem (is := []) r c hc
    have h1 : (cs.map (·.1))[i]? = some d.1 := by rw [List.getElem?_map, e]; rfl
    have h2 : (cs.map (·.1))[j]? = some d.1 := by rw [List.getElem?_map, ej, ← ec]; rfl
    exact n.1 (nd_ix nd h1 h2 ▸ hj)
theorem Ow.preIx (O : Ow Z F cs H) (is : List Nat) (h : Pk cs is ds) (n : is.Nodup := by decide) : Pre F ds H where
  s := O.g.s
  cf := fun c hc => O.cf c (h.mem (is := []) c hc).1
  ch := fun c hc => O.ch c (h.mem (is := []) c hc).1
  nd := h.nodup O.nd n
  nt := fun c hc => O.nt c (h.mem (is := []) c hc).1
/-- cells of the entry that stand as they stood -/
theorem Gr.less {bs : List Addr} (g : Gr as F H F' H') (h : ∀ b ∈ as, b ∈ bs ∨ ∃ o, H b = some o ∧ H' b = some o) : Gr bs F H F' H' where
  f := g.f
  s := g.s
  k := fun b o hb e => by
    by_cases z : b ∈ as
    · rcases h b z with w | ⟨o', e1, e2⟩
      · exact (hb w).elim
      · rw [e] at e1
        rw [e2, Option.some.inj e1]
    · exact g.k b o z e
  t := g.t
  n := g.n
  u := g.u
theorem Kp.less {bs : List Addr} {H1 : Hp} (k : Kp as H H1) (h : ∀ b ∈ as, b ∈ bs ∨ ∃ o, H b = some o ∧ H1 b = some o) : Kp bs H H1 where
  k := fun b o hb e => by
    by_cases z : b ∈ as
    · rcases h b z with w | ⟨o', e1, e2⟩
      · exact (hb w).elim
      · rw [e] at e1
        rw [e2, Option.some.inj e1]
    · exact k.k b o z e
  t := k.t
theorem less_nil {bs : List Addr} {H1 : Hp} : ∀ b ∈ ([] : List Addr), b ∈ bs ∨ ∃ o, H b = some o ∧ H1 b = some o := fun _ h => nomatch h
theorem less_same {bs : List Addr} {H1 : Hp} (e1 : H a = some o) (e2 : H1 a = some o) (h : ∀ b ∈ as, b ∈ bs ∨ ∃ o, H b = some o ∧ H1 b = some o) : ∀ b ∈ a :: as, b ∈ bs ∨ ∃ o, H b = some o ∧ H1 b = some o := fun b hb => by
  rcases List.mem_cons.mp hb with rfl | hb
  · exact .inr ⟨o, e1, e2⟩
  · exact h b hb
theorem less_in {bs : List Addr} {H1 : Hp} (e : a ∈ bs) (h : ∀ b ∈ as, b ∈ bs ∨ ∃ o, H b = some o ∧ H1 b = some o) : ∀ b ∈ a :: as, b ∈ bs ∨ ∃ o, H b = some o ∧ H1 b = some o := fun b hb => by
  rcases List.mem_cons.mp hb with rfl | hb
  · exact .inl e
  · exact h b hb
theorem nd_set : ∀ {l : List Addr} {i : Nat} {p : Addr}, l.Nodup → i < l.length → p ∉ l → (l.set i p).Nodup
  | [], _, _, _, h, _ => absurd h (Nat.not_lt_zero _)
  | x :: l, 0, p, nd, _, hm => List.nodup_cons.mpr ⟨fun h => hm (List.mem_cons_of_mem _ h), (List.nodup_cons.mp nd).2⟩
  | x :: l, i + 1, p, nd, h, hm => by
    have n := List.nodup_cons.mp nd
    refine List.nodup_cons.mpr ⟨fun hx => ?_, nd_set n.2 (Nat.lt_of_succ_lt_succ h) fun w => hm (List.mem_cons_of_mem _ w)⟩
    rcases List.mem_or_eq_of_mem_set hx with w | w
    · exact n.1 w
    · exact hm (by rw [← w]; exact List.mem_cons_self)
/-- a cell of ours at another state, told by its place: the cells that a call may have changed -/
structure OwC (Z : Ent) (F : Hp) (cs : List (Addr × HO)) (as : List Addr) (H : Hp) : Prop where
  g : Gr Z.as Z.F Z.H F H
  cf : ∀ c ∈ cs, F c.1 = none
  ch : ∀ c ∈ cs, c.1 ∉ as → H c.1 = some c.2
  nd : (cs.map (·.1)).Nodup
  ca : ∀ c ∈ cs, c.1 ∈ Z.as ∨ Z.H c.1 = none
  nt : ∀ c ∈ cs, noTup c.2 = true
theorem Ow.callC (O : Ow Z F cs H) (g : Gr as F H F' H') (hin : ∀ b ∈ as, ∃ o, (b, o) ∈ cs) : OwC Z F' cs as H' where
  g := O.g.then g fun b hb => by
    obtain ⟨o, hc⟩ := hin b hb
    exact O.ca _ hc
  cf := fun c hc => g.none (O.ch c hc) (O.nt c hc) (O.cf c hc)
  ch := fun c hc hn => g.k _ _ hn (O.ch c hc)
  nd := O.nd
  ca := O.ca
  nt := O.nt
theorem OwC.set (O : OwC Z F cs (a :: as) H) (i : Nat) (e : cs[i]? = some (a, o)) (h' : H a = some o') (hn : noTup o' = true := by rfl) : OwC Z F (cs.set i (a, o')) as H := by
  have m := List.mem_of_getElem? e
  refine ⟨O.g, fun c hc => ?_, fun c hc hx => ?_, by rw [map_set_fst e]; exact O.nd, fun c hc => ?_, fun c hc => ?_⟩
  · rcases nd_other O.nd e hc with rfl | ⟨h1, _⟩
    · exact O.cf (a, o) m
    · exact O.cf c h1
  · rcases nd_other O.nd e hc with rfl | ⟨h1, h2⟩
    · exact h'
    · exact O.ch c h1 fun z => (List.mem_cons.mp z).elim h2 hx
  · rcases nd_other O.nd e hc with rfl | ⟨h1, _⟩
    · exact O.ca (a, o) m
    · exact O.ca c h1
  · rcases nd_other O.nd e hc with rfl | ⟨h1, _⟩
    · exact hn
    · exact O.nt c h1
theorem OwC.later (O : OwC Z F cs (a :: as) H) : OwC Z F cs (as ++ [a]) H := ⟨O.g, O.cf, fun c hc hn => O.ch c hc fun z => hn (by
  rcases List.mem_cons.mp z with w | w
  · rw [w]; simp
  · exact List.mem_append_left _ w), O.nd, O.ca, O.nt⟩
/-- the cell at i is gone: another one stands in its place -/
theorem OwC.repl (O : OwC Z F cs [a] H) (i : Nat) (e : cs[i]? = some (a, o)) (hm : p = a ∨ p ∉ cs.map (·.1)) (hz : p ∈ Z.as ∨ Z.H p = none) (hf : F p = none) (h : H p = some o') (ht : noTup o' = true := by rfl) : OwC Z F (cs.set i (p, o')) [] H := by
  have nd2 : ((cs.set i (p, o')).map (·.1)).Nodup := by
    rw [List.map_set]
    rcases hm with rfl | hm
    · have : (cs.map (·.1)).set i p = cs.map (·.1) := by
        rw [← List.map_set (f := (·.1)) (a := (p, o))]
        exact map_set_fst e
      rw [this]
      exact O.nd
    · obtain ⟨hl, _⟩ := List.getElem?_eq_some_iff.mp e
      exact nd_set O.nd (by rw [List.length_map]; exact hl) hm
  have oth : ∀ c ∈ cs.set i (p, o'), c = (p, o') ∨ (c ∈ cs ∧ c.1 ≠ a) := fun c hc => by
    obtain ⟨j, hj⟩ := List.mem_iff_getElem?.mp hc
    by_cases hij : i = j
    · subst hij
      obtain ⟨hl, _⟩ := List.getElem?_eq_some_iff.mp e
      rw [List.getElem?_set_self hl] at hj
      exact .inl (Option.some.inj hj).symm
    · rw [List.getElem?_set_ne hij] at hj
      refine .inr ⟨List.mem_of_getElem? hj, fun z => hij ?_⟩
      have h1 : (cs.map (·.1))[i]? = some a := by rw [List.getElem?_map, e]; rfl
      have h2 : (cs.map (·.1))[j]? = some a := by rw [List.getElem?_map, hj, ← z]; rfl
      exact nd_ix O.nd h1 h2
  refine ⟨O.g, fun c hc => ?_, fun c hc hx => ?_, nd2, fun c hc => ?_, fun c hc => ?_⟩
  · rcases oth c hc with rfl | ⟨h1, _⟩
    · exact hf
    · exact O.cf c h1
  · rcases oth c hc with rfl | ⟨h1, h2⟩
    · exact h
    · exact O.ch c h1 fun z => (List.mem_cons.mp z).elim h2 (fun z => nomatch z)
  · rcases oth c hc with rfl | ⟨h1, _⟩
    · exact hz
    · exact O.ca c h1
  · rcases oth c hc with rfl | ⟨h1, _⟩
    · exact ht
    · exact O.nt c h1
theorem Ow.repl (O : Ow Z F cs H) (i : Nat) (e : cs[i]? = some (a, o)) (hm : p ∉ cs.map (·.1)) (hz : Z.H p = none) (hf : F p = none) (h : H p = some o') (ht : noTup o' = true := by rfl) : Ow Z F (cs.set i (p, o')) H := by
  have O1 : OwC Z F cs [a] H := ⟨O.g, O.cf, fun c hc _ => O.ch c hc, O.nd, O.ca, O.nt⟩
  have O2 := O1.repl i e (.inr hm) (.inr hz) hf h ht
  exact ⟨O2.g, O2.cf, fun c hc => O2.ch c hc (fun h => nomatch h), O2.nd, O2.ca, O2.nt⟩
theorem Ow.freshX (O : Ow Z F cs H) (i : Nat) (e : cs[i]? = some (a, o)) (h : p = a ∨ H p = none) : p = a ∨ p ∉ cs.map (·.1) := h.imp id fun h => O.fresh h
theorem Ow.wasX (O : Ow Z F cs H) (i : Nat) (e : cs[i]? = some (a, o)) (h : p = a ∨ H p = none) : p ∈ Z.as ∨ Z.H p = none := by
  rcases h with rfl | h
  · exact O.ca _ (List.mem_of_getElem? e)
  · exact .inr (O.was h)
theorem orx {q a a0 : Addr} {H ZH : Hp} (h1 : q = a ∨ H q = none) (h2 : a = a0 ∨ ZH a = none) (h3 : H q = none → ZH q = none) : q = a0 ∨ ZH q = none := by
  rcases h1 with rfl | h1
  · exact h2
  · exact .inr (h3 h1)
theorem nmem_set {q : Addr} {l : List Addr} {i : Nat} (h2 : p ∉ l) (h1 : p ≠ q) : p ∉ l.set i q := fun h => by
  rcases List.mem_or_eq_of_mem_set h with w | w
  · exact h2 w
  · exact h1 w
theorem OwC.done (O : OwC Z F cs [] H) : Ow Z F cs H := ⟨O.g, O.cf, fun c hc => O.ch c hc (fun h => nomatch h), O.nd, O.ca, O.nt⟩
/-- a store whose outcome is told otherwise -/
theorem Ow.setE (O : Ow Z F cs H) (i : Nat) {o1 o2 : HO} (he : o1 = o2) (e : cs[i]? = some (a, o)) (hn : noTup o2 = true := by rfl) : Ow Z F (cs.set i (a, o2)) (upd H a o1) := by
  subst he
  exact O.set i o1 e hn
theorem nmemC {b : Addr} {l : List Addr} (h1 : p ≠ b) (h2 : p ∉ l) : p ∉ b :: l := fun h => (List.mem_cons.mp h).elim h1 h2
/-- a new object, as yet without fields -/
theorem Ow.made {x dx C : Addr} (O : Ow Z F cs H) (nx : H x = none) (ndx : H dx = none) (ne : dx ≠ x) : ∃ F', Ow Z F' ((x, .ins C dx []) :: cs) (upd (upd H dx (.own x)) x (.ins C dx [])) ∧ Same F F' := by
  refine ⟨_, (O.put (o := .own x) ndx).new (o := .ins C dx []) (by rw [upd_ne ne.symm]; exact nx), O.putS ndx⟩
theorem Ow.setIns {x dx C : Addr} {fs fs' : List (Str × V)} (O : Ow Z F cs H) (i : Nat) (e : cs[i]? = some (x, .ins C dx fs)) (he : fs' = fs' := by rfl) : Ow Z F (cs.set i (x, .ins C dx fs')) (upd H x (.ins C dx fs')) := O.set i _ e rfl
end
theorem pe_fldK {X : Cx} {K : PySem.W.Frag} {e : Expr} {f : Str} {pos : Pos} {ta : TE} (h : X.K = K) (he : PE X e ta) (hb : attributeBase e f X.env (eval e X.env) = eval e X.env) : PE X (.Attribute e f pos) (tFld K ta f) := by
  rw [← h]; exact pe_fld he hb
/-! ### few fields -/
theorem putF_nil {f : Str} {v : V} : putF f v [] = [(f, v)] := rfl
theorem putF_eq {f : Str} {v x : V} {r : List (Str × V)} : putF f v ((f, x) :: r) = (f, v) :: r := if_pos rfl
theorem putF_ne {f g : Str} {v x : V} {r : List (Str × V)} (h : ¬ g = f) : putF f v ((g, x) :: r) = (g, x) :: putF f v r := if_neg h
theorem lk_eq {f : Str} {x : V} {r : List (Str × V)} : ((f, x) :: r).lookup f = some x := by
  show (match f == f with | true => some x | false => r.lookup f) = some x
  rw [show (f == f) = true from beq_self_eq_true f]
theorem lk_ne {f g : Str} {x : V} {r : List (Str × V)} (h : ¬ f = g) : ((g, x) :: r).lookup f = r.lookup f := by
  show (match f == g with | true => some x | false => r.lookup f) = _
  rw [show (f == g) = false from beq_eq_false_iff_ne.mpr h]
theorem few0 : ([] : List (Str × V)).length ≤ 0 := Nat.le_refl _
theorem fewS {f : Str} {v : V} {n : Nat} : ∀ {fs : List (Str × V)}, fs.length ≤ n → (putF f v fs).length ≤ n + 1
  | [], _ => Nat.succ_le_succ (Nat.zero_le _)
  | (g, u) :: fs, h => by
    show (if g = f then (g, v) :: fs else (g, u) :: putF f v fs).length ≤ n + 1
    by_cases c : g = f
    · rw [if_pos c]; exact Nat.le_succ_of_le h
    · rw [if_neg c]
      cases n with
      | zero => exact absurd h (Nat.not_succ_le_zero _)
      | succ n => exact Nat.succ_le_succ (fewS (Nat.le_of_succ_le_succ h))
theorem few_lt {fs : List (Str × V)} {n : Nat} (h : fs.length ≤ n) (hn : n < 1000 := by decide) : fs.length < 1000 := Nat.lt_of_le_of_lt h hn
/-! ### d.pop(k, z), d a dict of ours whose keys are pairs of whole numbers -/
def dDrop {κ β : Type} [DecidableEq κ] (xs : List (κ × β)) (k : κ) : List (κ × β) := xs.filter fun p => decide (p.1 ≠ k)
section
variable {κ K' β : Type} [DK κ K'] [DecidableEq κ] [DecidableEq K'] [Py β] {F : Hp}
theorem RD.drop : ∀ {kvs : List (K' × V)} {xs : List (κ × β)}, RD F kvs xs → ∀ k : κ, RD F (dropK kvs (DK.kk k)) (dDrop xs k) := by
  intro kvs xs h k
  induction h with
  | nil => exact RD.nil
  | @cons j v y kvs xs h hs ih =>
    unfold dropK dDrop at ih ⊢
    rw [List.filter_cons, List.filter_cons]
    by_cases c : j = k
    · have c1 : ¬ decide ((DK.kk j : K') ≠ DK.kk k) = true := by simp [c]
      have c2 : ¬ decide (j ≠ k) = true := by simp [c]
      rw [if_neg c1, if_neg c2]
      exact ih
    · have c1 : decide ((DK.kk j : K') ≠ DK.kk k) = true := decide_eq_true fun z => c (DK.inj j k z)
      have c2 : decide (j ≠ k) = true := decide_eq_true c
      rw [if_pos c1, if_pos c2]
      exact .cons h ih
end
theorem dropK_id {κ : Type} [DecidableEq κ] {kvs : List (κ × V)} {k : κ} (h : valV kvs k = none) : dropK kvs k = kvs := by
  unfold dropK
  refine List.filter_eq_self.mpr fun p hp => decide_eq_true fun e => ?_
  unfold valV at h
  rw [Option.map_eq_none_iff, List.find?_eq_none] at h
  exact h p hp (decide_eq_true e)
theorem dpop_ok {H : Hp} {a b : Addr} {kvs : List (List Key × V)} {i j : Int} {d : V} {Q : VK} (ha : H a = some (.dT kvs)) (hb : H b = some (.tup [.int i, .int j])) (q : ∀ v, Q v (upd H a (.dT (dropK kvs (DK.kk (i, j)))))) : L2.DX.rPopT (.ref a) [.ref b, d] H Q := by
  refine ⟨a, kvs, [.inl i, .inl j], b, d, rfl, rfl, ha, hb, fun v _ => q v, fun h => ?_⟩
  have := q d
  have e : upd H a (.dT (dropK kvs (DK.kk (i, j)))) = H := by
    funext c
    by_cases z : c = a
    · subst z
      rw [upd_same, ha]
      exact congrArg (fun x => some (HO.dT x)) (dropK_id h)
    · rw [upd_ne z]
  rw [e] at this
  exact this
/-! ### a pair and one number more -/
theorem catT_ok {K : PySem.W.Frag} {H : Hp} {a b : Addr} {v1 v2 v3 : V} {Q : VK} (ha : SqT K H a [v1, v2]) (hb : SqT K H b [v3]) (q : ∀ p, H p = none → Q (.ref p) (upd H p (.tup [v1, v2, v3]))) : rCatT K (.ref a) (.ref b) H Q :=
  ⟨a, b, _, _, rfl, rfl, ha, hb, (fun z => nomatch z), by show (3 : Nat) ≤ sizeLine; decide, (fun z => nomatch z), fun _ => q⟩
theorem op_catTK {X : Cx} {K : PySem.W.Frag} (h : X.K = K) : OpR X (binaryOp .Add) (rCatT K) := by rw [← h]; exact op_catT
/-! ### sorted(t), t a tuple -/
section
open PySem.Calls PyProof.V PySem.W
variable {prog : Program} {w : World} {A : Around} {E : Value → Shared → Prop} {s : Shared} {l : Addr} {vs : List Value}
theorem collect_tup {o : Obj} {n : Nat} {Q : List Value → Shared → Prop} (ho : s.heap.get? l = some o) (hc : o.cls = .type "tuple") (hd : o.data = .seq vs.toArray n)
    (h : Q vs { s with heap := (s.heap.push (seqObj "list" #[] 0)).update s.heap.objs.size (Obj.mapSeq (· ++ vs.toArray)) }) (hsz : vs.length ≤ sizeLine) :
    wpAny (model prog w) A (collect (.ref l)) Q E s := by
  unfold collect
  refine wpAny_bind (wpAny_runValue (codeAny_builtin entry_proto_collect' ?_))
  show wpAny _ _ (do again (.builtin "list.__iadd__" ⟨[← newList [], .ref l], []⟩)) _ _ s
  refine wpAny_bind (wpAny_newList (wpAny_pure ⟨Code.quiet_builtin _ (by decide +kernel), codeAny_builtin entry_list_iadd' ?_⟩) (Nat.zero_le _))
  show wpAny _ _ (Builtin.List.listExtendWith (.ref s.heap.objs.size) (.ref l) (.ref s.heap.objs.size)) _ _ { s with heap := s.heap.push (seqObj "list" #[] 0) }
  unfold Builtin.List.listExtendWith
  have ho' : (s.heap.push (seqObj "list" #[] 0)).get? l = some o := Heap.get?_push_of_some _ ho
  refine wpAny_bind (wpAny_typeOf (T := "tuple") ⟨o, ho', hc⟩ ?_)
  have ht : (Value.type "tuple" == Value.type "tuple") = true := by rfl
  rw [if_pos (by rw [ht]; simp)]
  refine wpAny_bind (listItems_at ho' hd ?_)
  refine wpAny_bind (listItems_at (xs := #[]) (n := 0) (Heap.get?_push_size _ rfl) rfl ?_)
  rw [if_neg (by simp)]
  refine wpAny_bind (listUpdate_at (xs := #[]) (n := 0) (Heap.get?_push_size _ rfl) rfl ?_ (Nat.zero_le _) (by show (#[] ++ vs.toArray).size ≤ sizeLine + 1; simp only [Array.size_append, List.size_toArray, List.length_nil]; omega))
  refine wpAny_pure ?_
  show wpAny (model prog w) A (do
      let o ← load s.heap.objs.size
      match o.data with
      | .seq xs _ => pure xs.toList
      | _ => unsupported "internal:collect") Q E { s with heap := (s.heap.push (seqObj "list" #[] 0)).update s.heap.objs.size (Obj.mapSeq (· ++ vs.toArray)) }
  refine wpAny_bind (wpAny_load (get?_update_seq (Heap.get?_push_size _ rfl) _) ?_)
  show wpAny _ _ (pure ((#[] : Array Value) ++ vs.toArray).toList) Q E _
  rw [show ((#[] : Array Value) ++ vs.toArray).toList = vs by simp]
  exact wpAny_pure h
theorem sortedT_of_sort {o : Obj} {n : Nat} {Q : Value → Shared → Prop} (ho : s.heap.get? l = some o) (hc : o.cls = .type "tuple") (hd : o.data = .seq vs.toArray n) (hL : vs.length ≤ sizeLine)
    (body : ∀ E' : Value → Shared → Prop, wpAny (model prog w) A.in1.in1 (Builtin.«list.sort» ⟨[.ref (s.heap.objs.size + 1)], []⟩) (fun f s' => f = .done (.ret .none) ∧ Q (.ref (s.heap.objs.size + 1)) s') E' { s with heap := copyHeap s.heap vs }) :
    wpAny (model prog w) A (call (.builtin "sorted") [.ref l] []) Q E s := by
  refine call_function_entry_kw kind_sorted plain_sorted entry_sorted (args_sorted1 _) ?_
  unfold Builtin.«sorted»
  refine wpAny_bind (m := checkCount "sorted" 1 1 _) (wpAny_pure ?_)
  refine wpAny_bind (collect_tup ho hc hd ?_ hL)
  refine wpAny_bind (wpAny_newList ?_ hL)
  have hsz : ((s.heap.push (seqObj "list" #[] 0)).update s.heap.objs.size (Obj.mapSeq (· ++ vs.toArray))).objs.size = s.heap.objs.size + 1 := by
    rw [Heap.size_update, size_push']
  show wpAny _ _ _ _ _ { s with heap := copyHeap s.heap vs }
  rw [hsz]
  refine wpAny_bind (wpAny_holding (wpAny_call_entry_kw slot_list_sort ⟨_, copyHeap_at s.heap vs, rfl⟩ entry_list_sort ?body (args_list_sort _)))
  case body =>
    show wpAny (model prog w) A.in1.in1 (Builtin.«list.sort» ⟨[.ref (s.heap.objs.size + 1)], []⟩) _ _ _
    refine wpAny_mono (body _) (fun f s' hf => ?_) fun _ _ e => e
    obtain ⟨rfl, hq⟩ := hf
    exact ⟨_, rfl, wpAny_pure ⟨_, rfl, hq⟩⟩
theorem sortedT_data {β : Type} {bs : List β} {enc : β → PyData} {R : Value → β → Prop} {o : Obj} {n : Nat} {Q : Value → Shared → Prop} (ho : s.heap.get? l = some o) (hc : o.cls = .type "tuple") (hd : o.data = .seq vs.toArray n) (e : EachIs R vs bs) (er : EachIs (fun v b => ∃ as, Reads s.heap v (enc b) as) vs bs) (hal : AllAlike (bs.map enc)) (hk : Sortable (bs.map enc)) (hL : bs.length ≤ sizeLine)
    (hu : ∀ b, b ∈ bs → A.units + 2 + (enc b).depth < cLine) (h : ∀ out, out.length = bs.length → EachIs R out (bs.mergeSort (dataLe false enc)) → Q (.ref (s.heap.objs.size + 1)) { s with heap := sortedAll s.heap vs (List.toArray out) }) :
    wpAny (model prog w) A (call (.builtin "sorted") [.ref l] []) Q E s := by
  have er' : EachIs (fun v b => ∃ as, Reads (sortingHeap (copyHeap s.heap vs) (s.heap.objs.size + 1) vs) v (enc b) as) vs bs := er.mono fun _ _ ⟨as, r⟩ => ⟨as, PyProof.Rows.Reads.keeps (fun _ _ => sorting_copy_old) r⟩
  have hL2 : vs.length ≤ sizeLine := by rw [e.length]; exact hL
  refine sortedT_of_sort ho hc hd hL2 fun E' => list_sort_vals (s := { s with heap := copyHeap s.heap vs }) (copyHeap_at s.heap vs) (SortsAt.data (s := { s with heap := sortingHeap (copyHeap s.heap vs) (s.heap.objs.size + 1) vs }) (each_map (R := fun v d => ∃ as, Reads (sortingHeap (copyHeap s.heap vs) (s.heap.objs.size + 1) vs) v d as) enc er') hal hk (bound_map hu)) hL2 ⟨rfl, ?_⟩
  exact h _ (by rw [sortVals_length false rfl]; exact e.length) (sortVals_data false e er' hal)
end
section
variable {X : Cx} (a : Type) [Py a] [DecidableEq a] [DatumOrd a] [IsD a]
def rSortedTT : List V → Hp → VK → Prop := fun vs H Q => ∃ (l : Addr) (ws : List V) (xs : List a), vs = [.ref l] ∧ H l = some (.tup ws) ∧ RL H ws xs ∧ ∀ (p : Addr), H p = none → Q (.ref p) (upd H p (.lst (sortV ws xs)))
theorem cr_sortedTT [SortB a] (hu : X.A.units + 128 < cLine) (hd : Datum.depth a ≤ 100 := by decide) (hK : X.K = K0 := by rfl) : CallR X (.builtin "sorted") (rSortedTT a) := by
  subst hK
  intro pins s σ H vs us Q I r h
  obtain ⟨l, ws, xs, rfl, hl, hx, k⟩ := h
  obtain ⟨its, rv, ⟨o, e1, e2, n, e3⟩, hz⟩ := I.tuple (SqT.of (K := X.K) hl)
  rw [Vals.ref1 r]
  have hlen : ws.length = xs.length := hx.len
  have hE := each_pairs hx rv
  refine sortedT_data (bs := ws.zip xs) (enc := fun p => Datum.toD p.2) e1 e2 e3 hE (each_imp (fun u p hp => hp.2.holds I hp.1) hE) (PySem.W.AllAlike.of fun p q => DatumOrd.alike p.2 q.2) ?_ (by rw [List.length_zip, ← hlen, Nat.min_self]; exact hz) (fun p _ => ?_) fun out ho he => ?_
  · rcases SortB.ok (a := a) with q | q
    · exact PySem.W.Sortable.tuples fun p => q p.2
    · exact PySem.W.Sortable.others fun p => q p.2
  · have := Datum.depth_le p.2
    omega
  · rw [dataLe_T (fun p : V × a => p.2)] at he
    obtain ⟨q1, q2⟩ := pairs_vals he
    obtain ⟨ep, he'⟩ := PyProof.Rows.sortedAll_at s.heap its out.toArray
    refine ⟨.ref _, upd H (s.heap.objs.size + 1) (.lst _), I.laid (t' := s.toks) (fun _ _ => PyProof.Rows.sortedAll_old) (Nat.le_succ _) ⟨?_, out, ep, q1, he'⟩, rfl, k _ (I.hok.fresh (Nat.le_succ _))⟩
    rw [List.length_map, List.length_mergeSort, List.length_zip, ← hlen, Nat.min_self]
    exact hz
end
/-! ### an item of a tuple of two at a place found at run time -/
theorem ix2 {i : Int} (h : 0 ≤ i ∧ i < 2) : i = 0 ∨ i = 1 := by omega
theorem ix3 {i : Int} (h : 0 ≤ i ∧ i < 3) : i = 0 ∨ i = 1 ∨ i = 2 := by omega
/-- a name that a loop's turns bind, read behind the loop -/
def LK {a : Type} [Py a] (H : Hp) (t : Option V) (x : Option a) : Prop := match x with
  | none => True
  | some y => ∃ v, t = some v ∧ R H v y
theorem mem3 {n a b c : String} (h : n ∈ [a, b, c]) : n = a ∨ n = b ∨ n = c := by simpa using h
theorem mem4 {n a b c d : String} (h : n ∈ [a, b, c, d]) : n = a ∨ n = b ∨ n = c ∨ n = d := by simpa using h
/-- a list of just five -/
def two5 {a : Type} (xs : List a) : M (a × a × a × a × a) := match xs with
  | [x, y, z, u, v] => .ok (x, y, z, u, v)
  | _ => bad
theorem wp_two5 {a b : Type} {Q : a → Prop} {E : String → Prop} {xs : List b} {k : b × b × b × b × b → M a} (h : wp (two5 xs >>= k) Q E) : ∃ x y z u v, xs = [x, y, z, u, v] ∧ wp (k (x, y, z, u, v)) Q E := by
  match xs, h with
  | [x, y, z, u, v], h => exact ⟨x, y, z, u, v, rfl, h⟩
  | [], h => exact h.elim
  | [_], h => exact h.elim
  | [_, _], h => exact h.elim
  | [_, _, _], h => exact h.elim
  | [_, _, _, _], h => exact h.elim
  | _ :: _ :: _ :: _ :: _ :: _ :: _, h => exact h.elim
end PG
namespace PG
open PySem PySem.Spec PyProof.Rows L2
open PySem.W (T3 T4 Datum DatumOrd)
/-! ### len(set(xs)), xs a list of pairs of whole numbers -/
def setL {a : Type} [DecidableEq a] (xs : List a) : List a := xs.foldr (fun x acc => if x ∈ acc then acc else x :: acc) []
theorem setL_mem {a : Type} [DecidableEq a] {x : a} : ∀ {xs : List a}, x ∈ setL xs ↔ x ∈ xs
  | [] => Iff.rfl
  | y :: ys => by
    show x ∈ (if y ∈ setL ys then setL ys else y :: setL ys) ↔ _
    by_cases c : y ∈ setL ys
    · rw [if_pos c, setL_mem, List.mem_cons]
      exact ⟨.inr, fun h => h.elim (fun e => by rw [e]; exact setL_mem.mp c) id⟩
    · rw [if_neg c, List.mem_cons, List.mem_cons, setL_mem]
theorem setL_nd {a : Type} [DecidableEq a] : ∀ xs : List a, (setL xs).Nodup
  | [] => List.nodup_nil
  | y :: ys => by
    show (if y ∈ setL ys then setL ys else y :: setL ys).Nodup
    by_cases c : y ∈ setL ys
    · rw [if_pos c]; exact setL_nd ys
    · rw [if_neg c]; exact List.nodup_cons.mpr ⟨c, setL_nd ys⟩
theorem nd_le {a : Type} [DecidableEq a] : ∀ {l m : List a}, l.Nodup → (∀ x ∈ l, x ∈ m) → l.length ≤ m.length
  | [], _, _, _ => Nat.zero_le _
  | x :: l, m, nd, h => by
    have hx := h x List.mem_cons_self
    obtain ⟨n1, n2⟩ := List.nodup_cons.mp nd
    have := nd_le (l := l) (m := m.erase x) n2 fun y hy => (List.mem_erase_of_ne fun e => n1 (by rw [← e]; exact hy)).mpr (h y (List.mem_cons_of_mem _ hy))
    rw [List.length_erase_of_mem hx] at this
    have hp := List.length_pos_of_mem hx
    rw [List.length_cons]
    omega
section
variable {K0 : PySem.W.Frag} [KF K0]
theorem rl_pairs {F : Hp} : ∀ {vs : List V} {xs : List (Int × Int)}, RL F vs xs → ∃ ks : List (Addr × List Int), vs = ks.map (fun p => V.ref p.1) ∧ ks.map (·.2) = xs.map (fun x => [x.1, x.2]) ∧ ∀ p ∈ ks, F p.1 = some (.tup (p.2.map V.int))
  | _, [], h => ⟨[], RL.nil_ h, rfl, fun _ h => absurd h List.not_mem_nil⟩
  | _, x :: xs, h => by
    obtain ⟨w, ws, rfl, h1, h2⟩ := RL.cons_ h
    obtain ⟨ks, e1, e2, e3⟩ := rl_pairs h2
    obtain ⟨p, v1, v2, rfl, hp, r1, r2⟩ := R.t2_ h1
    obtain rfl := R.int_ r1
    obtain rfl := R.int_ r2
    exact ⟨(p, [x.1, x.2]) :: ks, by rw [e1]; rfl, by rw [List.map_cons, List.map_cons, e2], fun q hq => (List.mem_cons.mp hq).elim (fun e => by rw [e]; exact hp) (e3 q)⟩
end
def tLenSetP (K : PySem.W.Frag) (ta : TE) : TE := fun σ H Q => ta σ H fun x H1 => ∃ (l : Addr) (ks : List (Addr × List Int)) (xs : List (Int × Int)), x = V.ref l ∧ SqL K H1 l (ks.map fun p => V.ref p.1) ∧ (∀ p ∈ ks, SqT K H1 p.1 (p.2.map V.int)) ∧ ks.map (·.2) = xs.map (fun x => [x.1, x.2]) ∧ xs.length < 64 ∧ Q (.int ((setL xs).length : Nat)) H1
theorem pe_lenSetP {X : Cx} {a : Expr} {ta : TE} {p p2 q pos : Pos} (hu : X.A.units + 64 < cLine) (hc : X.calm = true) (hg : Gl X "len") (hm : X.mg "len" = none) (hg2 : Gl X "set") (hm2 : X.mg "set" = none) (ha : PE X a ta)
    (na : starEach [a] X.env = (false, eval a X.env) :: starEach [] X.env := by rfl) : PE X (.Call (.Name "len" p) [.Call (.Name "set" p2) [a] [] q] [] pos) (tLenSetP X.K ta) := by
  refine ⟨fun pins s σ H Q I h => ?_⟩
  refine Call_ (ld_blt I hg hm PySem.boot_len ?_)
  refine PyProof.Rows.callWith_builtin1 (PyProof.Rows.args_cons ?_ rfl) rfl rfl
  refine Call_ (ld_blt I hg2 hm2 PyProof.Rows.boot_set ?_)
  refine PyProof.Rows.callWith_type1 (PyProof.Rows.args_cons (thn (ha.run pins s σ H _ I h) fun v s1 ⟨x, H1, I1, r1, q1⟩ => PyProof.Rows.args_nil ?_) na) na rfl
  obtain ⟨l, ks, xs, rfl, hq, hk, hx, hf, q1⟩ := q1
  cases r1
  obtain ⟨its, rv, pl, hz⟩ := I1.list hq
  have hf : ks.length < 64 := by have := congrArg List.length hx; rw [List.length_map, List.length_map] at this; omega
  refine call_set_tups (P := X.prog) (w := X.w) ks (I1.ok.hd hc) pl.isList (by simpa using refs_of_vals rv) (fun p hp => I1.isT (hk p hp)) hf (by omega) fun h' tk L es ep t R g k => ?_
  refine PyProof.Rows.args_nil ?_
  have I2 : Inv X pins σ H1 { s1 with heap := h', toks := tk } := I1.kept fun b o e => k b o e
  obtain ⟨o, ho, hex, hd⟩ := R.ob
  have hs : es.size = L.length := SetTR.size (s := { s1 with heap := h', toks := tk }) R
  have hfit : t.fits es.size = true := SetTR.fits (s := { s1 with heap := h', toks := tk }) R
  have few := R.few
  have m1 : ∀ x ∈ L.map (·.2), x ∈ (setL xs).map (fun x => [x.1, x.2]) := fun x hm => by
    obtain ⟨p, hp, e⟩ := List.mem_map.mp hm
    have : x ∈ ks.map (·.2) := List.mem_map.mpr ⟨p, List.mem_of_mem_take (g.sub p hp), e⟩
    rw [hx] at this
    obtain ⟨y, hy, ey⟩ := List.mem_map.mp this
    exact List.mem_map.mpr ⟨y, setL_mem.mpr hy, ey⟩
  have m2 : ∀ x ∈ (setL xs).map (fun x => [x.1, x.2]), x ∈ L.map (·.2) := fun x hm => by
    obtain ⟨y, hy, ey⟩ := List.mem_map.mp hm
    have : x ∈ ks.map (·.2) := by rw [hx]; exact List.mem_map.mpr ⟨y, setL_mem.mp hy, ey⟩
    obtain ⟨p, hp, e⟩ := List.mem_map.mp this
    rw [← e]
    exact g.all p (by rw [List.take_length]; exact hp)
  have nd2 : ((setL xs).map (fun x : Int × Int => [x.1, x.2])).Nodup := by
    rw [List.nodup_iff_pairwise_ne, List.pairwise_map]
    refine (List.nodup_iff_pairwise_ne.mp (setL_nd xs)).imp fun {x y} h e => h ?_
    injection e with e1 e2
    injection e2 with e2 _
    exact Prod.ext e1 e2
  have hD : Q (.int (L.length : Nat)) H1 := by
    have a1 := nd_le R.nd m1
    have a2 := nd_le nd2 m2
    rw [List.length_map, List.length_map] at a1 a2
    have : L.length = (setL xs).length := by omega
    rw [this]
    exact q1
  exact call_len_set ho hex hd hfit (by rw [hs]; omega) ⟨.int L.length, H1, I2.tok _, ⟨_, by rw [hs]⟩, hD⟩
end PG

set_option Elab.async false
set_option linter.all false
set_option maxRecDepth 100000
set_option maxHeartbeats 4000000
namespace PG
open PySem PySem.Spec PyProof.Rows L2
open PySem.W (T3 T4 Datum DatumOrd Holds HoldAll EachIs)
variable {K0 : PySem.W.Frag} [KF K0]
/-! ### calls within an except clause's suite: defs that let nothing out -/
theorem takes_no {X : Cx} : Takes X (fun _ _ _ _ => False) := fun _ _ ⟨_, _, _, _, _, _, _, _, _, _, _, _, _, _, _, _, w⟩ => w.elim
def noX : XK := fun _ _ _ => False
def coolA (A : Around) : Around := { A with handled := none }
structure FnS (P : Program) (w : World) (K : PySem.W.Frag) (mg : Str → Option Value) (base : Heap) (k : Nat) (f : Addr) (fd : FuncData) (ps : List Str) (sp : Sp) : Prop where
  len : ∀ vs H Q E, sp vs H Q E → vs.length = ps.length
  run : ∀ (a : Addr) (A : Around) (outer : List Env) (s : Shared) (H : Hp) (args : Args) (us : List Value) (vs : List V) (Q : VK), A.handled = some (.ref a) → Room k (coolA A) → Env0 P w K mg base A outer s H → BindsTo s fd args (ps.zip us) → Vals vs us → sp vs H Q noX →
    codeAny (model P w) A (.call (.ref f) args) (CR (L2.CX P w) outer P w H s Q noX) s
structure CaS (P : Program) (w : World) (K : PySem.W.Frag) (mg : Str → Option Value) (base : Heap) (x : Str) (k : Nat) (ps : List Str) (sp : Sp) : Prop where
  ex : ∃ f fd, FnS P w K mg base k f fd ps sp ∧ mg x = some (.ref f) ∧ PySem.W.keepIn K (.ref f) = true ∧ Binds K fd ps []
theorem room_un {k : Nat} {A : Around} {h : Option Value} (r : Room k A) : Room k (coolA (A.mark h)) := ⟨rfl, r.dp, r.un⟩
section
variable {P : Program} {w : World} {K : PySem.W.Frag} {mg : Str → Option Value} {base : Heap}
theorem mark_deep {A : Around} {env : Env} {a : Addr} (hh : A.handled = some (.ref a)) : ((coolA A).deeper env).mark (some (.ref a)) = A.deeper env := by
  cases A
  cases hh
  rfl
theorem CaS.mk' {x qual : Str} {st : Stmt} {N ps : List Str} {k : Nat} {sp : Sp} (D : Df K mg x qual st ps) (S : FnScope N ps (defScope st)) (len : ∀ vs H Q E, sp vs H Q E → vs.length = ps.length)
    (hbody : ∀ (qual' : Str) (f : Addr) (cdv : Value) (A : Around) (outer : List Env) (s : Shared) (H : Hp) (vs : List V) (Q : VK) (E : XK), Room k (A.deeper (envOfC qual (defScope st) s.heap.objs.size f cdv)) → sp vs H Q E →
      ∀ a : Addr, ∃ t, PSs ((cxOf (L2.CX P w) P w K mg base N qual (defScope st) f cdv A outer s H E).suite a []) (defBody st) t ∧ t { nx := fun _ H' => Q .non H', rt := Q } (start N vs) H) : CaS P w K mg base x (k + 1) ps sp := by
  obtain ⟨f, fd, F, m, b⟩ := D.ex
  refine ⟨f, fd, ⟨len, ?_⟩, m, F.kp, b⟩
  obtain ⟨oc, od, kV, doc, pm, an, cdv, ct, osl, rfl, lk, hcd⟩ := F.ex
  intro a A outer s H args us vs Q hh hr e0 hb r hsp
  have held : ∀ b o, base.get? b = some o → s.heap.get? b = some o := fun b o e => (e0.bs b o e).1
  have e1 : Env0 P w K mg base (coolA A) outer s H := ⟨e0.frames, e0.mod, e0.bs, e0.bsz, e0.funs, e0.frf, e0.hok, e0.bare⟩
  refine codeAny_call_function hr.depth (e0.mod.kin.keeps held _ _ lk) rfl S.co S.gen rfl (PySem.W.codeRec_of (e0.mod.kin.keeps held) hcd) (hb _ _ _ _ ?_)
  refine wpAny_newFunctionEnv_cells S.kind (fun y hy => ?_) fun env he s1 z => ?_
  · rcases S.par y.1 (List.of_mem_zip hy).1 with q | q
    · exact .inl q
    · exact .inr ⟨q, PySem.W.cellsFrom_some _ _ _ (.inl q)⟩
  subst he
  refine ⟨(e0.mod.nolimit.keeps held).keeps z.toInCall.keep, codeAny_func ?_⟩
  obtain ⟨t, ht, hq⟩ := hbody qual f cdv (coolA A) outer s H vs Q noX (hr.deeper _) hsp a
  have I0 := inv_start (CX := L2.CX P w) (E := noX) S hr.hd e1 (len _ _ _ _ hsp) r z
  have I1 : L2.Inv ((cxOf (L2.CX P w) P w K mg base N qual (defScope st) f cdv (coolA A) outer s H noX).suite a []) [] (start N vs) H s1 :=
    ⟨I0.ok.suite _ _, I0.os, I0.bare, I0.base, I0.loc, I0.cell, I0.free, I0.freeC, (fun p hp => nomatch hp), I0.hok, I0.len⟩
  have go := ht.run [] s1 (start N vs) H _ I1 hq
  rw [← mark_deep hh]
  refine wpAny_mono go (fun fl s' hs => ?_) (fun _ _ h => h.elim)
  cases fl with
  | next =>
    obtain ⟨σ', H', J, q⟩ := hs
    exact ⟨V.non, H', J.os, J.bare, J.base, J.hok, rfl, q⟩
  | ret u =>
    obtain ⟨v, σ', H', J, rv, q⟩ := hs
    exact ⟨v, H', J.os, J.bare, J.base, J.hok, rv, q⟩
  | brk =>
    obtain ⟨_, _, _, q⟩ := hs
    exact q.elim
  | cont =>
    obtain ⟨_, _, _, q⟩ := hs
    exact q.elim
end
theorem pe_callS {X : Cx} {a : Addr} {k : Nat} {f : Addr} {fd : FuncData} {ps : List Str} {sp : Sp} {x : Str} {p pos : Pos} {e : Expr} {es : List Expr} {t : TA} (F : FnS X.prog X.w X.K X.mg X.base k f fd ps sp) (hh : X.A.handled = some (.ref a)) (hr : Room k (coolA X.A)) (hg : Gl X x) (hm : X.mg x = some (.ref f)) (hk : PySem.W.keepIn X.K (.ref f) = true) (hb : Binds X.K fd ps [])
    (ha : PA X (e :: es) t) (hdb : (x == ("__debug__" : Str)) = false := by decide) (he : starEach (e :: es) X.env = (false, eval e X.env) :: starEach es X.env := by rfl) (hpl : (backTo pos (starEach es X.env)).any (·.1) = false := by rfl) :
    PE X (.Call (.Name x p) (e :: es) [] pos) (tCallW sp (fun _ _ _ _ => False) t) := by
  refine ⟨fun pins s σ H Q I h => wpAny_Call_Name_kw (ld_glob I hg hm ?_ hdb)⟩
  refine PySem.W.callWith_K (h₀ := X.base) I.ok.mod.kin hk (thn (ha.run pos pins s σ H _ I h) fun us g ⟨vs, G, J, r, q⟩ => ⟨J.kIn, ?_⟩) he hpl
  have hl : us.length = ps.length := by rw [← r.length]; exact F.len _ _ _ _ q
  refine wpAny_call (codeAny_mono (F.run a X.A X.stack g G ⟨us, []⟩ us vs Q hh hr J.env0 (by have := hb g us J.kIn (by simpa using hl); simpa using this) r q) fun res g' hq => ?_)
  cases res with
  | error z =>
    obtain ⟨_, _, _, _, _, _, _, _, _, _, _, _, h⟩ := hq
    exact h.elim
  | ok fl =>
    cases fl with
    | ret u => exact J.after hq
    | next => exact hq.elim
    | brk => exact hq.elim
    | cont => exact hq.elim
/-! ### == of data in which whole numbers and truths are mixed -/
class DatumP (a : Type) [Py a] : Prop where
  plain : ∀ x : a, (Py.toD x).plain = true
instance : DatumP (Un Int Bool) := ⟨fun
  | .l x => by show PyData.plain (.int x) = true; simp only [PyData.plain]
  | .r y => by show PyData.plain (.bool y) = true; simp only [PyData.plain]⟩
theorem plainP {a : Type} [Py a] [DatumP a] : ∀ xs : List a, PyData.plainAll (xs.map Py.toD) = true
  | [] => rfl
  | x :: xs => by rw [List.map_cons, PyData.plainAll, DatumP.plain x, plainP xs]; rfl
instance {a : Type} [Py a] [DatumP a] : DatumP (List a) := ⟨fun xs => by
  show PyData.plain (.list (xs.map Py.toD)) = true
  simp only [PyData.plain]
  exact plainP xs⟩
def eqvP {a : Type} [Py a] (x y : a) : Bool := PyData.eqv (Py.toD x) (Py.toD y)
theorem eqvP_refl {a : Type} [Py a] [DatumP a] (x : a) : eqvP x x = true := SeqAt.eqv_refl_plain _ (DatumP.plain x)
theorem dep_ub (x : List (Un Int Bool)) : dep x ≤ 60 := by
  have h : ∀ xs : List (Un Int Bool), PyData.depthAll (xs.map Py.toD) ≤ 1 := fun xs => by
    induction xs with
    | nil => exact Nat.zero_le _
    | cons y ys ih =>
      rw [List.map_cons, PyData.depthAll]
      cases y <;> exact Nat.max_le.mpr ⟨by first | exact Nat.le_refl _ | exact Nat.zero_le _ | decide, ih⟩
  show PyData.depth (.list (x.map Py.toD)) ≤ 60
  rw [PyData.depth]
  have := h x
  omega
section
variable {X : Cx} (a : Type) [Py a] [DatumP a]
def rEqP : R2 := fun x y H Q => ∃ p q : a, R H x p ∧ R H y q ∧ min (dep p) (dep q) ≤ 60 ∧ Q (.bl (decide (eqvP p q = true))) H
def rNeP : R2 := fun x y H Q => ∃ p q : a, R H x p ∧ R H y q ∧ min (dep p) (dep q) ≤ 60 ∧ Q (.bl (decide (¬ eqvP p q = true))) H
theorem op_eqP (hu : X.A.units + 64 < cLine) (hK : X.K = K0 := by rfl) : OpR X (compareOp .Eq) (rEqP a) := by
  subst hK
  intro pins s σ H x y v u Q I rx ry h
  obtain ⟨p, q, hp, hq, hd, k⟩ := h
  obtain ⟨as, ra⟩ := Dp.reads I _ _ _ (Rep.dp _ _ hp) rx
  obtain ⟨bs, rb⟩ := Dp.reads I _ _ _ (Rep.dp _ _ hq) ry
  have hd' : min (Py.toD p).depth (Py.toD q).depth ≤ 60 := hd
  rw [Bool.decide_eq_true] at k
  exact PySem.SeqAt.eq_plain ra rb (DatumP.plain p) (DatumP.plain q) (by omega) ⟨.bl _, H, I, rfl, k⟩
theorem op_neP (hu : X.A.units + 64 < cLine) (hK : X.K = K0 := by rfl) : OpR X (compareOp .NotEq) (rNeP a) := by
  subst hK
  intro pins s σ H x y v u Q I rx ry h
  obtain ⟨p, q, hp, hq, hd, k⟩ := h
  obtain ⟨as, ra⟩ := Dp.reads I _ _ _ (Rep.dp _ _ hp) rx
  obtain ⟨bs, rb⟩ := Dp.reads I _ _ _ (Rep.dp _ _ hq) ry
  have hd' : min (Py.toD p).depth (Py.toD q).depth ≤ 60 := hd
  rw [show decide (¬ eqvP p q = true) = !eqvP p q by cases eqvP p q <;> rfl] at k
  exact PySem.SeqAt.ne_plain ra rb (DatumP.plain p) (DatumP.plain q) (by omega) ⟨.bl _, H, I, rfl, k⟩
end
end PG

set_option Elab.async false
set_option linter.all false
set_option maxRecDepth 100000
set_option maxHeartbeats 4000000
namespace PG
open PySem PySem.Spec PyProof.Rows L2
open PySem.W (T3 T4 Datum DatumOrd Holds HoldAll EachIs)
variable {K0 : PySem.W.Frag} [KF K0]
/-! ### texts, sign by sign -/
def sg (c : Nat) : Str := ⟨#[c]⟩
def sgL (s : Str) : List Str := s.cps.toList.map sg
theorem sg_inj {c d : Nat} (h : sg c = sg d) : c = d := by
  have h : (#[c] : Array Nat) = #[d] := congrArg Str.cps h
  have h := congrArg Array.toList h
  exact (List.cons.inj h).1
theorem sgL_len (s : Str) : (sgL s).length = s.cps.size := by unfold sgL; rw [List.length_map, Array.length_toList]
theorem sgL_has {s : Str} {i c : Nat} (h : s.cps[i]? = some c) : (sgL s)[i]? = some (sg c) := by
  unfold sgL
  rw [List.getElem?_map, Array.getElem?_toList, h]
  rfl
theorem sgL_end (s : Str) : List.drop s.cps.size (sgL s) = [] := List.drop_eq_nil_of_le (by rw [sgL_len]; exact Nat.le_refl _)
theorem mem_sgL {s : Str} {c : Nat} : sg c ∈ sgL s ↔ c ∈ s.cps.toList := by
  unfold sgL
  rw [List.mem_map]
  exact ⟨fun ⟨d, h, e⟩ => sg_inj e ▸ h, fun h => ⟨c, h, rfl⟩⟩
theorem atI_sgL {s : Str} {i : Int} {y : Str} (h : L2.atI (sgL s) i = some y) : ∃ c, L2.atI s.cps.toList i = some c ∧ y = sg c := by
  unfold L2.atI at h ⊢
  unfold sgL at h
  rw [List.length_map] at h
  cases e : ixN s.cps.toList.length i with
  | none => rw [e] at h; exact nomatch h
  | some j =>
    rw [e] at h
    have h : (s.cps.toList.map sg)[j]? = some y := h
    rw [List.getElem?_map] at h
    cases e2 : s.cps.toList[j]? with
    | none => rw [e2] at h; exact nomatch h
    | some c => rw [e2] at h; exact ⟨c, e2, (Option.some.inj h).symm⟩
theorem comp_lenS {z : Str} {w : List V} {i : Nat} (la : w.length ≤ i) (hi : i < z.cps.size) (c : (sgL z).length < 16777216) : w.length < sizeLine := by
  rw [sgL_len] at c
  have := sizeLine_eq
  omega
theorem Rl.strs {H : Hp} : ∀ ys : List Str, RL H (ys.map V.str) ys
  | [] => RL.nil
  | _ :: ys => RL.cons R.str (Rl.strs ys)
theorem Rl.strs_ {H : Hp} : ∀ {ys : List Str} {ws : List V}, RL H ws ys → ws = ys.map V.str
  | [], _, h => RL.nil_ h
  | y :: ys, ws, h => by
    obtain ⟨w, us, rfl, h1, h2⟩ := RL.cons_ h
    rw [R.str_ h1, Rl.strs_ h2]
    rfl
section
variable {X : Cx}
/-- one sign in a text -/
def rInS : R2 := fun x y H Q => ∃ s z : Str, x = .str s ∧ y = .str z ∧ (∃ c, s = sg c) ∧ Q (.bl (decide (s ∈ sgL z))) H
def rNiS : R2 := fun x y H Q => ∃ s z : Str, x = .str s ∧ y = .str z ∧ (∃ c, s = sg c) ∧ Q (.bl (decide (s ∉ sgL z))) H
theorem op_inS : OpR X (compareOp .In) rInS := by
  intro pins s σ H x y v u Q I rx ry h
  obtain ⟨a, z, rfl, rfl, ⟨c, rfl⟩, k⟩ := h
  refine op_in_sign pins s σ H _ _ v u Q I rx ry ⟨c, z, rfl, rfl, ?_⟩
  rw [show decide (c ∈ z.cps.toList) = decide (sg c ∈ sgL z) from decide_eq_decide.mpr mem_sgL.symm]
  exact k
theorem op_niS : OpR X (compareOp .NotIn) rNiS := by
  intro pins s σ H x y v u Q I rx ry h
  obtain ⟨a, z, rfl, rfl, ⟨c, rfl⟩, k⟩ := h
  refine op_notIn_sign pins s σ H _ _ v u Q I rx ry ⟨c, z, rfl, rfl, ?_⟩
  rw [show decide (c ∈ z.cps.toList) = decide (sg c ∈ sgL z) from decide_eq_decide.mpr mem_sgL.symm, ← decide_not]
  exact k
/-- text[i] -/
def rIxG : R2 := fun x y H Q => ∃ (z : Str) (i : Int) (a : Str), x = .str z ∧ y = .int i ∧ z.length ≤ sizeLine ∧ atI (sgL z) i = some a ∧ Q (.str a) H
theorem ix_sg : IxR X rIxG := by
  intro value slice pins s σ H x y v u Q I rx ry h hs
  obtain ⟨z, i, a, rfl, rfl, hz, e, k⟩ := h
  obtain ⟨c, e2, rfl⟩ := atI_sgL e
  exact ix_str value slice pins s σ H _ _ v u Q I rx ry ⟨z, i, c, rfl, rfl, hz, e2, k⟩ hs
/-- text * n -/
def CRepS (s : Str) (n : Int) : Prop := s.length ≤ 4000 ∧ -1 ≤ n ∧ n ≤ 4000
instance (s : Str) (n : Int) : Decidable (CRepS s n) := by unfold CRepS; infer_instance
def rMulS : R2 := fun x y H Q => ∃ (z : Str) (i : Int), x = .str z ∧ y = .int i ∧ CRepS z i ∧ Q (.str (Txt.mul z i)) H
theorem op_mulS : OpR X (binaryOp .Mult) rMulS := by
  intro pins s σ H x y v u Q I rx ry h
  obtain ⟨z, i, rfl, rfl, ⟨h1, h2, h3⟩, k⟩ := h
  obtain ⟨t, rfl⟩ := rx
  obtain ⟨t', rfl⟩ := ry
  exact SB.mul (mulOk_of 4000 4000 h1 h3 (by omega) (by decide) (by decide)) fun t' k' => ⟨.str _, H, I.tok _, ⟨_, rfl⟩, k⟩
end
/-- a call of a def that keeps two promises: one or the other -/
def tCall2 (sp sp' : Sp) (t : TA) : TE := fun σ H Q => t σ H fun vs H1 => sp vs H1 Q (fun _ _ _ => False) ∨ sp' vs H1 Q (fun _ _ _ => False)
theorem pe_call2 {X : Cx} {k k' : Nat} {f f' : Addr} {fd fd' : FuncData} {ps : List Str} {sp sp' : Sp} {x : Str} {p pos : Pos} {e : Expr} {es : List Expr} {t : TA} (F : FnOk X.prog X.w X.K X.mg X.base (L2.CX X.prog X.w) k f fd ps sp) (F' : FnOk X.prog X.w X.K X.mg X.base (L2.CX X.prog X.w) k' f' fd' ps sp') (hr : Room k X.A) (hr' : Room k' X.A) (hg : Gl X x) (hm : X.mg x = some (.ref f)) (hm' : X.mg x = some (.ref f')) (hk : PySem.W.keepIn X.K (.ref f) = true) (hb : Binds X.K fd ps []) (hb' : Binds X.K fd' ps [])
    (ha : PA X (e :: es) t) (hdb : (x == ("__debug__" : Str)) = false := by decide) (he : starEach (e :: es) X.env = (false, eval e X.env) :: starEach es X.env := by rfl) (hpl : (backTo pos (starEach es X.env)).any (·.1) = false := by rfl) :
    PE X (.Call (.Name x p) (e :: es) [] pos) (tCall2 sp sp' t) := by
  have ef : f' = f := by
    rw [hm] at hm'
    injection hm' with h
    injection h with h
    exact h.symm
  subst ef
  refine ⟨fun pins s σ H Q I h => wpAny_Call_Name_kw (ld_glob I hg hm ?_ hdb)⟩
  refine PySem.W.callWith_K (h₀ := X.base) I.ok.mod.kin hk (thn (ha.run pos pins s σ H _ I h) fun us g ⟨vs, G, J, r, q⟩ => ⟨J.kIn, ?_⟩) he hpl
  rcases q with q | q
  · have hl : us.length = ps.length := by rw [← r.length]; exact F.len _ _ _ _ q
    refine wpAny_call (codeAny_mono (F.run X.A X.stack g G ⟨us, []⟩ us vs Q _ hr J.env0 (by have := hb g us J.kIn (by simpa using hl); simpa using this) r q) fun res g' hq => ?_)
    cases res with
    | error z =>
      obtain ⟨_, _, _, _, _, _, _, _, _, _, _, _, h⟩ := hq
      exact h.elim
    | ok fl =>
      cases fl with
      | ret u => exact J.after hq
      | next => exact hq.elim
      | brk => exact hq.elim
      | cont => exact hq.elim
  · have hl : us.length = ps.length := by rw [← r.length]; exact F'.len _ _ _ _ q
    refine wpAny_call (codeAny_mono (F'.run X.A X.stack g G ⟨us, []⟩ us vs Q _ hr' J.env0 (by have := hb' g us J.kIn (by simpa using hl); simpa using this) r q) fun res g' hq => ?_)
    cases res with
    | error z =>
      obtain ⟨_, _, _, _, _, _, _, _, _, _, _, _, h⟩ := hq
      exact h.elim
    | ok fl =>
      cases fl with
      | ret u => exact J.after hq
      | next => exact hq.elim
      | brk => exact hq.elim
      | cont => exact hq.elim
/-- int(flag) -/
def b01 (b : Bool) : Int := if b then 1 else 0
end PG

set_option Elab.async false
set_option linter.all false
set_option maxRecDepth 100000
set_option maxHeartbeats 4000000
namespace PG
open PySem PySem.Spec PyProof.Rows L2
open PySem.W (T3 T4 Datum DatumOrd Holds HoldAll EachIs)
variable {K0 : PySem.W.Frag} [KF K0]
theorem ty_tup {F H : Hp} {a : Addr} {xs : List V} (h : TupAt F a xs) (s : Same F H) : TyX K0 H (.ref a) (.type "tuple") := by
  rcases h with h | ⟨_, o, its, n, e, c, _⟩
  · exact .base (.tup (s _ _ h))
  · exact .kTuple e c
/-! ### list(d): the keys -/
theorem RL.keysD {κ β : Type} [DK κ Key] [Py κ] [Py β] {F : Hp} (hk : ∀ k : κ, R F (kV (DK.kk k)) k) : ∀ {kvs : List (Key × V)} {xs : List (κ × β)}, RD F kvs xs → RL F (kvs.map fun e => kV e.1) (xs.map (·.1))
  | _, _, .nil => RL.nil
  | _, _, .cons _ h => RL.cons (hk _) (RL.keysD hk h)
/-! ### text[::-1] -/
def revS (z : Str) : Str := ⟨((Builtin.Str.strSliceIndices none none (-1) z.length).filterMap (z.cps[·]?)).toArray⟩
def tRevS (te : TE) : TE := fun σ H Q => te σ H fun x H1 => ∃ z, x = .str z ∧ (revS z).length ≤ 16777216 ∧ Q (.str (revS z)) H1
theorem pe_revS {X : Cx} {e : Expr} {te : TE} {k : Nat} {p1 p2 p3 pos : Pos} (he : PE X e te) : PE X (.Subscript e (.Slice none none (some (.UnaryOp .USub (.Constant (.int 1) k p1) p2)) p3) pos) (tRevS te) := by
  constructor
  intro pins s σ H Q I hw
  refine Subscript_ (thn (he.run pins s σ H _ I hw) ?_)
  rintro v s1 ⟨x, H1, I1, r1, z, rfl, hz, q⟩
  obtain ⟨t, rfl⟩ := r1
  have hst : PO X (some (.UnaryOp .USub (.Constant (.int 1) k p1) p2)) (tPart (tUn (rU fun i => .int (-i)) (tC (.int 1)))) := po_some (pe_un un_neg pe_int)
  refine wpAny_Slice (thn (po_none.run pins s1 σ H1 (fun o H2 => o = none ∧ H2 = H1) I1 ⟨rfl, rfl⟩) ?_)
  rintro vl s2 ⟨l, H2, I2, pl, rfl, rfl⟩
  refine thn (po_none.run pins s2 σ H2 (fun o H3 => o = none ∧ H3 = H2) I2 ⟨rfl, rfl⟩) ?_
  rintro vu s3 ⟨u, H3, I3, pu, rfl, rfl⟩
  refine thn (hst.run pins s3 σ H3 (fun o H4 => o = some (-1) ∧ H4 = H3) I3 ⟨1, rfl, -1, rfl, rfl, rfl⟩) ?_
  rintro vs s4 ⟨o, H4, I4, ps, rfl, rfl⟩
  obtain ⟨l, hl, el⟩ := IsPart.raw pl
  obtain ⟨u, hu, eu⟩ := IsPart.raw pu
  obtain ⟨st, hs, es⟩ := IsPart.raw ps
  subst hl hu hs
  have I5 : Inv X pins σ H4 { s4 with heap := s4.heap.push { cls := .type "slice", data := .fields #[partValue l, partValue u, partValue st] } } := I4.kept (t' := s4.toks) fun b ob q => Heap.get?_push_of_some _ q
  show wpAny (model X.prog X.w) X.A (subscriptTail e (.Slice none none (some (.UnaryOp .USub (.Constant (.int 1) k p1) p2)) p3) (.str z t) (.ref s4.heap.objs.size)) (EP X pins σ Q) X.xe _
  refine tail_any (ops := [.str z t, .ref s4.heap.objs.size]) (typeIs_str _ _ _) PySem.F.slot_str_getitem.lookup ?_ (by with_unfolding_all rfl)
  refine wpAny_getItem_str_slice (l := l) (u := u) (st := st) ⟨_, Heap.get?_push_size _ rfl, rfl, rfl⟩ (by rw [es]; rfl) ?_
  have hm : (Made.str (revS z)).post (EP X pins σ Q) _ := ⟨by rw [sizeLine_eq]; exact hz, .str _, H4, I5.tok _, ⟨_, rfl⟩, q⟩
  have e3 : sliceMade z t l u st = Made.str (revS z) := by
    unfold sliceMade slicePicked
    rw [es, el, eu]
    rfl
  rw [e3]
  exact hm
/-! ### what was read alone, ours again -/
def delC (F : Hp) (r : Addr) : Hp := fun a => if a = r then none else F a
theorem delC_ne {F : Hp} {r a : Addr} (h : a ≠ r) : delC F r a = F a := if_neg h
theorem delC_at {F : Hp} {r : Addr} : delC F r r = none := if_pos rfl
theorem same_del {F0 F : Hp} {r : Addr} (s : Same F0 F) (h : F0 r = none) : Same F0 (delC F r) := fun a o e => by
  rw [delC_ne (fun z => by rw [z, h] at e; exact nomatch e)]
  exact s a o e
theorem Ow.none0 {Z : Ent} {F H : Hp} {cs : List (Addr × HO)} (O : Ow Z F cs H) {r : Addr} (h : H r = none) : Z.H r = none ∧ Z.F r = none ∧ F r = none := by
  have hf : F r = none := O.no h
  refine ⟨O.was h, ?_, hf⟩
  cases q : Z.F r with
  | none => rfl
  | some o => rw [O.g.f _ _ q] at hf; exact nomatch hf
theorem Ow.thaw {Z : Ent} {F H : Hp} {cs : List (Addr × HO)} (O : Ow Z F cs H) {r : Addr} {w : List V} (h : F r = some (.lst w)) (hz : Z.H r = none) (hf : Z.F r = none) : Ow Z (delC F r) ((r, .lst w) :: cs) H where
  g := ⟨same_del O.g.f hf, fun a o e => by
      by_cases z : a = r
      · rw [z, delC_at] at e; exact nomatch e
      · rw [delC_ne z] at e; exact O.g.s _ _ e, O.g.k, O.g.t, fun b hb => by
      by_cases z : b = r
      · rw [z] at hb; exact absurd hz hb
      · rw [delC_ne z]; exact O.g.n b hb, O.g.u⟩
  cf := fun c hc => by
    rcases List.mem_cons.mp hc with e | hc
    · rw [e]; exact delC_at
    · by_cases z : c.1 = r
      · rw [z]; exact delC_at
      · rw [delC_ne z]; exact O.cf c hc
  ch := fun c hc => by
    rcases List.mem_cons.mp hc with e | hc
    · rw [e]; exact O.g.s _ _ h
    · exact O.ch c hc
  nd := by
    rw [List.map_cons]
    refine List.nodup_cons.mpr ⟨fun hm => ?_, O.nd⟩
    obtain ⟨c, hc, e⟩ := List.mem_map.mp hm
    have := O.cf c hc
    have e : c.1 = r := e
    rw [e, h] at this
    exact nomatch this
  ca := fun c hc => by
    rcases List.mem_cons.mp hc with e | hc
    · rw [e]; exact .inr hz
    · exact O.ca c hc
  nt := fun c hc => by
    rcases List.mem_cons.mp hc with e | hc
    · rw [e]; rfl
    · exact O.nt c hc
/-- a rule all of whose lists are new -/
def FR (H F : Hp) (v : V) : Prop := ∃ (q r0 r1 r2 : Addr) (u : V) (w0 w1 w2 : List V), v = .ref q ∧ F q = some (.tup [.ref r0, .ref r1, .ref r2, u]) ∧ F r0 = some (.lst w0) ∧ F r1 = some (.lst w1) ∧ F r2 = some (.lst w2) ∧ H r0 = none ∧ H r1 = none ∧ H r2 = none ∧ r0 ≠ r1 ∧ r0 ≠ r2 ∧ r1 ≠ r2
theorem FR.mono {H F F' : Hp} {v : V} (h : FR H F v) (s : Same F F') : FR H F' v := by
  obtain ⟨q, r0, r1, r2, u, w0, w1, w2, e, h1, h2, h3, h4, h5⟩ := h
  exact ⟨q, r0, r1, r2, u, w0, w1, w2, e, s _ _ h1, s _ _ h2, s _ _ h3, s _ _ h4, h5⟩
theorem FR.back {H H' F : Hp} {v : V} (h : FR H' F v) (s : ∀ a, H' a = none → H a = none) : FR H F v := by
  obtain ⟨q, r0, r1, r2, u, w0, w1, w2, e, h1, h2, h3, h4, a, b, c, n⟩ := h
  exact ⟨q, r0, r1, r2, u, w0, w1, w2, e, h1, h2, h3, h4, s _ a, s _ b, s _ c, n⟩
/-- a dict of such rules -/
def DFR (H F : Hp) (v : V) : Prop := ∃ (p : Addr) (w : List (Key × V)), v = .ref p ∧ F p = some (.dK w) ∧ ∀ e ∈ w, FR H F e.2
theorem DFR.mono {H F F' : Hp} {v : V} (h : DFR H F v) (s : Same F F') : DFR H F' v := by
  obtain ⟨p, w, e, h1, h2⟩ := h
  exact ⟨p, w, e, s _ _ h1, fun x hx => (h2 x hx).mono s⟩
theorem DFR.got {H F : Hp} {p : Addr} {w : List (Key × V)} (h : DFR H F (.ref p)) (hp : Rd F p (.dK w)) {k : Key} {v : V} (e : valV w k = some v) : FR H F v := by
  obtain ⟨p', w', ep, h1, h2⟩ := h
  cases ep
  have ew : w' = w := by
    rcases hp with hp | ⟨o, hp⟩
    · rw [h1] at hp; injection hp with hp; injection hp
    · rw [h1] at hp; injection hp with hp; exact nomatch hp
  subst ew
  unfold valV at e
  obtain ⟨x, hx, ev⟩ := Option.map_eq_some_iff.mp e
  rw [← ev]
  exact h2 x (List.mem_of_find?_eq_some hx)
theorem addr_ne {H : Hp} {p q : Addr} {o : HO} (h : H p = some o) (hq : H q = none) : p ≠ q := fun e => by
  subst e
  rw [hq] at h
  exact nomatch h
theorem fr_all {P : V → Prop} {e : Key × V} {l : List (Key × V)} (h : P e.2) (hl : ∀ x ∈ l, P x.2) : ∀ x ∈ e :: l, P x.2 := fun x hx => by
  rcases List.mem_cons.mp hx with e | hx
  · rw [e]; exact h
  · exact hl x hx
theorem putK_all {P : V → Prop} {kvs : List (Key × V)} {k : Key} {v : V} (h : ∀ x ∈ kvs, P x.2) (hv : P v) : ∀ x ∈ putK kvs k v, P x.2 := fun x hx => by
  unfold putK at hx
  split at hx
  · obtain ⟨y, hy, e⟩ := List.mem_map.mp hx
    rw [← e]
    split
    · exact hv
    · exact h y hy
  · rcases List.mem_append.mp hx with hx | hx
    · exact h x hx
    · rw [List.mem_singleton.mp hx]; exact hv
theorem fr_merge {P : V → Prop} {more : List (Key × V)} (h : ∀ x ∈ more, P x.2) : ∀ x ∈ mergeK [] more, P x.2 := by
  have go : ∀ (more acc : List (Key × V)), (∀ x ∈ more, P x.2) → (∀ x ∈ acc, P x.2) → ∀ x ∈ mergeK acc more, P x.2 := by
    intro more
    induction more with
    | nil => intro acc _ h; exact h
    | cons y ys ih => intro acc h1 h2; exact ih _ (fun x hx => h1 x (List.mem_cons_of_mem _ hx)) (putK_all h2 (h1 y List.mem_cons_self))
  exact go more [] h fun _ z => nomatch z
/-- sums hang on tuples alone -/
theorem TupAt.del {F : Hp} {a r : Addr} {xs w : List V} (h : TupAt F a xs) (hr : F r = some (.lst w)) : TupAt (delC F r) a xs := by
  rcases h with h | h
  · refine .inl ?_
    rw [delC_ne (fun z => by rw [z, hr] at h; injection h with h; exact nomatch h)]
    exact h
  · exact .inr h
theorem Sm.del {F : Hp} {r : Addr} {w : List V} (hr : F r = some (.lst w)) : ∀ (x : Sm) (v : V), Rep F v (Py.toD x) → Rep (delC F r) v (Py.toD x)
  | .num a k, v, h => by
    cases h with
    | tup ha hs =>
      cases hs with
      | cons h1 hs =>
        cases h1
        cases hs with
        | cons h2 hs =>
          cases h2
          cases hs
          exact .tup (ha.del hr) (.cons (.str _) (.cons (.int _) .nil))
  | .nam a, v, h => by
    cases h with
    | tup ha hs =>
      cases hs with
      | cons h1 hs =>
        cases h1
        cases hs
        exact .tup (ha.del hr) (.cons (.str _) .nil)
  | .two a x y, v, h => by
    cases h with
    | tup ha hs =>
      cases hs with
      | cons h1 hs =>
        cases h1
        cases hs with
        | cons h2 hs =>
          cases hs with
          | cons h3 hs =>
            cases hs
            exact .tup (ha.del hr) (.cons (.str _) (.cons (Sm.del hr x _ h2) (.cons (Sm.del hr y _ h3) .nil)))
theorem RL.delS {F : Hp} {r : Addr} {w : List V} (hr : F r = some (.lst w)) : ∀ {xs : List Sm} {vs : List V}, RL F vs xs → RL (delC F r) vs xs
  | [], _, h => by rw [RL.nil_ h]; exact RL.nil
  | x :: xs, _, h => by
    obtain ⟨v, vs, rfl, h1, h2⟩ := RL.cons_ h
    exact RL.cons (Sm.del hr x v h1) (RL.delS hr h2)
/-- a rule all of whose lists are new, its lists ours again -/
theorem Ow.thawR {Z : Ent} {F F0 H H0 : Hp} {cs cs0 : List (Addr × HO)} {v : V} {x : T4 (List Sm) (List Sm) (List Sm) Sm} (O : Ow Z F cs H) (O0 : Ow Z F0 cs0 H0) (S : Same F0 F) (f : FR H0 F v) (hx : R F v x) :
    ∃ (q r0 r1 r2 : Addr) (u : V) (w0 w1 w2 : List V) (F' : Hp), v = .ref q ∧ Ow Z F' ((r0, .lst w0) :: (r1, .lst w1) :: (r2, .lst w2) :: cs) H ∧ Same F0 F' ∧ F' q = some (.tup [.ref r0, .ref r1, .ref r2, u]) ∧ RL F' w0 x.a ∧ RL F' w1 x.b ∧ RL F' w2 x.c := by
  obtain ⟨q, r0, r1, r2, u, w0, w1, w2, rfl, hq, h0, h1, h2, n0, n1, n2, a, b, c⟩ := f
  obtain ⟨z0, f0, g0⟩ := O0.none0 n0
  obtain ⟨z1, f1, g1⟩ := O0.none0 n1
  obtain ⟨z2, f2, g2⟩ := O0.none0 n2
  have k2 := O.thaw h2 z2 f2
  have h1' : delC F r2 r1 = some (.lst w1) := by rw [delC_ne c]; exact h1
  have k1 := k2.thaw h1' z1 f1
  have h0' : delC (delC F r2) r1 r0 = some (.lst w0) := by rw [delC_ne a, delC_ne b]; exact h0
  have k0 := k1.thaw h0' z0 f0
  obtain ⟨p, v0, v1, v2, v3, ev, hp, m0, m1, m2, m3⟩ := R.t4_ hx
  cases ev
  have hp : F q = some (.tup [v0, v1, v2, v3]) := hp
  rw [hq] at hp
  injection hp with hp
  injection hp with hp
  injection hp with e0 hp
  injection hp with e1 hp
  injection hp with e2 hp
  subst e0 e1 e2
  have lst : ∀ {r : Addr} {w : List V} {xs : List Sm}, F r = some (.lst w) → R F (.ref r) xs → RL F w xs := fun hr hx => by
    obtain ⟨p, vs, e, h3, h4⟩ := R.lst_ hx
    cases e
    rw [hr] at h3
    injection h3 with h3
    injection h3 with h3
    rw [h3]; exact h4
  have go : ∀ {w : List V} {xs : List Sm}, RL F w xs → RL (delC (delC (delC F r2) r1) r0) w xs := fun h => ((h.delS h2).delS h1').delS h0'
  have tq : ∀ {G : Hp} {r : Addr} {w : List V}, G r = some (.lst w) → G q = some (.tup [.ref r0, .ref r1, .ref r2, u]) → delC G r q = some (.tup [.ref r0, .ref r1, .ref r2, u]) := fun hr hq => by
    rw [delC_ne (fun z => by rw [z, hr] at hq; injection hq with hq; exact nomatch hq)]
    exact hq
  exact ⟨q, r0, r1, r2, u, w0, w1, w2, _, rfl, k0, same_del (same_del (same_del S g2) g1) g0, tq h0' (tq h1' (tq h2 hq)), go (lst h0 m0), go (lst h1 m1), go (lst h2 m2)⟩
end PG

set_option Elab.async false
set_option linter.all false
set_option maxRecDepth 100000
set_option maxHeartbeats 4000000
namespace PG
open PySem PySem.Spec PyProof.Rows L2
open PySem.W (T3 T4 Datum DatumOrd Holds HoldAll EachIs)
variable {K0 : PySem.W.Frag} [KF K0]
/-! ### a dict each of whose lists is new, each key's its own -/
section
variable {K' : Type} [DecidableEq K']
def SDx (H F : Hp) (w : List (K' × V)) : Prop := (∀ e ∈ w, ∃ r us, e.2 = .ref r ∧ F r = some (.lst us) ∧ H r = none) ∧ ∀ e ∈ w, ∀ e' ∈ w, e.2 = e'.2 → e.1 = e'.1
theorem SDx.nil {H F : Hp} : SDx H F ([] : List (K' × V)) := ⟨fun _ h => (nomatch h), fun _ h => nomatch h⟩
theorem SDx.mono {H F F' : Hp} {w : List (K' × V)} (h : SDx H F w) (S : Same F F') : SDx H F' w :=
  ⟨fun e he => by obtain ⟨r, us, a, b, c⟩ := h.1 e he; exact ⟨r, us, a, S _ _ b, c⟩, h.2⟩
theorem putK_mem {w : List (K' × V)} {k : K'} {v : V} {e : K' × V} (h : e ∈ putK w k v) : (e.1 = k ∧ e.2 = v) ∨ (e ∈ w ∧ e.1 ≠ k) := by
  unfold putK at h
  split at h
  · obtain ⟨y, hy, e1⟩ := List.mem_map.mp h
    by_cases c : y.1 = k
    · rw [if_pos c] at e1; subst e1; exact .inl ⟨c, rfl⟩
    · rw [if_neg c] at e1; subst e1; exact .inr ⟨hy, c⟩
  · rename_i hn
    rcases List.mem_append.mp h with h | h
    · refine .inr ⟨h, fun c => hn (List.any_eq_true.mpr ⟨e, h, by simpa using c⟩)⟩
    · rw [List.mem_singleton.mp h]; exact .inl ⟨rfl, rfl⟩
theorem SDx.put {H F F' : Hp} {w : List (K' × V)} {k : K'} {r : Addr} {us : List V} (h : SDx H F w) (S : Same F F') (hf : F r = none) (hr : F' r = some (.lst us)) (hz : H r = none) : SDx H F' (putK w k (.ref r)) := by
  have ne : ∀ e ∈ w, e.2 ≠ .ref r := fun e he z => by
    obtain ⟨q, us', a, b, _⟩ := h.1 e he
    rw [z] at a
    cases a
    rw [hf] at b
    exact nomatch b
  refine ⟨fun e he => ?_, fun e he e' he' z => ?_⟩
  · rcases putK_mem he with ⟨_, e2⟩ | ⟨m, _⟩
    · exact ⟨r, us, e2, hr, hz⟩
    · exact (h.mono S).1 e m
  · rcases putK_mem he with ⟨e1, e2⟩ | ⟨m, _⟩
    · rcases putK_mem he' with ⟨e3, _⟩ | ⟨m', _⟩
      · rw [e1, e3]
      · exact absurd (z.symm.trans e2) (ne _ m')
    · rcases putK_mem he' with ⟨_, e4⟩ | ⟨m', _⟩
      · exact absurd (z.trans e4) (ne _ m)
      · exact h.2 e m e' m' z
end
/-- the dict as it is told -/
def SDr (H F : Hp) (v : V) : Prop := ∃ (p : Addr) (w : List (List Key × V)), v = .ref p ∧ F p = some (.dT w) ∧ SDx H F w
theorem SDr.mono {H F F' : Hp} {v : V} (h : SDr H F v) (S : Same F F') : SDr H F' v := by
  obtain ⟨p, w, e, h1, h2⟩ := h
  exact ⟨p, w, e, S _ _ h1, h2.mono S⟩
theorem SDr.back {H H' F : Hp} {v : V} (h : SDr H' F v) (s : ∀ a, H' a = none → H a = none) : SDr H F v := by
  obtain ⟨p, w, e, h1, h2⟩ := h
  exact ⟨p, w, e, h1, fun x hx => by obtain ⟨r, us, a, b, c⟩ := h2.1 x hx; exact ⟨r, us, a, b, s _ c⟩, h2.2⟩
theorem rd_dT {F : Hp} {p : Addr} {w w' : List (List Key × V)} (hp : Rd F p (.dT w')) (h1 : F p = some (.dT w)) : w' = w := by
  rcases hp with hp | ⟨o, hp⟩
  · rw [h1] at hp; injection hp with hp; injection hp with hp; exact hp.symm
  · rw [h1] at hp; injection hp with hp; exact nomatch hp
theorem SDr.got {H F : Hp} {p : Addr} {w : List (List Key × V)} (h : SDr H F (.ref p)) (hp : Rd F p (DO.ho w)) : SDx H F w := by
  obtain ⟨p', w', e, h1, h2⟩ := h
  cases e
  have ew : w' = w := by
    rcases hp with hp | ⟨o, hp⟩
    · rw [h1] at hp; injection hp with hp; injection hp
    · rw [h1] at hp; injection hp with hp; exact nomatch hp
  rw [← ew]; exact h2
theorem valV_mem {K' : Type} [DecidableEq K'] {w : List (K' × V)} {k : K'} {v : V} (h : valV w k = some v) : ∃ e ∈ w, e.1 = k ∧ e.2 = v := by
  unfold valV at h
  obtain ⟨x, hx, ev⟩ := Option.map_eq_some_iff.mp h
  exact ⟨x, List.mem_of_find?_eq_some hx, by simpa using List.find?_some hx, ev⟩
/-! ### rows with their branches, each row alone -/
abbrev BR := (Int × Int) × List Int
abbrev QR := Addr × V × Addr
def LkP (H F : Hp) (w : List (List Key × V)) (wa : List V) (acc : List BR) : Prop :=
  ∃ qs : List QR, wa = qs.map (fun q => .ref q.1) ∧ acc.map (fun y => valV w (DK.kk y.1)) = qs.map (fun q => some (V.ref q.2.2)) ∧ ∀ q ∈ qs, F q.1 = some (.tup [q.2.1, .ref q.2.2]) ∧ (∃ us, F q.2.2 = some (.lst us)) ∧ H q.2.2 = none
theorem LkP.nil {H F : Hp} {w : List (List Key × V)} : LkP H F w [] [] := ⟨[], rfl, rfl, fun _ h => nomatch h⟩
theorem LkP.mono {H F F' : Hp} {w : List (List Key × V)} {wa : List V} {acc : List BR} (h : LkP H F w wa acc) (S : Same F F') : LkP H F' w wa acc := by
  obtain ⟨qs, a, b, c⟩ := h
  exact ⟨qs, a, b, fun q hq => by obtain ⟨c1, ⟨us, c2⟩, c3⟩ := c q hq; exact ⟨S _ _ c1, ⟨us, S _ _ c2⟩, c3⟩⟩
theorem LkP.snoc {H F F' : Hp} {w : List (List Key × V)} {wa : List V} {acc : List BR} {q : Addr} {b v : V} {y : BR} (h : LkP H F w wa acc) (S : Same F F') (hd : SDx H F w) (e : valV w (DK.kk y.1) = some v) (hq : F' q = some (.tup [b, v])) : LkP H F' w (wa ++ [.ref q]) (acc ++ [y]) := by
  obtain ⟨x, hx, _, ex⟩ := valV_mem e
  obtain ⟨r, us, e1, e2, e3⟩ := hd.1 x hx
  rw [ex] at e1
  subst e1
  obtain ⟨qs, a, c, d⟩ := h.mono S
  refine ⟨qs ++ [(q, b, r)], by rw [a, List.map_append]; rfl, by rw [List.map_append, List.map_append, c]; exact congrArg _ (congrArg (fun z => [z]) e), fun z hz => ?_⟩
  rcases List.mem_append.mp hz with hz | hz
  · exact d z hz
  · rw [List.mem_singleton.mp hz]; exact ⟨hq, ⟨us, S _ _ e2⟩, e3⟩
def SepN (H F : Hp) (ws : List V) (xs : List BR) : Prop :=
  ∃ qs : List QR, ws = qs.map (fun q => .ref q.1) ∧ (∀ q ∈ qs, F q.1 = some (.tup [q.2.1, .ref q.2.2]) ∧ (∃ us, F q.2.2 = some (.lst us)) ∧ H q.2.2 = none) ∧ ((xs.map (·.1)).Nodup → (qs.map (·.2.2)).Nodup)
theorem lk_nd {H F : Hp} {w : List (List Key × V)} (hd : SDx H F w) : ∀ {acc : List BR} {qs : List QR}, acc.map (fun y => valV w (DK.kk y.1)) = qs.map (fun q => some (V.ref q.2.2)) → (acc.map (·.1)).Nodup → (qs.map (·.2.2)).Nodup
  | [], [], _, _ => List.nodup_nil
  | [], _ :: _, e, _ => by simp at e
  | _ :: _, [], e, _ => by simp at e
  | y :: acc, q :: qs, e, nd => by
    rw [List.map_cons, List.map_cons] at e
    injection e with e1 e2
    rw [List.map_cons, List.nodup_cons] at nd ⊢
    refine ⟨fun hm => ?_, lk_nd hd e2 nd.2⟩
    obtain ⟨q', hq', eq'⟩ := List.mem_map.mp hm
    have hg : some (V.ref q'.2.2) ∈ acc.map (fun y => valV w (DK.kk y.1)) := by rw [e2]; exact List.mem_map_of_mem (f := fun q : QR => some (V.ref q.2.2)) hq'
    obtain ⟨y', hy', ey'⟩ := List.mem_map.mp hg
    obtain ⟨x, hx, kx, vx⟩ := valV_mem e1
    obtain ⟨x', hx', kx', vx'⟩ := valV_mem ey'
    have := hd.2 x hx x' hx' (by rw [vx, vx', eq'])
    rw [kx, kx'] at this
    have := DK.inj _ _ this
    exact nd.1 (List.mem_map.mpr ⟨y', hy', this.symm⟩)
theorem LkP.sep {H F : Hp} {w : List (List Key × V)} {wa : List V} {acc : List BR} (h : LkP H F w wa acc) (hd : SDx H F w) : SepN H F wa acc := by
  obtain ⟨qs, a, b, c⟩ := h
  exact ⟨qs, a, c, lk_nd hd b⟩
theorem SepN.mono {H F F' : Hp} {wa : List V} {acc : List BR} (h : SepN H F wa acc) (S : Same F F') : SepN H F' wa acc := by
  obtain ⟨qs, a, c, b⟩ := h
  exact ⟨qs, a, fun q hq => by obtain ⟨c1, ⟨us, c2⟩, c3⟩ := c q hq; exact ⟨S _ _ c1, ⟨us, S _ _ c2⟩, c3⟩, b⟩
/-- .. while they are changed -/
def PI (H F : Hp) (ws : List V) (ys : List BR) : Prop := RL F ws ys ∧ ∃ qs : List QR, ws = qs.map (fun q => .ref q.1) ∧ (∀ q ∈ qs, F q.1 = some (.tup [q.2.1, .ref q.2.2]) ∧ (∃ us, F q.2.2 = some (.lst us)) ∧ H q.2.2 = none) ∧ (qs.map (·.2.2)).Nodup
theorem PI.mono {H F F' : Hp} {ws : List V} {ys : List BR} (h : PI H F ws ys) (S : Same F F') : PI H F' ws ys := by
  obtain ⟨l, qs, a, c, b⟩ := h
  exact ⟨l.mono S, qs, a, fun q hq => by obtain ⟨c1, ⟨us, c2⟩, c3⟩ := c q hq; exact ⟨S _ _ c1, ⟨us, S _ _ c2⟩, c3⟩, b⟩
def pushR (v : Int) (y : BR) : BR := (y.1, y.2 ++ [v])
def pushAt (v : Int) (xs : List BR) (i : Nat) : List BR := (xs.take i).map (pushR v) ++ xs.drop i
theorem PI.mk {H F : Hp} {ws : List V} {xs : List BR} (v : Int) (s : SepN H F ws xs) (nd : (xs.map (·.1)).Nodup) (l : RL F ws xs) : PI H F ws (pushAt v xs 0) := by
  obtain ⟨qs, a, c, b⟩ := s
  exact ⟨l, qs, a, c, b nd⟩
theorem pushAt_get {v : Int} {xs : List BR} {i : Nat} (h : i < xs.length) : (pushAt v xs i)[i]? = xs[i]? := by
  unfold pushAt
  rw [List.getElem?_append_right (by simp; omega)]
  simp only [List.length_map, List.length_take, Nat.min_eq_left (Nat.le_of_lt h), Nat.sub_self, List.getElem?_drop, Nat.add_zero]
theorem pushAt_set {v : Int} {xs : List BR} {i : Nat} {y : BR} (e : xs[i]? = some y) : (pushAt v xs i).set i (pushR v y) = pushAt v xs (i + 1) := by
  obtain ⟨h, e'⟩ := List.getElem?_eq_some_iff.mp e
  unfold pushAt
  have hl : ((xs.take i).map (pushR v)).length = i := by simp; omega
  rw [List.set_append_right _ _ (by omega), hl, Nat.sub_self, List.drop_eq_getElem_cons h, List.set_cons_zero, List.take_succ, e, List.map_append]
  simp
theorem pushAt_len {v : Int} {xs : List BR} {i : Nat} : (pushAt v xs i).length = xs.length := by
  unfold pushAt
  simp
  omega
theorem PI.got {H F : Hp} {ws : List V} {xs : List BR} {v : Int} {i : Nat} {x : V} (h : PI H F ws (pushAt v xs i)) (hi : ws[i]? = some x) : ∃ y, xs[i]? = some y ∧ R F x y := by
  obtain ⟨y, ey, r⟩ := RL.got h.1 hi
  have hl : i < xs.length := by
    have := (List.getElem?_eq_some_iff.mp ey).1
    rwa [pushAt_len] at this
  rw [pushAt_get hl] at ey
  exact ⟨y, ey, r⟩
theorem PI.done {H F : Hp} {ws : List V} {xs : List BR} {v : Int} (h : PI H F ws (pushAt v xs ws.length)) : RL F ws (xs.map (pushR v)) := by
  have e := h.1.len
  rw [pushAt_len] at e
  have q := h.1
  unfold pushAt at q
  rw [e, List.take_length, List.drop_length, List.append_nil] at q
  exact q
theorem PI.push {Z : Ent} {F0 H0 F H : Hp} {cs0 cs : List (Addr × HO)} {ws us : List V} {xs : List BR} {v : Int} {i : Nat} {q r : Addr} {b : V} {y : BR} (h : PI H0 F ws (pushAt v xs i)) (O0 : Ow Z F0 cs0 H0) (O : Ow Z F cs H) (S : Same F0 F) (e : ws[i]? = some (.ref q)) (ey : xs[i]? = some y) (hq : F q = some (.tup [b, .ref r])) (hr : F r = some (.lst us)) :
    ∃ F', Ow Z F' cs (upd H r (.lst (us ++ [.int v]))) ∧ Same F0 F' ∧ PI H0 F' ws (pushAt v xs (i + 1)) := by
  obtain ⟨l, qs, a, k, nd⟩ := h
  have at_ : ∀ {m : Nat} {w : V}, ws[m]? = some w → ∃ x, qs[m]? = some x ∧ w = .ref x.1 := fun {m w} h => by
    rw [a, List.getElem?_map] at h
    cases h2 : qs[m]? with
    | none => rw [h2] at h; exact nomatch h
    | some x => rw [h2] at h; exact ⟨x, rfl, (Option.some.inj h).symm⟩
  obtain ⟨x0, hx0, ex0⟩ := at_ e
  have kx := k x0 (List.mem_of_getElem? hx0)
  have eq0 : q = x0.1 := by injection ex0
  subst eq0
  have two : ∀ {b b' : V} {r r' : Addr}, (some (HO.tup [b, .ref r]) : Option HO) = some (.tup [b', .ref r']) → r = r' := fun h => by
    injection h with h
    injection h with h
    injection h with _ h
    injection h with h
    injection h
  have er : r = x0.2.2 := two (hq.symm.trans kx.1)
  have hz0 : H0 r = none := by rw [er]; exact kx.2.2
  obtain ⟨hz, hzf, hf0⟩ := O0.none0 hz0
  have O1 := O.thaw hr hz hzf
  have O2 := O1.set 0 (.lst (us ++ [.int v])) rfl
  have O3 := O2.frz 0 rfl hz
  obtain ⟨F', eF⟩ : ∃ z, z = upd (delC F r) r (.lst (us ++ [.int v])) := ⟨_, rfl⟩
  have O3 : Ow Z (upd (delC F r) r (.lst (us ++ [.int v]))) cs (upd H r (.lst (us ++ [.int v]))) := O3
  rw [← eF] at O3
  have tp : ∀ (c : Addr) (z : List V), F c = some (.tup z) → F' c = some (.tup z) := fun c z h => by
    have hc : c ≠ r := fun w => by subst w; rw [hr] at h; exact nomatch h
    rw [eF, upd_ne hc, delC_ne hc]
    exact h
  have ls : ∀ (c : Addr) (z : List V), c ≠ r → F c = some (.lst z) → F' c = some (.lst z) := fun c z hc h => by
    rw [eF, upd_ne hc, delC_ne hc]
    exact h
  have lr : F' r = some (.lst (us ++ [.int v])) := by rw [eF, upd_same]
  refine ⟨F', O3, ?_, ?_, qs, a, fun q hq => ?_, nd⟩
  · rw [eF]; exact (same_del S hf0).trans (Same.new delC_at)
  · rw [← pushAt_set ey]
    have hl : i < xs.length := (List.getElem?_eq_some_iff.mp ey).1
    refine RL.pt (by rw [List.length_set]; exact l.len) fun m w x h1 h2 => ?_
    by_cases c : i = m
    · subst c
      rw [List.getElem?_set_self (by rw [pushAt_len]; exact hl)] at h2
      rw [e] at h1
      cases h1
      cases h2
      obtain ⟨y', ey', ry⟩ := l.got e
      rw [pushAt_get hl, ey] at ey'
      cases ey'
      obtain ⟨q1, b1, v1, e3, hq1, hb1, hv1⟩ := R.t2_ ry
      cases e3
      rw [hq] at hq1
      have eb : b = b1 ∧ V.ref r = v1 := by
        injection hq1 with hq1
        injection hq1 with hq1
        injection hq1 with z1 hq1
        injection hq1 with z2 _
        exact ⟨z1, z2⟩
      obtain ⟨rfl, rfl⟩ := eb
      obtain ⟨r1, us1, e4, hr1, hu1⟩ := R.lst_ hv1
      cases e4
      rw [hr] at hr1
      have eu : us = us1 := by injection hr1 with hr1; injection hr1
      subst eu
      refine R.t2 (tp _ _ hq) (NoL.mv _ _ tp _ _ hb1) (R.lst lr ?_)
      rw [RL.ints hu1]
      have := RL.of_ints (H := F') (xs := y.2 ++ [v])
      rw [List.map_append] at this
      exact this
    · rw [List.getElem?_set_ne c] at h2
      obtain ⟨w', hw', rw'⟩ := l.get h2
      rw [h1] at hw'
      cases hw'
      obtain ⟨q1, b1, v1, e3, hq1, hb1, hv1⟩ := R.t2_ rw'
      subst e3
      obtain ⟨r1, us1, e4, hr1, hu1⟩ := R.lst_ hv1
      subst e4
      obtain ⟨x1, hx1, ex1⟩ := at_ h1
      have k1 := k x1 (List.mem_of_getElem? hx1)
      have eq1 : q1 = x1.1 := by injection ex1
      subst eq1
      have er1 : r1 = x1.2.2 := two (hq1.symm.trans k1.1)
      have hne : r1 ≠ r := fun z => by
        have g1 : (qs.map fun q => q.2.2)[i]? = some r := by rw [List.getElem?_map, hx0, er]; rfl
        have g2 : (qs.map fun q => q.2.2)[m]? = some r := by rw [List.getElem?_map, hx1, ← z, er1]; rfl
        exact c (nd_ix nd g1 g2)
      refine R.t2 (tp _ _ hq1) (NoL.mv _ _ tp _ _ hb1) (R.lst (ls _ _ hne hr1) ?_)
      rw [RL.ints hu1]
      exact RL.of_ints
  · obtain ⟨k1, ⟨us1, k2⟩, k3⟩ := k q hq
    refine ⟨tp _ _ k1, ?_, k3⟩
    by_cases c : q.2.2 = r
    · rw [c]; exact ⟨_, lr⟩
    · exact ⟨us1, ls _ _ c k2⟩
/-- .. with the heap ahead of the call -/
def PX (Z : Ent) (F0 F : Hp) (ws : List V) (ys : List BR) : Prop := ∃ (cs0 : List (Addr × HO)) (H0 : Hp), Ow Z F0 cs0 H0 ∧ PI H0 F ws ys
section
variable {Z : Ent} {F0 F F' : Hp} {ws : List V} {xs ys : List BR} {v : Int} {i : Nat}
theorem PX.mk {cs0 : List (Addr × HO)} {H0 : Hp} (O0 : Ow Z F0 cs0 H0) (v : Int) (s : SepN H0 F ws xs) (nd : (xs.map (·.1)).Nodup) (l : RL F ws xs) : PX Z F0 F ws (pushAt v xs 0) := ⟨cs0, H0, O0, PI.mk v s nd l⟩
theorem PX.mono (h : PX Z F0 F ws ys) (S : Same F F') : PX Z F0 F' ws ys := by
  obtain ⟨cs0, H0, O0, p⟩ := h
  exact ⟨cs0, H0, O0, p.mono S⟩
theorem PX.got {x : V} (h : PX Z F0 F ws (pushAt v xs i)) (hi : ws[i]? = some x) : ∃ y, xs[i]? = some y ∧ R F x y := by
  obtain ⟨_, _, _, p⟩ := h
  exact p.got hi
theorem PX.done (h : PX Z F0 F ws (pushAt v xs ws.length)) : RL F ws (xs.map (pushR v)) := by
  obtain ⟨_, _, _, p⟩ := h
  exact p.done
theorem PX.push {H : Hp} {cs : List (Addr × HO)} {us : List V} {q r : Addr} {b : V} {y : BR} (h : PX Z F0 F ws (pushAt v xs i)) (O : Ow Z F cs H) (S : Same F0 F) (e : ws[i]? = some (.ref q)) (ey : xs[i]? = some y) (hq : F q = some (.tup [b, .ref r])) (hr : F r = some (.lst us)) :
    ∃ F', Ow Z F' cs (upd H r (.lst (us ++ [.int v]))) ∧ Same F0 F' ∧ PX Z F0 F' ws (pushAt v xs (i + 1)) := by
  obtain ⟨cs0, H0, O0, p⟩ := h
  obtain ⟨F', a, b, c⟩ := p.push O0 O S e ey hq hr
  exact ⟨F', a, b, cs0, H0, O0, c⟩
end
end PG

set_option Elab.async false
set_option linter.all false
set_option maxRecDepth 100000
set_option maxHeartbeats 4000000
/-! Plain mathematics over the monad M: no program in sight. -/
namespace PG
open PySem L2
open PySem.W (T3 T4 Datum DatumOrd)
section
variable {a b s i : Type}
theorem ok_b (x : a) (k : a → M b) : (Except.ok x >>= k) = k x := rfl
theorem okP_b (x : a) (k : a → M b) : ((Except.ok x : M a) >>= k) = k x := rfl
theorem ret_b (x : a) (k : a → M b) : (ret x >>= k) = k x := rfl
theorem chk_ok {c : Prop} [Decidable c] (h : c) : chk c = .ok () := by unfold chk; rw [if_pos h]
theorem chk_b {c : Prop} [Decidable c] (h : c) (k : Unit → M b) : (chk c >>= k) = k () := by rw [chk_ok h]; rfl
theorem opt_b {o : Option a} {x : a} (h : o = some x) (k : a → M b) : (opt o >>= k) = k x := by rw [h]; rfl
theorem bind_ok {m : M a} {x : a} (h : m = .ok x) (k : a → M b) : (m >>= k) = k x := by rw [h]; rfl
theorem appL_ok {xs : List a} {y : a} (h : xs.length < 16777216) : appL xs y = .ok (xs ++ [y]) := by unfold appL; rw [if_pos h]
theorem ixN_nat {n : Nat} {j : Int} (h0 : 0 ≤ j) (h : j < n) : ixN n j = some j.toNat := by unfold ixN; rw [if_pos h0, if_pos h]
theorem atI_of {xs : List a} {j : Int} {x : a} (h0 : 0 ≤ j) (h : xs[j.toNat]? = some x) : L2.atI xs j = some x := by
  have hl := (List.getElem?_eq_some_iff.mp h).1
  unfold L2.atI
  rw [ixN_nat h0 (by omega)]
  exact h
theorem atI_some {xs : List a} {j : Int} (h0 : 0 ≤ j) (h : j < xs.length) : ∃ x, L2.atI xs j = some x ∧ xs[j.toNat]? = some x := by
  have hl : j.toNat < xs.length := by omega
  exact ⟨xs[j.toNat], atI_of h0 (List.getElem?_eq_getElem hl), List.getElem?_eq_getElem hl⟩
theorem setI_ok {xs : List a} {j : Int} {y : a} (h0 : 0 ≤ j) (h : j < xs.length) : setI xs j y = .ok (xs.set j.toNat y) := by unfold setI; rw [ixN_nat h0 h]
theorem popI_ok {xs : List a} {j : Int} {y : a} (h0 : 0 ≤ j) (h : xs[j.toNat]? = some y) (hl : xs.length < 16777216) : popI xs j = .ok (y, xs.eraseIdx j.toNat) := by
  have h1 := (List.getElem?_eq_some_iff.mp h).1
  unfold popI
  rw [if_pos hl, ixN_nat h0 (by omega)]
  show (match xs[j.toNat]? with
    | some y => (Except.ok (y, xs.eraseIdx j.toNat) : M _)
    | none => bad) = _
  rw [h]
/-- loops by an invariant over the items gone through -/
theorem loopN_inv {f : i → s → M s} (P : List i → s → Prop) : ∀ {xs pre : List i} {x : s}, P pre x → (∀ pre y ys x, xs ++ [] = xs → P pre x → (∃ q, q ++ y :: ys = pre ++ y :: ys) → ∃ x', f y x = .ok x' ∧ P (pre ++ [y]) x') → ∃ x', loopN f xs x = .ok x' ∧ P (pre ++ xs) x' := by
  intro xs
  induction xs with
  | nil => intro pre x h _; exact ⟨x, rfl, by rw [List.append_nil]; exact h⟩
  | cons y ys ih =>
    intro pre x h hs
    obtain ⟨x1, e1, h1⟩ := hs pre y ys x (List.append_nil _) h ⟨pre, rfl⟩
    obtain ⟨x2, e2, h2⟩ := ih (pre := pre ++ [y]) h1 fun pre y ys x _ hp hq => hs pre y ys x (List.append_nil _) hp hq
    refine ⟨x2, ?_, by rw [List.append_assoc] at h2; exact h2⟩
    show (f y x >>= fun x' => loopN f ys x') = _
    rw [e1]
    exact e2
/-- .. with what is known of the items -/
theorem loopN_run {f : i → s → M s} {all : List i} (P : List i → s → Prop) {x : s} (h : P [] x) (hs : ∀ pre y post x, all = pre ++ y :: post → P pre x → ∃ x', f y x = .ok x' ∧ P (pre ++ [y]) x') : ∃ x', loopN f all x = .ok x' ∧ P all x' := by
  have go : ∀ (xs pre : List i) (x : s), all = pre ++ xs → P pre x → ∃ x', loopN f xs x = .ok x' ∧ P (pre ++ xs) x' := by
    intro xs
    induction xs with
    | nil => intro pre x _ h; exact ⟨x, rfl, by rw [List.append_nil]; exact h⟩
    | cons y ys ih =>
      intro pre x e h
      obtain ⟨x1, e1, h1⟩ := hs pre y ys x e h
      obtain ⟨x2, e2, h2⟩ := ih (pre ++ [y]) x1 (by rw [List.append_assoc]; exact e) h1
      refine ⟨x2, ?_, by rw [List.append_assoc] at h2; exact h2⟩
      show (f y x >>= fun x' => loopN f ys x') = _
      rw [e1]
      exact e2
  exact go all [] x rfl h
/-- a loop that goes on at each item -/
theorem loopM_run {r : Type} {f : i → s → M (Fl s r)} {all : List i} (P : List i → s → Prop) {x : s} (h : P [] x) (hs : ∀ pre y post x, all = pre ++ y :: post → P pre x → ∃ x', f y x = .ok (.nx x') ∧ P (pre ++ [y]) x') : ∃ x', loopM f all x = .ok (.nx x') ∧ P all x' := by
  have go : ∀ (xs pre : List i) (x : s), all = pre ++ xs → P pre x → ∃ x', loopM f xs x = .ok (.nx x') ∧ P (pre ++ xs) x' := by
    intro xs
    induction xs with
    | nil => intro pre x _ h; exact ⟨x, rfl, by rw [List.append_nil]; exact h⟩
    | cons y ys ih =>
      intro pre x e h
      obtain ⟨x1, e1, h1⟩ := hs pre y ys x e h
      obtain ⟨x2, e2, h2⟩ := ih (pre ++ [y]) x1 (by rw [List.append_assoc]; exact e) h1
      refine ⟨x2, ?_, by rw [List.append_assoc] at h2; exact h2⟩
      show (f y x >>= fun q => match q with
        | .nx x' => loopM f ys x'
        | .rt z => .ok (.rt z)) = _
      rw [e1]
      exact e2
  exact go all [] x rfl h
/-- .. that has no state -/
theorem loopM_all {r : Type} {f : i → Unit → M (Fl Unit r)} {all : List i} (hs : ∀ y ∈ all, f y () = .ok (.nx ())) : loopM f all () = .ok (.nx ()) := by
  obtain ⟨x, e, _⟩ := loopM_run (f := f) (all := all) (fun _ _ => True) (x := ()) trivial fun pre y post x e _ => ⟨(), by cases x; exact hs y (by rw [e]; simp), trivial⟩
  exact e
theorem compX_run {c : Type} {f : i → s → M (Option c × s)} {all : List i} (P : List i → List c → s → Prop) {x : s} (h : P [] [] x)
    (hs : ∀ pre y post acc x, all = pre ++ y :: post → P pre acc x → ∃ o x', f y x = .ok (o, x') ∧ P (pre ++ [y]) (match o with
      | some z => acc ++ [z]
      | none => acc) x') : ∃ acc x', compX f all [] x = .ok (acc, x') ∧ P all acc x' := by
  have go : ∀ (xs pre : List i) (acc : List c) (x : s), all = pre ++ xs → P pre acc x → ∃ acc' x', compX f xs acc x = .ok (acc', x') ∧ P (pre ++ xs) acc' x' := by
    intro xs
    induction xs with
    | nil => intro pre acc x _ h; exact ⟨acc, x, rfl, by rw [List.append_nil]; exact h⟩
    | cons y ys ih =>
      intro pre acc x e h
      obtain ⟨o, x1, e1, h1⟩ := hs pre y ys acc x e h
      obtain ⟨acc2, x2, e2, h2⟩ := ih (pre ++ [y]) _ x1 (by rw [List.append_assoc]; exact e) h1
      refine ⟨acc2, x2, ?_, by rw [List.append_assoc] at h2; exact h2⟩
      show (nox (f y x) >>= fun p => compX f ys (match p.1 with
        | some z => acc ++ [z]
        | none => acc) p.2) = _
      rw [e1]
      exact e2
  exact go all [] [] x rfl h
theorem compS_run {c : Type} {f : i → s → M (Option c × s)} {all : List i} (hl : all.length < 16777216) (P : List i → List c → s → Prop) {x : s} (h : P [] [] x)
    (hs : ∀ pre y post acc x, all = pre ++ y :: post → P pre acc x → ∃ o x', f y x = .ok (o, x') ∧ P (pre ++ [y]) (match o with
      | some z => acc ++ [z]
      | none => acc) x') : ∃ acc x', compS f all x = .ok (acc, x') ∧ P all acc x' := by
  unfold compS
  rw [chk_b hl]
  exact compX_run P h hs
/-- a plain map with a test -/
theorem compS_pure {c : Type} {f : i → Unit → M (Option c × Unit)} {all : List i} (g : i → Option c) (hl : all.length < 16777216) (hs : ∀ y ∈ all, f y () = .ok (g y, ())) : compS f all () = .ok (all.filterMap g, ()) := by
  obtain ⟨acc, x, e, h⟩ := compS_run (f := f) (all := all) hl (fun pre acc _ => acc = pre.filterMap g) (x := ()) rfl fun pre y post acc x e h => by
    refine ⟨g y, (), by cases x; exact hs y (by rw [e]; simp), ?_⟩
    rw [h, List.filterMap_append]
    cases e2 : g y with
    | none => simp [e2]
    | some z => simp [e2]
  rw [e, h]
end

/-! ### sorted lists -/
section
variable {a : Type}
/-- two sorted lists of the same things are one -/
theorem perm_sorted_eq {le : a → a → Bool} (anti : ∀ x y, le x y = true → le y x = true → x = y) : ∀ {xs ys : List a}, xs.Perm ys → xs.Pairwise (fun x y => le x y = true) → ys.Pairwise (fun x y => le x y = true) → xs = ys := by
  intro xs
  induction xs with
  | nil => intro ys h _ _; exact (List.nil_perm.mp h).symm
  | cons x xs ih =>
    intro ys h hx hy
    cases ys with
    | nil => exact absurd h.length_eq (by simp)
    | cons y ys =>
      rw [List.pairwise_cons] at hx hy
      have e : x = y := by
        have m1 : x ∈ y :: ys := h.mem_iff.mp List.mem_cons_self
        have m2 : y ∈ x :: xs := h.mem_iff.mpr List.mem_cons_self
        rcases List.mem_cons.mp m1 with r | r
        · exact r
        · rcases List.mem_cons.mp m2 with q | q
          · exact q.symm
          · exact anti x y (hx.1 y q) (hy.1 x r)
      subst e
      rw [ih (List.Perm.cons_inv h) hx.2 hy.2]
class LeOk (a : Type) [DecidableEq a] [DatumOrd a] : Prop where
  tr : ∀ x y z : a, leT x y = true → leT y z = true → leT x z = true
  tot : ∀ x y : a, (leT x y || leT y x) = true
  anti : ∀ x y : a, leT x y = true → leT y x = true → x = y
theorem leT_int (x y : Int) : leT x y = decide (x ≤ y) := by
  show (!decide (y < x)) = decide (x ≤ y)
  by_cases h : y < x
  · have : ¬ x ≤ y := by omega
    simp [h, this]
  · have : x ≤ y := by omega
    simp [h, this]
instance : LeOk Int where
  tr x y z h1 h2 := by
    rw [leT_int, decide_eq_true_eq] at h1 h2 ⊢
    omega
  tot x y := by
    rw [leT_int, leT_int, Bool.or_eq_true, decide_eq_true_eq, decide_eq_true_eq]
    omega
  anti x y h1 h2 := by
    rw [leT_int, decide_eq_true_eq] at h1 h2
    omega
theorem leT_p (x y : Int × Int) : leT x y = decide (x.1 < y.1 ∨ (x.1 = y.1 ∧ x.2 ≤ y.2)) := by
  show (!(if y.1 = x.1 then decide (y.2 < x.2) else decide (y.1 < x.1))) = _
  by_cases h : y.1 = x.1
  · rw [if_pos h]
    by_cases h2 : y.2 < x.2
    · have : ¬ (x.1 < y.1 ∨ (x.1 = y.1 ∧ x.2 ≤ y.2)) := by omega
      simp [h2, this]
    · have : (x.1 < y.1 ∨ (x.1 = y.1 ∧ x.2 ≤ y.2)) := by omega
      simp [h2, this]
  · rw [if_neg h]
    by_cases h2 : y.1 < x.1
    · have : ¬ (x.1 < y.1 ∨ (x.1 = y.1 ∧ x.2 ≤ y.2)) := by omega
      simp [h2, this]
    · have : (x.1 < y.1 ∨ (x.1 = y.1 ∧ x.2 ≤ y.2)) := by omega
      simp [h2, this]
instance : LeOk (Int × Int) where
  tr x y z h1 h2 := by
    rw [leT_p, decide_eq_true_eq] at h1 h2 ⊢
    omega
  tot x y := by
    rw [leT_p, leT_p, Bool.or_eq_true, decide_eq_true_eq, decide_eq_true_eq]
    omega
  anti x y h1 h2 := by
    rw [leT_p, decide_eq_true_eq] at h1 h2
    exact Prod.ext (by omega) (by omega)
theorem leT_3 (x y : T3 Int Int Int) : leT x y = decide (x.a < y.a ∨ (x.a = y.a ∧ (x.b < y.b ∨ (x.b = y.b ∧ x.c ≤ y.c)))) := by
  show (!DatumOrd.lt y x) = _
  have e : DatumOrd.lt y x = decide (y.a < x.a ∨ (y.a = x.a ∧ (y.b < x.b ∨ (y.b = x.b ∧ y.c < x.c)))) := by
    rw [Bool.eq_iff_iff, decide_eq_true_eq]
    show (if y.a = x.a then (if y.b = x.b then decide (y.c < x.c) else decide (y.b < x.b)) else decide (y.a < x.a)) = true ↔ _
    by_cases h : y.a = x.a
    · rw [if_pos h]
      by_cases h2 : y.b = x.b
      · rw [if_pos h2, decide_eq_true_eq]; omega
      · rw [if_neg h2, decide_eq_true_eq]; omega
    · rw [if_neg h, decide_eq_true_eq]; omega
  rw [e, Bool.eq_iff_iff, Bool.not_eq_true', decide_eq_false_iff_not, decide_eq_true_eq]
  omega
instance : LeOk (T3 Int Int Int) where
  tr x y z h1 h2 := by
    rw [leT_3, decide_eq_true_eq] at h1 h2 ⊢
    omega
  tot x y := by
    rw [leT_3, leT_3, Bool.or_eq_true, decide_eq_true_eq, decide_eq_true_eq]
    omega
  anti x y h1 h2 := by
    rw [leT_3, decide_eq_true_eq] at h1 h2
    exact PySem.W.T3.same (by omega) (by omega) (by omega)
variable [DecidableEq a] [DatumOrd a] [LeOk a]
theorem sortT_perm (xs : List a) : (sortT xs).Perm xs := List.mergeSort_perm xs _
theorem sortT_sorted (xs : List a) : (sortT xs).Pairwise (fun x y => leT x y = true) := List.pairwise_mergeSort (fun x y z => LeOk.tr x y z) (fun x y => LeOk.tot x y) xs
theorem sortT_eq {xs ys : List a} (h : xs.Perm ys) : sortT xs = sortT ys :=
  perm_sorted_eq LeOk.anti ((sortT_perm xs).trans (h.trans (sortT_perm ys).symm)) (sortT_sorted xs) (sortT_sorted ys)
theorem sortT_id {xs : List a} (h : xs.Pairwise (fun x y => leT x y = true)) : sortT xs = xs := perm_sorted_eq LeOk.anti (sortT_perm xs) (sortT_sorted xs) h
theorem sortT_idem (xs : List a) : sortT (sortT xs) = sortT xs := sortT_id (sortT_sorted xs)
theorem sortT_len (xs : List a) : (sortT xs).length = xs.length := (sortT_perm xs).length_eq
theorem sortT_mem {xs : List a} {x : a} : x ∈ sortT xs ↔ x ∈ xs := (sortT_perm xs).mem_iff
end
/-! ### numbers -/
theorem cdivW {i j : Int} (h : 0 < j) (h2 : j ≤ 10 ^ 40) : CDivW i j := by
  have h3 : j.natAbs ≤ 10 ^ 40 := by omega
  exact wide_div (b := 200) h (Nat.lt_of_le_of_lt h3 (by decide)) (by decide) (by decide)
theorem cmulW {i j : Int} (h1 : i.natAbs < 2 ^ 100000) (h2 : j.natAbs < 2 ^ 100000) : CMulW i j := wide_mul h1 h2 (by decide) (by decide) (by decide)

theorem erase_perm {a : Type} : ∀ {l : List a} {j : Nat} (h : j < l.length), (l[j] :: l.eraseIdx j).Perm l
  | x :: l, 0, _ => List.Perm.refl _
  | x :: l, j + 1, h => by
    have h' : j < l.length := by simpa using h
    show (l[j] :: x :: l.eraseIdx j).Perm (x :: l)
    exact (List.Perm.swap _ _ _).trans (List.Perm.cons _ (erase_perm h'))

/-! ### trees -/
abbrev Tie := T3 Int Int Int
abbrev Tr := List Int × List Tie
def tieOf (p q c : Int) : Tie := if p ≤ q then ⟨p, q, c⟩ else ⟨q, p, c⟩
/-- place by place, each new one tied to one that is there -/
inductive Grown : List Int → List Tie → Prop
  | one (p : Int) : Grown [p] []
  | more {ps : List Int} {ts : List Tie} (q p c : Int) : Grown ps ts → q ∈ ps → p ∉ ps → Grown (ps ++ [p]) (ts ++ [tieOf p q c])
theorem tieOf_lt {p q c : Int} (h : p ≠ q) : (tieOf p q c).a < (tieOf p q c).b ∧ ((tieOf p q c).a = p ∧ (tieOf p q c).b = q ∨ (tieOf p q c).a = q ∧ (tieOf p q c).b = p) ∧ (tieOf p q c).c = c := by
  unfold tieOf
  by_cases h1 : p ≤ q
  · rw [if_pos h1]; exact ⟨by show p < q; omega, .inl ⟨rfl, rfl⟩, rfl⟩
  · rw [if_neg h1]; exact ⟨by show q < p; omega, .inr ⟨rfl, rfl⟩, rfl⟩
theorem Grown.in {ps : List Int} {ts : List Tie} (g : Grown ps ts) : ∀ t ∈ ts, t.a ∈ ps ∧ t.b ∈ ps ∧ t.a < t.b := by
  induction g with
  | one p => intro t h; cases h
  | @more ps ts q p c g hq hp ih =>
    intro t h
    rcases List.mem_append.mp h with h | h
    · obtain ⟨h1, h2, h3⟩ := ih t h
      exact ⟨List.mem_append_left _ h1, List.mem_append_left _ h2, h3⟩
    · have e := List.mem_singleton.mp h
      subst e
      have hpq : p ≠ q := fun e => hp (e ▸ hq)
      obtain ⟨l, hab, _⟩ := tieOf_lt (c := c) hpq
      have mp : p ∈ ps ++ [p] := by simp
      have mq : q ∈ ps ++ [p] := List.mem_append_left _ hq
      rcases hab with ⟨h1, h2⟩ | ⟨h1, h2⟩
      · exact ⟨by rw [h1]; exact mp, by rw [h2]; exact mq, l⟩
      · exact ⟨by rw [h1]; exact mq, by rw [h2]; exact mp, l⟩
theorem Grown.len {ps : List Int} {ts : List Tie} (g : Grown ps ts) : ps.length = ts.length + 1 := by
  induction g with
  | one p => rfl
  | more q p c g hq hp ih => rw [List.length_append, List.length_append, ih]; rfl
theorem Grown.nd {ps : List Int} {ts : List Tie} (g : Grown ps ts) : ps.Nodup := by
  induction g with
  | one p => simp
  | more q p c g hq hp ih => exact List.nodup_append.mpr ⟨ih, by simp, fun x hx y hy e => by rw [List.mem_singleton.mp hy] at e; exact hp (e ▸ hx)⟩
/-- a tree: its worths, its ties sorted -/
structure TreeOk (t : Tr) : Prop where
  ex : ∃ ps ts, Grown ps ts ∧ ps.Perm (rangeL 0 (t.1.length : Int)) ∧ t.2 = sortT ts
theorem TreeOk.pos {t : Tr} (h : TreeOk t) : 1 ≤ t.1.length := by
  obtain ⟨ps, ts, g, p, e⟩ := h.ex
  have h1 := p.length_eq
  rw [rangeL_length] at h1
  have := g.len
  omega
theorem TreeOk.len {t : Tr} (h : TreeOk t) : t.1.length = t.2.length + 1 := by
  obtain ⟨ps, ts, g, p, e⟩ := h.ex
  have h1 := p.length_eq
  rw [rangeL_length] at h1
  have := g.len
  rw [e, sortT_len]
  omega
theorem rangeL_mem' {lo hi x : Int} : x ∈ rangeL lo hi ↔ lo ≤ x ∧ x < hi := by
  unfold rangeL
  rw [List.mem_map]
  constructor
  · rintro ⟨j, hj, rfl⟩
    have := List.mem_range.mp hj
    omega
  · rintro ⟨h1, h2⟩
    exact ⟨(x - lo).toNat, List.mem_range.mpr (by omega), by omega⟩
theorem TreeOk.tie {t : Tr} (h : TreeOk t) : ∀ x ∈ t.2, 0 ≤ x.a ∧ x.a < x.b ∧ x.b < (t.1.length : Int) := by
  obtain ⟨ps, ts, g, p, e⟩ := h.ex
  intro x hx
  rw [e, sortT_mem] at hx
  obtain ⟨h1, h2, h3⟩ := g.in x hx
  have a1 := rangeL_mem'.mp (p.mem_iff.mp h1)
  have a2 := rangeL_mem'.mp (p.mem_iff.mp h2)
  exact ⟨a1.1, h3, a2.2⟩
theorem TreeOk.sorted {t : Tr} (h : TreeOk t) : sortT t.2 = t.2 := by
  obtain ⟨ps, ts, g, p, e⟩ := h.ex
  rw [e, sortT_idem]
theorem sort2 (x y : Int) : sortT [x, y] = if x ≤ y then [x, y] else [y, x] := by
  by_cases h : x ≤ y
  · rw [if_pos h]
    exact sortT_id (by simp [leT_int, h])
  · rw [if_neg h]
    have e : sortT [x, y] = sortT [y, x] := sortT_eq (List.Perm.swap _ _ _)
    rw [e]
    exact sortT_id (by simp [leT_int]; omega)

theorem fm_congr {a b : Type} {f g : a → Option b} : ∀ {l : List a}, (∀ x ∈ l, f x = g x) → l.filterMap f = l.filterMap g
  | [], _ => rfl
  | x :: l, h => by
    have h1 := h x List.mem_cons_self
    have h2 := fm_congr (l := l) fun y hy => h y (List.mem_cons_of_mem _ hy)
    rw [List.filterMap_cons, List.filterMap_cons, h1, h2]
end PG

set_option Elab.async false
set_option linter.all false
set_option maxRecDepth 100000
namespace G
open PySem PySem.Spec PyProof.Rows L2 PG
open PySem.W (T3 T4 Datum DatumOrd)
def top (i : Nat) : Stmt := PySem.Challenge.pw_everyseat_k15_all_rows.main.body.getD i (.Pass ⟨0, 0, 0, 0⟩)
structure Nb {K : PySem.W.Frag} [KF K] (mg : Str → Option Value) : Prop where
  b_bool : mg "bool" = none
  b_dict : mg "dict" = none
  b_int : mg "int" = none
  b_isinstance : mg "isinstance" = none
  b_len : mg "len" = none
  b_list : mg "list" = none
  b_max : mg "max" = none
  b_min : mg "min" = none
  b_range : mg "range" = none
  b_sorted : mg "sorted" = none
  b_tuple : mg "tuple" = none
  c_MOST : ∃ u, mg "MOST" = some u ∧ RelV (.int 3) u
section
variable {P : Program} {w : World} {K : PySem.W.Frag} {mg : Str → Option Value} {base : Heap} [KF K]
abbrev s_may_stand : Stmt := top 5
theorem sc_may_stand : FnScope ["told", "leaves", "many"] ["told", "leaves", "many"] (defScope s_may_stand) := ⟨rfl, rfl, rfl, by decide +kernel, rfl, by decide +kernel, by decide +kernel⟩
def m_may_stand : Nat → Sm → (Tp Str) → Int → M (Bool)
  | 0, _, _, _ => bad
  | k_ + 1, x_told, x_leaves, x_many =>
    if (Sm.word x_told) = ("number" : Str) then (
    .ok true)
    else (
    if (Sm.word x_told) ∈ ([(("own" : Str), ("tie" : Str)).1, (("own" : Str), ("tie" : Str)).2]) then (
    .ok (decide ((Sm.word x_told) ∈ (Tp.l x_leaves))))
    else (
    if (Sm.word x_told) ∈ ([(("so" : Str), ("more" : Str)).1, (("so" : Str), ("more" : Str)).2]) then (
    if (Sm.word x_told) ∈ (Tp.l x_leaves) then (
    opt (Sm.int? x_told) >>= fun y63 =>
    if (0 : Int) ≤ y63 then (
    .ok (decide (y63 < x_many)))
    else (
    .ok false))
    else (
    .ok false))
    else (
    opt (Sm.two? x_told) >>= fun y70 =>
    m_may_stand k_ y70.1 x_leaves x_many >>= fun r80 =>
    if r80 = true then (
    opt (Sm.two? x_told) >>= fun y87 =>
    m_may_stand k_ y87.2 x_leaves x_many >>= fun r97 =>
    .ok r97)
    else (
    .ok false))))
def sp_may_stand (k_ : Nat) (mg : Str → Option Value) : Sp := fun vs H Q E => ∃ (F : Hp) (v_told : V) (x_told : Sm) (v_leaves : V) (x_leaves : (Tp Str)) (x_many : Int), vs = [v_told, v_leaves, V.int x_many] ∧ Pre F [] H ∧ R (a := Sm) F v_told x_told ∧ R (a := (Tp Str)) F v_leaves x_leaves ∧
  wp (m_may_stand k_ x_told x_leaves x_many) (fun r => ∀ (F' H' : Hp), Gr [] F H F' H' → Q (V.bl r) H')
  (fun n => ∀ (C : Addr) (H' : Hp), mg (Str.ofString n) = some (.ref C) → Kp [] H H' → E (.ref C) none H')
set_option maxHeartbeats 20000000 in
theorem ok_may_stand (nb : Nb mg) (D : Df K mg "may_stand" "may_stand" s_may_stand ["told", "leaves", "many"]) : ∀ k_ : Nat, Ca P w K mg base "may_stand" (k_ + 1) ["told", "leaves", "many"] (sp_may_stand k_ mg) := by
  intro k_
  induction k_ with
  | zero =>
    refine Ca.mk' D sc_may_stand (fun vs H Q E h => ?_) (fun q_ f_ cdv A outer s H vs Q E hr h => ?_)
    · obtain ⟨F, _, _, _, _, _, rfl, _⟩ := h
      rfl
    · obtain ⟨F, _, _, _, _, _, rfl, _, _, _, hk⟩ := h
      exact hk.elim
  | succ k_ ih_ =>
    have C_may_stand := ih_
    obtain ⟨fa_may_stand, fd_may_stand, G_may_stand, M_may_stand, K_may_stand, B_may_stand⟩ := C_may_stand.ex
    refine Ca.mk' D sc_may_stand (fun vs H Q E h => ?_) (fun q_ f_ cdv A outer s H vs Q E hr h => ?_)
    · obtain ⟨F, _, _, _, _, _, rfl, _⟩ := h
      rfl
    · obtain ⟨F, v_told, x_told, v_leaves, x_leaves, x_many, rfl, P0, f_told, f_leaves, hk⟩ := h
      have nd := sc_may_stand.nd
      have hu64 := hr.units
      have hu128 := hu128_of hr
      have O := P0.start
      refine ⟨_, (pss_cons (ps_if (pt_cmpR (op_eqT Str hu64) (pe_ix (ixTupK (K := K) rfl) (pv 0) pe_int (fun _ _ => rfl)) pe_str (nomark _)) (pss_one (ps_ret pe_bl)) pss_nil)
  (pss_cons (ps_if (pt_cmpR (op_inT Str hu64) (pe_ix (ixTupK (K := K) rfl) (pv 0) pe_int (fun _ _ => rfl)) (pe_tup (pa_cons pe_str (pa_cons pe_str pa_nil))) rfl) (pss_one (ps_ret (pe_cmpR (op_inT Str hu64) (pe_ix (ixTupK (K := K) rfl) (pv 0) pe_int (fun _ _ => rfl)) (pv 1) rfl))) pss_nil)
  (pss_cons (ps_if (pt_cmpR (op_inT Str hu64) (pe_ix (ixTupK (K := K) rfl) (pv 0) pe_int (fun _ _ => rfl)) (pe_tup (pa_cons pe_str (pa_cons pe_str pa_nil))) rfl) (pss_one (ps_ret (pe_and (pe_cmpR (op_inT Str hu64) (pe_ix (ixTupK (K := K) rfl) (pv 0) pe_int (fun _ _ => rfl)) (pv 1) rfl) (pe_one (pe_chain op_le op_lt pe_int (pe_ix (ixTupK (K := K) rfl) (pv 0) pe_int (fun _ _ => rfl)) (pv 2)))))) pss_nil)
  (pss_one (ps_ret (pe_and (pe_call G_may_stand (hr.mono (by omega)) rfl M_may_stand K_may_stand B_may_stand .nil (passes_call (takes_of rfl rfl rfl rfl) fun _ _ _ _ h => h) (pa_cons (pe_ix (ixTupK (K := K) rfl) (pv 0) pe_int (fun _ _ => rfl)) (pa_cons (pv 1) (pa_cons (pv 2) pa_nil)))) (pe_one (pe_call G_may_stand (hr.mono (by omega)) rfl M_may_stand K_may_stand B_may_stand .nil (passes_call (takes_of rfl rfl rfl rfl) fun _ _ _ _ h => h) (pa_cons (pe_ix (ixTupK (K := K) rfl) (pv 0) pe_int (fun _ _ => rfl)) (pa_cons (pv 1) (pa_cons (pv 2) pa_nil))))))))))), ?_⟩
      obtain ⟨p1, w2, e3, h4⟩ := R.sm_ f_told
      cases e3
      refine ⟨_, rfl, _, _, _, _, rfl, rfl, (SqTK O.s h4), (atI0 _ _), _, _, R.str, R.str, _, rfl, ?_⟩
      refine iteD (fun q5 => ?_) (fun q5 => ?_)
      · have hk := wp_if hk q5
        exact hk _ _  O.g 
      · have hk := wp_el hk q5
        obtain ⟨p6, w7, e8, h9⟩ := R.sm_ f_told
        cases e8
        refine ⟨_, rfl, _, _, _, _, rfl, rfl, (SqTK O.s h9), (atI0 _ _), (by show 2 ≤ sizeLine; decide), fun p10 hp11 => ?_⟩
        obtain ⟨F12, O13, S14, h15⟩ := O.putE hp11 (.tup [V.str ("own" : Str), V.str ("tie" : Str)])
        have f_told := f_told.mono S14
        have f_leaves := f_leaves.mono S14
        have h16 : R (a := (Str × Str)) F12 (.ref p10) (("own" : Str), ("tie" : Str)) := R.t2 h15 R.str R.str
        obtain ⟨p17, v20, v21, e18, h19, r22, r23⟩ := R.t2T_ h16
        cases e18
        obtain rfl := R.str_ r22
        obtain rfl := R.str_ r23
        refine ⟨_, _, _, _, R.str, rfl, (.inr (h19.mono O13.s)), (RL.mono (RL.cons R.str (RL.cons R.str RL.nil)) O13.s), _, rfl, ?_⟩
        refine iteD (fun q24 => ?_) (fun q24 => ?_)
        · have hk := wp_if hk q24
          obtain ⟨p25, w26, e27, h28⟩ := R.sm_ f_told
          cases e27
          obtain ⟨p29, w30, e31, h32, hl33⟩ := R.tp_ f_leaves
          cases e31
          refine ⟨_, rfl, _, _, _, _, rfl, rfl, (SqTK O13.s h28), (atI0 _ _), _, rfl, _, _, _, _, R.str, rfl, (.inr (h32.mono O13.s)), (RL.mono (hl33) O13.s), ?_⟩
          rw [if_neg Bool.false_ne_true]
          rw [to_dec (p := (Sm.word x_told) ∈ (Tp.l x_leaves)) _ inferInstance]
          exact hk _ _  O13.g 
        · have hk := wp_el hk q24
          obtain ⟨p34, w35, e36, h37⟩ := R.sm_ f_told
          cases e36
          refine ⟨_, rfl, _, _, _, _, rfl, rfl, (SqTK O13.s h37), (atI0 _ _), (by show 2 ≤ sizeLine; decide), fun p38 hp39 => ?_⟩
          obtain ⟨F40, O41, S42, h43⟩ := O13.putE hp39 (.tup [V.str ("so" : Str), V.str ("more" : Str)])
          have f_told := f_told.mono S42
          have f_leaves := f_leaves.mono S42
          have h44 : R (a := (Str × Str)) F40 (.ref p38) (("so" : Str), ("more" : Str)) := R.t2 h43 R.str R.str
          obtain ⟨p45, v48, v49, e46, h47, r50, r51⟩ := R.t2T_ h44
          cases e46
          obtain rfl := R.str_ r50
          obtain rfl := R.str_ r51
          refine ⟨_, _, _, _, R.str, rfl, (.inr (h47.mono O41.s)), (RL.mono (RL.cons R.str (RL.cons R.str RL.nil)) O41.s), _, rfl, ?_⟩
          refine iteD (fun q52 => ?_) (fun q52 => ?_)
          · have hk := wp_if hk q52
            obtain ⟨p53, w54, e55, h56⟩ := R.sm_ f_told
            cases e55
            obtain ⟨p57, w58, e59, h60, hl61⟩ := R.tp_ f_leaves
            cases e59
            refine ⟨_, rfl, _, _, _, _, rfl, rfl, (SqTK O41.s h56), (atI0 _ _), _, rfl, _, _, _, _, R.str, rfl, (.inr (h60.mono O41.s)), (RL.mono (hl61) O41.s), ?_⟩
            rw [if_neg Bool.false_ne_true]
            rw [to_dec (p := (Sm.word x_told) ∈ (Tp.l x_leaves)) _ inferInstance]
            refine ⟨_, rfl, ?_⟩
            refine iteD (fun q62 => ?_) (fun q62 => ?_)
            · have hk := wp_if hk q62
              obtain ⟨y63, e64, hk⟩ := wp_opt hk
              obtain ⟨p65, w66, e67, h68⟩ := R.sm_int f_told e64
              cases e67
              refine ⟨_, rfl, _, _, _, _, rfl, rfl, (SqTK O41.s h68), rfl, _, _, rfl, rfl, _, rfl, ?_⟩
              refine iteD (fun q69 => ?_) (fun q69 => ?_)
              · have hk := wp_if hk q69
                refine ⟨_, rfl, _, _, rfl, rfl, ?_⟩
                exact hk _ _  O41.g 
              · have hk := wp_el hk q69
                exact hk _ _  O41.g 
            · have hk := wp_el hk q62
              exact hk _ _  O41.g 
          · have hk := wp_el hk q52
            obtain ⟨y70, e71, hk⟩ := wp_opt hk
            obtain ⟨p72, w73, v74, v75, e76, h77, r78, r79⟩ := R.sm_two f_told e71
            cases e76
            refine ⟨_, rfl, _, _, _, _, rfl, rfl, (SqTK O41.s h77), rfl, _, rfl, _, rfl, _, _, _, _, _, _, rfl, O41.pre0, r78, f_leaves, wp_call hk (fun r80 er81 hk F82 H83 g84 => ?_) (fun n hn C H1 hC kp => hn C H1 hC (O41.kp0 kp))⟩
            have O85 := O41.call0 g84
            have S_ := g84.f
            have f_told := f_told.mono S_
            have f_leaves := f_leaves.mono S_
            refine ⟨_, rfl, ?_⟩
            refine iteB (fun q86 => ?_) (fun q86 => ?_)
            · have hk := wp_if hk q86
              obtain ⟨y87, e88, hk⟩ := wp_opt hk
              obtain ⟨p89, w90, v91, v92, e93, h94, r95, r96⟩ := R.sm_two f_told e88
              cases e93
              refine ⟨_, rfl, _, _, _, _, rfl, rfl, (SqTK O85.s h94), rfl, _, rfl, _, rfl, _, _, _, _, _, _, rfl, O85.pre0, r96, f_leaves, wp_call hk (fun r97 er98 hk F99 H100 g101 => ?_) (fun n hn C H1 hC kp => hn C H1 hC (O85.kp0 kp))⟩
              have O102 := O85.call0 g101
              exact hk _ _  O102.g 
            · have hk := wp_el hk q86
              exact hk _ _  O85.g 
abbrev s_is_rule : Stmt := top 6
theorem sc_is_rule : FnScope ["thing", "many", "begin", "over", "join", "told", "sums", "leaves", "one"] ["thing"] (defScope s_is_rule) := ⟨rfl, rfl, rfl, by decide +kernel, rfl, by decide +kernel, by decide +kernel⟩
def m_is_rule (x_thing : (T4 (List Sm) (List Sm) (List Sm) Sm)) : M (Bool) :=
if (1 : Int) ≤ (x_thing.a.length : Int) then (
if (x_thing.a.length : Int) ≤ (3 : Int) then (
if (x_thing.b.length : Int) ≠ (x_thing.a.length : Int) then (
.ok false)
else (
if (x_thing.c.length : Int) ≠ (x_thing.a.length : Int) then (
.ok false)
else (
loopM (fun (y93 : ((List Sm) × (Tp Str))) (st104 : Unit) =>
compS (fun (y123 : Sm) (st140 : Unit) =>
m_may_stand 60 y123 y93.2 (x_thing.a.length : Int) >>= fun r146 =>
if r146 = true then (
.ok (none, ()))
else (
.ok (some y123, ()))) y93.1 () >>= fun q164 =>
if q164.1 ≠ ([] : List Sm) then (
.ok (.rt false))
else (
.ok (.nx ()))) ([(T3.mk (x_thing.a, (Tp.mk [("own" : Str)])) (x_thing.b, (Tp.mk [(T3.mk ("own" : Str) ("tie" : Str) ("more" : Str)).a, (T3.mk ("own" : Str) ("tie" : Str) ("more" : Str)).b, (T3.mk ("own" : Str) ("tie" : Str) ("more" : Str)).c])) (x_thing.c, (Tp.mk [(T3.mk ("own" : Str) ("so" : Str) ("more" : Str)).a, (T3.mk ("own" : Str) ("so" : Str) ("more" : Str)).b, (T3.mk ("own" : Str) ("so" : Str) ("more" : Str)).c]))).a, (T3.mk (x_thing.a, (Tp.mk [("own" : Str)])) (x_thing.b, (Tp.mk [(T3.mk ("own" : Str) ("tie" : Str) ("more" : Str)).a, (T3.mk ("own" : Str) ("tie" : Str) ("more" : Str)).b, (T3.mk ("own" : Str) ("tie" : Str) ("more" : Str)).c])) (x_thing.c, (Tp.mk [(T3.mk ("own" : Str) ("so" : Str) ("more" : Str)).a, (T3.mk ("own" : Str) ("so" : Str) ("more" : Str)).b, (T3.mk ("own" : Str) ("so" : Str) ("more" : Str)).c]))).b, (T3.mk (x_thing.a, (Tp.mk [("own" : Str)])) (x_thing.b, (Tp.mk [(T3.mk ("own" : Str) ("tie" : Str) ("more" : Str)).a, (T3.mk ("own" : Str) ("tie" : Str) ("more" : Str)).b, (T3.mk ("own" : Str) ("tie" : Str) ("more" : Str)).c])) (x_thing.c, (Tp.mk [(T3.mk ("own" : Str) ("so" : Str) ("more" : Str)).a, (T3.mk ("own" : Str) ("so" : Str) ("more" : Str)).b, (T3.mk ("own" : Str) ("so" : Str) ("more" : Str)).c]))).c]) () >>= fun f188 => match f188 with
| .rt z_ => .ok z_
| .nx st182 =>
m_may_stand 60 x_thing.d (Tp.mk [(("own" : Str), ("so" : Str)).1, (("own" : Str), ("so" : Str)).2]) (x_thing.a.length : Int) >>= fun r196 =>
.ok r196)))
else (
.ok false))
else (
.ok false)
def sp_is_rule (mg : Str → Option Value) : Sp := fun vs H Q E => ∃ (F : Hp) (v_thing : V) (x_thing : (T4 (List Sm) (List Sm) (List Sm) Sm)), vs = [v_thing] ∧ Pre F [] H ∧ R (a := (T4 (List Sm) (List Sm) (List Sm) Sm)) F v_thing x_thing ∧
  wp (m_is_rule x_thing) (fun r => ∀ (F' H' : Hp), Gr [] F H F' H' → Q (V.bl r) H')
  (fun n => ∀ (C : Addr) (H' : Hp), mg (Str.ofString n) = some (.ref C) → Kp [] H H' → E (.ref C) none H')
set_option maxHeartbeats 20000000 in
theorem ok_is_rule (nb : Nb mg) (C_may_stand : Ca P w K mg base "may_stand" 61 ["told", "leaves", "many"] (sp_may_stand 60 mg)) (D : Df K mg "is_rule" "is_rule" s_is_rule ["thing"]) : Ca P w K mg base "is_rule" 62 ["thing"] (sp_is_rule mg) := by
  obtain ⟨fa_may_stand, fd_may_stand, G_may_stand, M_may_stand, K_may_stand, B_may_stand⟩ := C_may_stand.ex
  refine Ca.mk' D sc_is_rule (fun vs H Q E h => ?_) (fun q_ f_ cdv A outer s H vs Q E hr h => ?_)
  · obtain ⟨F, _, _, rfl, _⟩ := h
    rfl
  · obtain ⟨F, v_thing, x_thing, rfl, P0, f_thing, hk⟩ := h
    have nd := sc_is_rule.nd
    have hu64 := hr.units
    have hu128 := hu128_of hr
    have O := P0.start
    refine ⟨_, (pss_cons (ps_asg (pv 0) (pg_tup rfl (pgs_cons (pg_name (i := 2) nd rfl (Or.inl rfl)) (pgs_cons (pg_name (i := 3) nd rfl (Or.inl rfl)) (pgs_cons (pg_name (i := 4) nd rfl (Or.inl rfl)) (pgs_cons (pg_name (i := 5) nd rfl (Or.inl rfl)) pgs_nil))))))
  (pss_cons (ps_toN (ps_set (i := 1) nd rfl (Or.inr rfl) (pe_callB call_lenT (by rfl) nb.b_len PySem.boot_len (pa_cons (pv 2) pa_nil))))
  (pss_cons (ps_if (PW.pt (pw_or (pt_not (pt_chain op_le op_le pe_int (pv 1) (C8.pe_gc (by rfl) nb.c_MOST))) (pw_or (pt_cmpR (op_neT Int hu64) (pe_callB call_lenT (by rfl) nb.b_len PySem.boot_len (pa_cons (pv 3) pa_nil)) (pv 1) (nomark _)) (pw_or1 (pt_cmpR (op_neT Int hu64) (pe_callB call_lenT (by rfl) nb.b_len PySem.boot_len (pa_cons (pv 4) pa_nil)) (pv 1) (nomark _)))))) (pss_one (ps_ret pe_bl)) pss_nil)
  (pss_cons (ps_for (passes_of rfl) rfl (piTupK (K := K) rfl (pe_tup (pa_cons (pe_tup (pa_cons (pv 2) (pa_cons (pe_tup (pa_cons pe_str pa_nil)) pa_nil))) (pa_cons (pe_tup (pa_cons (pv 3) (pa_cons (pe_tup (pa_cons pe_str (pa_cons pe_str (pa_cons pe_str pa_nil)))) pa_nil))) (pa_cons (pe_tup (pa_cons (pv 4) (pa_cons (pe_tup (pa_cons pe_str (pa_cons pe_str (pa_cons pe_str pa_nil)))) pa_nil))) pa_nil))))) (pg_tup rfl (pgs_cons (pg_name (i := 6) nd rfl (Or.inl rfl)) (pgs_cons (pg_name (i := 7) nd rfl (Or.inr rfl)) pgs_nil))) (pss_one (ps_if (pt_cmpR (op_neX (List Sm) hu64) (pe_lc (own := [("one", 8)]) (g := gName 8) (tt := _) rfl nd (piListK (K := K) rfl (pv 6)) (blkOk_by (own := [("one", 8)]) (N := ["thing", "many", "begin", "over", "join", "told", "sums", "leaves", "one"]) (sc := defScope s_is_rule) (by decide +kernel)) (fun _ _ _ _ _ => (pg_name (i := 8) nd rfl (Or.inl rfl))) (fun _ _ _ _ _ => (pts_one (pt_not (pt_val (pe_call G_may_stand (hr.mono (by decide)) rfl M_may_stand K_may_stand B_may_stand .nil passL (pa_cons (pv 8) (pa_cons (pv 7) (pa_cons (pv 1) pa_nil)))))))) (fun _ _ _ _ _ => (pv 8))) (pe_lst pa_nil) (nomark _)) (pss_one (ps_ret pe_bl)) pss_nil)))
  (pss_one (ps_ret (pe_call G_may_stand (hr.mono (by decide)) rfl M_may_stand K_may_stand B_may_stand .nil (passes_call (takes_of rfl rfl rfl rfl) fun _ _ _ _ h => h) (pa_cons (pv 5) (pa_cons (pe_tup (pa_cons pe_str (pa_cons pe_str pa_nil))) (pa_cons (pv 1) pa_nil)))))))))), ?_⟩
    obtain ⟨p1, v4, v5, v6, v7, e2, h3, r8, r9, r10, r11⟩ := R.t4_ f_thing
    cases e2
    obtain ⟨p12, w13, e14, h15, hl16⟩ := R.lst_ r8
    cases e14
    refine ⟨_, rfl, _, _, rfl, (SqTF O.s h3), rfl, _, _, rfl, _, _, rfl, _, _, rfl, _, _, rfl, rfl, _, rfl, _, _, _, rfl, (.inl (O.s _ _ h15)), hl16.len, [some (V.ref p1), some (V.int (x_thing.a.length : Int)), some (V.ref p12), some v5, some v6, some v7, none, none, none], rfl, _, rfl, _, _, rfl, rfl, _, rfl, ?_⟩
    refine iteD (fun q17 => ?_) (fun q17 => ?_)
    · have hk := wp_if hk q17
      refine ⟨_, _, rfl, rfl, _, rfl, ?_⟩
      refine iteN (fun q18 => ?_) (fun q18 => ?_)
      · have hk := wp_if hk q18
        obtain ⟨p19, w20, e21, h22, hl23⟩ := R.lst_ r9
        cases e21
        refine ⟨_, rfl, _, _, _, rfl, (.inl (O.s _ _ h22)), hl23.len, _, rfl, _, _, R.int, R.int, _, rfl, ?_⟩
        refine iteD (fun q24 => ?_) (fun q24 => ?_)
        · have hk := wp_if hk q24
          refine iteT ?_
          exact hk _ _  O.g 
        · have hk := wp_el hk q24
          obtain ⟨p25, w26, e27, h28, hl29⟩ := R.lst_ r10
          cases e27
          refine ⟨_, rfl, _, _, _, rfl, (.inl (O.s _ _ h28)), hl29.len, _, rfl, _, _, R.int, R.int, _, rfl, ?_⟩
          refine iteD (fun q30 => ?_) (fun q30 => ?_)
          · have hk := wp_if hk q30
            exact hk _ _  O.g 
          · have hk := wp_el hk q30
            refine ⟨_, rfl, (by show 1 ≤ sizeLine; decide), fun p31 hp32 => ?_⟩
            obtain ⟨F33, O34, S35, h36⟩ := O.putE hp32 (.tup [V.str ("own" : Str)])
            have r8 := r8.mono S35
            have r9 := r9.mono S35
            have r10 := r10.mono S35
            have r11 := r11.mono S35
            have h37 := R.of_nam h36
            refine ⟨(by show 2 ≤ sizeLine; decide), fun p38 hp39 => ?_⟩
            have h45 := (R.tp1 h37)
            obtain ⟨F40, O41, S42, h43⟩ := O34.putE hp39 (.tup [V.ref p12, V.ref p31])
            have r8 := r8.mono S42
            have r9 := r9.mono S42
            have r10 := r10.mono S42
            have r11 := r11.mono S42
            have h45 := h45.mono S42
            have h44 : R (a := ((List Sm) × (Tp Str))) F40 (.ref p38) (x_thing.a, (Tp.mk [("own" : Str)])) := R.t2 h43 r8 h45
            refine ⟨_, rfl, (by show 3 ≤ sizeLine; decide), fun p46 hp47 => ?_⟩
            obtain ⟨F48, O49, S50, h51⟩ := O41.putE hp47 (.tup [V.str ("own" : Str), V.str ("tie" : Str), V.str ("more" : Str)])
            have r9 := r9.mono S50
            have r10 := r10.mono S50
            have r11 := r11.mono S50
            have h44 := h44.mono S50
            have h52 : R (a := (T3 Str Str Str)) F48 (.ref p46) (T3.mk ("own" : Str) ("tie" : Str) ("more" : Str)) := R.t3 h51 R.str R.str R.str
            refine ⟨(by show 2 ≤ sizeLine; decide), fun p53 hp54 => ?_⟩
            have h60 := (R.tp3 h52)
            obtain ⟨F55, O56, S57, h58⟩ := O49.putE hp54 (.tup [V.ref p19, V.ref p46])
            have r9 := r9.mono S57
            have r10 := r10.mono S57
            have r11 := r11.mono S57
            have h44 := h44.mono S57
            have h60 := h60.mono S57
            have h59 : R (a := ((List Sm) × (Tp Str))) F55 (.ref p53) (x_thing.b, (Tp.mk [(T3.mk ("own" : Str) ("tie" : Str) ("more" : Str)).a, (T3.mk ("own" : Str) ("tie" : Str) ("more" : Str)).b, (T3.mk ("own" : Str) ("tie" : Str) ("more" : Str)).c])) := R.t2 h58 r9 h60
            refine ⟨_, rfl, (by show 3 ≤ sizeLine; decide), fun p61 hp62 => ?_⟩
            obtain ⟨F63, O64, S65, h66⟩ := O56.putE hp62 (.tup [V.str ("own" : Str), V.str ("so" : Str), V.str ("more" : Str)])
            have r10 := r10.mono S65
            have r11 := r11.mono S65
            have h44 := h44.mono S65
            have h59 := h59.mono S65
            have h67 : R (a := (T3 Str Str Str)) F63 (.ref p61) (T3.mk ("own" : Str) ("so" : Str) ("more" : Str)) := R.t3 h66 R.str R.str R.str
            refine ⟨(by show 2 ≤ sizeLine; decide), fun p68 hp69 => ?_⟩
            have h75 := (R.tp3 h67)
            obtain ⟨F70, O71, S72, h73⟩ := O64.putE hp69 (.tup [V.ref p25, V.ref p61])
            have r10 := r10.mono S72
            have r11 := r11.mono S72
            have h44 := h44.mono S72
            have h59 := h59.mono S72
            have h75 := h75.mono S72
            have h74 : R (a := ((List Sm) × (Tp Str))) F70 (.ref p68) (x_thing.c, (Tp.mk [(T3.mk ("own" : Str) ("so" : Str) ("more" : Str)).a, (T3.mk ("own" : Str) ("so" : Str) ("more" : Str)).b, (T3.mk ("own" : Str) ("so" : Str) ("more" : Str)).c])) := R.t2 h73 r10 h75
            refine ⟨(by show 3 ≤ sizeLine; decide), fun p76 hp77 => ?_⟩
            obtain ⟨F78, O79, S80, h81⟩ := O71.putE hp77 (.tup [V.ref p38, V.ref p53, V.ref p68])
            have r11 := r11.mono S80
            have h44 := h44.mono S80
            have h59 := h59.mono S80
            have h74 := h74.mono S80
            have h82 : R (a := (T3 ((List Sm) × (Tp Str)) ((List Sm) × (Tp Str)) ((List Sm) × (Tp Str)))) F78 (.ref p76) (T3.mk (x_thing.a, (Tp.mk [("own" : Str)])) (x_thing.b, (Tp.mk [(T3.mk ("own" : Str) ("tie" : Str) ("more" : Str)).a, (T3.mk ("own" : Str) ("tie" : Str) ("more" : Str)).b, (T3.mk ("own" : Str) ("tie" : Str) ("more" : Str)).c])) (x_thing.c, (Tp.mk [(T3.mk ("own" : Str) ("so" : Str) ("more" : Str)).a, (T3.mk ("own" : Str) ("so" : Str) ("more" : Str)).b, (T3.mk ("own" : Str) ("so" : Str) ("more" : Str)).c]))) := R.t3 h81 h44 h59 h74
            obtain ⟨p83, v86, v87, v88, e84, h85, r89, r90, r91⟩ := R.t3_ h82
            cases e84
            have hl92 : RL (a := ((List Sm) × (Tp Str))) F78 [v86, v87, v88] [(T3.mk (x_thing.a, (Tp.mk [("own" : Str)])) (x_thing.b, (Tp.mk [(T3.mk ("own" : Str) ("tie" : Str) ("more" : Str)).a, (T3.mk ("own" : Str) ("tie" : Str) ("more" : Str)).b, (T3.mk ("own" : Str) ("tie" : Str) ("more" : Str)).c])) (x_thing.c, (Tp.mk [(T3.mk ("own" : Str) ("so" : Str) ("more" : Str)).a, (T3.mk ("own" : Str) ("so" : Str) ("more" : Str)).b, (T3.mk ("own" : Str) ("so" : Str) ("more" : Str)).c]))).a, (T3.mk (x_thing.a, (Tp.mk [("own" : Str)])) (x_thing.b, (Tp.mk [(T3.mk ("own" : Str) ("tie" : Str) ("more" : Str)).a, (T3.mk ("own" : Str) ("tie" : Str) ("more" : Str)).b, (T3.mk ("own" : Str) ("tie" : Str) ("more" : Str)).c])) (x_thing.c, (Tp.mk [(T3.mk ("own" : Str) ("so" : Str) ("more" : Str)).a, (T3.mk ("own" : Str) ("so" : Str) ("more" : Str)).b, (T3.mk ("own" : Str) ("so" : Str) ("more" : Str)).c]))).b, (T3.mk (x_thing.a, (Tp.mk [("own" : Str)])) (x_thing.b, (Tp.mk [(T3.mk ("own" : Str) ("tie" : Str) ("more" : Str)).a, (T3.mk ("own" : Str) ("tie" : Str) ("more" : Str)).b, (T3.mk ("own" : Str) ("tie" : Str) ("more" : Str)).c])) (x_thing.c, (Tp.mk [(T3.mk ("own" : Str) ("so" : Str) ("more" : Str)).a, (T3.mk ("own" : Str) ("so" : Str) ("more" : Str)).b, (T3.mk ("own" : Str) ("so" : Str) ("more" : Str)).c]))).c] := RL.cons r89 (RL.cons r90 (RL.cons r91 RL.nil))
            obtain ⟨L94, hL95, hLs96, hLd97⟩ := loopM_L hk
            refine ⟨_, rfl, ⟨_, (SqTF O79.s h85)⟩, ?_⟩
            refine for_tup (K := K) (xs := [v86, v87, v88]) (fun i σ H_ => ∃ (F_ : Hp) (st : Unit) (t_0 : Option V) (t_1 : Option V), σ = [some (V.ref p1), some (V.int (x_thing.a.length : Int)), some (V.ref p12), some (V.ref p19), some (V.ref p25), some v7, t_0, t_1, none] ∧ Same F78 F_ ∧ Ow _ F_ [] H_ ∧ L94 (List.drop i ([(T3.mk (x_thing.a, (Tp.mk [("own" : Str)])) (x_thing.b, (Tp.mk [(T3.mk ("own" : Str) ("tie" : Str) ("more" : Str)).a, (T3.mk ("own" : Str) ("tie" : Str) ("more" : Str)).b, (T3.mk ("own" : Str) ("tie" : Str) ("more" : Str)).c])) (x_thing.c, (Tp.mk [(T3.mk ("own" : Str) ("so" : Str) ("more" : Str)).a, (T3.mk ("own" : Str) ("so" : Str) ("more" : Str)).b, (T3.mk ("own" : Str) ("so" : Str) ("more" : Str)).c]))).a, (T3.mk (x_thing.a, (Tp.mk [("own" : Str)])) (x_thing.b, (Tp.mk [(T3.mk ("own" : Str) ("tie" : Str) ("more" : Str)).a, (T3.mk ("own" : Str) ("tie" : Str) ("more" : Str)).b, (T3.mk ("own" : Str) ("tie" : Str) ("more" : Str)).c])) (x_thing.c, (Tp.mk [(T3.mk ("own" : Str) ("so" : Str) ("more" : Str)).a, (T3.mk ("own" : Str) ("so" : Str) ("more" : Str)).b, (T3.mk ("own" : Str) ("so" : Str) ("more" : Str)).c]))).b, (T3.mk (x_thing.a, (Tp.mk [("own" : Str)])) (x_thing.b, (Tp.mk [(T3.mk ("own" : Str) ("tie" : Str) ("more" : Str)).a, (T3.mk ("own" : Str) ("tie" : Str) ("more" : Str)).b, (T3.mk ("own" : Str) ("tie" : Str) ("more" : Str)).c])) (x_thing.c, (Tp.mk [(T3.mk ("own" : Str) ("so" : Str) ("more" : Str)).a, (T3.mk ("own" : Str) ("so" : Str) ("more" : Str)).b, (T3.mk ("own" : Str) ("so" : Str) ("more" : Str)).c]))).c])) st) ⟨F78, (), none, none, rfl, Same.refl _, O79, hL95⟩ (fun i_ σ_ H_ _ hp_ => ?_) ?_ ?_
            · obtain ⟨_, _, _, _, _, hS_, hO_, _⟩ := hp_
              exact SqTF hO_.s (hS_ _ _ h85)
            · rintro i98 x99 sg100 H101 hi102 ⟨F107, st104, t105, t106, rfl, S103, O108, hL95⟩
              have hl92 := hl92.mono S103
              obtain ⟨y93, e109, r110⟩ := RL.got hl92 hi102
              rw [drop_at e109] at hL95
              have hk := hLs96 _ _ _ hL95
              obtain ⟨p111, v114, v115, e112, h113, r116, r117⟩ := R.t2_ r110
              cases e112
              obtain ⟨p118, w119, e120, h121, hl122⟩ := R.lst_ r116
              cases e120
              obtain ⟨c128, L124, hL125, hLs126, hLd127⟩ := compS_L hk
              refine ⟨_, _, rfl, (SqTF O108.s h113), rfl, _, _, rfl, _, _, rfl, rfl, _, rfl, _, rfl, ⟨_, (SqLF O108.s h121)⟩, fun p129 hp130 => ?_⟩
              have z153 := O108.was hp130
              refine lc_list (K := K) (xs := w119) (fun i H => ∃ (F_ : Hp) (st : Unit) (acc : List Sm) (wa : List V), Same F107 F_ ∧ Ow _ F_ [(p129, .lst wa)] H ∧ RL F_ wa acc ∧ wa.length ≤ i ∧ L124 (List.drop i y93.1) acc st) ⟨F107, (), [], [], Same.refl _, O108.new hp130, RL.nil, Nat.zero_le _, hL125⟩ (fun i_ H_ _ hp_ => ?_) ?_ ?_
              · obtain ⟨_, _, _, _, hS_, hO_, _⟩ := hp_
                exact SqLF hO_.s (hS_ _ _ h121)
              · rintro i131 x132 H133 hi134 ⟨F139, st140, acc136, wa137, S141, O143, hl142, la138, hL125⟩
                have r117 := r117.mono S141
                have hl122 := hl122.mono S141
                obtain ⟨y123, e144, r145⟩ := RL.got hl122 hi134
                rw [drop_at e144] at hL125
                have hk := hLs126 _ _ _ _ hL125
                refine ⟨rfl, _, rfl, _, rfl, _, rfl, _, _, _, _, _, _, rfl, O143.pre0, r145, r117, wp_call hk (fun r146 er147 hk F148 H149 g150 => ?_) (fun n hn => hn.elim)⟩
                have O151 := O143.call0 g150
                have S_ := g150.f
                have hl122 := hl122.mono S_
                have S141 := S141.trans S_
                have hl142 := hl142.mono S_
                have r145 := r145.mono S_
                refine ⟨_, rfl, ?_⟩
                refine iteBN (fun q152 => ?_) (fun q152 => ?_)
                · have hk := wp_if hk q152
                  exact ⟨F148, (), acc136, wa137, S141, O151, hl142, Nat.le_succ_of_le la138, hk⟩
                · have hk := wp_el hk q152
                  refine ⟨_, rfl, _, (O151.at 0 rfl), (comp_len la138 hi134 hl122.len c128), ?_⟩
                  exact ⟨F148, (), acc136 ++ [y123], wa137 ++ [x132], S141, O151.set 0 (.lst (wa137 ++ [x132])) rfl, RL.snoc hl142 r145, by rw [List.length_append]; exact Nat.succ_le_succ la138, hk⟩
              rintro H154 ⟨F155, st156, acc157, wa158, S159, O160, hl161, la162, hL163⟩
              rw [drop_end hl122.len] at hL163
              have hk := hLd127 _ _ hL163
              have S103 := S103.trans S159
              obtain ⟨F165, O166, S167, h168⟩ := O160.frzE 0 rfl z153
              have S103 := S103.trans S167
              have hl161 := hl161.mono S167
              have h169 := R.lst (a := Sm) h168 hl161
              refine ⟨(by show 0 ≤ sizeLine; decide), fun p170 hp171 => ?_⟩
              have hl177 : RL (a := Sm) F165 ([]) ([] : List Sm) := RL.nil
              obtain ⟨F172, O173, S174, h175⟩ := O166.putE hp171 (.lst ([]))
              have S103 := S103.trans S174
              have h169 := h169.mono S174
              have hl177 := hl177.mono S174
              have h176 := R.lst (a := Sm) h175 hl177
              refine ⟨_, _, (R.mono h169 O173.s), (R.mono h176 O173.s), (Nat.le_trans (Nat.min_le_right _ _) (by decide)), _, rfl, ?_⟩
              refine iteD (fun q178 => ?_) (fun q178 => ?_)
              · have hk := wp_if hk q178
                exact hk _ _  O173.g 
              · have hk := wp_el hk q178
                exact ⟨F172, (), some (V.ref p118), some v115, rfl, S103, O173, hk⟩
            rintro sg179 H180 ⟨F186, st182, t184, t185, rfl, S181, O187, hL183⟩
            rw [drop_end hl92.len] at hL183
            have hk := hLd97 _ hL183
            have r11 := r11.mono S181
            refine ⟨_, rfl, (by show 2 ≤ sizeLine; decide), fun p189 hp190 => ?_⟩
            obtain ⟨F191, O192, S193, h194⟩ := O187.putE hp190 (.tup [V.str ("own" : Str), V.str ("so" : Str)])
            have r11 := r11.mono S193
            have h195 : R (a := (Str × Str)) F191 (.ref p189) (("own" : Str), ("so" : Str)) := R.t2 h194 R.str R.str
            refine ⟨_, rfl, _, _, _, _, _, _, rfl, O192.pre0, r11, (R.tp2 h195), wp_call hk (fun r196 er197 hk F198 H199 g200 => ?_) (fun n hn C H1 hC kp => hn C H1 hC (O192.kp0 kp))⟩
            have O201 := O192.call0 g200
            exact hk _ _  O201.g 
      · have hk := wp_el hk q18
        refine iteT ?_
        exact hk _ _  O.g 
    · have hk := wp_el hk q17
      refine ⟨_, rfl, ?_⟩
      refine iteNF ?_
      refine iteT ?_
      exact hk _ _  O.g 
abbrev s_need_rule : Stmt := top 7
theorem sc_need_rule : FnScope ["rule"] ["rule"] (defScope s_need_rule) := ⟨rfl, rfl, rfl, by decide +kernel, rfl, by decide +kernel, by decide +kernel⟩
def m_need_rule (x_rule : (T4 (List Sm) (List Sm) (List Sm) Sm)) : M (Unit) :=
m_is_rule x_rule >>= fun r1 =>
if r1 = true then (
.ok ())
else (
raise "NoRule")
def sp_need_rule (mg : Str → Option Value) : Sp := fun vs H Q E => ∃ (F : Hp) (v_rule : V) (x_rule : (T4 (List Sm) (List Sm) (List Sm) Sm)), vs = [v_rule] ∧ Pre F [] H ∧ R (a := (T4 (List Sm) (List Sm) (List Sm) Sm)) F v_rule x_rule ∧
  wp (m_need_rule x_rule) (fun r => ∀ (F' H' : Hp), Gr [] F H F' H' → Q .non H')
  (fun n => ∀ (C : Addr) (H' : Hp), mg (Str.ofString n) = some (.ref C) → Kp [] H H' → E (.ref C) none H')
set_option maxHeartbeats 20000000 in
theorem ok_need_rule (nb : Nb mg) (C_is_rule : Ca P w K mg base "is_rule" 62 ["thing"] (sp_is_rule mg)) (E_NoRule : ∃ C, Xc K mg "NoRule" C) (D : Df K mg "need_rule" "need_rule" s_need_rule ["rule"]) : Ca P w K mg base "need_rule" 63 ["rule"] (sp_need_rule mg) := by
  obtain ⟨fa_is_rule, fd_is_rule, G_is_rule, M_is_rule, K_is_rule, B_is_rule⟩ := C_is_rule.ex
  obtain ⟨XC_NoRule, X_NoRule⟩ := E_NoRule
  refine Ca.mk' D sc_need_rule (fun vs H Q E h => ?_) (fun q_ f_ cdv A outer s H vs Q E hr h => ?_)
  · obtain ⟨F, _, _, rfl, _⟩ := h
    rfl
  · obtain ⟨F, v_rule, x_rule, rfl, P0, f_rule, hk⟩ := h
    have nd := sc_need_rule.nd
    have hu64 := hr.units
    have hu128 := hu128_of hr
    have O := P0.start
    refine ⟨_, (pss_one (ps_if (pt_not (pt_val (pe_call G_is_rule (hr.mono (by decide)) rfl M_is_rule K_is_rule B_is_rule .nil (passes_call (takes_of rfl rfl rfl rfl) fun _ _ _ _ h => h) (pa_cons (pv 0) pa_nil)))) (pss_one (ps_raise rfl (takes_of rfl rfl rfl rfl) (pmk_own PySem.F.excBase_ValueError X_NoRule.x X_NoRule.g X_NoRule.k (raises_own X_NoRule.b X_NoRule.t) rfl))) pss_nil)), ?_⟩
    refine ⟨_, rfl, _, _, _, rfl, O.pre0, f_rule, wp_call hk (fun r1 er2 hk F3 H4 g5 => ?_) (fun n hn C H1 hC kp => hn C H1 hC (O.kp0 kp))⟩
    have O6 := O.call0 g5
    refine ⟨_, rfl, ?_⟩
    refine iteBN (fun q7 => ?_) (fun q7 => ?_)
    · have hk := wp_if hk q7
      exact hk _ _  O6.g 
    · have hk := wp_el hk q7
      exact hk _ _ X_NoRule.g O6.kp
abbrev s_sum_at : Stmt := top 8
theorem sc_sum_at : FnScope ["sum_told", "own", "tie", "so", "more", "word", "one", "other", "part"] ["sum_told", "own", "tie", "so", "more"] (defScope s_sum_at) := ⟨rfl, rfl, rfl, by decide +kernel, rfl, by decide +kernel, by decide +kernel⟩
def m_sum_at : Nat → Sm → Int → Int → (List Int) → (List Int) → M (Int)
  | 0, _, _, _, _, _ => bad
  | k_ + 1, x_sum_told, x_own, x_tie, x_so, x_more =>
    if (Sm.word x_sum_told) = ("number" : Str) then (
    opt (Sm.int? x_sum_told) >>= fun y6 =>
    .ok y6)
    else (
    if (Sm.word x_sum_told) = ("own" : Str) then (
    .ok x_own)
    else (
    if (Sm.word x_sum_told) = ("tie" : Str) then (
    .ok x_tie)
    else (
    if (Sm.word x_sum_told) = ("so" : Str) then (
    opt (Sm.int? x_sum_told) >>= fun y15 =>
    opt (atI x_so y15) >>= fun y26 =>
    .ok y26)
    else (
    if (Sm.word x_sum_told) = ("more" : Str) then (
    opt (Sm.int? x_sum_told) >>= fun y32 =>
    opt (atI x_more y32) >>= fun y43 =>
    .ok y43)
    else (
    opt (Sm.two? x_sum_told) >>= fun y48 =>
    compS (fun (y65 : Sm) (st82 : Unit) =>
    m_sum_at k_ y65 x_own x_tie x_so x_more >>= fun r88 =>
    .ok (some r88, ())) ([y48.1, y48.2]) () >>= fun q105 =>
    two2 q105.1 >>= fun (x116, x117) =>
    if (Sm.word x_sum_told) = ("plus" : Str) then (
    .ok (x116 + x117))
    else (
    if (Sm.word x_sum_told) = ("less" : Str) then (
    .ok (x116 - x117))
    else (
    if (Sm.word x_sum_told) = ("times" : Str) then (
    chk (CMulW x116 x117) >>= fun _ =>
    .ok (x116 * x117))
    else (
    if (Sm.word x_sum_told) = ("most" : Str) then (
    .ok (if x117 > x116 then x117 else x116))
    else (
    .ok (if x117 < x116 then x117 else x116))))))))))
def sp_sum_at (k_ : Nat) (mg : Str → Option Value) : Sp := fun vs H Q E => ∃ (F : Hp) (v_sum_told : V) (x_sum_told : Sm) (x_own : Int) (x_tie : Int) (v_so : V) (x_so : (List Int)) (v_more : V) (x_more : (List Int)), vs = [v_sum_told, V.int x_own, V.int x_tie, v_so, v_more] ∧ Pre F [] H ∧ R (a := Sm) F v_sum_told x_sum_told ∧ R (a := (List Int)) F v_so x_so ∧ R (a := (List Int)) F v_more x_more ∧
  wp (m_sum_at k_ x_sum_told x_own x_tie x_so x_more) (fun r => ∀ (F' H' : Hp), Gr [] F H F' H' → Q (V.int r) H')
  (fun n => ∀ (C : Addr) (H' : Hp), mg (Str.ofString n) = some (.ref C) → Kp [] H H' → E (.ref C) none H')
set_option maxHeartbeats 20000000 in
theorem ok_sum_at (nb : Nb mg) (D : Df K mg "sum_at" "sum_at" s_sum_at ["sum_told", "own", "tie", "so", "more"]) : ∀ k_ : Nat, Ca P w K mg base "sum_at" (k_ + 1) ["sum_told", "own", "tie", "so", "more"] (sp_sum_at k_ mg) := by
  intro k_
  induction k_ with
  | zero =>
    refine Ca.mk' D sc_sum_at (fun vs H Q E h => ?_) (fun q_ f_ cdv A outer s H vs Q E hr h => ?_)
    · obtain ⟨F, _, _, _, _, _, _, _, _, rfl, _⟩ := h
      rfl
    · obtain ⟨F, _, _, _, _, _, _, _, _, rfl, _, _, _, _, hk⟩ := h
      exact hk.elim
  | succ k_ ih_ =>
    have C_sum_at := ih_
    obtain ⟨fa_sum_at, fd_sum_at, G_sum_at, M_sum_at, K_sum_at, B_sum_at⟩ := C_sum_at.ex
    refine Ca.mk' D sc_sum_at (fun vs H Q E h => ?_) (fun q_ f_ cdv A outer s H vs Q E hr h => ?_)
    · obtain ⟨F, _, _, _, _, _, _, _, _, rfl, _⟩ := h
      rfl
    · obtain ⟨F, v_sum_told, x_sum_told, x_own, x_tie, v_so, x_so, v_more, x_more, rfl, P0, f_sum_told, f_so, f_more, hk⟩ := h
      have nd := sc_sum_at.nd
      have hu64 := hr.units
      have hu128 := hu128_of hr
      have O := P0.start
      refine ⟨_, (pss_cons (ps_toN (ps_set (i := 5) nd rfl (Or.inl rfl) (pe_ix (ixTupK (K := K) rfl) (pv 0) pe_int (fun _ _ => rfl))))
  (pss_cons (ps_if (pt_cmpR (op_eqT Str hu64) (pv 5) pe_str (nomark _)) (pss_one (ps_ret (pe_ix (ixTupK (K := K) rfl) (pv 0) pe_int (fun _ _ => rfl)))) pss_nil)
  (pss_cons (ps_if (pt_cmpR (op_eqT Str hu64) (pv 5) pe_str (nomark _)) (pss_one (ps_ret (pv 1))) pss_nil)
  (pss_cons (ps_if (pt_cmpR (op_eqT Str hu64) (pv 5) pe_str (nomark _)) (pss_one (ps_ret (pv 2))) pss_nil)
  (pss_cons (ps_if (pt_cmpR (op_eqT Str hu64) (pv 5) pe_str (nomark _)) (pss_one (ps_ret (pe_ix (ixListK (K := K) rfl) (pv 3) (pe_ix (ixTupK (K := K) rfl) (pv 0) pe_int (fun _ _ => rfl)) (fun _ _ => rfl)))) pss_nil)
  (pss_cons (ps_if (pt_cmpR (op_eqT Str hu64) (pv 5) pe_str (nomark _)) (pss_one (ps_ret (pe_ix (ixListK (K := K) rfl) (pv 4) (pe_ix (ixTupK (K := K) rfl) (pv 0) pe_int (fun _ _ => rfl)) (fun _ _ => rfl)))) pss_nil)
  (pss_cons (ps_asg (pe_lc (own := [("part", 8)]) (g := gName 8) (tt := _) rfl nd (piTupK (K := K) rfl (pe_slice (slTupK (K := K) rfl) (pv 0) (po_some pe_int) po_none)) (blkOk_by (own := [("part", 8)]) (N := ["sum_told", "own", "tie", "so", "more", "word", "one", "other", "part"]) (sc := defScope s_sum_at) (by decide +kernel)) (fun _ _ _ _ _ => (pg_name (i := 8) nd rfl (Or.inl rfl))) (fun _ _ _ _ _ => pts_nil) (fun _ _ _ _ _ => (pe_call G_sum_at (hr.mono (by omega)) rfl M_sum_at K_sum_at B_sum_at .nil passL (pa_cons (pv 8) (pa_cons (pv 1) (pa_cons (pv 2) (pa_cons (pv 3) (pa_cons (pv 4) pa_nil)))))))) (pgLstK (K := K) rfl rfl (pgs_cons (pg_name (i := 6) nd rfl (Or.inl rfl)) (pgs_cons (pg_name (i := 7) nd rfl (Or.inl rfl)) pgs_nil))))
  (pss_cons (ps_if (pt_cmpR (op_eqT Str hu64) (pv 5) pe_str (nomark _)) (pss_one (ps_ret (pe_op op_add (pv 6) (pv 7)))) pss_nil)
  (pss_cons (ps_if (pt_cmpR (op_eqT Str hu64) (pv 5) pe_str (nomark _)) (pss_one (ps_ret (pe_op op_sub (pv 6) (pv 7)))) pss_nil)
  (pss_cons (ps_if (pt_cmpR (op_eqT Str hu64) (pv 5) pe_str (nomark _)) (pss_one (ps_ret (pe_op op_mulW (pv 6) (pv 7)))) pss_nil)
  (pss_cons (ps_if (pt_cmpR (op_eqT Str hu64) (pv 5) pe_str (nomark _)) (pss_one (ps_ret (pe_callB (call_max2 rfl) (by rfl) nb.b_max (by decide +kernel) (pa_cons (pv 6) (pa_cons (pv 7) pa_nil))))) pss_nil)
  (pss_one (ps_ret (pe_callB (call_min2 rfl) (by rfl) nb.b_min (by decide +kernel) (pa_cons (pv 6) (pa_cons (pv 7) pa_nil)))))))))))))))), ?_⟩
      obtain ⟨p1, w2, e3, h4⟩ := R.sm_ f_sum_told
      cases e3
      refine ⟨_, rfl, _, _, _, _, rfl, rfl, (SqTK O.s h4), (atI0 _ _), [some (V.ref p1), some (V.int x_own), some (V.int x_tie), some v_so, some v_more, some (V.str (Sm.word x_sum_told)), none, none, none], rfl, _, rfl, _, _, R.str, R.str, _, rfl, ?_⟩
      refine iteD (fun q5 => ?_) (fun q5 => ?_)
      · have hk := wp_if hk q5
        obtain ⟨y6, e7, hk⟩ := wp_opt hk
        obtain ⟨p8, w9, e10, h11⟩ := R.sm_int f_sum_told e7
        cases e10
        refine ⟨_, rfl, _, _, _, _, rfl, rfl, (SqTK O.s h11), rfl, ?_⟩
        exact hk _ _  O.g 
      · have hk := wp_el hk q5
        refine ⟨_, rfl, _, _, R.str, R.str, _, rfl, ?_⟩
        refine iteD (fun q12 => ?_) (fun q12 => ?_)
        · have hk := wp_if hk q12
          refine ⟨_, rfl, ?_⟩
          exact hk _ _  O.g 
        · have hk := wp_el hk q12
          refine ⟨_, rfl, _, _, R.str, R.str, _, rfl, ?_⟩
          refine iteD (fun q13 => ?_) (fun q13 => ?_)
          · have hk := wp_if hk q13
            refine ⟨_, rfl, ?_⟩
            exact hk _ _  O.g 
          · have hk := wp_el hk q13
            refine ⟨_, rfl, _, _, R.str, R.str, _, rfl, ?_⟩
            refine iteD (fun q14 => ?_) (fun q14 => ?_)
            · have hk := wp_if hk q14
              obtain ⟨y15, e16, hk⟩ := wp_opt hk
              obtain ⟨p17, w18, e19, h20⟩ := R.sm_int f_sum_told e16
              cases e19
              obtain ⟨p21, w22, e23, h24, hl25⟩ := R.lst_ f_so
              cases e23
              obtain ⟨y26, e27, hk⟩ := wp_opt hk
              obtain ⟨w28, e29, r30⟩ := hl25.atI e27
              obtain rfl := R.int_ r30
              refine ⟨_, rfl, _, rfl, _, _, _, _, rfl, rfl, (SqTK O.s h20), rfl, _, _, _, _, rfl, rfl, (SqLF O.s h24), e29, ?_⟩
              exact hk _ _  O.g 
            · have hk := wp_el hk q14
              refine ⟨_, rfl, _, _, R.str, R.str, _, rfl, ?_⟩
              refine iteD (fun q31 => ?_) (fun q31 => ?_)
              · have hk := wp_if hk q31
                obtain ⟨y32, e33, hk⟩ := wp_opt hk
                obtain ⟨p34, w35, e36, h37⟩ := R.sm_int f_sum_told e33
                cases e36
                obtain ⟨p38, w39, e40, h41, hl42⟩ := R.lst_ f_more
                cases e40
                obtain ⟨y43, e44, hk⟩ := wp_opt hk
                obtain ⟨w45, e46, r47⟩ := hl42.atI e44
                obtain rfl := R.int_ r47
                refine ⟨_, rfl, _, rfl, _, _, _, _, rfl, rfl, (SqTK O.s h37), rfl, _, _, _, _, rfl, rfl, (SqLF O.s h41), e46, ?_⟩
                exact hk _ _  O.g 
              · have hk := wp_el hk q31
                obtain ⟨y48, e49, hk⟩ := wp_opt hk
                obtain ⟨p50, w51, v52, v53, e54, h55, r56, r57⟩ := R.sm_two f_sum_told e49
                cases e54
                refine ⟨_, rfl, _, rfl, _, _, rfl, (SqTK O.s h55), (sl3 _ _ _), fun p58 hp59 => ?_⟩
                obtain ⟨F60, O61, S62, h63⟩ := O.putE hp59 (.tup [v52, v53])
                have f_so := f_so.mono S62
                have f_more := f_more.mono S62
                have r56 := r56.mono S62
                have r57 := r57.mono S62
                have hl64 : RL (a := Sm) F60 [v52, v53] [y48.1, y48.2] := RL.cons r56 (RL.cons r57 RL.nil)
                obtain ⟨c70, L66, hL67, hLs68, hLd69⟩ := compS_L hk
                refine ⟨_, rfl, ⟨_, (SqTF O61.s h63)⟩, fun p71 hp72 => ?_⟩
                have z94 := O61.was hp72
                refine lc_tup (K := K) (xs := [v52, v53]) (fun i H => ∃ (F_ : Hp) (st : Unit) (acc : List Int) (wa : List V), Same F60 F_ ∧ Ow _ F_ [(p71, .lst wa)] H ∧ RL F_ wa acc ∧ wa.length ≤ i ∧ L66 (List.drop i ([y48.1, y48.2])) acc st) ⟨F60, (), [], [], Same.refl _, O61.new hp72, RL.nil, Nat.zero_le _, hL67⟩ (fun i_ H_ _ hp_ => ?_) ?_ ?_
                · obtain ⟨_, _, _, _, hS_, hO_, _⟩ := hp_
                  exact SqTF hO_.s (hS_ _ _ h63)
                · rintro i73 x74 H75 hi76 ⟨F81, st82, acc78, wa79, S83, O85, hl84, la80, hL67⟩
                  have f_so := f_so.mono S83
                  have f_more := f_more.mono S83
                  have hl64 := hl64.mono S83
                  obtain ⟨y65, e86, r87⟩ := RL.got hl64 hi76
                  rw [drop_at e86] at hL67
                  have hk := hLs68 _ _ _ _ hL67
                  refine ⟨rfl, ?_⟩
                  refine ⟨_, rfl, _, rfl, _, rfl, _, rfl, _, rfl, _, _, _, _, _, _, _, _, _, rfl, O85.pre0, r87, f_so, f_more, wp_call hk (fun r88 er89 hk F90 H91 g92 => ?_) (fun n hn => hn.elim)⟩
                  have O93 := O85.call0 g92
                  have S_ := g92.f
                  have hl64 := hl64.mono S_
                  have S83 := S83.trans S_
                  have hl84 := hl84.mono S_
                  refine ⟨_, (O93.at 0 rfl), (comp_len la80 hi76 hl64.len c70), ?_⟩
                  exact ⟨F90, (), acc78 ++ [r88], wa79 ++ [V.int r88], S83, O93.set 0 (.lst (wa79 ++ [V.int r88])) rfl, RL.snoc hl84 R.int, by rw [List.length_append]; exact Nat.succ_le_succ la80, hk⟩
                rintro H95 ⟨F96, st97, acc98, wa99, S100, O101, hl102, la103, hL104⟩
                rw [drop_end hl64.len] at hL104
                have hk := hLd69 _ _ hL104
                obtain ⟨F106, O107, S108, h109⟩ := O101.frzE 0 rfl z94
                have hl102 := hl102.mono S108
                have h110 := R.lst (a := Int) h109 hl102
                obtain ⟨p111, w112, e113, h114, hl115⟩ := R.lst_ h110
                cases e113
                obtain ⟨x116, x117, e118, hk⟩ := wp_two2 hk
                have hl119 : RL (a := Int) F106 w112 [x116, x117] := by rw [← e118]; exact hl115
                obtain ⟨w120, w121, e122, r123, q124⟩ := RL.cons_ hl119
                obtain ⟨w125, w126, e127, r128, q129⟩ := RL.cons_ q124
                rw [e127, RL.nil_ q129] at e122
                obtain rfl := R.int_ r123
                obtain rfl := R.int_ r128
                refine ⟨_, _, rfl, (SqLF O107.s h114), (by rw [e122]; rfl), ?_⟩
                rw [e122]
                refine ⟨_, _, rfl, _, _, rfl, rfl, _, rfl, _, _, R.str, R.str, _, rfl, ?_⟩
                refine iteD (fun q130 => ?_) (fun q130 => ?_)
                · have hk := wp_if hk q130
                  refine ⟨_, rfl, _, rfl, _, _, rfl, rfl, ?_⟩
                  exact hk _ _  O107.g 
                · have hk := wp_el hk q130
                  refine ⟨_, rfl, _, _, R.str, R.str, _, rfl, ?_⟩
                  refine iteD (fun q131 => ?_) (fun q131 => ?_)
                  · have hk := wp_if hk q131
                    refine ⟨_, rfl, _, rfl, _, _, rfl, rfl, ?_⟩
                    exact hk _ _  O107.g 
                  · have hk := wp_el hk q131
                    refine ⟨_, rfl, _, _, R.str, R.str, _, rfl, ?_⟩
                    refine iteD (fun q132 => ?_) (fun q132 => ?_)
                    · have hk := wp_if hk q132
                      obtain ⟨c133, hk⟩ := wp_chk hk
                      refine ⟨_, rfl, _, rfl, _, _, rfl, rfl, c133, ?_⟩
                      exact hk _ _  O107.g 
                    · have hk := wp_el hk q132
                      refine ⟨_, rfl, _, _, R.str, R.str, _, rfl, ?_⟩
                      refine iteD (fun q134 => ?_) (fun q134 => ?_)
                      · have hk := wp_if hk q134
                        refine ⟨_, rfl, _, rfl, _, _, rfl, ?_⟩
                        exact hk _ _  O107.g 
                      · have hk := wp_el hk q134
                        refine ⟨_, rfl, _, rfl, _, _, rfl, ?_⟩
                        exact hk _ _  O107.g 
abbrev s_begun : Stmt := top 9
theorem sc_begun : FnScope ["rule", "own", "one"] ["rule", "own"] (defScope s_begun) := ⟨rfl, rfl, rfl, by decide +kernel, rfl, by decide +kernel, by decide +kernel⟩
def m_begun (x_rule : (T4 (List Sm) (List Sm) (List Sm) Sm)) (x_own : Int) : M ((List Int)) :=
compS (fun (y18 : Sm) (st35 : Unit) =>
m_sum_at 12 y18 x_own (0 : Int) ([] : List Int) ([] : List Int) >>= fun r57 =>
.ok (some r57, ())) x_rule.a () >>= fun q74 =>
.ok q74.1
def sp_begun (mg : Str → Option Value) : Sp := fun vs H Q E => ∃ (F : Hp) (v_rule : V) (x_rule : (T4 (List Sm) (List Sm) (List Sm) Sm)) (x_own : Int), vs = [v_rule, V.int x_own] ∧ Pre F [] H ∧ R (a := (T4 (List Sm) (List Sm) (List Sm) Sm)) F v_rule x_rule ∧
  wp (m_begun x_rule x_own) (fun r => ∀ (F' H' : Hp), Gr [] F H F' H' → ∀ (p : Addr) (w : (List V)), H p = none → F' p = none → H' p = some (.lst w) → RL (a := Int) F' w r → Q (.ref p) H')
  (fun n => ∀ (C : Addr) (H' : Hp), mg (Str.ofString n) = some (.ref C) → Kp [] H H' → E (.ref C) none H')
set_option maxHeartbeats 20000000 in
theorem ok_begun (nb : Nb mg) (C_sum_at : Ca P w K mg base "sum_at" 13 ["sum_told", "own", "tie", "so", "more"] (sp_sum_at 12 mg)) (D : Df K mg "begun" "begun" s_begun ["rule", "own"]) : Ca P w K mg base "begun" 14 ["rule", "own"] (sp_begun mg) := by
  obtain ⟨fa_sum_at, fd_sum_at, G_sum_at, M_sum_at, K_sum_at, B_sum_at⟩ := C_sum_at.ex
  refine Ca.mk' D sc_begun (fun vs H Q E h => ?_) (fun q_ f_ cdv A outer s H vs Q E hr h => ?_)
  · obtain ⟨F, _, _, _, rfl, _⟩ := h
    rfl
  · obtain ⟨F, v_rule, x_rule, x_own, rfl, P0, f_rule, hk⟩ := h
    have nd := sc_begun.nd
    have hu64 := hr.units
    have hu128 := hu128_of hr
    have O := P0.start
    refine ⟨_, (pss_one (ps_ret (pe_lc (own := [("one", 2)]) (g := gName 2) (tt := _) rfl nd (piListK (K := K) rfl (pe_ix (ixTupK (K := K) rfl) (pv 0) pe_int (fun _ _ => rfl))) (blkOk_by (own := [("one", 2)]) (N := ["rule", "own", "one"]) (sc := defScope s_begun) (by decide +kernel)) (fun _ _ _ _ _ => (pg_name (i := 2) nd rfl (Or.inl rfl))) (fun _ _ _ _ _ => pts_nil) (fun _ _ _ _ _ => (pe_call G_sum_at (hr.mono (by decide)) rfl M_sum_at K_sum_at B_sum_at .nil passL (pa_cons (pv 2) (pa_cons (pv 1) (pa_cons pe_int (pa_cons (pe_lst pa_nil) (pa_cons (pe_lst pa_nil) pa_nil)))))))))), ?_⟩
    obtain ⟨p2, v5, v6, v7, v8, e3, h4, r9, r10, r11, r12⟩ := R.t4_ f_rule
    cases e3
    obtain ⟨p13, w14, e15, h16, hl17⟩ := R.lst_ r9
    cases e15
    obtain ⟨c23, L19, hL20, hLs21, hLd22⟩ := compS_L hk
    refine ⟨_, rfl, _, _, _, _, rfl, rfl, (SqTF O.s h4), rfl, _, rfl, ⟨_, (SqLF O.s h16)⟩, fun p24 hp25 => ?_⟩
    have z63 := O.was hp25
    refine lc_list (K := K) (xs := w14) (fun i H => ∃ (F_ : Hp) (st : Unit) (acc : List Int) (wa : List V), Same F F_ ∧ Ow _ F_ [(p24, .lst wa)] H ∧ RL F_ wa acc ∧ wa.length ≤ i ∧ L19 (List.drop i x_rule.a) acc st) ⟨F, (), [], [], Same.refl _, O.new hp25, RL.nil, Nat.zero_le _, hL20⟩ (fun i_ H_ _ hp_ => ?_) ?_ ?_
    · obtain ⟨_, _, _, _, hS_, hO_, _⟩ := hp_
      exact SqLF hO_.s (hS_ _ _ h16)
    · rintro i26 x27 H28 hi29 ⟨F34, st35, acc31, wa32, S36, O38, hl37, la33, hL20⟩
      have hl17 := hl17.mono S36
      obtain ⟨y18, e39, r40⟩ := RL.got hl17 hi29
      rw [drop_at e39] at hL20
      have hk := hLs21 _ _ _ _ hL20
      refine ⟨rfl, ?_⟩
      refine ⟨_, rfl, _, rfl, (by show 0 ≤ sizeLine; decide), fun p41 hp42 => ?_⟩
      have hl48 : RL (a := Int) F34 ([]) ([] : List Int) := RL.nil
      obtain ⟨F43, O44, S45, h46⟩ := O38.putE hp42 (.lst ([]))
      have hl17 := hl17.mono S45
      have S36 := S36.trans S45
      have hl37 := hl37.mono S45
      have r40 := r40.mono S45
      have hl48 := hl48.mono S45
      have h47 := R.lst (a := Int) h46 hl48
      refine ⟨(by show 0 ≤ sizeLine; decide), fun p49 hp50 => ?_⟩
      have hl56 : RL (a := Int) F43 ([]) ([] : List Int) := RL.nil
      obtain ⟨F51, O52, S53, h54⟩ := O44.putE hp50 (.lst ([]))
      have hl17 := hl17.mono S53
      have S36 := S36.trans S53
      have hl37 := hl37.mono S53
      have r40 := r40.mono S53
      have h47 := h47.mono S53
      have hl56 := hl56.mono S53
      have h55 := R.lst (a := Int) h54 hl56
      refine ⟨_, _, _, _, _, _, _, _, _, rfl, O52.pre0, r40, h47, h55, wp_call hk (fun r57 er58 hk F59 H60 g61 => ?_) (fun n hn => hn.elim)⟩
      have O62 := O52.call0 g61
      have S_ := g61.f
      have hl17 := hl17.mono S_
      have S36 := S36.trans S_
      have hl37 := hl37.mono S_
      refine ⟨_, (O62.at 0 rfl), (comp_len la33 hi29 hl17.len c23), ?_⟩
      exact ⟨F59, (), acc31 ++ [r57], wa32 ++ [V.int r57], S36, O62.set 0 (.lst (wa32 ++ [V.int r57])) rfl, RL.snoc hl37 R.int, by rw [List.length_append]; exact Nat.succ_le_succ la33, hk⟩
    rintro H64 ⟨F65, st66, acc67, wa68, S69, O70, hl71, la72, hL73⟩
    rw [drop_end hl17.len] at hL73
    have hk := hLd22 _ _ hL73
    exact hk _ _  O70.g  _ _ z63 (O70.cf _ (List.mem_of_getElem? (i := 0) rfl)) (O70.at 0 rfl) hl71
abbrev s_joined : Stmt := top 10
theorem sc_joined : FnScope ["rule", "so", "more", "own", "one"] ["rule", "so", "more", "own"] (defScope s_joined) := ⟨rfl, rfl, rfl, by decide +kernel, rfl, by decide +kernel, by decide +kernel⟩
def m_joined (x_rule : (T4 (List Sm) (List Sm) (List Sm) Sm)) (x_so : (List Int)) (x_more : (List Int)) (x_own : Int) : M ((List Int)) :=
compS (fun (y18 : Sm) (st35 : Unit) =>
m_sum_at 12 y18 x_own (0 : Int) x_so x_more >>= fun r41 =>
.ok (some r41, ())) x_rule.c () >>= fun q58 =>
.ok q58.1
def sp_joined (mg : Str → Option Value) : Sp := fun vs H Q E => ∃ (F : Hp) (v_rule : V) (x_rule : (T4 (List Sm) (List Sm) (List Sm) Sm)) (v_so : V) (x_so : (List Int)) (v_more : V) (x_more : (List Int)) (x_own : Int), vs = [v_rule, v_so, v_more, V.int x_own] ∧ Pre F [] H ∧ R (a := (T4 (List Sm) (List Sm) (List Sm) Sm)) F v_rule x_rule ∧ R (a := (List Int)) F v_so x_so ∧ R (a := (List Int)) F v_more x_more ∧
  wp (m_joined x_rule x_so x_more x_own) (fun r => ∀ (F' H' : Hp), Gr [] F H F' H' → ∀ (p : Addr) (w : (List V)), H p = none → F' p = none → H' p = some (.lst w) → RL (a := Int) F' w r → Q (.ref p) H')
  (fun n => ∀ (C : Addr) (H' : Hp), mg (Str.ofString n) = some (.ref C) → Kp [] H H' → E (.ref C) none H')
set_option maxHeartbeats 20000000 in
theorem ok_joined (nb : Nb mg) (C_sum_at : Ca P w K mg base "sum_at" 13 ["sum_told", "own", "tie", "so", "more"] (sp_sum_at 12 mg)) (D : Df K mg "joined" "joined" s_joined ["rule", "so", "more", "own"]) : Ca P w K mg base "joined" 14 ["rule", "so", "more", "own"] (sp_joined mg) := by
  obtain ⟨fa_sum_at, fd_sum_at, G_sum_at, M_sum_at, K_sum_at, B_sum_at⟩ := C_sum_at.ex
  refine Ca.mk' D sc_joined (fun vs H Q E h => ?_) (fun q_ f_ cdv A outer s H vs Q E hr h => ?_)
  · obtain ⟨F, _, _, _, _, _, _, _, rfl, _⟩ := h
    rfl
  · obtain ⟨F, v_rule, x_rule, v_so, x_so, v_more, x_more, x_own, rfl, P0, f_rule, f_so, f_more, hk⟩ := h
    have nd := sc_joined.nd
    have hu64 := hr.units
    have hu128 := hu128_of hr
    have O := P0.start
    refine ⟨_, (pss_one (ps_ret (pe_lc (own := [("one", 4)]) (g := gName 4) (tt := _) rfl nd (piListK (K := K) rfl (pe_ix (ixTupK (K := K) rfl) (pv 0) pe_int (fun _ _ => rfl))) (blkOk_by (own := [("one", 4)]) (N := ["rule", "so", "more", "own", "one"]) (sc := defScope s_joined) (by decide +kernel)) (fun _ _ _ _ _ => (pg_name (i := 4) nd rfl (Or.inl rfl))) (fun _ _ _ _ _ => pts_nil) (fun _ _ _ _ _ => (pe_call G_sum_at (hr.mono (by decide)) rfl M_sum_at K_sum_at B_sum_at .nil passL (pa_cons (pv 4) (pa_cons (pv 3) (pa_cons pe_int (pa_cons (pv 1) (pa_cons (pv 2) pa_nil)))))))))), ?_⟩
    obtain ⟨p2, v5, v6, v7, v8, e3, h4, r9, r10, r11, r12⟩ := R.t4_ f_rule
    cases e3
    obtain ⟨p13, w14, e15, h16, hl17⟩ := R.lst_ r11
    cases e15
    obtain ⟨c23, L19, hL20, hLs21, hLd22⟩ := compS_L hk
    refine ⟨_, rfl, _, _, _, _, rfl, rfl, (SqTF O.s h4), rfl, _, rfl, ⟨_, (SqLF O.s h16)⟩, fun p24 hp25 => ?_⟩
    have z47 := O.was hp25
    refine lc_list (K := K) (xs := w14) (fun i H => ∃ (F_ : Hp) (st : Unit) (acc : List Int) (wa : List V), Same F F_ ∧ Ow _ F_ [(p24, .lst wa)] H ∧ RL F_ wa acc ∧ wa.length ≤ i ∧ L19 (List.drop i x_rule.c) acc st) ⟨F, (), [], [], Same.refl _, O.new hp25, RL.nil, Nat.zero_le _, hL20⟩ (fun i_ H_ _ hp_ => ?_) ?_ ?_
    · obtain ⟨_, _, _, _, hS_, hO_, _⟩ := hp_
      exact SqLF hO_.s (hS_ _ _ h16)
    · rintro i26 x27 H28 hi29 ⟨F34, st35, acc31, wa32, S36, O38, hl37, la33, hL20⟩
      have f_so := f_so.mono S36
      have f_more := f_more.mono S36
      have hl17 := hl17.mono S36
      obtain ⟨y18, e39, r40⟩ := RL.got hl17 hi29
      rw [drop_at e39] at hL20
      have hk := hLs21 _ _ _ _ hL20
      refine ⟨rfl, ?_⟩
      refine ⟨_, rfl, _, rfl, _, rfl, _, rfl, _, _, _, _, _, _, _, _, _, rfl, O38.pre0, r40, f_so, f_more, wp_call hk (fun r41 er42 hk F43 H44 g45 => ?_) (fun n hn => hn.elim)⟩
      have O46 := O38.call0 g45
      have S_ := g45.f
      have hl17 := hl17.mono S_
      have S36 := S36.trans S_
      have hl37 := hl37.mono S_
      refine ⟨_, (O46.at 0 rfl), (comp_len la33 hi29 hl17.len c23), ?_⟩
      exact ⟨F43, (), acc31 ++ [r41], wa32 ++ [V.int r41], S36, O46.set 0 (.lst (wa32 ++ [V.int r41])) rfl, RL.snoc hl37 R.int, by rw [List.length_append]; exact Nat.succ_le_succ la33, hk⟩
    rintro H48 ⟨F49, st50, acc51, wa52, S53, O54, hl55, la56, hL57⟩
    rw [drop_end hl17.len] at hL57
    have hk := hLd22 _ _ hL57
    exact hk _ _  O54.g  _ _ z47 (O54.cf _ (List.mem_of_getElem? (i := 0) rfl)) (O54.at 0 rfl) hl55
abbrev s_over_tie : Stmt := top 11
theorem sc_over_tie : FnScope ["rule", "more", "own", "tie", "one"] ["rule", "more", "own", "tie"] (defScope s_over_tie) := ⟨rfl, rfl, rfl, by decide +kernel, rfl, by decide +kernel, by decide +kernel⟩
def m_over_tie (x_rule : (T4 (List Sm) (List Sm) (List Sm) Sm)) (x_more : (List Int)) (x_own : Int) (x_tie : Int) : M ((List Int)) :=
compS (fun (y18 : Sm) (st35 : Unit) =>
m_sum_at 12 y18 x_own x_tie ([] : List Int) x_more >>= fun r49 =>
.ok (some r49, ())) x_rule.b () >>= fun q66 =>
.ok q66.1
def sp_over_tie (mg : Str → Option Value) : Sp := fun vs H Q E => ∃ (F : Hp) (v_rule : V) (x_rule : (T4 (List Sm) (List Sm) (List Sm) Sm)) (v_more : V) (x_more : (List Int)) (x_own : Int) (x_tie : Int), vs = [v_rule, v_more, V.int x_own, V.int x_tie] ∧ Pre F [] H ∧ R (a := (T4 (List Sm) (List Sm) (List Sm) Sm)) F v_rule x_rule ∧ R (a := (List Int)) F v_more x_more ∧
  wp (m_over_tie x_rule x_more x_own x_tie) (fun r => ∀ (F' H' : Hp), Gr [] F H F' H' → ∀ (p : Addr) (w : (List V)), H p = none → F' p = none → H' p = some (.lst w) → RL (a := Int) F' w r → Q (.ref p) H')
  (fun n => ∀ (C : Addr) (H' : Hp), mg (Str.ofString n) = some (.ref C) → Kp [] H H' → E (.ref C) none H')
set_option maxHeartbeats 20000000 in
theorem ok_over_tie (nb : Nb mg) (C_sum_at : Ca P w K mg base "sum_at" 13 ["sum_told", "own", "tie", "so", "more"] (sp_sum_at 12 mg)) (D : Df K mg "over_tie" "over_tie" s_over_tie ["rule", "more", "own", "tie"]) : Ca P w K mg base "over_tie" 14 ["rule", "more", "own", "tie"] (sp_over_tie mg) := by
  obtain ⟨fa_sum_at, fd_sum_at, G_sum_at, M_sum_at, K_sum_at, B_sum_at⟩ := C_sum_at.ex
  refine Ca.mk' D sc_over_tie (fun vs H Q E h => ?_) (fun q_ f_ cdv A outer s H vs Q E hr h => ?_)
  · obtain ⟨F, _, _, _, _, _, _, rfl, _⟩ := h
    rfl
  · obtain ⟨F, v_rule, x_rule, v_more, x_more, x_own, x_tie, rfl, P0, f_rule, f_more, hk⟩ := h
    have nd := sc_over_tie.nd
    have hu64 := hr.units
    have hu128 := hu128_of hr
    have O := P0.start
    refine ⟨_, (pss_one (ps_ret (pe_lc (own := [("one", 4)]) (g := gName 4) (tt := _) rfl nd (piListK (K := K) rfl (pe_ix (ixTupK (K := K) rfl) (pv 0) pe_int (fun _ _ => rfl))) (blkOk_by (own := [("one", 4)]) (N := ["rule", "more", "own", "tie", "one"]) (sc := defScope s_over_tie) (by decide +kernel)) (fun _ _ _ _ _ => (pg_name (i := 4) nd rfl (Or.inl rfl))) (fun _ _ _ _ _ => pts_nil) (fun _ _ _ _ _ => (pe_call G_sum_at (hr.mono (by decide)) rfl M_sum_at K_sum_at B_sum_at .nil passL (pa_cons (pv 4) (pa_cons (pv 2) (pa_cons (pv 3) (pa_cons (pe_lst pa_nil) (pa_cons (pv 1) pa_nil)))))))))), ?_⟩
    obtain ⟨p2, v5, v6, v7, v8, e3, h4, r9, r10, r11, r12⟩ := R.t4_ f_rule
    cases e3
    obtain ⟨p13, w14, e15, h16, hl17⟩ := R.lst_ r10
    cases e15
    obtain ⟨c23, L19, hL20, hLs21, hLd22⟩ := compS_L hk
    refine ⟨_, rfl, _, _, _, _, rfl, rfl, (SqTF O.s h4), rfl, _, rfl, ⟨_, (SqLF O.s h16)⟩, fun p24 hp25 => ?_⟩
    have z55 := O.was hp25
    refine lc_list (K := K) (xs := w14) (fun i H => ∃ (F_ : Hp) (st : Unit) (acc : List Int) (wa : List V), Same F F_ ∧ Ow _ F_ [(p24, .lst wa)] H ∧ RL F_ wa acc ∧ wa.length ≤ i ∧ L19 (List.drop i x_rule.b) acc st) ⟨F, (), [], [], Same.refl _, O.new hp25, RL.nil, Nat.zero_le _, hL20⟩ (fun i_ H_ _ hp_ => ?_) ?_ ?_
    · obtain ⟨_, _, _, _, hS_, hO_, _⟩ := hp_
      exact SqLF hO_.s (hS_ _ _ h16)
    · rintro i26 x27 H28 hi29 ⟨F34, st35, acc31, wa32, S36, O38, hl37, la33, hL20⟩
      have f_more := f_more.mono S36
      have hl17 := hl17.mono S36
      obtain ⟨y18, e39, r40⟩ := RL.got hl17 hi29
      rw [drop_at e39] at hL20
      have hk := hLs21 _ _ _ _ hL20
      refine ⟨rfl, ?_⟩
      refine ⟨_, rfl, _, rfl, _, rfl, (by show 0 ≤ sizeLine; decide), fun p41 hp42 => ?_⟩
      have hl48 : RL (a := Int) F34 ([]) ([] : List Int) := RL.nil
      obtain ⟨F43, O44, S45, h46⟩ := O38.putE hp42 (.lst ([]))
      have f_more := f_more.mono S45
      have hl17 := hl17.mono S45
      have S36 := S36.trans S45
      have hl37 := hl37.mono S45
      have r40 := r40.mono S45
      have hl48 := hl48.mono S45
      have h47 := R.lst (a := Int) h46 hl48
      refine ⟨_, rfl, _, _, _, _, _, _, _, _, _, rfl, O44.pre0, r40, h47, f_more, wp_call hk (fun r49 er50 hk F51 H52 g53 => ?_) (fun n hn => hn.elim)⟩
      have O54 := O44.call0 g53
      have S_ := g53.f
      have hl17 := hl17.mono S_
      have S36 := S36.trans S_
      have hl37 := hl37.mono S_
      refine ⟨_, (O54.at 0 rfl), (comp_len la33 hi29 hl17.len c23), ?_⟩
      exact ⟨F51, (), acc31 ++ [r49], wa32 ++ [V.int r49], S36, O54.set 0 (.lst (wa32 ++ [V.int r49])) rfl, RL.snoc hl37 R.int, by rw [List.length_append]; exact Nat.succ_le_succ la33, hk⟩
    rintro H56 ⟨F57, st58, acc59, wa60, S61, O62, hl63, la64, hL65⟩
    rw [drop_end hl17.len] at hL65
    have hk := hLd22 _ _ hL65
    exact hk _ _  O62.g  _ _ z55 (O62.cf _ (List.mem_of_getElem? (i := 0) rfl)) (O62.at 0 rfl) hl63
abbrev s_tied_places : Stmt := top 13
theorem sc_tied_places : FnScope ["many", "ties", "found", "a", "b", "length", "near", "place"] ["many", "ties"] (defScope s_tied_places) := ⟨rfl, rfl, rfl, by decide +kernel, rfl, by decide +kernel, by decide +kernel⟩
def addAt (fs : List (List Int)) (a b : Int) : M (List (List Int)) := match ixN fs.length a with
  | some j => (match fs[j]? with
    | some x => appL x b >>= fun y => .ok (fs.set j y)
    | none => bad)
  | none => bad
def m_tied_places (x_many : Int) (x_ties : List (T3 Int Int Int)) : M (List (List Int)) :=
  chk (okR x_many) >>= fun _ =>
  loopN (fun (t : T3 Int Int Int) (fs : List (List Int)) => addAt fs t.a t.b >>= fun f1 => addAt f1 t.b t.a) (sortT x_ties) (List.replicate x_many.toNat []) >>= fun fs =>
  .ok (fs.map sortT)
theorem wp_addAt {b : Type} {Q : b → Prop} {E : String → Prop} {fs : List (List Int)} {a y : Int} {k : List (List Int) → M b} (h : wp (addAt fs a y >>= k) Q E) :
    ∃ j x, ixN fs.length a = some j ∧ fs[j]? = some x ∧ x.length < sizeLine ∧ wp (k (fs.set j (x ++ [y]))) Q E := by
  unfold addAt at h
  cases e : ixN fs.length a with
  | none => rw [e] at h; exact h.elim
  | some j =>
    rw [e] at h
    have h : wp ((match fs[j]? with
      | some x => appL x y >>= fun y => .ok (fs.set j y)
      | none => bad) >>= k) Q E := h
    cases e2 : fs[j]? with
    | none => rw [e2] at h; exact h.elim
    | some x =>
      rw [e2] at h
      have h : wp ((appL x y >>= fun y => .ok (fs.set j y)) >>= k) Q E := h
      rw [wp_bind] at h
      obtain ⟨c, h⟩ := wp_appL h
      exact ⟨j, x, rfl, e2, c, h⟩
/-- all lists are new -/
def sp_tied_places_own (mg : Str → Option Value) : Sp := fun vs H Q E => ∃ (F : Hp) (x_many : Int) (v_ties : V) (x_ties : List (T3 Int Int Int)), vs = [.int x_many, v_ties] ∧ Pre F [] H ∧ R F v_ties x_ties ∧
  wp (m_tied_places x_many x_ties) (fun r => ∀ (F' H' : Hp) (p : Addr) (ps : List LC), Gr [] F H F' H' → OwnLL H F' H' p ps → ps.map (·.2) = r → Q (.ref p) H')
  (fun n => ∀ (C : Addr) (H' : Hp), mg (Str.ofString n) = some (.ref C) → Kp [] H H' → E (.ref C) none H')
def sp_tied_places (mg : Str → Option Value) : Sp := fun vs H Q E => ∃ (F : Hp) (x_many : Int) (v_ties : V) (x_ties : (List (T3 Int Int Int))), vs = [.int x_many, v_ties] ∧ Pre F [] H ∧ R (a := (List (T3 Int Int Int))) F v_ties x_ties ∧
  wp (m_tied_places x_many x_ties) (fun r => ∀ (F' H' : Hp), Gr [] F H F' H' → ∀ (p : Addr) (w : List V), H p = none → F' p = none → H' p = some (.lst w) → RL (a := (List Int)) F' w r → Q (.ref p) H')
  (fun n => ∀ (C : Addr) (H' : Hp), mg (Str.ofString n) = some (.ref C) → Kp [] H H' → E (.ref C) none H')
theorem lc_set {ps : List LC} {j : Nat} {c : LC} {y : List Int} (h : ps[j]? = some c) : (ps.set j (c.1, y)).map (·.1) = ps.map (·.1) ∧ (ps.set j (c.1, y)).map (·.2) = (ps.map (·.2)).set j y := by
  refine ⟨?_, by rw [List.map_set]⟩
  rw [List.map_set]
  refine List.ext_getElem? fun k => ?_
  by_cases hk : j = k
  · subst hk
    have hl := (List.getElem?_eq_some_iff.mp h).1
    rw [List.getElem?_set_self (by simpa using hl), List.getElem?_map, h]
    rfl
  · rw [List.getElem?_set_ne hk]
/-- one append -/
theorem tp_app {Z : Ent} {F H : Hp} {D : Addr} {o : HO} {rest : List (Addr × HO)} {ps : List LC} (O : Ow Z F ((D, o) :: ps.map lcell) H) {j : Nat} {c : LC} (h : ps[j]? = some c) (y : Int) :
    Ow Z F ((D, o) :: (ps.set j (c.1, c.2 ++ [y])).map lcell) (upd H c.1 (.lst (c.2.map V.int ++ [V.int y]))) ∧ H c.1 = some (.lst (c.2.map V.int)) := by
  have e : ((D, o) :: ps.map lcell)[j + 1]? = some (c.1, .lst (c.2.map V.int)) := by
    rw [List.getElem?_cons_succ, List.getElem?_map, h]
    rfl
  refine ⟨?_, O.at (j + 1) e⟩
  have q := O.set (j + 1) (.lst (c.2.map V.int ++ [V.int y])) e
  have e2 : ((D, o) :: ps.map lcell).set (j + 1) (c.1, .lst (c.2.map V.int ++ [V.int y])) = (D, o) :: (ps.set j (c.1, c.2 ++ [y])).map lcell := by
    rw [List.set_cons_succ, List.map_set]
    unfold lcell
    rw [List.map_append]
    rfl
  rw [e2] at q
  exact q
theorem tp_at {ps : List LC} {j : Nat} {x : List Int} (h : (ps.map (·.2))[j]? = some x) : ∃ c, ps[j]? = some c ∧ c.2 = x := by
  rw [List.getElem?_map] at h
  cases e : ps[j]? with
  | none => rw [e] at h; cases h
  | some c => rw [e] at h; exact ⟨c, rfl, Option.some.inj h⟩
theorem tp_ix {ps : List LC} {a : Int} {j : Nat} {c : LC} (e : ixN (ps.map (·.2)).length a = some j) (h : ps[j]? = some c) : atI (lrefs ps) a = some (.ref c.1) := by
  unfold atI lrefs
  rw [List.length_map] at e ⊢
  rw [e]
  show (lrefs ps)[j]? = _
  rw [List.getElem?_map, h]
  rfl
set_option maxHeartbeats 4000000 in
theorem ok_tied_places_own (nb : Nb mg) (D : Df K mg "tied_places" "tied_places" s_tied_places ["many", "ties"]) : Ca P w K mg base "tied_places" 1 ["many", "ties"] (sp_tied_places_own mg) := by
  refine Ca.mk' D sc_tied_places (fun vs H Q E h => ?_) (fun q_ f_ cdv A outer s H vs Q E hr h => ?_)
  · obtain ⟨F, _, _, _, rfl, _⟩ := h
    rfl
  · obtain ⟨F, x_many, v_ties, x_ties, rfl, P0, f_ties, hk⟩ := h
    have nd := sc_tied_places.nd
    have hu128 := hu128_of hr
    have O := P0.start
    refine ⟨_, pss_cons (ps_setLc (i := 2) (own := [("place", 7)]) (g := _) (tt := _) rfl nd rfl rfl (sw_true rfl rfl rfl (by decide +kernel)) (pi_range1 rfl nb.b_range (pa_cons (pv 0) pa_nil))
        (blkOk_by (own := [("place", 7)]) (N := ["many", "ties", "found", "a", "b", "length", "near", "place"]) (sc := defScope s_tied_places) (by decide +kernel)) (fun _ _ _ _ _ => (pg_name (i := 7) nd rfl (Or.inl rfl))) (fun _ _ _ _ _ => pts_nil) (fun _ _ _ _ _ => pe_lst pa_nil))
      (pss_cons (ps_for (passes_of rfl) rfl (pi_list (pe_callB (cr_sortedT (T3 Int Int Int) hu128) (by rfl) nb.b_sorted (by decide +kernel) (pa_cons (pv 1) pa_nil)))
        (pg_tup rfl (pgs_cons (pg_name (i := 3) nd rfl (Or.inl rfl)) (pgs_cons (pg_name (i := 4) nd rfl (Or.inl rfl)) (pgs_cons (pg_name (i := 5) nd rfl (Or.inl rfl)) pgs_nil))))
        (pss_cons (ps_expr (pe_bm PySem.F.plainAttrs_list PySem.F.slot_list_append PySem.F.type_list_append mt_append (pe_ix ix_list (pv 2) (pv 3) (fun _ _ => rfl)) (pa_cons (pv 4) pa_nil)))
          (pss_one (ps_expr (pe_bm PySem.F.plainAttrs_list PySem.F.slot_list_append PySem.F.type_list_append mt_append (pe_ix ix_list (pv 2) (pv 4) (fun _ _ => rfl)) (pa_cons (pv 3) pa_nil))))))
      (pss_one (ps_ret (pe_lc (own := [("near", 6)]) (g := _) (tt := _) rfl nd (pi_list (pv 2))
        (blkOk_by (own := [("near", 6)]) (N := ["many", "ties", "found", "a", "b", "length", "near", "place"]) (sc := defScope s_tied_places) (by decide +kernel)) (fun _ _ _ _ _ => (pg_name (i := 6) nd rfl (Or.inl rfl))) (fun _ _ _ _ _ => pts_nil)
        (fun _ _ _ _ _ => pe_callB (cr_sortedT Int hu128) (by rfl) nb.b_sorted (by decide +kernel) (pa_cons (pv 6) pa_nil)))))), ?_⟩
    obtain ⟨c1, hk⟩ := wp_chk hk
    obtain ⟨L, hL, hLs, hLd⟩ := loopN_L hk
    refine ⟨_, rfl, _, rfl, c1.lo, c1.hi, fun D hD => ?_⟩
    refine lc_range (lo := 0) (n := x_many.toNat) (fun i H => ∃ ps : List LC, Ow _ F ((D, .lst (lrefs ps)) :: ps.map lcell) H ∧ ps.map (·.2) = List.replicate i []) ⟨[], O.new hD, rfl⟩ ?_ ?_
    · rintro i H1 hi ⟨ps, O1, e1⟩
      refine ⟨rfl, (by show 0 ≤ sizeLine; decide), fun q hq => ?_⟩
      have O2 := O1.new (o := .lst []) hq
      have hlen : ps.length = i := by
        have := congrArg List.length e1
        simpa using this
      have b := c1.2
      refine ⟨_, O2.at 1 rfl, lt_line (by rw [List.length_map]; omega), ps ++ [(q, [])], ?_, by rw [List.map_append, e1, List.replicate_succ']; rfl⟩
      have O3 := O2.set 1 (.lst ((lrefs ps) ++ [V.ref q])) rfl
      have ea : lrefs (ps ++ [(q, [])]) = lrefs ps ++ [V.ref q] := List.map_append
      rw [ea, List.map_append]
      refine O3.perm ?_
      show ((q, HO.lst []) :: (D, _) :: ps.map lcell).Perm ((D, _) :: (ps.map lcell ++ [(q, HO.lst [])]))
      refine (List.Perm.swap _ _ _).trans (List.Perm.cons _ ?_)
      exact (List.perm_append_comm (l₁ := [(q, HO.lst [])]) (l₂ := ps.map lcell))
    · rintro H1 ⟨ps, O1, e1⟩
      obtain ⟨p1, w1, e2, h2, hl2⟩ := R.lst_ f_ties
      cases e2
      refine ⟨_, rfl, _, _, _, rfl, O1.s _ _ h2, RL.mono hl2 O1.s, fun p3 hp3 => ?_⟩
      obtain ⟨F4, O4, S4, h4⟩ := O1.putE hp3 (.lst (sortV w1 x_ties))
      have hl4 := (RL.sorted hl2).mono S4
      refine ⟨_, rfl, ⟨_, SqLF O4.s h4⟩, ?_⟩
      rw [← e1] at hL
      refine for_list (K := K) (xs := sortV w1 x_ties) (fun i σ H => ∃ (ps' : List LC) (t3 t4 t5 : Option V), σ = [some (V.int x_many), some (V.ref p1), some (V.ref D), t3, t4, t5, none, none] ∧ Ow _ F4 ((D, .lst (lrefs ps')) :: ps'.map lcell) H ∧ ps'.length = x_many.toNat ∧ L (List.drop i (sortT x_ties)) (ps'.map fun (c : LC) => c.2))
        ⟨ps, none, none, none, rfl, O4, (by have := congrArg List.length e1; simpa using this), hL⟩ (fun i_ σ_ H_ _ hp_ => ?_) ?_ ?_
      · obtain ⟨_, _, _, _, _, hO_, _⟩ := hp_
        exact SqLF hO_.s h4
      · rintro i x σ H5 hi ⟨ps', t3, t4, t5, rfl, O5, hl5, hL5⟩
        obtain ⟨y, ey, hy⟩ := RL.got hl4 hi
        rw [drop_at ey] at hL5
        have hk := hLs _ _ _ hL5
        obtain ⟨p6, v1, v2, v3, e6, h6, r1, r2, r3⟩ := R.t3_ hy
        cases e6
        obtain rfl := R.int_ r1
        obtain rfl := R.int_ r2
        obtain rfl := R.int_ r3
        obtain ⟨j, x, ej, ex, cl, hk⟩ := wp_addAt hk
        have hk := wp_bind (k := fun r => Except.ok r) |>.mpr hk
        obtain ⟨j2, x2, ej2, ex2, cl2, hk⟩ := wp_addAt hk
        obtain ⟨c, hc, rfl⟩ := tp_at ex
        obtain ⟨O6, hq6⟩ := tp_app (rest := []) O5 hc y.b
        obtain ⟨l1, l2⟩ := lc_set (y := c.2 ++ [y.b]) hc
        rw [← l2] at ex2 ej2
        obtain ⟨c', hc', rfl⟩ := tp_at ex2
        obtain ⟨O7, hq7⟩ := tp_app (rest := []) O6 hc' y.a
        obtain ⟨l3, l4⟩ := lc_set (y := c'.2 ++ [y.a]) hc'
        have eD : lrefs (ps'.set j (c.1, c.2 ++ [y.b])) = lrefs ps' := by
          have := congrArg (List.map V.ref) l1
          rw [List.map_map, List.map_map] at this
          exact this
        have eD2 : lrefs ((ps'.set j (c.1, c.2 ++ [y.b])).set j2 (c'.1, c'.2 ++ [y.a])) = lrefs (ps'.set j (c.1, c.2 ++ [y.b])) := by
          have := congrArg (List.map V.ref) l3
          rw [List.map_map, List.map_map] at this
          exact this
        have i2 : atI (lrefs ps') y.b = some (.ref c'.1) := by
          rw [← eD]
          exact tp_ix ej2 hc'
        refine ⟨_, _, rfl, SqTF O5.s h6, rfl, _, _, rfl, _, _, rfl, _, _, rfl, rfl, _, rfl, _, rfl, _, _, _, _, rfl, rfl, SqL.of (O5.at 0 rfl), tp_ix ej hc, .inl ⟨rfl, _, SqL.of hq6⟩, _, rfl, _, _, _, rfl, rfl, hq6, by rw [List.length_map]; exact cl, ?_⟩
        refine ⟨_, rfl, _, rfl, _, _, _, _, rfl, rfl, SqL.of (O6.at 0 rfl), i2, .inl ⟨rfl, _, SqL.of hq7⟩, _, rfl, _, _, _, rfl, rfl, hq7, by rw [List.length_map]; exact cl2, ?_⟩
        refine ⟨_, _, _, _, rfl, by rw [eD2, eD]; exact O7, by rw [List.length_set, List.length_set]; exact hl5, ?_⟩
        rw [l4, l2]
        exact hk
      · rintro σ H5 ⟨ps', t3, t4, t5, rfl, O5, hl5, hL5⟩
        rw [drop_end hl4.len] at hL5
        have hk := hLd _ hL5
        refine ⟨_, rfl, _, rfl, ⟨_, SqL.of (O5.at 0 rfl)⟩, fun D2 hD2 => ?_⟩
        have b1 := c1.2
        refine lc_list (K := K) (xs := lrefs ps') (fun i H => ∃ qs : List LC, Ow _ F4 ((D2, .lst (lrefs qs)) :: (qs.map lcell ++ ((D, .lst (lrefs ps')) :: ps'.map lcell))) H ∧ qs.map (·.2) = ((ps'.map (·.2)).take i).map sortT)
          ⟨[], O5.new hD2, by simp⟩ (fun i_ H_ _ hp_ => ?_) ?_ ?_
        · obtain ⟨qs, hO_, _⟩ := hp_
          exact SqL.of (hO_.ch (D, _) (List.mem_cons_of_mem _ (List.mem_append_right _ List.mem_cons_self)))
        · rintro i x H6 hi ⟨qs, O6, e6⟩
          obtain ⟨c, hc, rfl⟩ : ∃ c, ps'[i]? = some c ∧ x = V.ref c.1 := by
            have hi : (ps'.map fun (c : LC) => V.ref c.1)[i]? = some x := hi
            rw [List.getElem?_map] at hi
            cases e : ps'[i]? with
            | none => rw [e] at hi; cases hi
            | some c => rw [e] at hi; exact ⟨c, rfl, (Option.some.inj hi).symm⟩
          have hm : lcell c ∈ ps'.map lcell := List.mem_map.mpr ⟨c, List.mem_of_getElem? hc, rfl⟩
          have hq := O6.ch (lcell c) (List.mem_cons_of_mem _ (List.mem_append_right _ (List.mem_cons_of_mem _ hm)))
          have hil := (List.getElem?_eq_some_iff.mp hc).1
          have hql : qs.length ≤ i := by
            have := congrArg List.length e6
            simp at this
            omega
          have es : sortV (c.2.map V.int) c.2 = (sortT c.2).map V.int := (RL.sorted (H := F) RL.of_ints).ints
          refine ⟨rfl, _, rfl, _, _, c.2, rfl, hq, RL.of_ints, fun p hp => ?_⟩
          have O7 := O6.new (o := .lst (sortV (c.2.map V.int) c.2)) hp
          refine ⟨_, O7.at 1 rfl, lt_line (by rw [List.length_map]; omega), qs ++ [(p, sortT c.2)], ?_, ?_⟩
          · have O8 := O7.set 1 (.lst (lrefs qs ++ [V.ref p])) rfl
            have ea : lrefs (qs ++ [(p, sortT c.2)]) = lrefs qs ++ [V.ref p] := List.map_append
            rw [ea, List.map_append]
            refine O8.perm ?_
            rw [es]
            show ((p, HO.lst _) :: (D2, _) :: (qs.map lcell ++ _)).Perm ((D2, _) :: (qs.map lcell ++ [(p, HO.lst _)] ++ _))
            refine (List.Perm.swap _ _ _).trans (List.Perm.cons _ ?_)
            rw [List.append_assoc]
            exact List.perm_middle.symm
          · rw [List.map_append, e6]
            have e7 : (ps'.map (·.2))[i]? = some c.2 := by rw [List.getElem?_map, hc]; rfl
            rw [List.take_succ, e7, List.map_append]
            rfl
        · rintro H6 ⟨qs, O6, e6⟩
          have el : (lrefs ps').length = (ps'.map (·.2)).length := by rw [List.length_map, List.length_map]
          rw [el, List.take_length] at e6
          have hsub : ∀ c ∈ qs, lcell c ∈ (D2, HO.lst (lrefs qs)) :: (qs.map lcell ++ ((D, .lst (lrefs ps')) :: ps'.map lcell)) := fun c hc => List.mem_cons_of_mem _ (List.mem_append_left _ (List.mem_map.mpr ⟨c, hc, rfl⟩))
          have nas : ∀ b : Addr, ¬ b ∈ ([] : List Addr) := fun b h => nomatch h
          refine hk F4 H6 D2 qs O6.g ⟨O5.was hD2, O6.cf _ List.mem_cons_self, O6.ch _ List.mem_cons_self, fun c hc => (O6.ca _ (hsub c hc)).resolve_left (nas _), fun c hc => O6.cf _ (hsub c hc), fun c hc => O6.ch _ (hsub c hc), ?_⟩ e6
          have n := O6.nd
          rw [List.map_cons, List.map_append, List.nodup_cons, List.nodup_append] at n
          rw [List.nodup_cons]
          have em : (qs.map lcell).map (·.1) = qs.map (·.1) := by
            rw [List.map_map]
            rfl
          rw [em] at n
          exact ⟨fun h => n.1 (List.mem_append_left _ h), n.2.1⟩
theorem ok_tied_places (nb : Nb mg) (D : Df K mg "tied_places" "tied_places" s_tied_places ["many", "ties"]) : Ca P w K mg base "tied_places" 1 ["many", "ties"] (sp_tied_places mg) := by
  refine FnOk.impC (ok_tied_places_own nb D) fun vs H Q E h => ?_
  obtain ⟨F, x_many, v_ties, x_ties, rfl, P0, f_ties, hk⟩ := h
  refine ⟨F, x_many, v_ties, x_ties, rfl, P0, f_ties, wp_mono hk fun r k F' H' p ps g L e => ?_⟩
  obtain ⟨F2, g2, n2, rl⟩ := L.frz g
  rw [e] at rl
  exact k F2 H' g2 p _ L.pn n2 L.ph rl

abbrev s_lengths_of : Stmt := top 14
theorem sc_lengths_of : FnScope ["tree", "found", "a", "b", "length"] ["tree"] (defScope s_lengths_of) := ⟨rfl, rfl, rfl, by decide +kernel, rfl, by decide +kernel, by decide +kernel⟩
def m_lengths_of (x_tree : ((List Int) × (List (T3 Int Int Int)))) : M ((List ((Int × Int) × Int))) :=
loopN (fun (y19 : (T3 Int Int Int)) (st30 : (List ((Int × Int) × Int))) =>
putD st30 ((y19.a, y19.b).1, (y19.a, y19.b).2) y19.c >>= fun z64 =>
putD z64 ((y19.b, y19.a).1, (y19.b, y19.a).2) y19.c >>= fun z82 =>
.ok z82) x_tree.2 ([] : (List ((Int × Int) × Int))) >>= fun st88 =>
.ok st88
def sp_lengths_of (mg : Str → Option Value) : Sp := fun vs H Q E => ∃ (F : Hp) (v_tree : V) (x_tree : ((List Int) × (List (T3 Int Int Int)))), vs = [v_tree] ∧ Pre F [] H ∧ R (a := ((List Int) × (List (T3 Int Int Int)))) F v_tree x_tree ∧
  wp (m_lengths_of x_tree) (fun r => ∀ (F' H' : Hp), Gr [] F H F' H' → ∀ v : V, RDv (κ := (Int × Int)) (β := Int) F' v r → Q v H')
  (fun n => ∀ (C : Addr) (H' : Hp), mg (Str.ofString n) = some (.ref C) → Kp [] H H' → E (.ref C) none H')
set_option maxHeartbeats 20000000 in
theorem ok_lengths_of (nb : Nb mg) (D : Df K mg "lengths_of" "lengths_of" s_lengths_of ["tree"]) : Ca P w K mg base "lengths_of" 1 ["tree"] (sp_lengths_of mg) := by
  refine Ca.mk' D sc_lengths_of (fun vs H Q E h => ?_) (fun q_ f_ cdv A outer s H vs Q E hr h => ?_)
  · obtain ⟨F, _, _, rfl, _⟩ := h
    rfl
  · obtain ⟨F, v_tree, x_tree, rfl, P0, f_tree, hk⟩ := h
    have nd := sc_lengths_of.nd
    have hu64 := hr.units
    have hu128 := hu128_of hr
    have O := P0.start
    refine ⟨_, (pss_cons (ps_toN (ps_set (i := 1) nd rfl (Or.inl rfl) pe_dnewT))
  (pss_cons (ps_for (passes_of rfl) rfl (piListK (K := K) rfl (pe_ix (ixTupK (K := K) rfl) (pv 0) pe_int (fun _ _ => rfl))) (pg_tup rfl (pgs_cons (pg_name (i := 2) nd rfl (Or.inl rfl)) (pgs_cons (pg_name (i := 3) nd rfl (Or.inl rfl)) (pgs_cons (pg_name (i := 4) nd rfl (Or.inl rfl)) pgs_nil)))) (pss_cons (ps_dput (u1_of hu64) (pv 1) (pe_tup (pa_cons (pv 2) (pa_cons (pv 3) pa_nil))) (pv 4) rfl)
  (pss_one (ps_dput (u1_of hu64) (pv 1) (pe_tup (pa_cons (pv 3) (pa_cons (pv 2) pa_nil))) (pv 4) rfl))))
  (pss_one (ps_ret (pv 1))))), ?_⟩
    refine fun p2 hp3 => ?_
    have hl5 : RD (κ := (Int × Int)) (β := Int) F [] ([] : (List ((Int × Int) × Int))) := RD.nil
    have z6 := O.was hp3
    have O4 := O.new (o := .dT []) hp3
    obtain ⟨p7, v10, v11, e8, h9, r12, r13⟩ := R.t2_ f_tree
    cases e8
    obtain ⟨p14, w15, e16, h17, hl18⟩ := R.lst_ r13
    cases e16
    obtain ⟨L20, hL21, hLs22, hLd23⟩ := loopN_L hk
    refine ⟨[some (V.ref p7), some (V.ref p2), none, none, none], rfl, _, rfl, _, _, _, _, rfl, rfl, (SqTF O4.s h9), rfl, _, rfl, ⟨_, (SqLF O4.s h17)⟩, ?_⟩
    refine for_list (K := K) (xs := w15) (fun i σ H_ => ∃ (F_ : Hp) (st : (List ((Int × Int) × Int))) (w_0 : (List (List Key × V))) (t_0 : Option V) (t_1 : Option V) (t_2 : Option V), σ = [some (V.ref p7), some (V.ref p2), t_0, t_1, t_2] ∧ Same F F_ ∧ Ow _ F_ [(p2, .dT w_0)] H_ ∧ RD (κ := (Int × Int)) (β := Int) F_ w_0 st ∧ L20 (List.drop i x_tree.2) st) ⟨F, ([] : (List ((Int × Int) × Int))), [], none, none, none, rfl, Same.refl _, O4, hl5, hL21⟩ (fun i_ σ_ H_ _ hp_ => ?_) ?_ ?_
    · obtain ⟨_, _, _, _, _, _, _, hS_, hO_, _⟩ := hp_
      exact SqLF hO_.s (hS_ _ _ h17)
    · rintro i24 x25 sg26 H27 hi28 ⟨F36, st30, w31, t33, t34, t35, rfl, S29, O37, hl32, hL21⟩
      have hl18 := hl18.mono S29
      obtain ⟨y19, e38, r39⟩ := RL.got hl18 hi28
      rw [drop_at e38] at hL21
      have hk := hLs22 _ _ _ hL21
      obtain ⟨p40, v43, v44, v45, e41, h42, r46, r47, r48⟩ := R.t3_ r39
      cases e41
      obtain rfl := R.int_ r46
      obtain rfl := R.int_ r47
      obtain rfl := R.int_ r48
      refine ⟨_, _, rfl, (SqTF O37.s h42), rfl, _, _, rfl, _, _, rfl, _, _, rfl, rfl, _, rfl, _, rfl, _, rfl, _, rfl, (by show 2 ≤ sizeLine; decide), fun p49 hp50 => ?_⟩
      obtain ⟨F51, O52, S53, h54⟩ := O37.putE hp50 (.tup [V.int y19.a, V.int y19.b])
      have hl32 := hl32.mono S53
      have S29 := S29.trans S53
      have h55 : R (a := (Int × Int)) F51 (.ref p49) (y19.a, y19.b) := R.t2 h54 R.int R.int
      obtain ⟨p56, v59, v60, e57, h58, r61, r62⟩ := R.t2_ h55
      cases e57
      obtain rfl := R.int_ r61
      obtain rfl := R.int_ r62
      obtain ⟨c63, hk⟩ := wp_putD hk
      refine ⟨_, _, rfl, (dput_T (v := (V.int y19.c)) (O52.at 0 rfl) (O52.s _ _ h58) (by rw [RD.len hl32]; exact c63)), ?_⟩
      have O65 := O52.set 0 (.dT (putK w31 (DK.kk ((y19.a, y19.b).1, (y19.a, y19.b).2)) (V.int y19.c))) rfl
      have hl66 : RD (κ := (Int × Int)) (β := Int) F51 (putK w31 (DK.kk ((y19.a, y19.b).1, (y19.a, y19.b).2)) (V.int y19.c)) (dPut st30 ((y19.a, y19.b).1, (y19.a, y19.b).2) y19.c) := RD.put hl32 ((y19.a, y19.b).1, (y19.a, y19.b).2) R.int
      refine ⟨_, rfl, _, rfl, _, rfl, _, rfl, (by show 2 ≤ sizeLine; decide), fun p67 hp68 => ?_⟩
      obtain ⟨F69, O70, S71, h72⟩ := O65.putE hp68 (.tup [V.int y19.b, V.int y19.a])
      have S29 := S29.trans S71
      have hl66 := hl66.mono S71
      have h73 : R (a := (Int × Int)) F69 (.ref p67) (y19.b, y19.a) := R.t2 h72 R.int R.int
      obtain ⟨p74, v77, v78, e75, h76, r79, r80⟩ := R.t2_ h73
      cases e75
      obtain rfl := R.int_ r79
      obtain rfl := R.int_ r80
      obtain ⟨c81, hk⟩ := wp_putD hk
      refine ⟨_, _, rfl, (dput_T (v := (V.int y19.c)) (O70.at 0 rfl) (O70.s _ _ h76) (by rw [RD.len hl66]; exact c81)), ?_⟩
      have O83 := O70.set 0 (.dT (putK (putK w31 (DK.kk ((y19.a, y19.b).1, (y19.a, y19.b).2)) (V.int y19.c)) (DK.kk ((y19.b, y19.a).1, (y19.b, y19.a).2)) (V.int y19.c))) rfl
      have hl84 : RD (κ := (Int × Int)) (β := Int) F69 (putK (putK w31 (DK.kk ((y19.a, y19.b).1, (y19.a, y19.b).2)) (V.int y19.c)) (DK.kk ((y19.b, y19.a).1, (y19.b, y19.a).2)) (V.int y19.c)) (dPut (dPut st30 ((y19.a, y19.b).1, (y19.a, y19.b).2) y19.c) ((y19.b, y19.a).1, (y19.b, y19.a).2) y19.c) := RD.put hl66 ((y19.b, y19.a).1, (y19.b, y19.a).2) R.int
      exact ⟨F69, (dPut (dPut st30 ((y19.a, y19.b).1, (y19.a, y19.b).2) y19.c) ((y19.b, y19.a).1, (y19.b, y19.a).2) y19.c), (putK (putK w31 (DK.kk ((y19.a, y19.b).1, (y19.a, y19.b).2)) (V.int y19.c)) (DK.kk ((y19.b, y19.a).1, (y19.b, y19.a).2)) (V.int y19.c)), some (V.int y19.a), some (V.int y19.b), some (V.int y19.c), rfl, S29, O83, hl84, hk⟩
    rintro sg85 H86 ⟨F95, st88, w90, t92, t93, t94, rfl, S87, O96, hl91, hL89⟩
    rw [drop_end hl18.len] at hL89
    have hk := hLd23 _ hL89
    refine ⟨_, rfl, ?_⟩
    obtain ⟨F97, O98, S99, h100⟩ := O96.frzE 0 rfl z6
    have hl91 := hl91.mono S99
    have h101 := RDv.mk (κ := (Int × Int)) (β := Int) (.inl h100) hl91
    exact hk _ _  O98.g  _ h101
abbrev s_every_branch : Stmt := top 16
theorem sc_every_branch : FnScope ["tree"] ["tree"] (defScope s_every_branch) := ⟨rfl, rfl, rfl, by decide +kernel, rfl, by decide +kernel, by decide +kernel⟩
def m_every_branch (x_tree : ((List Int) × (List (T3 Int Int Int)))) : M ((List (Int × Int))) :=
m_lengths_of x_tree >>= fun r2 =>
.ok (sortT (List.map (fun (x : (Int × Int) × Int) => x.1) r2))
def sp_every_branch (mg : Str → Option Value) : Sp := fun vs H Q E => ∃ (F : Hp) (v_tree : V) (x_tree : ((List Int) × (List (T3 Int Int Int)))), vs = [v_tree] ∧ Pre F [] H ∧ R (a := ((List Int) × (List (T3 Int Int Int)))) F v_tree x_tree ∧
  wp (m_every_branch x_tree) (fun r => ∀ (F' H' : Hp), Gr [] F H F' H' → ∀ (p : Addr) (w : (List V)), H p = none → F' p = none → H' p = some (.lst w) → RL (a := (Int × Int)) F' w r → Q (.ref p) H')
  (fun n => ∀ (C : Addr) (H' : Hp), mg (Str.ofString n) = some (.ref C) → Kp [] H H' → E (.ref C) none H')
set_option maxHeartbeats 20000000 in
theorem ok_every_branch (nb : Nb mg) (C_lengths_of : Ca P w K mg base "lengths_of" 1 ["tree"] (sp_lengths_of mg)) (D : Df K mg "every_branch" "every_branch" s_every_branch ["tree"]) : Ca P w K mg base "every_branch" 2 ["tree"] (sp_every_branch mg) := by
  obtain ⟨fa_lengths_of, fd_lengths_of, G_lengths_of, M_lengths_of, K_lengths_of, B_lengths_of⟩ := C_lengths_of.ex
  refine Ca.mk' D sc_every_branch (fun vs H Q E h => ?_) (fun q_ f_ cdv A outer s H vs Q E hr h => ?_)
  · obtain ⟨F, _, _, rfl, _⟩ := h
    rfl
  · obtain ⟨F, v_tree, x_tree, rfl, P0, f_tree, hk⟩ := h
    have nd := sc_every_branch.nd
    have hu64 := hr.units
    have hu128 := hu128_of hr
    have O := P0.start
    refine ⟨_, (pss_one (ps_ret (pe_callB (cr_sortedDT rfl hu128) (by rfl) nb.b_sorted (by decide +kernel) (pa_cons (pe_call G_lengths_of (hr.mono (by decide)) rfl M_lengths_of K_lengths_of B_lengths_of .nil (passes_call (takes_of rfl rfl rfl rfl) fun _ _ _ _ h => h) (pa_cons (pv 0) pa_nil)) pa_nil)))), ?_⟩
    refine ⟨_, rfl, _, _, _, rfl, O.pre0, f_tree, wp_call hk (fun r2 er3 hk F4 H5 g6 v7 r8 => ?_) (fun n hn C H1 hC kp => hn C H1 hC (O.kp0 kp))⟩
    have O9 := O.call0 g6
    obtain ⟨p10, w11, e12, h13, hl14⟩ := r8
    cases e12
    have h13 : Rd F4 _ (.dT w11) := h13
    refine ⟨_, _, _, rfl, (rd_mono O9.s h13), (RD.keys hl14), fun bs17 p15 hks18 hp16 => ?_⟩
    obtain ⟨F19, O20, S21, hb22⟩ := O9.tups bs17 (keys_tups hks18)
    have hl14 := hl14.mono S21
    have hl23 := keys_in hks18 hb22 (RD.keys hl14)
    have hl25 : RL (a := (Int × Int)) F19 (sortV (List.map V.ref bs17) (List.map (fun (x : (Int × Int) × Int) => x.1) r2)) (sortT (List.map (fun (x : (Int × Int) × Int) => x.1) r2)) := (RL.sorted hl23)
    have z26 := O20.was hp16
    have O24 := O20.new (o := .lst (sortV (List.map V.ref bs17) (List.map (fun (x : (Int × Int) × Int) => x.1) r2))) hp16
    exact hk _ _  O24.g  _ _ z26 (O24.cf _ (List.mem_of_getElem? (i := 0) rfl)) (O24.at 0 rfl) hl25
abbrev s_row_with : Stmt := top 17
theorem sc_row_with : FnScope ["tree", "rule", "place", "near", "own", "so", "more"] ["tree", "rule", "place", "near"] (defScope s_row_with) := ⟨rfl, rfl, rfl, by decide +kernel, rfl, by decide +kernel, by decide +kernel⟩
def m_row_with (x_tree : ((List Int) × (List (T3 Int Int Int)))) (x_rule : (T4 (List Sm) (List Sm) (List Sm) Sm)) (x_place : Int) (x_near : (List (List Int))) : M ((List Int)) :=
opt (atI x_tree.1 x_place) >>= fun y13 =>
m_begun x_rule y13 >>= fun r18 =>
loopN (fun (y42 : (List Int)) (st53 : (List Int)) =>
m_joined x_rule st53 y42 y13 >>= fun r61 =>
.ok r61) x_near r18 >>= fun st83 =>
.ok st83
def sp_row_with (mg : Str → Option Value) : Sp := fun vs H Q E => ∃ (F : Hp) (v_tree : V) (x_tree : ((List Int) × (List (T3 Int Int Int)))) (v_rule : V) (x_rule : (T4 (List Sm) (List Sm) (List Sm) Sm)) (x_place : Int) (v_near : V) (x_near : (List (List Int))), vs = [v_tree, v_rule, V.int x_place, v_near] ∧ Pre F [] H ∧ R (a := ((List Int) × (List (T3 Int Int Int)))) F v_tree x_tree ∧ R (a := (T4 (List Sm) (List Sm) (List Sm) Sm)) F v_rule x_rule ∧ R (a := (List (List Int))) F v_near x_near ∧
  wp (m_row_with x_tree x_rule x_place x_near) (fun r => ∀ (F' H' : Hp), Gr [] F H F' H' → ∀ v : V, R (a := (List Int)) F' v r → Q v H')
  (fun n => ∀ (C : Addr) (H' : Hp), mg (Str.ofString n) = some (.ref C) → Kp [] H H' → E (.ref C) none H')
set_option maxHeartbeats 20000000 in
theorem ok_row_with (nb : Nb mg) (C_begun : Ca P w K mg base "begun" 14 ["rule", "own"] (sp_begun mg)) (C_joined : Ca P w K mg base "joined" 14 ["rule", "so", "more", "own"] (sp_joined mg)) (D : Df K mg "row_with" "row_with" s_row_with ["tree", "rule", "place", "near"]) : Ca P w K mg base "row_with" 15 ["tree", "rule", "place", "near"] (sp_row_with mg) := by
  obtain ⟨fa_begun, fd_begun, G_begun, M_begun, K_begun, B_begun⟩ := C_begun.ex
  obtain ⟨fa_joined, fd_joined, G_joined, M_joined, K_joined, B_joined⟩ := C_joined.ex
  refine Ca.mk' D sc_row_with (fun vs H Q E h => ?_) (fun q_ f_ cdv A outer s H vs Q E hr h => ?_)
  · obtain ⟨F, _, _, _, _, _, _, _, rfl, _⟩ := h
    rfl
  · obtain ⟨F, v_tree, x_tree, v_rule, x_rule, x_place, v_near, x_near, rfl, P0, f_tree, f_rule, f_near, hk⟩ := h
    have nd := sc_row_with.nd
    have hu64 := hr.units
    have hu128 := hu128_of hr
    have O := P0.start
    refine ⟨_, (pss_cons (ps_toN (ps_set (i := 4) nd rfl (Or.inl rfl) (pe_ix (ixListK (K := K) rfl) (pe_ix (ixTupK (K := K) rfl) (pv 0) pe_int (fun _ _ => rfl)) (pv 2) (fun _ _ => rfl))))
  (pss_cons (ps_toN (ps_set (i := 5) nd rfl (Or.inl rfl) (pe_call G_begun (hr.mono (by decide)) rfl M_begun K_begun B_begun .nil (passes_call (takes_of rfl rfl rfl rfl) fun _ _ _ _ h => h) (pa_cons (pv 1) (pa_cons (pv 4) pa_nil)))))
  (pss_cons (ps_for (passes_of rfl) rfl (piListK (K := K) rfl (pv 3)) (pg_name (i := 6) nd rfl (Or.inl rfl)) (pss_one (ps_toN (ps_set (i := 5) nd rfl (Or.inl rfl) (pe_call G_joined (hr.mono (by decide)) rfl M_joined K_joined B_joined .nil (passes_call (takes_of rfl rfl rfl rfl) fun _ _ _ _ h => h) (pa_cons (pv 1) (pa_cons (pv 5) (pa_cons (pv 6) (pa_cons (pv 4) pa_nil)))))))))
  (pss_one (ps_ret (pv 5)))))), ?_⟩
    obtain ⟨p1, v4, v5, e2, h3, r6, r7⟩ := R.t2_ f_tree
    cases e2
    obtain ⟨p8, w9, e10, h11, hl12⟩ := R.lst_ r6
    cases e10
    obtain ⟨y13, e14, hk⟩ := wp_opt hk
    obtain ⟨w15, e16, r17⟩ := hl12.atI e14
    obtain rfl := R.int_ r17
    refine ⟨_, rfl, _, _, _, _, rfl, rfl, (SqTF O.s h3), rfl, _, rfl, _, _, _, _, rfl, rfl, (SqLF O.s h11), e16, [some (V.ref p1), some v_rule, some (V.int x_place), some v_near, some (V.int y13), none, none], rfl, _, rfl, _, rfl, _, _, _, _, rfl, O.pre0, f_rule, wp_call hk (fun r18 er19 hk F20 H21 g22 p23 w24 hn25 hf26 h27 hl28 => ?_) (fun n hn C H1 hC kp => hn C H1 hC (O.kp0 kp))⟩
    have O29 := O.call0 g22
    have S_ := g22.f
    have f_rule := f_rule.mono S_
    have f_near := f_near.mono S_
    have O30 := O.got O29 rfl hn25 hf26 h27
    have z31 := O.was hn25
    obtain ⟨F32, O33, S34, h35⟩ := O30.frzE 0 rfl z31
    have f_rule := f_rule.mono S34
    have f_near := f_near.mono S34
    have hl28 := hl28.mono S34
    have h36 := R.lst (a := Int) h35 hl28
    obtain ⟨p37, w38, e39, h40, hl41⟩ := R.lst_ f_near
    cases e39
    obtain ⟨L43, hL44, hLs45, hLd46⟩ := loopN_L hk
    refine ⟨[some (V.ref p1), some v_rule, some (V.int x_place), some (V.ref p37), some (V.int y13), some (V.ref p23), none], rfl, _, rfl, _, rfl, ⟨_, (SqLF O33.s h40)⟩, ?_⟩
    refine for_list (K := K) (xs := w38) (fun i σ H_ => ∃ (F_ : Hp) (st : (List Int)) (v_0 : V) (t_0 : Option V), σ = [some (V.ref p1), some v_rule, some (V.int x_place), some (V.ref p37), some (V.int y13), some v_0, t_0] ∧ Same F32 F_ ∧ Ow _ F_ [] H_ ∧ R (a := (List Int)) F_ v_0 st ∧ L43 (List.drop i x_near) st) ⟨F32, r18, V.ref p23, none, rfl, Same.refl _, O33, h36, hL44⟩ (fun i_ σ_ H_ _ hp_ => ?_) ?_ ?_
    · obtain ⟨_, _, _, _, _, hS_, hO_, _⟩ := hp_
      exact SqLF hO_.s (hS_ _ _ h40)
    · rintro i47 x48 sg49 H50 hi51 ⟨F57, st53, v54, t56, rfl, S52, O58, r55, hL44⟩
      have f_rule := f_rule.mono S52
      have hl41 := hl41.mono S52
      obtain ⟨y42, e59, r60⟩ := RL.got hl41 hi51
      rw [drop_at e59] at hL44
      have hk := hLs45 _ _ _ hL44
      refine ⟨_, rfl, _, rfl, _, rfl, _, rfl, _, _, _, _, _, _, _, _, rfl, O58.pre0, f_rule, r55, r60, wp_call hk (fun r61 er62 hk F63 H64 g65 p66 w67 hn68 hf69 h70 hl71 => ?_) (fun n hn C H1 hC kp => hn C H1 hC (O58.kp0 kp))⟩
      have O72 := O58.call0 g65
      have S_ := g65.f
      have S52 := S52.trans S_
      have O73 := O58.got O72 rfl hn68 hf69 h70
      have z74 := O58.was hn68
      obtain ⟨F75, O76, S77, h78⟩ := O73.frzE 0 rfl z74
      have S52 := S52.trans S77
      have hl71 := hl71.mono S77
      have h79 := R.lst (a := Int) h78 hl71
      refine ⟨[some (V.ref p1), some v_rule, some (V.int x_place), some (V.ref p37), some (V.int y13), some (V.ref p66), some x48], rfl, ?_⟩
      exact ⟨F75, r61, V.ref p66, some x48, rfl, S52, O76, h79, hk⟩
    rintro sg80 H81 ⟨F88, st83, v85, t87, rfl, S82, O89, r86, hL84⟩
    rw [drop_end hl41.len] at hL84
    have hk := hLd46 _ hL84
    refine ⟨_, rfl, ?_⟩
    exact hk _ _  O89.g  _ r86
abbrev s_order_of : Stmt := top 19
theorem sc_order_of : FnScope ["near", "branches", "left", "found", "at", "c", "branch", "a", "b"] ["near", "branches"] (defScope s_order_of) := ⟨rfl, rfl, rfl, by decide +kernel, rfl, by decide +kernel, by decide +kernel⟩
def m_order_of (x_near : (List (List Int))) (x_branches : (List (Int × Int))) : M ((List (Int × Int))) :=
compS (fun (y7 : (Int × Int)) (st24 : Unit) =>
opt (atI x_near y7.2) >>= fun y49 =>
.ok (some ((y7.1, y7.2), ((y49.length : Int) - (1 : Int))), ())) x_branches () >>= fun q77 =>
compS (fun (y104 : (Int × Int)) (st121 : Unit) =>
opt (dGet (mergeDT q77.1) y104) >>= fun y127 =>
if y127 = (0 : Int) then (
.ok (some y104, ()))
else (
.ok (none, ()))) x_branches () >>= fun q151 =>
whL (r := Unit) (fun (st162 : Int × (List ((Int × Int) × Int)) × (List (Int × Int))) =>
if st162.1 < (st162.2.2.length : Int) then (
opt (atI st162.2.2 st162.1) >>= fun y174 =>
opt (atI x_near y174.1) >>= fun y191 =>
loopN (fun (y201 : Int) (st212 : (List ((Int × Int) × Int)) × (List (Int × Int))) =>
if y201 ≠ y174.2 then (
opt (dGet st212.1 ((y201, y174.1).1, (y201, y174.1).2)) >>= fun y230 =>
putD st212.1 ((y201, y174.1).1, (y201, y174.1).2) (y230 - (1 : Int)) >>= fun z243 =>
opt (dGet z243 (y201, y174.1)) >>= fun y253 =>
if y253 = (0 : Int) then (
appL st212.2 (y201, y174.1) >>= fun _ =>
.ok (z243, (st212.2 ++ [(y201, y174.1)])))
else (
.ok (z243, st212.2)))
else (
.ok (st212.1, st212.2))) y191 (st162.2.1, st162.2.2) >>= fun st280 =>
.ok (.go ((st162.1 + (1 : Int)), st280.1, st280.2)))
else (
.ok (.stop (st162.1, st162.2.1, st162.2.2)))) 1000000 ((0 : Int), (mergeDT q77.1), q151.1) >>= fun f303 => match f303 with
| .rt _ => bad
| .nx st292 =>
.ok st292.2.2
def sp_order_of (mg : Str → Option Value) : Sp := fun vs H Q E => ∃ (F : Hp) (v_near : V) (x_near : (List (List Int))) (v_branches : V) (x_branches : (List (Int × Int))), vs = [v_near, v_branches] ∧ Pre F [] H ∧ R (a := (List (List Int))) F v_near x_near ∧ R (a := (List (Int × Int))) F v_branches x_branches ∧
  wp (m_order_of x_near x_branches) (fun r => ∀ (F' H' : Hp), Gr [] F H F' H' → ∀ (p : Addr) (w : (List V)), H p = none → F' p = none → H' p = some (.lst w) → RL (a := (Int × Int)) F' w r → Q (.ref p) H')
  (fun n => ∀ (C : Addr) (H' : Hp), mg (Str.ofString n) = some (.ref C) → Kp [] H H' → E (.ref C) none H')
set_option maxHeartbeats 20000000 in
theorem ok_order_of (nb : Nb mg) (D : Df K mg "order_of" "order_of" s_order_of ["near", "branches"]) : Ca P w K mg base "order_of" 1 ["near", "branches"] (sp_order_of mg) := by
  refine Ca.mk' D sc_order_of (fun vs H Q E h => ?_) (fun q_ f_ cdv A outer s H vs Q E hr h => ?_)
  · obtain ⟨F, _, _, _, _, rfl, _⟩ := h
    rfl
  · obtain ⟨F, v_near, x_near, v_branches, x_branches, rfl, P0, f_near, f_branches, hk⟩ := h
    have nd := sc_order_of.nd
    have hu64 := hr.units
    have hu128 := hu128_of hr
    have O := P0.start
    refine ⟨_, (pss_cons (ps_toN (ps_set (i := 2) nd rfl (Or.inr rfl) (pe_callTy (call_dictT rfl hu64) (by rfl) nb.b_dict (by decide +kernel) (pa_cons (pe_lc (own := [("a", 7), ("b", 8)]) (g := gTup K 2 (gCons (gName 7) (gCons (gName 8) (gNil)))) (tt := _) rfl nd (piListK (K := K) rfl (pv 1)) (blkOk_by (own := [("a", 7), ("b", 8)]) (N := ["near", "branches", "left", "found", "at", "c", "branch", "a", "b"]) (sc := defScope s_order_of) (by decide +kernel)) (fun _ _ _ _ _ => (pg_tup rfl (pgs_cons (pg_name (i := 7) nd rfl (Or.inl rfl)) (pgs_cons (pg_name (i := 8) nd rfl (Or.inl rfl)) pgs_nil)))) (fun _ _ _ _ _ => pts_nil) (fun _ _ _ _ _ => (pe_tup (pa_cons (pe_tup (pa_cons (pv 7) (pa_cons (pv 8) pa_nil))) (pa_cons (pe_op op_sub (pe_callB call_lenT (by rfl) nb.b_len PySem.boot_len (pa_cons (pe_ix (ixListK (K := K) rfl) (pv 0) (pv 8) (fun _ _ => rfl)) pa_nil)) pe_int) pa_nil))))) pa_nil))))
  (pss_cons (ps_toN (ps_setLc (i := 3) (own := [("branch", 6)]) (g := gName 6) (tt := _) rfl nd rfl rfl (sw_true rfl rfl rfl (by decide +kernel)) (piListK (K := K) rfl (pv 1)) (blkOk_by (own := [("branch", 6)]) (N := ["near", "branches", "left", "found", "at", "c", "branch", "a", "b"]) (sc := defScope s_order_of) (by decide +kernel)) (fun _ _ _ _ _ => (pg_name (i := 6) nd rfl (Or.inl rfl))) (fun _ _ _ _ _ => (pts_one (pt_cmpR (op_eqT Int hu64) (pe_dget (u1_of hu64) (pv 2) (pv 6) (fun _ _ => rfl)) pe_int (nomark _)))) (fun _ _ _ _ _ => (pv 6))))
  (pss_cons (ps_toN (ps_set (i := 4) nd rfl (Or.inl rfl) pe_int))
  (pss_cons (ps_while (passes_of rfl) (pt_cmpR op_lt (pv 4) (pe_callB call_lenT (by rfl) nb.b_len PySem.boot_len (pa_cons (pv 3) pa_nil)) (nomark _)) (pss_cons (ps_asg (pe_ix (ixListK (K := K) rfl) (pv 3) (pv 4) (fun _ _ => rfl)) (pg_tup rfl (pgs_cons (pg_name (i := 7) nd rfl (Or.inl rfl)) (pgs_cons (pg_name (i := 8) nd rfl (Or.inl rfl)) pgs_nil))))
  (pss_cons (ps_for (passes_of rfl) rfl (piListK (K := K) rfl (pe_ix (ixListK (K := K) rfl) (pv 0) (pv 7) (fun _ _ => rfl))) (pg_name (i := 5) nd rfl (Or.inl rfl)) (pss_one (ps_if (pt_cmpR (op_neT Int hu64) (pv 5) (pv 8) (nomark _)) (pss_cons (ps_daug (u1_of hu64) (pv 2) (pe_tup (pa_cons (pv 5) (pa_cons (pv 7) pa_nil))) pe_int in_sub (by intros; rfl))
  (pss_one (ps_if (pt_cmpR (op_eqT Int hu64) (pe_dget (u1_of hu64) (pv 2) (pe_tup (pa_cons (pv 5) (pa_cons (pv 7) pa_nil))) (fun _ _ => rfl)) pe_int (nomark _)) (pss_one (ps_expr (bmK (K := K) rfl (pe_bm PySem.F.plainAttrs_list PySem.F.slot_list_append PySem.F.type_list_append mt_append (pv 3) (pa_cons (pe_tup (pa_cons (pv 5) (pa_cons (pv 7) pa_nil))) pa_nil))))) pss_nil))) pss_nil)))
  (pss_one (ps_aug (i := 4) nd rfl (Or.inl rfl) pe_int ip_add)))))
  (pss_one (ps_ret (pv 3))))))), ?_⟩
    obtain ⟨p2, w3, e4, h5, hl6⟩ := R.lst_ f_branches
    cases e4
    obtain ⟨c12, L8, hL9, hLs10, hLd11⟩ := compS_L hk
    refine ⟨_, rfl, _, rfl, ⟨_, (SqLF O.s h5)⟩, fun p13 hp14 => ?_⟩
    have z66 := O.was hp14
    refine lc_list (K := K) (xs := w3) (fun i H => ∃ (F_ : Hp) (st : Unit) (acc : List ((Int × Int) × Int)) (wa : List V), Same F F_ ∧ Ow _ F_ [(p13, .lst wa)] H ∧ RL F_ wa acc ∧ wa.length ≤ i ∧ L8 (List.drop i x_branches) acc st) ⟨F, (), [], [], Same.refl _, O.new hp14, RL.nil, Nat.zero_le _, hL9⟩ (fun i_ H_ _ hp_ => ?_) ?_ ?_
    · obtain ⟨_, _, _, _, hS_, hO_, _⟩ := hp_
      exact SqLF hO_.s (hS_ _ _ h5)
    · rintro i15 x16 H17 hi18 ⟨F23, st24, acc20, wa21, S25, O27, hl26, la22, hL9⟩
      have f_near := f_near.mono S25
      have hl6 := hl6.mono S25
      obtain ⟨y7, e28, r29⟩ := RL.got hl6 hi18
      rw [drop_at e28] at hL9
      have hk := hLs10 _ _ _ _ hL9
      obtain ⟨p30, v33, v34, e31, h32, r35, r36⟩ := R.t2_ r29
      cases e31
      obtain rfl := R.int_ r35
      obtain rfl := R.int_ r36
      refine ⟨_, _, rfl, (SqTF O27.s h32), rfl, _, _, rfl, _, _, rfl, rfl, rfl, ?_⟩
      refine ⟨_, rfl, _, rfl, (by show 2 ≤ sizeLine; decide), fun p37 hp38 => ?_⟩
      obtain ⟨F39, O40, S41, h42⟩ := O27.putE hp38 (.tup [V.int y7.1, V.int y7.2])
      have f_near := f_near.mono S41
      have hl6 := hl6.mono S41
      have S25 := S25.trans S41
      have hl26 := hl26.mono S41
      have h43 : R (a := (Int × Int)) F39 (.ref p37) (y7.1, y7.2) := R.t2 h42 R.int R.int
      obtain ⟨p44, w45, e46, h47, hl48⟩ := R.lst_ f_near
      cases e46
      obtain ⟨y49, e50, hk⟩ := wp_opt hk
      obtain ⟨w51, e52, r53⟩ := hl48.atI e50
      obtain ⟨p54, w55, e56, h57, hl58⟩ := R.lst_ r53
      cases e56
      refine ⟨_, rfl, _, rfl, _, _, _, _, rfl, rfl, (SqLF O40.s h47), e52, _, _, _, rfl, (.inl (O40.s _ _ h57)), hl58.len, _, _, rfl, rfl, (by show 2 ≤ sizeLine; decide), fun p59 hp60 => ?_⟩
      obtain ⟨F61, O62, S63, h64⟩ := O40.putE hp60 (.tup [V.ref p37, V.int ((y49.length : Int) - (1 : Int))])
      have hl6 := hl6.mono S63
      have S25 := S25.trans S63
      have hl26 := hl26.mono S63
      have h43 := h43.mono S63
      have h65 : R (a := ((Int × Int) × Int)) F61 (.ref p59) ((y7.1, y7.2), ((y49.length : Int) - (1 : Int))) := R.t2 h64 h43 R.int
      refine ⟨_, (O62.at 0 rfl), (comp_len la22 hi18 hl6.len c12), ?_⟩
      exact ⟨F61, (), acc20 ++ [((y7.1, y7.2), ((y49.length : Int) - (1 : Int)))], wa21 ++ [V.ref p59], S25, O62.set 0 (.lst (wa21 ++ [V.ref p59])) rfl, RL.snoc hl26 h65, by rw [List.length_append]; exact Nat.succ_le_succ la22, hk⟩
    rintro H67 ⟨F68, st69, acc70, wa71, S72, O73, hl74, la75, hL76⟩
    rw [drop_end hl6.len] at hL76
    have hk := hLd11 _ _ hL76
    have f_near := f_near.mono S72
    have f_branches := f_branches.mono S72
    obtain ⟨F78, O79, S80, h81⟩ := O73.frzE 0 rfl z66
    have f_near := f_near.mono S80
    have f_branches := f_branches.mono S80
    have hl74 := hl74.mono S80
    have h82 := R.lst (a := ((Int × Int) × Int)) h81 hl74
    obtain ⟨p83, w84, e85, h86, hl87⟩ := R.lst_ h82
    cases e85
    obtain ⟨ps88, kvs89, e90, hps91, hl92⟩ := pairsT_of_rl (K := K) O79.s hl87
    refine ⟨_, ps88, kvs89, rfl, (by rw [← e90]; exact (SqLF O79.s h86)), hps91, fun p93 hp94 => ?_⟩
    have hl95 : RD (κ := (Int × Int)) (β := Int) F78 (mergeT [] kvs89) (mergeDT acc70) := mergeT_rd hl92 .nil
    have O96 := O79.new (o := .dT (mergeT [] kvs89)) hp94
    obtain ⟨p99, w100, e101, h102, hl103⟩ := R.lst_ f_branches
    cases e101
    obtain ⟨c109, L105, hL106, hLs107, hLd108⟩ := compS_L hk
    refine ⟨[some v_near, some (V.ref p2), some (V.ref p93), none, none, none, none, none, none], rfl, _, rfl, _, rfl, ⟨_, (SqLF O96.s h102)⟩, fun p110 hp111 => ?_⟩
    have z140 := O96.was hp111
    refine lc_list (K := K) (xs := w100) (fun i H => ∃ (F_ : Hp) (st : Unit) (acc : List (Int × Int)) (wa : List V), Same F78 F_ ∧ Ow _ F_ [(p110, .lst wa), (p93, .dT (mergeT [] kvs89))] H ∧ RL F_ wa acc ∧ wa.length ≤ i ∧ L105 (List.drop i x_branches) acc st) ⟨F78, (), [], [], Same.refl _, O96.new hp111, RL.nil, Nat.zero_le _, hL106⟩ (fun i_ H_ _ hp_ => ?_) ?_ ?_
    · obtain ⟨_, _, _, _, hS_, hO_, _⟩ := hp_
      exact SqLF hO_.s (hS_ _ _ h102)
    · rintro i112 x113 H114 hi115 ⟨F120, st121, acc117, wa118, S122, O124, hl123, la119, hL106⟩
      have hl95 := hl95.mono S122
      have hl103 := hl103.mono S122
      obtain ⟨y104, e125, r126⟩ := RL.got hl103 hi115
      rw [drop_at e125] at hL106
      have hk := hLs107 _ _ _ _ hL106
      obtain ⟨p132, v135, v136, e133, h134, r137, r138⟩ := R.t2_ r126
      cases e133
      obtain rfl := R.int_ r137
      obtain rfl := R.int_ r138
      obtain ⟨y127, e128, hk⟩ := wp_opt hk
      obtain ⟨w129, e130, r131⟩ := RD.some hl95 (k := (y104.1, y104.2)) e128
      obtain rfl := R.int_ r131
      refine ⟨rfl, _, rfl, _, rfl, _, _, rfl, (dget_T (.inl (O124.at 1 rfl)) (O124.s _ _ h134) e130), _, _, R.int, R.int, _, rfl, ?_⟩
      refine iteD (fun q139 => ?_) (fun q139 => ?_)
      · have hk := wp_if hk q139
        refine ⟨_, rfl, _, (O124.at 0 rfl), (comp_len la119 hi115 hl103.len c109), ?_⟩
        exact ⟨F120, (), acc117 ++ [y104], wa118 ++ [V.ref p132], S122, O124.set 0 (.lst (wa118 ++ [V.ref p132])) rfl, RL.snoc hl123 r126, by rw [List.length_append]; exact Nat.succ_le_succ la119, hk⟩
      · have hk := wp_el hk q139
        exact ⟨F120, (), acc117, wa118, S122, O124, hl123, Nat.le_succ_of_le la119, hk⟩
    rintro H141 ⟨F142, st143, acc144, wa145, S146, O147, hl148, la149, hL150⟩
    rw [drop_end hl103.len] at hL150
    have hk := hLd108 _ _ hL150
    have f_near := f_near.mono S146
    have hl95 := hl95.mono S146
    obtain ⟨L152, X153, hL154, hLs155, hLd156⟩ := whL_L hk
    refine ⟨[some v_near, some (V.ref p2), some (V.ref p93), some (V.ref p110), none, none, none, none, none], rfl, [some v_near, some (V.ref p2), some (V.ref p93), some (V.ref p110), some (V.int (0 : Int)), none, none, none, none], rfl, ?_⟩
    refine while_P (fun n σ H_ => ∃ (F_ : Hp) (st : Int × (List ((Int × Int) × Int)) × (List (Int × Int))) (w_0 : (List (List Key × V))) (w_1 : (List V)) (t_0 : Option V) (t_1 : Option V) (t_2 : Option V), σ = [some v_near, some (V.ref p2), some (V.ref p93), some (V.ref p110), some (V.int st.1), t_2, none, t_0, t_1] ∧ Same F142 F_ ∧ Ow (⟨[], F, H⟩ : Ent) F_ [(p110, .lst w_1), (p93, .dT w_0)] H_ ∧ RD (κ := (Int × Int)) (β := Int) F_ w_0 st.2.1 ∧ RL (a := (Int × Int)) F_ w_1 st.2.2 ∧ L152 n st) (fun σ H_ => ∃ (F_ : Hp) (st : Int × (List ((Int × Int) × Int)) × (List (Int × Int))) (w_0 : (List (List Key × V))) (w_1 : (List V)) (t_0 : Option V) (t_1 : Option V) (t_2 : Option V), σ = [some v_near, some (V.ref p2), some (V.ref p93), some (V.ref p110), some (V.int st.1), t_2, none, t_0, t_1] ∧ Same F142 F_ ∧ Ow (⟨[], F, H⟩ : Ent) F_ [(p110, .lst w_1), (p93, .dT w_0)] H_ ∧ RD (κ := (Int × Int)) (β := Int) F_ w_0 st.2.1 ∧ RL (a := (Int × Int)) F_ w_1 st.2.2 ∧ X153 st) 1000000 ⟨F142, ((0 : Int), (mergeDT acc70), acc144), (mergeT [] kvs89), wa145, none, none, none, rfl, Same.refl _, O147, hl95, hl148, hL154⟩ ?_ ?_
    rotate_left
    · rintro hex157 m158 sg159 H160 ⟨F171, st162, w164, w165, t168, t169, t170, rfl, S161, O172, hl166, hl167, hL163⟩
      have f_near := f_near.mono S161
      have hk := hLs155 _ _ hL163
      refine ⟨_, rfl, _, rfl, _, _, _, rfl, (.inl (O172.at 0 rfl)), hl167.len, _, _, rfl, rfl, _, rfl, ?_⟩
      refine iteD (fun q173 => ?_) (fun q173 => ?_)
      · have hk := wp_if hk q173
        obtain ⟨y174, e175, hk⟩ := wp_opt hk
        obtain ⟨w176, e177, r178⟩ := hl167.atI e175
        obtain ⟨p179, v182, v183, e180, h181, r184, r185⟩ := R.t2_ r178
        cases e180
        obtain rfl := R.int_ r184
        obtain rfl := R.int_ r185
        obtain ⟨p186, w187, e188, h189, hl190⟩ := R.lst_ f_near
        cases e188
        obtain ⟨y191, e192, hk⟩ := wp_opt hk
        obtain ⟨w193, e194, r195⟩ := hl190.atI e192
        obtain ⟨p196, w197, e198, h199, hl200⟩ := R.lst_ r195
        cases e198
        obtain ⟨L202, hL203, hLs204, hLd205⟩ := loopN_L hk
        refine ⟨_, (fun _ _ h_ => h_), _, rfl, _, rfl, _, _, _, _, rfl, rfl, (SqL.of (O172.at 0 rfl)), e177, _, _, rfl, (SqTF O172.s h181), rfl, _, _, rfl, _, _, rfl, rfl, _, rfl, _, rfl, _, _, _, _, rfl, rfl, (SqLF O172.s h189), e194, _, rfl, ⟨_, (SqLF O172.s h199)⟩, ?_⟩
        refine for_list (K := K) (xs := w197) (fun i σ H_ => ∃ (F_ : Hp) (st : (List ((Int × Int) × Int)) × (List (Int × Int))) (w_0 : (List (List Key × V))) (w_1 : (List V)) (t_0 : Option V), σ = [some (V.ref p186), some (V.ref p2), some (V.ref p93), some (V.ref p110), some (V.int st162.1), t_0, none, some (V.int y174.1), some (V.int y174.2)] ∧ Same F171 F_ ∧ Ow _ F_ [(p110, .lst w_1), (p93, .dT w_0)] H_ ∧ RD (κ := (Int × Int)) (β := Int) F_ w_0 st.1 ∧ RL (a := (Int × Int)) F_ w_1 st.2 ∧ L202 (List.drop i y191) st) ⟨F171, (st162.2.1, st162.2.2), w164, w165, t170, rfl, Same.refl _, O172, hl166, hl167, hL203⟩ (fun i_ σ_ H_ _ hp_ => ?_) ?_ ?_
        · obtain ⟨_, _, _, _, _, _, hS_, hO_, _⟩ := hp_
          exact SqLF hO_.s (hS_ _ _ h199)
        · rintro i206 x207 sg208 H209 hi210 ⟨F218, st212, w213, w214, t217, rfl, S211, O219, hl215, hl216, hL203⟩
          have hl200 := hl200.mono S211
          obtain ⟨y201, e220, r221⟩ := RL.got hl200 hi210
          rw [drop_at e220] at hL203
          have hk := hLs204 _ _ _ hL203
          obtain rfl := R.int_ r221
          refine ⟨_, rfl, _, rfl, _, _, R.int, R.int, _, rfl, ?_⟩
          refine iteD (fun q222 => ?_) (fun q222 => ?_)
          · have hk := wp_if hk q222
            refine ⟨_, rfl, _, rfl, _, rfl, (by show 2 ≤ sizeLine; decide), fun p223 hp224 => ?_⟩
            obtain ⟨F225, O226, S227, h228⟩ := O219.putE hp224 (.tup [V.int y201, V.int y174.1])
            have hl215 := hl215.mono S227
            have hl216 := hl216.mono S227
            have S211 := S211.trans S227
            have h229 : R (a := (Int × Int)) F225 (.ref p223) (y201, y174.1) := R.t2 h228 R.int R.int
            obtain ⟨p235, v238, v239, e236, h237, r240, r241⟩ := R.t2_ h229
            cases e236
            obtain rfl := R.int_ r240
            obtain rfl := R.int_ r241
            obtain ⟨y230, e231, hk⟩ := wp_opt hk
            obtain ⟨w232, e233, r234⟩ := RD.some hl215 (k := ((y201, y174.1).1, (y201, y174.1).2)) e231
            obtain rfl := R.int_ r234
            obtain ⟨c242, hk⟩ := wp_putD hk
            refine ⟨_, _, rfl, (dget_T (.inl (O226.at 1 rfl)) (O226.s _ _ h237) e233), _, _, rfl, rfl, _, (dput_T (v := V.int (y230 - (1 : Int))) (O226.at 1 rfl) (O226.s _ _ h237) (by rw [RD.len hl215]; exact c242)), ?_⟩
            have O244 := O226.set 1 (.dT (putK w213 (DK.kk ((y201, y174.1).1, (y201, y174.1).2)) (V.int (y230 - (1 : Int))))) rfl
            have hl245 : RD (κ := (Int × Int)) (β := Int) F225 (putK w213 (DK.kk ((y201, y174.1).1, (y201, y174.1).2)) (V.int (y230 - (1 : Int)))) (dPut st212.1 ((y201, y174.1).1, (y201, y174.1).2) (y230 - (1 : Int))) := RD.put hl215 ((y201, y174.1).1, (y201, y174.1).2) R.int
            refine ⟨_, rfl, _, rfl, _, rfl, (by show 2 ≤ sizeLine; decide), fun p246 hp247 => ?_⟩
            obtain ⟨F248, O249, S250, h251⟩ := O244.putE hp247 (.tup [V.int y201, V.int y174.1])
            have hl216 := hl216.mono S250
            have S211 := S211.trans S250
            have hl245 := hl245.mono S250
            have h252 : R (a := (Int × Int)) F248 (.ref p246) (y201, y174.1) := R.t2 h251 R.int R.int
            obtain ⟨p258, v261, v262, e259, h260, r263, r264⟩ := R.t2_ h252
            cases e259
            obtain rfl := R.int_ r263
            obtain rfl := R.int_ r264
            obtain ⟨y253, e254, hk⟩ := wp_opt hk
            obtain ⟨w255, e256, r257⟩ := RD.some hl245 (k := ((y201, y174.1).1, (y201, y174.1).2)) e254
            obtain rfl := R.int_ r257
            refine ⟨_, _, rfl, (dget_T (.inl (O249.at 1 rfl)) (O249.s _ _ h260) e256), _, _, R.int, R.int, _, rfl, ?_⟩
            refine iteD (fun q265 => ?_) (fun q265 => ?_)
            · have hk := wp_if hk q265
              refine ⟨_, rfl, (.inl ⟨rfl, _, SqL.of (O249.at 0 rfl)⟩), _, rfl, _, rfl, (by show 2 ≤ sizeLine; decide), fun p266 hp267 => ?_⟩
              obtain ⟨F268, O269, S270, h271⟩ := O249.putE hp267 (.tup [V.int y201, V.int y174.1])
              have hl216 := hl216.mono S270
              have S211 := S211.trans S270
              have hl245 := hl245.mono S270
              have h272 : R (a := (Int × Int)) F268 (.ref p266) (y201, y174.1) := R.t2 h271 R.int R.int
              obtain ⟨c273, hk⟩ := wp_appL hk
              refine ⟨_, _, _, rfl, rfl, (O269.at 0 rfl), (by rw [hl216.len]; exact c273), ?_⟩
              have O275 := O269.set 0 (.lst (w214 ++ [V.ref p266])) rfl
              have hl276 : RL (a := (Int × Int)) F268 (w214 ++ [V.ref p266]) (st212.2 ++ [(y201, y174.1)]) := RL.snoc hl216 h272
              exact ⟨F268, ((dPut st212.1 ((y201, y174.1).1, (y201, y174.1).2) (y230 - (1 : Int))), (st212.2 ++ [(y201, y174.1)])), (putK w213 (DK.kk ((y201, y174.1).1, (y201, y174.1).2)) (V.int (y230 - (1 : Int)))), (w214 ++ [V.ref p266]), some (V.int y201), rfl, S211, O275, hl245, hl276, hk⟩
            · have hk := wp_el hk q265
              exact ⟨F248, ((dPut st212.1 ((y201, y174.1).1, (y201, y174.1).2) (y230 - (1 : Int))), st212.2), (putK w213 (DK.kk ((y201, y174.1).1, (y201, y174.1).2)) (V.int (y230 - (1 : Int)))), w214, some (V.int y201), rfl, S211, O249, hl245, hl216, hk⟩
          · have hk := wp_el hk q222
            exact ⟨F218, (st212.1, st212.2), w213, w214, some (V.int y201), rfl, S211, O219, hl215, hl216, hk⟩
        rintro sg277 H278 ⟨F287, st280, w282, w283, t286, rfl, S279, O288, hl284, hl285, hL281⟩
        rw [drop_end hl200.len] at hL281
        have hk := hLd205 _ hL281
        have S161 := S161.trans S279
        refine ⟨_, rfl, _, _, rfl, rfl, ?_⟩
        obtain ⟨m_, hm_, hk⟩ := hk
        exact ⟨m_, hm_, F287, ((st162.1 + (1 : Int)), st280.1, st280.2), w282, w283, some (V.int y174.1), some (V.int y174.2), t286, rfl, S161, O288, hl284, hl285, hk⟩
      · have hk := wp_el hk q173
        exact hex157 _ _ ⟨F171, (st162.1, st162.2.1, st162.2.2), w164, w165, t168, t169, t170, rfl, S161, O172, hl166, hl167, hk⟩
    rintro sg289 H290 ⟨F301, st292, w294, w295, t298, t299, t300, rfl, S291, O302, hl296, hl297, hL293⟩
    have hk := hLd156 _ hL293
    refine ⟨_, rfl, ?_⟩
    exact hk _ _  O302.g  _ _ z140 (O302.cf _ (List.mem_of_getElem? (i := 0) rfl)) (O302.at 0 rfl) hl297
abbrev s_rows_known : Stmt := top 20
theorem sc_rows_known : FnScope ["tree", "rule", "near", "lengths", "rows", "a", "b", "more", "c"] ["tree", "rule"] (defScope s_rows_known) := ⟨rfl, rfl, rfl, by decide +kernel, rfl, by decide +kernel, by decide +kernel⟩
def m_rows_known (x_tree : ((List Int) × (List (T3 Int Int Int)))) (x_rule : (T4 (List Sm) (List Sm) (List Sm) Sm)) : M ((List ((Int × Int) × (List Int)))) :=
m_tied_places (x_tree.1.length : Int) x_tree.2 >>= fun r13 =>
m_lengths_of x_tree >>= fun r32 =>
m_every_branch x_tree >>= fun r46 =>
m_order_of r13 r46 >>= fun r65 =>
loopN (fun (y89 : (Int × Int)) (st100 : (List ((Int × Int) × (List Int)))) =>
opt (atI r13 y89.2) >>= fun y122 =>
compS (fun (y132 : Int) (st149 : Unit) =>
if y132 ≠ y89.1 then (
opt (dGet st100 (y89.2, y132)) >>= fun y163 =>
.ok (some y163, ()))
else (
.ok (none, ()))) y122 () >>= fun q186 =>
m_row_with x_tree x_rule y89.2 q186.1 >>= fun r192 =>
opt (atI x_tree.1 y89.2) >>= fun y205 =>
opt (dGet r32 (y89.1, y89.2)) >>= fun y222 =>
m_over_tie x_rule r192 y205 y222 >>= fun r234 =>
putD st100 ((y89.1, y89.2).1, (y89.1, y89.2).2) r234 >>= fun z268 =>
.ok z268) r65 ([] : (List ((Int × Int) × (List Int)))) >>= fun st274 =>
.ok st274
def sp_rows_known (mg : Str → Option Value) : Sp := fun vs H Q E => ∃ (F : Hp) (v_tree : V) (x_tree : ((List Int) × (List (T3 Int Int Int)))) (v_rule : V) (x_rule : (T4 (List Sm) (List Sm) (List Sm) Sm)), vs = [v_tree, v_rule] ∧ Pre F [] H ∧ R (a := ((List Int) × (List (T3 Int Int Int)))) F v_tree x_tree ∧ R (a := (T4 (List Sm) (List Sm) (List Sm) Sm)) F v_rule x_rule ∧
  wp (m_rows_known x_tree x_rule) (fun r => ∀ (F' H' : Hp), Gr [] F H F' H' → ∀ v : V, RDv (κ := (Int × Int)) (β := (List Int)) F' v r → SDr H F' v → Q v H')
  (fun n => ∀ (C : Addr) (H' : Hp), mg (Str.ofString n) = some (.ref C) → Kp [] H H' → E (.ref C) none H')
set_option maxHeartbeats 20000000 in
theorem ok_rows_known (nb : Nb mg) (C_every_branch : Ca P w K mg base "every_branch" 2 ["tree"] (sp_every_branch mg)) (C_lengths_of : Ca P w K mg base "lengths_of" 1 ["tree"] (sp_lengths_of mg)) (C_order_of : Ca P w K mg base "order_of" 1 ["near", "branches"] (sp_order_of mg)) (C_over_tie : Ca P w K mg base "over_tie" 14 ["rule", "more", "own", "tie"] (sp_over_tie mg)) (C_row_with : Ca P w K mg base "row_with" 15 ["tree", "rule", "place", "near"] (sp_row_with mg)) (C_tied_places : Ca P w K mg base "tied_places" 1 ["many", "ties"] (sp_tied_places mg)) (D : Df K mg "rows_known" "rows_known" s_rows_known ["tree", "rule"]) : Ca P w K mg base "rows_known" 16 ["tree", "rule"] (sp_rows_known mg) := by
  obtain ⟨fa_every_branch, fd_every_branch, G_every_branch, M_every_branch, K_every_branch, B_every_branch⟩ := C_every_branch.ex
  obtain ⟨fa_lengths_of, fd_lengths_of, G_lengths_of, M_lengths_of, K_lengths_of, B_lengths_of⟩ := C_lengths_of.ex
  obtain ⟨fa_order_of, fd_order_of, G_order_of, M_order_of, K_order_of, B_order_of⟩ := C_order_of.ex
  obtain ⟨fa_over_tie, fd_over_tie, G_over_tie, M_over_tie, K_over_tie, B_over_tie⟩ := C_over_tie.ex
  obtain ⟨fa_row_with, fd_row_with, G_row_with, M_row_with, K_row_with, B_row_with⟩ := C_row_with.ex
  obtain ⟨fa_tied_places, fd_tied_places, G_tied_places, M_tied_places, K_tied_places, B_tied_places⟩ := C_tied_places.ex
  refine Ca.mk' D sc_rows_known (fun vs H Q E h => ?_) (fun q_ f_ cdv A outer s H vs Q E hr h => ?_)
  · obtain ⟨F, _, _, _, _, rfl, _⟩ := h
    rfl
  · obtain ⟨F, v_tree, x_tree, v_rule, x_rule, rfl, P0, f_tree, f_rule, hk⟩ := h
    have nd := sc_rows_known.nd
    have hu64 := hr.units
    have hu128 := hu128_of hr
    have O := P0.start
    refine ⟨_, (pss_cons (ps_toN (ps_set (i := 2) nd rfl (Or.inl rfl) (pe_call G_tied_places (hr.mono (by decide)) rfl M_tied_places K_tied_places B_tied_places .nil (passes_call (takes_of rfl rfl rfl rfl) fun _ _ _ _ h => h) (pa_cons (pe_callB call_lenT (by rfl) nb.b_len PySem.boot_len (pa_cons (pe_ix (ixTupK (K := K) rfl) (pv 0) pe_int (fun _ _ => rfl)) pa_nil)) (pa_cons (pe_ix (ixTupK (K := K) rfl) (pv 0) pe_int (fun _ _ => rfl)) pa_nil)))))
  (pss_cons (ps_toN (ps_set (i := 3) nd rfl (Or.inl rfl) (pe_call G_lengths_of (hr.mono (by decide)) rfl M_lengths_of K_lengths_of B_lengths_of .nil (passes_call (takes_of rfl rfl rfl rfl) fun _ _ _ _ h => h) (pa_cons (pv 0) pa_nil))))
  (pss_cons (ps_toN (ps_set (i := 4) nd rfl (Or.inr rfl) pe_dnewT))
  (pss_cons (ps_for (passes_of rfl) rfl (piListK (K := K) rfl (pe_call G_order_of (hr.mono (by decide)) rfl M_order_of K_order_of B_order_of .nil (passes_call (takes_of rfl rfl rfl rfl) fun _ _ _ _ h => h) (pa_cons (pv 2) (pa_cons (pe_call G_every_branch (hr.mono (by decide)) rfl M_every_branch K_every_branch B_every_branch .nil (passes_call (takes_of rfl rfl rfl rfl) fun _ _ _ _ h => h) (pa_cons (pv 0) pa_nil)) pa_nil)))) (pg_tup rfl (pgs_cons (pg_name (i := 5) nd rfl (Or.inr rfl)) (pgs_cons (pg_name (i := 6) nd rfl (Or.inr rfl)) pgs_nil))) (pss_cons (ps_toN (ps_set (i := 7) nd rfl (Or.inl rfl) (pe_call G_row_with (hr.mono (by decide)) rfl M_row_with K_row_with B_row_with .nil (passes_call (takes_of rfl rfl rfl rfl) fun _ _ _ _ h => h) (pa_cons (pv 0) (pa_cons (pv 1) (pa_cons (pv 6) (pa_cons (pe_lc (own := [("c", 8)]) (g := gName 8) (tt := _) rfl nd (piListK (K := K) rfl (pe_ix (ixListK (K := K) rfl) (pv 2) (pv 6) (fun _ _ => rfl))) (blkOk_by (own := [("c", 8)]) (N := ["tree", "rule", "near", "lengths", "rows", "a", "b", "more", "c"]) (sc := defScope s_rows_known) (by decide +kernel)) (fun _ _ _ _ _ => (pg_name (i := 8) nd rfl (Or.inl rfl))) (fun _ _ _ _ _ => (pts_one (pt_cmpR (op_neT Int hu64) (pv 8) (pv 5) (nomark _)))) (fun _ _ _ _ _ => (pe_dget (u1_of hu64) (pv 4) (pe_tup (pa_cons (pv 6) (pa_cons (pv 8) pa_nil))) (fun _ _ => rfl)))) pa_nil)))))))
  (pss_one (ps_dput (u1_of hu64) (pv 4) (pe_tup (pa_cons (pv 5) (pa_cons (pv 6) pa_nil))) (pe_call G_over_tie (hr.mono (by decide)) rfl M_over_tie K_over_tie B_over_tie .nil (passes_call (takes_of rfl rfl rfl rfl) fun _ _ _ _ h => h) (pa_cons (pv 1) (pa_cons (pv 7) (pa_cons (pe_ix (ixListK (K := K) rfl) (pe_ix (ixTupK (K := K) rfl) (pv 0) pe_int (fun _ _ => rfl)) (pv 6) (fun _ _ => rfl)) (pa_cons (pe_dget (u1_of hu64) (pv 3) (pe_tup (pa_cons (pv 5) (pa_cons (pv 6) pa_nil))) (fun _ _ => rfl)) pa_nil))))) rfl))))
  (pss_one (ps_ret (pv 4))))))), ?_⟩
    obtain ⟨p1, v4, v5, e2, h3, r6, r7⟩ := R.t2_ f_tree
    cases e2
    obtain ⟨p8, w9, e10, h11, hl12⟩ := R.lst_ r6
    cases e10
    refine ⟨_, rfl, _, _, _, _, rfl, rfl, (SqTF O.s h3), rfl, _, _, _, rfl, (.inl (O.s _ _ h11)), hl12.len, _, rfl, _, _, _, _, rfl, rfl, (SqTF O.s h3), rfl, _, _, _, _, rfl, O.pre0, r7, wp_call hk (fun r13 er14 hk F15 H16 g17 p18 w19 hn20 hf21 h22 hl23 => ?_) (fun n hn C H1 hC kp => hn C H1 hC (O.kp0 kp))⟩
    have O24 := O.call0 g17
    have S_ := g17.f
    have f_tree := f_tree.mono S_
    have f_rule := f_rule.mono S_
    have h3 := S_ _ _ h3
    have r6 := r6.mono S_
    have O25 := O.got O24 rfl hn20 hf21 h22
    have z26 := O.was hn20
    obtain ⟨F27, O28, S29, h30⟩ := O25.frzE 0 rfl z26
    have f_tree := f_tree.mono S29
    have f_rule := f_rule.mono S29
    have h3 := S29 _ _ h3
    have r6 := r6.mono S29
    have hl23 := hl23.mono S29
    have h31 := R.lst (a := (List Int)) h30 hl23
    refine ⟨[some (V.ref p1), some v_rule, some (V.ref p18), none, none, none, none, none, none], rfl, _, rfl, _, _, _, rfl, O28.pre0, f_tree, wp_call hk (fun r32 er33 hk F34 H35 g36 v37 r38 => ?_) (fun n hn C H1 hC kp => hn C H1 hC (O28.kp0 kp))⟩
    have O39 := O28.call0 g36
    have S_ := g36.f
    have f_tree := f_tree.mono S_
    have f_rule := f_rule.mono S_
    have h3 := S_ _ _ h3
    have r6 := r6.mono S_
    have h31 := h31.mono S_
    refine ⟨[some (V.ref p1), some v_rule, some (V.ref p18), some v37, none, none, none, none, none], rfl, fun p41 hp42 => ?_⟩
    have hl44 : RD (κ := (Int × Int)) (β := (List Int)) F34 [] ([] : (List ((Int × Int) × (List Int)))) := RD.nil
    have z45 := O39.was hp42
    have O43 := O39.new (o := .dT []) hp42
    refine ⟨[some (V.ref p1), some v_rule, some (V.ref p18), some v37, some (V.ref p41), none, none, none, none], rfl, _, rfl, _, rfl, _, _, _, rfl, O43.pre0, f_tree, wp_call hk (fun r46 er47 hk F48 H49 g50 p51 w52 hn53 hf54 h55 hl56 => ?_) (fun n hn C H1 hC kp => hn C H1 hC (O43.kp0 kp))⟩
    have O57 := O43.call0 g50
    have S_ := g50.f
    have f_tree := f_tree.mono S_
    have f_rule := f_rule.mono S_
    have h3 := S_ _ _ h3
    have r6 := r6.mono S_
    have h31 := h31.mono S_
    have r38 := r38.mono S_
    have hl44 := hl44.mono S_
    have O58 := O43.got O57 rfl hn53 hf54 h55
    have z59 := O43.was hn53
    obtain ⟨F60, O61, S62, h63⟩ := O58.frzE 0 rfl z59
    have f_tree := f_tree.mono S62
    have f_rule := f_rule.mono S62
    have h3 := S62 _ _ h3
    have r6 := r6.mono S62
    have h31 := h31.mono S62
    have r38 := r38.mono S62
    have hl44 := hl44.mono S62
    have hl56 := hl56.mono S62
    have h64 := R.lst (a := (Int × Int)) h63 hl56
    refine ⟨_, _, _, _, _, rfl, O61.pre0, h31, h64, wp_call hk (fun r65 er66 hk F67 H68 g69 p70 w71 hn72 hf73 h74 hl75 => ?_) (fun n hn C H1 hC kp => hn C H1 hC (O61.kp0 kp))⟩
    have O76 := O61.call0 g69
    have S_ := g69.f
    have f_tree := f_tree.mono S_
    have f_rule := f_rule.mono S_
    have h3 := S_ _ _ h3
    have r6 := r6.mono S_
    have h31 := h31.mono S_
    have r38 := r38.mono S_
    have hl44 := hl44.mono S_
    have O77 := O61.got O76 rfl hn72 hf73 h74
    have z78 := O61.was hn72
    obtain ⟨F79, O80, S81, h82⟩ := O77.frzE 0 rfl z78
    have f_tree := f_tree.mono S81
    have f_rule := f_rule.mono S81
    have h3 := S81 _ _ h3
    have r6 := r6.mono S81
    have h31 := h31.mono S81
    have r38 := r38.mono S81
    have hl44 := hl44.mono S81
    have hl75 := hl75.mono S81
    have h83 := R.lst (a := (Int × Int)) h82 hl75
    obtain ⟨p84, w85, e86, h87, hl88⟩ := R.lst_ h83
    cases e86
    obtain ⟨L90, hL91, hLs92, hLd93⟩ := loopN_L hk
    refine ⟨_, rfl, ⟨_, (SqLF O80.s h87)⟩, ?_⟩
    refine for_list (K := K) (xs := w85) (fun i σ H_ => ∃ (F_ : Hp) (st : (List ((Int × Int) × (List Int)))) (w_0 : (List (List Key × V))) (t_0 : Option V) (t_1 : Option V) (t_2 : Option V), σ = [some (V.ref p1), some v_rule, some (V.ref p18), some v37, some (V.ref p41), t_0, t_1, t_2, none] ∧ Same F79 F_ ∧ Ow _ F_ [(p41, .dT w_0)] H_ ∧ RD (κ := (Int × Int)) (β := (List Int)) F_ w_0 st ∧ SDx H F_ w_0 ∧ L90 (List.drop i r65) st) ⟨F79, ([] : (List ((Int × Int) × (List Int)))), [], none, none, none, rfl, Same.refl _, O80, hl44, SDx.nil, hL91⟩ (fun i_ σ_ H_ _ hp_ => ?_) ?_ ?_
    · obtain ⟨_, _, _, _, _, _, _, hS_, hO_, _⟩ := hp_
      exact SqLF hO_.s (hS_ _ _ h87)
    · rintro i94 x95 sg96 H97 hi98 ⟨F106, st100, w101, t103, t104, t105, rfl, S99, O107, hl102, sd, hL91⟩
      have Sx := Same.refl F106
      have f_tree := f_tree.mono S99
      have f_rule := f_rule.mono S99
      have h3 := S99 _ _ h3
      have r6 := r6.mono S99
      have h31 := h31.mono S99
      have r38 := r38.mono S99
      have hl88 := hl88.mono S99
      obtain ⟨y89, e108, r109⟩ := RL.got hl88 hi98
      rw [drop_at e108] at hL91
      have hk := hLs92 _ _ _ hL91
      obtain ⟨p110, v113, v114, e111, h112, r115, r116⟩ := R.t2_ r109
      cases e111
      obtain rfl := R.int_ r115
      obtain rfl := R.int_ r116
      obtain ⟨p117, w118, e119, h120, hl121⟩ := R.lst_ h31
      cases e119
      obtain ⟨y122, e123, hk⟩ := wp_opt hk
      obtain ⟨w124, e125, r126⟩ := hl121.atI e123
      obtain ⟨p127, w128, e129, h130, hl131⟩ := R.lst_ r126
      cases e129
      obtain ⟨c137, L133, hL134, hLs135, hLd136⟩ := compS_L hk
      refine ⟨_, _, rfl, (SqTF O107.s h112), rfl, _, _, rfl, _, _, rfl, rfl, _, rfl, _, rfl, _, rfl, _, rfl, _, rfl, _, _, _, _, rfl, rfl, (SqLF O107.s h120), e125, _, rfl, ⟨_, (SqLF O107.s h130)⟩, fun p138 hp139 => ?_⟩
      have z175 := O107.was hp139
      refine lc_list (K := K) (xs := w128) (fun i H => ∃ (F_ : Hp) (st : Unit) (acc : List (List Int)) (wa : List V), Same F106 F_ ∧ Ow _ F_ [(p138, .lst wa), (p41, .dT w101)] H ∧ RL F_ wa acc ∧ wa.length ≤ i ∧ L133 (List.drop i y122) acc st) ⟨F106, (), [], [], Same.refl _, O107.new hp139, RL.nil, Nat.zero_le _, hL134⟩ (fun i_ H_ _ hp_ => ?_) ?_ ?_
      · obtain ⟨_, _, _, _, hS_, hO_, _⟩ := hp_
        exact SqLF hO_.s (hS_ _ _ h130)
      · rintro i140 x141 H142 hi143 ⟨F148, st149, acc145, wa146, S150, O152, hl151, la147, hL134⟩
        have hl102 := hl102.mono S150
        have hl131 := hl131.mono S150
        obtain ⟨y132, e153, r154⟩ := RL.got hl131 hi143
        rw [drop_at e153] at hL134
        have hk := hLs135 _ _ _ _ hL134
        obtain rfl := R.int_ r154
        refine ⟨rfl, _, rfl, _, rfl, _, _, R.int, R.int, _, rfl, ?_⟩
        refine iteD (fun q155 => ?_) (fun q155 => ?_)
        · have hk := wp_if hk q155
          refine ⟨_, rfl, _, rfl, _, rfl, (by show 2 ≤ sizeLine; decide), fun p156 hp157 => ?_⟩
          obtain ⟨F158, O159, S160, h161⟩ := O152.putE hp157 (.tup [V.int y89.2, V.int y132])
          have hl102 := hl102.mono S160
          have hl131 := hl131.mono S160
          have S150 := S150.trans S160
          have hl151 := hl151.mono S160
          have h162 : R (a := (Int × Int)) F158 (.ref p156) (y89.2, y132) := R.t2 h161 R.int R.int
          obtain ⟨p168, v171, v172, e169, h170, r173, r174⟩ := R.t2_ h162
          cases e169
          obtain rfl := R.int_ r173
          obtain rfl := R.int_ r174
          obtain ⟨y163, e164, hk⟩ := wp_opt hk
          obtain ⟨w165, e166, r167⟩ := RD.some hl102 (k := ((y89.2, y132).1, (y89.2, y132).2)) e164
          refine ⟨_, _, rfl, (dget_T (.inl (O159.at 1 rfl)) (O159.s _ _ h170) e166), _, (O159.at 0 rfl), (comp_len la147 hi143 hl131.len c137), ?_⟩
          exact ⟨F158, (), acc145 ++ [y163], wa146 ++ [w165], S150, O159.set 0 (.lst (wa146 ++ [w165])) rfl, RL.snoc hl151 r167, by rw [List.length_append]; exact Nat.succ_le_succ la147, hk⟩
        · have hk := wp_el hk q155
          exact ⟨F148, (), acc145, wa146, S150, O152, hl151, Nat.le_succ_of_le la147, hk⟩
      rintro H176 ⟨F177, st178, acc179, wa180, S181, O182, hl183, la184, hL185⟩
      rw [drop_end hl131.len] at hL185
      have hk := hLd136 _ _ hL185
      have f_tree := f_tree.mono S181
      have f_rule := f_rule.mono S181
      have h3 := S181 _ _ h3
      have r6 := r6.mono S181
      have r38 := r38.mono S181
      have hl102 := hl102.mono S181
      have S99 := S99.trans S181
      have Sx := Same.trans Sx S181
      obtain ⟨F187, O188, S189, h190⟩ := O182.frzE 0 rfl z175
      have f_tree := f_tree.mono S189
      have f_rule := f_rule.mono S189
      have h3 := S189 _ _ h3
      have r6 := r6.mono S189
      have r38 := r38.mono S189
      have hl102 := hl102.mono S189
      have S99 := S99.trans S189
      have Sx := Same.trans Sx S189
      have hl183 := hl183.mono S189
      have h191 := R.lst (a := (List Int)) h190 hl183
      refine ⟨_, _, _, _, _, _, _, _, rfl, O188.pre0, f_tree, f_rule, h191, wp_call hk (fun r192 er193 hk F194 H195 g196 v197 r198 => ?_) (fun n hn C H1 hC kp => hn C H1 hC (O188.kp0 kp))⟩
      have O199 := O188.call0 g196
      have S_ := g196.f
      have f_rule := f_rule.mono S_
      have h3 := S_ _ _ h3
      have r6 := r6.mono S_
      have r38 := r38.mono S_
      have hl102 := hl102.mono S_
      have S99 := S99.trans S_
      have Sx := Same.trans Sx S_
      obtain ⟨p200, w201, e202, h203, hl204⟩ := R.lst_ r6
      cases e202
      obtain ⟨y205, e206, hk⟩ := wp_opt hk
      obtain ⟨w207, e208, r209⟩ := hl204.atI e206
      obtain rfl := R.int_ r209
      refine ⟨[some (V.ref p1), some v_rule, some (V.ref p18), some v37, some (V.ref p41), some (V.int y89.1), some (V.int y89.2), some v197, none], rfl, _, rfl, _, rfl, _, rfl, _, _, _, _, rfl, rfl, (SqTF O199.s h3), rfl, _, rfl, _, _, _, _, rfl, rfl, (SqLF O199.s h203), e208, _, rfl, _, rfl, _, rfl, (by show 2 ≤ sizeLine; decide), fun p210 hp211 => ?_⟩
      obtain ⟨F212, O213, S214, h215⟩ := O199.putE hp211 (.tup [V.int y89.1, V.int y89.2])
      have f_rule := f_rule.mono S214
      have r38 := r38.mono S214
      have hl102 := hl102.mono S214
      have S99 := S99.trans S214
      have Sx := Same.trans Sx S214
      have r198 := r198.mono S214
      have h216 : R (a := (Int × Int)) F212 (.ref p210) (y89.1, y89.2) := R.t2 h215 R.int R.int
      obtain ⟨p217, w218, e219, h220, hl221⟩ := r38
      cases e219
      have h220 : Rd F212 _ (.dT w218) := h220
      obtain ⟨p227, v230, v231, e228, h229, r232, r233⟩ := R.t2_ h216
      cases e228
      obtain rfl := R.int_ r232
      obtain rfl := R.int_ r233
      obtain ⟨y222, e223, hk⟩ := wp_opt hk
      obtain ⟨w224, e225, r226⟩ := RD.some hl221 (k := ((y89.1, y89.2).1, (y89.1, y89.2).2)) e223
      obtain rfl := R.int_ r226
      refine ⟨_, _, rfl, (dget_T (rd_mono O213.s h220) (O213.s _ _ h229) e225), _, _, _, _, _, _, _, rfl, O213.pre0, f_rule, r198, wp_call hk (fun r234 er235 hk F236 H237 g238 p239 w240 hn241 hf242 h243 hl244 => ?_) (fun n hn C H1 hC kp => hn C H1 hC (O213.kp0 kp))⟩
      have hfx := Same.no Sx (O213.no hn241)
      have O245 := O213.call0 g238
      have S_ := g238.f
      have hl102 := hl102.mono S_
      have S99 := S99.trans S_
      have Sx := Same.trans Sx S_
      have O246 := O213.got O245 rfl hn241 hf242 h243
      have z247 := O213.was hn241
      obtain ⟨F248, O249, S250, h251⟩ := O246.frzE 0 rfl z247
      have hl102 := hl102.mono S250
      have S99 := S99.trans S250
      have Sx := Same.trans Sx S250
      have hl244 := hl244.mono S250
      have h252 := R.lst (a := Int) h251 hl244
      refine ⟨_, rfl, _, rfl, _, rfl, (by show 2 ≤ sizeLine; decide), fun p253 hp254 => ?_⟩
      obtain ⟨F255, O256, S257, h258⟩ := O249.putE hp254 (.tup [V.int y89.1, V.int y89.2])
      have hl102 := hl102.mono S257
      have S99 := S99.trans S257
      have Sx := Same.trans Sx S257
      have h252 := h252.mono S257
      have h259 : R (a := (Int × Int)) F255 (.ref p253) (y89.1, y89.2) := R.t2 h258 R.int R.int
      obtain ⟨p260, v263, v264, e261, h262, r265, r266⟩ := R.t2_ h259
      cases e261
      obtain rfl := R.int_ r265
      obtain rfl := R.int_ r266
      obtain ⟨c267, hk⟩ := wp_putD hk
      refine ⟨_, _, rfl, (dput_T (v := (V.ref p239)) (O256.at 0 rfl) (O256.s _ _ h262) (by rw [RD.len hl102]; exact c267)), ?_⟩
      have O269 := O256.set 0 (.dT (putK w101 (DK.kk ((y89.1, y89.2).1, (y89.1, y89.2).2)) (V.ref p239))) rfl
      have hl270 : RD (κ := (Int × Int)) (β := (List Int)) F255 (putK w101 (DK.kk ((y89.1, y89.2).1, (y89.1, y89.2).2)) (V.ref p239)) (dPut st100 ((y89.1, y89.2).1, (y89.1, y89.2).2) r234) := RD.put hl102 ((y89.1, y89.2).1, (y89.1, y89.2).2) h252
      exact ⟨F255, (dPut st100 ((y89.1, y89.2).1, (y89.1, y89.2).2) r234), (putK w101 (DK.kk ((y89.1, y89.2).1, (y89.1, y89.2).2)) (V.ref p239)), some (V.int y89.1), some (V.int y89.2), some v197, rfl, S99, O269, hl270, sd.put Sx hfx (S257 _ _ h251) z247, hk⟩
    rintro sg271 H272 ⟨F281, st274, w276, t278, t279, t280, rfl, S273, O282, hl277, sd, hL275⟩
    rw [drop_end hl88.len] at hL275
    have hk := hLd93 _ hL275
    refine ⟨_, rfl, ?_⟩
    obtain ⟨F283, O284, S285, h286⟩ := O282.frzE 0 rfl z45
    have hl277 := hl277.mono S285
    have h287 := RDv.mk (κ := (Int × Int)) (β := (List Int)) (.inl h286) hl277
    exact hk _ _  O284.g  _ h287 ⟨_, _, rfl, h286, sd.mono S285⟩

abbrev s_all_rows : Stmt := top 21
theorem sc_all_rows : FnScope ["tree", "rule", "rows", "branch"] ["tree", "rule"] (defScope s_all_rows) := ⟨rfl, rfl, rfl, by decide +kernel, rfl, by decide +kernel, by decide +kernel⟩
def m_all_rows (x_tree : ((List Int) × (List (T3 Int Int Int)))) (x_rule : (T4 (List Sm) (List Sm) (List Sm) Sm)) : M ((List ((Int × Int) × (List Int)))) :=
m_need_rule x_rule >>= fun r1 =>
m_rows_known x_tree x_rule >>= fun r7 =>
m_every_branch x_tree >>= fun r16 =>
compS (fun (y40 : (Int × Int)) (st57 : Unit) =>
opt (dGet r7 y40) >>= fun y68 =>
.ok (some (y40, y68), ())) r16 () >>= fun q98 =>
.ok q98.1
def sp_all_rows (mg : Str → Option Value) : Sp := fun vs H Q E => ∃ (F : Hp) (v_tree : V) (x_tree : ((List Int) × (List (T3 Int Int Int)))) (v_rule : V) (x_rule : (T4 (List Sm) (List Sm) (List Sm) Sm)), vs = [v_tree, v_rule] ∧ Pre F [] H ∧ R (a := ((List Int) × (List (T3 Int Int Int)))) F v_tree x_tree ∧ R (a := (T4 (List Sm) (List Sm) (List Sm) Sm)) F v_rule x_rule ∧
  wp (m_all_rows x_tree x_rule) (fun r => ∀ (F' H' : Hp), Gr [] F H F' H' → ∀ (p : Addr) (w : (List V)), H p = none → F' p = none → H' p = some (.lst w) → RL (a := ((Int × Int) × (List Int))) F' w r → SepN H F' w r → Q (.ref p) H')
  (fun n => ∀ (C : Addr) (H' : Hp), mg (Str.ofString n) = some (.ref C) → Kp [] H H' → E (.ref C) none H')
set_option maxHeartbeats 20000000 in
theorem ok_all_rows (nb : Nb mg) (C_every_branch : Ca P w K mg base "every_branch" 2 ["tree"] (sp_every_branch mg)) (C_need_rule : Ca P w K mg base "need_rule" 63 ["rule"] (sp_need_rule mg)) (C_rows_known : Ca P w K mg base "rows_known" 16 ["tree", "rule"] (sp_rows_known mg)) (D : Df K mg "all_rows" "all_rows" s_all_rows ["tree", "rule"]) : Ca P w K mg base "all_rows" 64 ["tree", "rule"] (sp_all_rows mg) := by
  obtain ⟨fa_every_branch, fd_every_branch, G_every_branch, M_every_branch, K_every_branch, B_every_branch⟩ := C_every_branch.ex
  obtain ⟨fa_need_rule, fd_need_rule, G_need_rule, M_need_rule, K_need_rule, B_need_rule⟩ := C_need_rule.ex
  obtain ⟨fa_rows_known, fd_rows_known, G_rows_known, M_rows_known, K_rows_known, B_rows_known⟩ := C_rows_known.ex
  refine Ca.mk' D sc_all_rows (fun vs H Q E h => ?_) (fun q_ f_ cdv A outer s H vs Q E hr h => ?_)
  · obtain ⟨F, _, _, _, _, rfl, _⟩ := h
    rfl
  · obtain ⟨F, v_tree, x_tree, v_rule, x_rule, rfl, P0, f_tree, f_rule, hk⟩ := h
    have nd := sc_all_rows.nd
    have hu64 := hr.units
    have hu128 := hu128_of hr
    have O := P0.start
    refine ⟨_, (pss_cons (ps_expr (pe_call G_need_rule (hr.mono (by decide)) rfl M_need_rule K_need_rule B_need_rule .nil (passes_call (takes_of rfl rfl rfl rfl) fun _ _ _ _ h => h) (pa_cons (pv 1) pa_nil)))
  (pss_cons (ps_toN (ps_set (i := 2) nd rfl (Or.inr rfl) (pe_call G_rows_known (hr.mono (by decide)) rfl M_rows_known K_rows_known B_rows_known .nil (passes_call (takes_of rfl rfl rfl rfl) fun _ _ _ _ h => h) (pa_cons (pv 0) (pa_cons (pv 1) pa_nil)))))
  (pss_one (ps_ret (pe_lc (own := [("branch", 3)]) (g := gName 3) (tt := _) rfl nd (piListK (K := K) rfl (pe_call G_every_branch (hr.mono (by decide)) rfl M_every_branch K_every_branch B_every_branch .nil (passes_call (takes_of rfl rfl rfl rfl) fun _ _ _ _ h => h) (pa_cons (pv 0) pa_nil))) (blkOk_by (own := [("branch", 3)]) (N := ["tree", "rule", "rows", "branch"]) (sc := defScope s_all_rows) (by decide +kernel)) (fun _ _ _ _ _ => (pg_name (i := 3) nd rfl (Or.inl rfl))) (fun _ _ _ _ _ => pts_nil) (fun _ _ _ _ _ => (pe_tup (pa_cons (pv 3) (pa_cons (pe_dget (u1_of hu64) (pv 2) (pv 3) (fun _ _ => rfl)) pa_nil))))))))), ?_⟩
    refine ⟨_, rfl, _, _, _, rfl, O.pre0, f_rule, wp_call hk (fun r1 er2 hk F3 H4 g5 => ?_) (fun n hn C H1 hC kp => hn C H1 hC (O.kp0 kp))⟩
    have O6 := O.call0 g5
    have S_ := g5.f
    have f_tree := f_tree.mono S_
    have f_rule := f_rule.mono S_
    refine ⟨_, rfl, _, rfl, _, _, _, _, _, rfl, O6.pre0, f_tree, f_rule, wp_call hk (fun r7 er8 hk F9 H10 g11 v12 r13 fr13 => ?_) (fun n hn C H1 hC kp => hn C H1 hC (O6.kp0 kp))⟩
    have O14 := O6.call0 g11
    have fr13 := fr13.back (H := H) (fun _ h_ => O6.was h_)
    have S_ := g11.f
    have f_tree := f_tree.mono S_
    refine ⟨[some v_tree, some v_rule, some v12, none], rfl, _, rfl, _, _, _, rfl, O14.pre0, f_tree, wp_call hk (fun r16 er17 hk F18 H19 g20 p21 w22 hn23 hf24 h25 hl26 => ?_) (fun n hn C H1 hC kp => hn C H1 hC (O14.kp0 kp))⟩
    have O27 := O14.call0 g20
    have S_ := g20.f
    have r13 := r13.mono S_
    have fr13 := fr13.mono S_
    have O28 := O14.got O27 rfl hn23 hf24 h25
    have z29 := O14.was hn23
    obtain ⟨F30, O31, S32, h33⟩ := O28.frzE 0 rfl z29
    have r13 := r13.mono S32
    have fr13 := fr13.mono S32
    have hl26 := hl26.mono S32
    have h34 := R.lst (a := (Int × Int)) h33 hl26
    obtain ⟨pd, wd, ed, hd, sd⟩ := fr13
    cases ed
    obtain ⟨p35, w36, e37, h38, hl39⟩ := R.lst_ h34
    cases e37
    obtain ⟨c45, L41, hL42, hLs43, hLd44⟩ := compS_L hk
    refine ⟨_, rfl, ⟨_, (SqLF O31.s h38)⟩, fun p46 hp47 => ?_⟩
    have z87 := O31.was hp47
    refine lc_list (K := K) (xs := w36) (fun i Hi_ => ∃ (F_ : Hp) (st : Unit) (acc : List ((Int × Int) × (List Int))) (wa : List V), Same F30 F_ ∧ Ow _ F_ [(p46, .lst wa)] Hi_ ∧ RL F_ wa acc ∧ wa.length ≤ i ∧ LkP H F_ wd wa acc ∧ L41 (List.drop i r16) acc st) ⟨F30, (), [], [], Same.refl _, O31.new hp47, RL.nil, Nat.zero_le _, LkP.nil, hL42⟩ (fun i_ H_ _ hp_ => ?_) ?_ ?_
    · obtain ⟨_, _, _, _, hS_, hO_, _⟩ := hp_
      exact SqLF hO_.s (hS_ _ _ h38)
    · rintro i48 x49 H50 hi51 ⟨F56, st57, acc53, wa54, S58, O60, hl59, la55, lk, hL42⟩
      have r13 := r13.mono S58
      have sd1 := sd.mono S58
      have hd1 := S58 _ _ hd
      have hl39 := hl39.mono S58
      obtain ⟨y40, e61, r62⟩ := RL.got hl39 hi51
      rw [drop_at e61] at hL42
      have hk := hLs43 _ _ _ _ hL42
      refine ⟨rfl, ?_⟩
      obtain ⟨p63, w64, e65, h66, hl67⟩ := r13
      cases e65
      have h66 : Rd F56 _ (.dT w64) := h66
      have ew := rd_dT h66 hd1
      subst ew
      obtain ⟨p73, v76, v77, e74, h75, r78, r79⟩ := R.t2_ r62
      cases e74
      obtain rfl := R.int_ r78
      obtain rfl := R.int_ r79
      obtain ⟨y68, e69, hk⟩ := wp_opt hk
      obtain ⟨w70, e71, r72⟩ := RD.some hl67 (k := (y40.1, y40.2)) e69
      refine ⟨_, rfl, _, rfl, _, rfl, _, _, rfl, (dget_T (rd_mono O60.s h66) (O60.s _ _ h75) e71), (by show 2 ≤ sizeLine; decide), fun p80 hp81 => ?_⟩
      obtain ⟨F82, O83, S84, h85⟩ := O60.putE hp81 (.tup [V.ref p73, w70])
      have hl39 := hl39.mono S84
      have S58 := S58.trans S84
      have hl59 := hl59.mono S84
      have r62 := r62.mono S84
      have r72 := r72.mono S84
      have h86 : R (a := ((Int × Int) × (List Int))) F82 (.ref p80) (y40, y68) := R.t2 h85 r62 r72
      refine ⟨_, (O83.at 0 rfl), (comp_len la55 hi51 hl39.len c45), ?_⟩
      exact ⟨F82, (), acc53 ++ [(y40, y68)], wa54 ++ [V.ref p80], S58, O83.set 0 (.lst (wa54 ++ [V.ref p80])) rfl, RL.snoc hl59 h86, by rw [List.length_append]; exact Nat.succ_le_succ la55, lk.snoc S84 sd1 e71 h85, hk⟩
    rintro H88 ⟨F89, st90, acc91, wa92, S93, O94, hl95, la96, lk, hL97⟩
    rw [drop_end hl39.len] at hL97
    have hk := hLd44 _ _ hL97
    exact hk _ _  O94.g  _ _ z87 (O94.cf _ (List.mem_of_getElem? (i := 0) rfl)) (O94.at 0 rfl) hl95 (lk.sep (sd.mono S93))

abbrev s_law_stir : Stmt := top 23
theorem sc_law_stir : FnScope ["cell", "k", "number"] ["cell", "k"] (defScope s_law_stir) := ⟨rfl, rfl, rfl, by decide +kernel, rfl, by decide +kernel, by decide +kernel⟩
def m_law_stir (x_cell : Int) (x_k : Int) : M (Int) :=
chk (0 < ((10 : Int) ^ Int.toNat (40 : Int))) >>= fun _ =>
chk (CMulW (x_cell % ((10 : Int) ^ Int.toNat (40 : Int))) (48271 : Int)) >>= fun _ =>
chk (CMulW ((3 : Int) ^ Int.toNat (60 : Int)) (x_k + (1 : Int))) >>= fun _ =>
chk (CMulW (((3 : Int) ^ Int.toNat (60 : Int)) * (x_k + (1 : Int))) (x_k + (1 : Int))) >>= fun _ =>
ret ((((x_cell % ((10 : Int) ^ Int.toNat (40 : Int))) * (48271 : Int)) + ((((3 : Int) ^ Int.toNat (60 : Int)) * (x_k + (1 : Int))) * (x_k + (1 : Int)))) + x_k) >>= fun n5 =>
chk (CMulW n5 n5) >>= fun _ =>
chk (CMulW (69621 : Int) n5) >>= fun _ =>
ret ((n5 * n5) + ((69621 : Int) * n5)) >>= fun n9 =>
chk (CMulW n9 n9) >>= fun _ =>
chk (0 < (((10 : Int) ^ Int.toNat (61 : Int)) + (7 : Int))) >>= fun _ =>
chk (CDivW ((n9 * n9) % (((10 : Int) ^ Int.toNat (61 : Int)) + (7 : Int))) (8 : Int)) >>= fun _ =>
.ok (((n9 * n9) % (((10 : Int) ^ Int.toNat (61 : Int)) + (7 : Int))) / (8 : Int))
def sp_law_stir (mg : Str → Option Value) : Sp := fun vs H Q E => ∃ (F : Hp) (x_cell : Int) (x_k : Int), vs = [V.int x_cell, V.int x_k] ∧ Pre F [] H ∧
  wp (m_law_stir x_cell x_k) (fun r => ∀ (F' H' : Hp), Gr [] F H F' H' → Q (V.int r) H')
  (fun n => ∀ (C : Addr) (H' : Hp), mg (Str.ofString n) = some (.ref C) → Kp [] H H' → E (.ref C) none H')
set_option maxHeartbeats 20000000 in
theorem ok_law_stir (nb : Nb mg) (D : Df K mg "_law_stir" "_law_stir" s_law_stir ["cell", "k"]) : Ca P w K mg base "_law_stir" 1 ["cell", "k"] (sp_law_stir mg) := by
  refine Ca.mk' D sc_law_stir (fun vs H Q E h => ?_) (fun q_ f_ cdv A outer s H vs Q E hr h => ?_)
  · obtain ⟨F, _, _, rfl, _⟩ := h
    rfl
  · obtain ⟨F, x_cell, x_k, rfl, P0, hk⟩ := h
    have nd := sc_law_stir.nd
    have hu64 := hr.units
    have hu128 := hu128_of hr
    have O := P0.start
    refine ⟨_, (pss_cons (ps_toN (ps_set (i := 2) nd rfl (Or.inl rfl) (pe_op op_add (pe_op op_add (pe_op op_mulW (pe_op op_mod (pv 0) (pe_op op_pow pe_int pe_int)) pe_int) (pe_op op_mulW (pe_op op_mulW (pe_op op_pow pe_int pe_int) (pe_op op_add (pv 1) pe_int)) (pe_op op_add (pv 1) pe_int))) (pv 1))))
  (pss_cons (ps_toN (ps_set (i := 2) nd rfl (Or.inl rfl) (pe_op op_add (pe_op op_mulW (pv 2) (pv 2)) (pe_op op_mulW pe_int (pv 2)))))
  (pss_one (ps_ret (pe_op op_fdivW (pe_op op_mod (pe_op op_mulW (pv 2) (pv 2)) (pe_op op_add (pe_op op_pow pe_int pe_int) pe_int)) pe_int))))), ?_⟩
    obtain ⟨c1, hk⟩ := wp_chk hk
    obtain ⟨c2, hk⟩ := wp_chk hk
    obtain ⟨c3, hk⟩ := wp_chk hk
    obtain ⟨c4, hk⟩ := wp_chk hk
    obtain ⟨n5, hn6, hk⟩ := wp_ret hk
    subst hn6
    obtain ⟨c7, hk⟩ := wp_chk hk
    obtain ⟨c8, hk⟩ := wp_chk hk
    obtain ⟨n9, hn10, hk⟩ := wp_ret hk
    subst hn10
    obtain ⟨c11, hk⟩ := wp_chk hk
    obtain ⟨c12, hk⟩ := wp_chk hk
    obtain ⟨c13, hk⟩ := wp_chk hk
    refine ⟨_, rfl, _, _, rfl, rfl, (by decide), _, _, rfl, rfl, c1, _, _, rfl, rfl, c2, _, _, rfl, rfl, (by decide), _, rfl, _, _, rfl, rfl, _, _, rfl, rfl, c3, _, rfl, _, _, rfl, rfl, _, _, rfl, rfl, c4, _, _, rfl, rfl, _, rfl, _, _, rfl, rfl, [some (V.int x_cell), some (V.int x_k), some (V.int ((((x_cell % ((10 : Int) ^ Int.toNat (40 : Int))) * (48271 : Int)) + ((((3 : Int) ^ Int.toNat (60 : Int)) * (x_k + (1 : Int))) * (x_k + (1 : Int)))) + x_k))], rfl, _, rfl, _, rfl, _, _, rfl, rfl, c7, _, rfl, _, _, rfl, rfl, c8, _, _, rfl, rfl, [some (V.int x_cell), some (V.int x_k), some (V.int ((((((x_cell % ((10 : Int) ^ Int.toNat (40 : Int))) * (48271 : Int)) + ((((3 : Int) ^ Int.toNat (60 : Int)) * (x_k + (1 : Int))) * (x_k + (1 : Int)))) + x_k) * ((((x_cell % ((10 : Int) ^ Int.toNat (40 : Int))) * (48271 : Int)) + ((((3 : Int) ^ Int.toNat (60 : Int)) * (x_k + (1 : Int))) * (x_k + (1 : Int)))) + x_k)) + ((69621 : Int) * ((((x_cell % ((10 : Int) ^ Int.toNat (40 : Int))) * (48271 : Int)) + ((((3 : Int) ^ Int.toNat (60 : Int)) * (x_k + (1 : Int))) * (x_k + (1 : Int)))) + x_k))))], rfl, _, rfl, _, rfl, _, _, rfl, rfl, c11, _, _, rfl, rfl, (by decide), _, _, rfl, rfl, _, _, rfl, rfl, c12, _, _, rfl, rfl, c13, ?_⟩
    exact hk _ _  O.g 
abbrev s_law_deck : Stmt := top 24
theorem sc_law_deck : FnScope ["cell"] ["cell"] (defScope s_law_deck) := ⟨rfl, rfl, rfl, by decide +kernel, rfl, by decide +kernel, by decide +kernel⟩
def m_law_deck (x_cell : Int) : M ((List Int)) :=
if ((10 : Int) ^ Int.toNat (18 : Int)) ≤ x_cell then (
.ok ([(x_cell - ((10 : Int) ^ Int.toNat (18 : Int)))]))
else (
m_law_stir x_cell (1 : Int) >>= fun r9 =>
chk (CMulW r9 ((10 : Int) ^ Int.toNat (60 : Int))) >>= fun _ =>
m_law_stir x_cell (2 : Int) >>= fun r16 =>
chk (CMulW ((r9 * ((10 : Int) ^ Int.toNat (60 : Int))) + r16) ((10 : Int) ^ Int.toNat (60 : Int))) >>= fun _ =>
m_law_stir x_cell (3 : Int) >>= fun r23 =>
.ok ([((((r9 * ((10 : Int) ^ Int.toNat (60 : Int))) + r16) * ((10 : Int) ^ Int.toNat (60 : Int))) + r23)]))
def sp_law_deck (mg : Str → Option Value) : Sp := fun vs H Q E => ∃ (F : Hp) (x_cell : Int), vs = [V.int x_cell] ∧ Pre F [] H ∧
  wp (m_law_deck x_cell) (fun r => ∀ (F' H' : Hp), Gr [] F H F' H' → ∀ (p : Addr) (w : (List V)), H p = none → F' p = none → H' p = some (.lst w) → RL (a := Int) F' w r → Q (.ref p) H')
  (fun n => ∀ (C : Addr) (H' : Hp), mg (Str.ofString n) = some (.ref C) → Kp [] H H' → E (.ref C) none H')
set_option maxHeartbeats 20000000 in
theorem ok_law_deck (nb : Nb mg) (C_law_stir : Ca P w K mg base "_law_stir" 1 ["cell", "k"] (sp_law_stir mg)) (D : Df K mg "_law_deck" "_law_deck" s_law_deck ["cell"]) : Ca P w K mg base "_law_deck" 2 ["cell"] (sp_law_deck mg) := by
  obtain ⟨fa_law_stir, fd_law_stir, G_law_stir, M_law_stir, K_law_stir, B_law_stir⟩ := C_law_stir.ex
  refine Ca.mk' D sc_law_deck (fun vs H Q E h => ?_) (fun q_ f_ cdv A outer s H vs Q E hr h => ?_)
  · obtain ⟨F, _, rfl, _⟩ := h
    rfl
  · obtain ⟨F, x_cell, rfl, P0, hk⟩ := h
    have nd := sc_law_deck.nd
    have hu64 := hr.units
    have hu128 := hu128_of hr
    have O := P0.start
    refine ⟨_, (pss_cons (ps_if (pt_cmpR op_ge (pv 0) (pe_op op_pow pe_int pe_int) (nomark _)) (pss_one (ps_ret (pe_lst (pa_cons (pe_op op_sub (pv 0) (pe_op op_pow pe_int pe_int)) pa_nil)))) pss_nil)
  (pss_one (ps_ret (pe_lst (pa_cons (pe_op op_add (pe_op op_mulW (pe_op op_add (pe_op op_mulW (pe_call G_law_stir (hr.mono (by decide)) rfl M_law_stir K_law_stir B_law_stir .nil (passes_call (takes_of rfl rfl rfl rfl) fun _ _ _ _ h => h) (pa_cons (pv 0) (pa_cons pe_int pa_nil))) (pe_op op_pow pe_int pe_int)) (pe_call G_law_stir (hr.mono (by decide)) rfl M_law_stir K_law_stir B_law_stir .nil (passes_call (takes_of rfl rfl rfl rfl) fun _ _ _ _ h => h) (pa_cons (pv 0) (pa_cons pe_int pa_nil)))) (pe_op op_pow pe_int pe_int)) (pe_call G_law_stir (hr.mono (by decide)) rfl M_law_stir K_law_stir B_law_stir .nil (passes_call (takes_of rfl rfl rfl rfl) fun _ _ _ _ h => h) (pa_cons (pv 0) (pa_cons pe_int pa_nil)))) pa_nil))))), ?_⟩
    refine ⟨_, rfl, _, _, rfl, rfl, (by decide), _, _, rfl, rfl, _, rfl, ?_⟩
    refine iteD (fun q1 => ?_) (fun q1 => ?_)
    · have hk := wp_if hk q1
      refine ⟨_, rfl, _, _, rfl, rfl, (by decide), _, _, rfl, rfl, (by show 1 ≤ sizeLine; decide), fun p3 hp4 => ?_⟩
      have hl6 : RL (a := Int) F ([V.int (x_cell - ((10 : Int) ^ Int.toNat (18 : Int)))]) ([(x_cell - ((10 : Int) ^ Int.toNat (18 : Int)))]) := RL.cons R.int RL.nil
      have z7 := O.was hp4
      have O5 := O.new (o := .lst ([V.int (x_cell - ((10 : Int) ^ Int.toNat (18 : Int)))])) hp4
      exact hk _ _  O5.g  _ _ z7 (O5.cf _ (List.mem_of_getElem? (i := 0) rfl)) (O5.at 0 rfl) hl6
    · have hk := wp_el hk q1
      refine ⟨_, rfl, _, _, _, rfl, O.pre0, wp_call hk (fun r9 er10 hk F11 H12 g13 => ?_) (fun n hn C H1 hC kp => hn C H1 hC (O.kp0 kp))⟩
      have O14 := O.call0 g13
      obtain ⟨c15, hk⟩ := wp_chk hk
      refine ⟨_, _, rfl, rfl, (by decide), _, _, rfl, rfl, c15, _, rfl, _, _, _, rfl, O14.pre0, wp_call hk (fun r16 er17 hk F18 H19 g20 => ?_) (fun n hn C H1 hC kp => hn C H1 hC (O14.kp0 kp))⟩
      have O21 := O14.call0 g20
      obtain ⟨c22, hk⟩ := wp_chk hk
      refine ⟨_, _, rfl, rfl, _, _, rfl, rfl, (by decide), _, _, rfl, rfl, c22, _, rfl, _, _, _, rfl, O21.pre0, wp_call hk (fun r23 er24 hk F25 H26 g27 => ?_) (fun n hn C H1 hC kp => hn C H1 hC (O21.kp0 kp))⟩
      have O28 := O21.call0 g27
      refine ⟨_, _, rfl, rfl, (by show 1 ≤ sizeLine; decide), fun p29 hp30 => ?_⟩
      have hl32 : RL (a := Int) F25 ([V.int ((((r9 * ((10 : Int) ^ Int.toNat (60 : Int))) + r16) * ((10 : Int) ^ Int.toNat (60 : Int))) + r23)]) ([((((r9 * ((10 : Int) ^ Int.toNat (60 : Int))) + r16) * ((10 : Int) ^ Int.toNat (60 : Int))) + r23)]) := RL.cons R.int RL.nil
      have z33 := O28.was hp30
      have O31 := O28.new (o := .lst ([V.int ((((r9 * ((10 : Int) ^ Int.toNat (60 : Int))) + r16) * ((10 : Int) ^ Int.toNat (60 : Int))) + r23)])) hp30
      exact hk _ _  O31.g  _ _ z33 (O31.cf _ (List.mem_of_getElem? (i := 0) rfl)) (O31.at 0 rfl) hl32
abbrev s_law_take : Stmt := top 25
theorem sc_law_take : FnScope ["deck", "many", "taken"] ["deck", "many"] (defScope s_law_take) := ⟨rfl, rfl, rfl, by decide +kernel, rfl, by decide +kernel, by decide +kernel⟩
def m_law_take (x_deck : (List Int)) (x_many : Int) : M (Int × (List Int)) :=
opt (atI x_deck (0 : Int)) >>= fun y1 =>
chk (0 < x_many) >>= fun _ =>
opt (atI x_deck (0 : Int)) >>= fun y7 =>
chk (CDivW y7 x_many) >>= fun _ =>
setI x_deck (0 : Int) (y7 / x_many) >>= fun z15 =>
.ok ((y1 % x_many), z15)
def sp_law_take (mg : Str → Option Value) : Sp := fun vs H Q E => ∃ (F : Hp) (a_deck : Addr) (w_deck : (List V)) (x_deck : (List Int)) (x_many : Int), vs = [.ref a_deck, V.int x_many] ∧ Pre F [(a_deck, .lst w_deck)] H ∧ RL (a := Int) F w_deck x_deck ∧
  wp (m_law_take x_deck x_many) (fun r => ∀ (F' H' : Hp) (w0 : (List V)), Gr [a_deck] F H F' H' → H' a_deck = some (.lst w0) → RL (a := Int) F' w0 r.2 → Q (V.int r.1) H')
  (fun n => ∀ (C : Addr) (H' : Hp), mg (Str.ofString n) = some (.ref C) → Kp [a_deck] H H' → E (.ref C) none H')
set_option maxHeartbeats 20000000 in
theorem ok_law_take (nb : Nb mg) (D : Df K mg "_law_take" "_law_take" s_law_take ["deck", "many"]) : Ca P w K mg base "_law_take" 1 ["deck", "many"] (sp_law_take mg) := by
  refine Ca.mk' D sc_law_take (fun vs H Q E h => ?_) (fun q_ f_ cdv A outer s H vs Q E hr h => ?_)
  · obtain ⟨F, _, _, _, _, rfl, _⟩ := h
    rfl
  · obtain ⟨F, a_deck, w_deck, x_deck, x_many, rfl, P0, f_deck, hk⟩ := h
    have nd := sc_law_take.nd
    have hu64 := hr.units
    have hu128 := hu128_of hr
    have O := P0.start
    refine ⟨_, (pss_cons (ps_toN (ps_set (i := 2) nd rfl (Or.inl rfl) (pe_op op_mod (pe_ix (ixListK (K := K) rfl) (pv 0) pe_int (fun _ _ => rfl)) (pv 1))))
  (pss_cons (ps_asg (pe_op op_fdivW (pe_ix (ixListK (K := K) rfl) (pv 0) pe_int (fun _ _ => rfl)) (pv 1)) (pg_sub (pv 0) pe_int set_list))
  (pss_one (ps_ret (pv 2))))), ?_⟩
    obtain ⟨y1, e2, hk⟩ := wp_opt hk
    obtain ⟨w3, e4, r5⟩ := f_deck.atI e2
    obtain rfl := R.int_ r5
    obtain ⟨c6, hk⟩ := wp_chk hk
    obtain ⟨y7, e8, hk⟩ := wp_opt hk
    obtain ⟨w9, e10, r11⟩ := f_deck.atI e8
    obtain rfl := R.int_ r11
    obtain ⟨c12, hk⟩ := wp_chk hk
    obtain ⟨j13, e14, hk⟩ := wp_setI hk
    refine ⟨_, rfl, _, _, _, _, rfl, rfl, (SqL.of (O.at 0 rfl)), e4, _, rfl, _, _, rfl, rfl, c6, [some (V.ref a_deck), some (V.int x_many), some (V.int (y1 % x_many))], rfl, _, rfl, _, _, _, _, rfl, rfl, (SqL.of (O.at 0 rfl)), e10, _, rfl, _, _, rfl, rfl, c12, _, rfl, _, _, _, _, rfl, rfl, (O.at 0 rfl), (by rw [f_deck.len]; exact e14), ?_⟩
    have O16 := O.set 0 (.lst (w_deck.set j13 (V.int (y7 / x_many)))) rfl
    have hl17 : RL (a := Int) F (w_deck.set j13 (V.int (y7 / x_many))) (x_deck.set j13 (y7 / x_many)) := RL.set j13 f_deck R.int
    refine ⟨_, rfl, ?_⟩
    exact hk _ _ (w_deck.set j13 (V.int (y7 / x_many))) O16.g (O16.at 0 rfl) hl17
abbrev s_law_whole : Stmt := top 26
theorem sc_law_whole : FnScope ["found"] ["found"] (defScope s_law_whole) := ⟨rfl, rfl, rfl, by decide +kernel, rfl, by decide +kernel, by decide +kernel⟩
def m_law_whole (x_found : Int) : M (Bool) :=
.ok true
def sp_law_whole (mg : Str → Option Value) : Sp := fun vs H Q E => ∃ (F : Hp) (x_found : Int), vs = [V.int x_found] ∧ Pre F [] H ∧
  wp (m_law_whole x_found) (fun r => ∀ (F' H' : Hp), Gr [] F H F' H' → Q (V.bl r) H')
  (fun n => ∀ (C : Addr) (H' : Hp), mg (Str.ofString n) = some (.ref C) → Kp [] H H' → E (.ref C) none H')
set_option maxHeartbeats 20000000 in
theorem ok_law_whole (nb : Nb mg) (D : Df K mg "_law_whole" "_law_whole" s_law_whole ["found"]) : Ca P w K mg base "_law_whole" 1 ["found"] (sp_law_whole mg) := by
  refine Ca.mk' D sc_law_whole (fun vs H Q E h => ?_) (fun q_ f_ cdv A outer s H vs Q E hr h => ?_)
  · obtain ⟨F, _, rfl, _⟩ := h
    rfl
  · obtain ⟨F, x_found, rfl, P0, hk⟩ := h
    have nd := sc_law_whole.nd
    have hu64 := hr.units
    have hu128 := hu128_of hr
    have O := P0.start
    refine ⟨_, (pss_one (ps_ret (pe_and (pe_callB (isiK (K := K) rfl) (by rfl) nb.b_isinstance (by decide +kernel) (pa_cons (pv 0) (pa_cons (pe_bltn (v := .ty "int") (by rfl) nb.b_int (by decide +kernel) rfl) pa_nil))) (pe_one (pe_not (pe_callB (isiK (K := K) rfl) (by rfl) nb.b_isinstance (by decide +kernel) (pa_cons (pv 0) (pa_cons (pe_bltn (v := .ty "bool") (by rfl) nb.b_bool (by decide +kernel) rfl) pa_nil)))))))), ?_⟩
    refine ⟨_, rfl, _, _, _, _, true, rfl, .ty _, (.base (.int _)), kit_ty (by decide +kernel), _, rfl, ?_⟩
    refine iteT ?_
    refine ⟨_, rfl, _, _, _, _, false, rfl, .ty _, (.base (.int _)), kit_ty (by decide +kernel), _, rfl, ?_⟩
    exact hk _ _  O.g 
abbrev s_law_are_whole : Stmt := top 27
theorem sc_law_are_whole : FnScope ["found", "one"] ["found"] (defScope s_law_are_whole) := ⟨rfl, rfl, rfl, by decide +kernel, rfl, by decide +kernel, by decide +kernel⟩
def m_law_are_whole (x_found : (List Int)) : M (Bool) :=
compS (fun (y11 : Int) (st28 : Unit) =>
m_law_whole y11 >>= fun r34 =>
if r34 = true then (
.ok (none, ()))
else (
.ok (some y11, ()))) x_found () >>= fun q52 =>
.ok (decide (q52.1 = ([] : List Int)))
def sp_law_are_whole (mg : Str → Option Value) : Sp := fun vs H Q E => ∃ (F : Hp) (v_found : V) (x_found : (List Int)), vs = [v_found] ∧ Pre F [] H ∧ R (a := (List Int)) F v_found x_found ∧
  wp (m_law_are_whole x_found) (fun r => ∀ (F' H' : Hp), Gr [] F H F' H' → Q (V.bl r) H')
  (fun n => ∀ (C : Addr) (H' : Hp), mg (Str.ofString n) = some (.ref C) → Kp [] H H' → E (.ref C) none H')
set_option maxHeartbeats 20000000 in
theorem ok_law_are_whole (nb : Nb mg) (C_law_whole : Ca P w K mg base "_law_whole" 1 ["found"] (sp_law_whole mg)) (D : Df K mg "_law_are_whole" "_law_are_whole" s_law_are_whole ["found"]) : Ca P w K mg base "_law_are_whole" 2 ["found"] (sp_law_are_whole mg) := by
  obtain ⟨fa_law_whole, fd_law_whole, G_law_whole, M_law_whole, K_law_whole, B_law_whole⟩ := C_law_whole.ex
  refine Ca.mk' D sc_law_are_whole (fun vs H Q E h => ?_) (fun q_ f_ cdv A outer s H vs Q E hr h => ?_)
  · obtain ⟨F, _, _, rfl, _⟩ := h
    rfl
  · obtain ⟨F, v_found, x_found, rfl, P0, f_found, hk⟩ := h
    have nd := sc_law_are_whole.nd
    have hu64 := hr.units
    have hu128 := hu128_of hr
    have O := P0.start
    refine ⟨_, (pss_one (ps_ret (pe_and (pe_callB (isiK (K := K) rfl) (by rfl) nb.b_isinstance (by decide +kernel) (pa_cons (pv 0) (pa_cons (pe_bltn (v := .ty "list") (by rfl) nb.b_list (by decide +kernel) rfl) pa_nil))) (pe_one (pe_cmpR (op_eqT (List Int) hu64) (pe_lc (own := [("one", 1)]) (g := gName 1) (tt := _) rfl nd (piListK (K := K) rfl (pv 0)) (blkOk_by (own := [("one", 1)]) (N := ["found", "one"]) (sc := defScope s_law_are_whole) (by decide +kernel)) (fun _ _ _ _ _ => (pg_name (i := 1) nd rfl (Or.inl rfl))) (fun _ _ _ _ _ => (pts_one (pt_not (pt_val (pe_call G_law_whole (hr.mono (by decide)) rfl M_law_whole K_law_whole B_law_whole .nil passL (pa_cons (pv 1) pa_nil)))))) (fun _ _ _ _ _ => (pv 1))) (pe_lst pa_nil) (nomark _)))))), ?_⟩
    obtain ⟨p1, w2, e3, h4, hl5⟩ := R.lst_ f_found
    cases e3
    refine ⟨_, rfl, _, _, _, _, true, rfl, .ty _, (.base (.lst (O.s _ _ h4))), kit_ty (by decide +kernel), _, rfl, ?_⟩
    refine iteT ?_
    obtain ⟨p6, w7, e8, h9, hl10⟩ := R.lst_ f_found
    cases e8
    obtain ⟨c16, L12, hL13, hLs14, hLd15⟩ := compS_L hk
    refine ⟨_, rfl, _, rfl, ⟨_, (SqLF O.s h9)⟩, fun p17 hp18 => ?_⟩
    have z41 := O.was hp18
    refine lc_list (K := K) (xs := w7) (fun i H => ∃ (F_ : Hp) (st : Unit) (acc : List Int) (wa : List V), Same F F_ ∧ Ow _ F_ [(p17, .lst wa)] H ∧ RL F_ wa acc ∧ wa.length ≤ i ∧ L12 (List.drop i x_found) acc st) ⟨F, (), [], [], Same.refl _, O.new hp18, RL.nil, Nat.zero_le _, hL13⟩ (fun i_ H_ _ hp_ => ?_) ?_ ?_
    · obtain ⟨_, _, _, _, hS_, hO_, _⟩ := hp_
      exact SqLF hO_.s (hS_ _ _ h9)
    · rintro i19 x20 H21 hi22 ⟨F27, st28, acc24, wa25, S29, O31, hl30, la26, hL13⟩
      have hl10 := hl10.mono S29
      obtain ⟨y11, e32, r33⟩ := RL.got hl10 hi22
      rw [drop_at e32] at hL13
      have hk := hLs14 _ _ _ _ hL13
      obtain rfl := R.int_ r33
      refine ⟨rfl, _, rfl, _, _, rfl, O31.pre0, wp_call hk (fun r34 er35 hk F36 H37 g38 => ?_) (fun n hn => hn.elim)⟩
      have O39 := O31.call0 g38
      have S_ := g38.f
      have hl10 := hl10.mono S_
      have S29 := S29.trans S_
      have hl30 := hl30.mono S_
      refine ⟨_, rfl, ?_⟩
      refine iteBN (fun q40 => ?_) (fun q40 => ?_)
      · have hk := wp_if hk q40
        exact ⟨F36, (), acc24, wa25, S29, O39, hl30, Nat.le_succ_of_le la26, hk⟩
      · have hk := wp_el hk q40
        refine ⟨_, rfl, _, (O39.at 0 rfl), (comp_len la26 hi22 hl10.len c16), ?_⟩
        exact ⟨F36, (), acc24 ++ [y11], wa25 ++ [V.int y11], S29, O39.set 0 (.lst (wa25 ++ [V.int y11])) rfl, RL.snoc hl30 R.int, by rw [List.length_append]; exact Nat.succ_le_succ la26, hk⟩
    rintro H42 ⟨F43, st44, acc45, wa46, S47, O48, hl49, la50, hL51⟩
    rw [drop_end hl10.len] at hL51
    have hk := hLd15 _ _ hL51
    obtain ⟨F53, O54, S55, h56⟩ := O48.frzE 0 rfl z41
    have hl49 := hl49.mono S55
    have h57 := R.lst (a := Int) h56 hl49
    refine ⟨(by show 0 ≤ sizeLine; decide), fun p58 hp59 => ?_⟩
    have hl65 : RL (a := Int) F53 ([]) ([] : List Int) := RL.nil
    obtain ⟨F60, O61, S62, h63⟩ := O54.putE hp59 (.lst ([]))
    have h57 := h57.mono S62
    have hl65 := hl65.mono S62
    have h64 := R.lst (a := Int) h63 hl65
    refine ⟨_, _, (R.mono h57 O61.s), (R.mono h64 O61.s), ?_⟩
    exact hk _ _  O61.g 
abbrev s_law_number : Stmt := top 29
theorem sc_law_number : FnScope ["deck", "far"] ["deck", "far"] (defScope s_law_number) := ⟨rfl, rfl, rfl, by decide +kernel, rfl, by decide +kernel, by decide +kernel⟩
def m_law_number (x_deck : (List Int)) (x_far : Int) : M (Int × (List Int)) :=
chk (CMulW (2 : Int) x_far) >>= fun _ =>
m_law_take x_deck (((2 : Int) * x_far) + (1 : Int)) >>= fun r2 =>
.ok ((r2.1 - x_far), r2.2)
def sp_law_number (mg : Str → Option Value) : Sp := fun vs H Q E => ∃ (F : Hp) (a_deck : Addr) (w_deck : (List V)) (x_deck : (List Int)) (x_far : Int), vs = [.ref a_deck, V.int x_far] ∧ Pre F [(a_deck, .lst w_deck)] H ∧ RL (a := Int) F w_deck x_deck ∧
  wp (m_law_number x_deck x_far) (fun r => ∀ (F' H' : Hp) (w0 : (List V)), Gr [a_deck] F H F' H' → H' a_deck = some (.lst w0) → RL (a := Int) F' w0 r.2 → Q (V.int r.1) H')
  (fun n => ∀ (C : Addr) (H' : Hp), mg (Str.ofString n) = some (.ref C) → Kp [a_deck] H H' → E (.ref C) none H')
set_option maxHeartbeats 20000000 in
theorem ok_law_number (nb : Nb mg) (C_law_take : Ca P w K mg base "_law_take" 1 ["deck", "many"] (sp_law_take mg)) (D : Df K mg "_law_number" "_law_number" s_law_number ["deck", "far"]) : Ca P w K mg base "_law_number" 2 ["deck", "far"] (sp_law_number mg) := by
  obtain ⟨fa_law_take, fd_law_take, G_law_take, M_law_take, K_law_take, B_law_take⟩ := C_law_take.ex
  refine Ca.mk' D sc_law_number (fun vs H Q E h => ?_) (fun q_ f_ cdv A outer s H vs Q E hr h => ?_)
  · obtain ⟨F, _, _, _, _, rfl, _⟩ := h
    rfl
  · obtain ⟨F, a_deck, w_deck, x_deck, x_far, rfl, P0, f_deck, hk⟩ := h
    have nd := sc_law_number.nd
    have hu64 := hr.units
    have hu128 := hu128_of hr
    have O := P0.start
    refine ⟨_, (pss_one (ps_ret (pe_op op_sub (pe_call G_law_take (hr.mono (by decide)) rfl M_law_take K_law_take B_law_take .nil (passes_call (takes_of rfl rfl rfl rfl) fun _ _ _ _ h => h) (pa_cons (pv 0) (pa_cons (pe_op op_add (pe_op op_mulW pe_int (pv 1)) pe_int) pa_nil))) (pv 1)))), ?_⟩
    obtain ⟨c1, hk⟩ := wp_chk hk
    refine ⟨_, rfl, _, rfl, _, _, rfl, rfl, c1, _, _, rfl, rfl, _, _, _, _, _, rfl, (O.pre1 0 rfl), f_deck, wp_call hk (fun r2 er3 hk F4 H5 w7 g6 h8 hl9 => ?_) (fun n hn C H1 hC kp => hn C H1 hC (O.kp1 kp 0 rfl))⟩
    have O10 := O.call1 g6 0 rfl h8
    refine ⟨_, rfl, _, _, rfl, rfl, ?_⟩
    exact hk _ _ w7 O10.g (O10.at 0 rfl) hl9
abbrev s_law_order : Stmt := top 30
theorem sc_law_order : FnScope ["deck", "many", "left", "found", "k"] ["deck", "many"] (defScope s_law_order) := ⟨rfl, rfl, rfl, by decide +kernel, rfl, by decide +kernel, by decide +kernel⟩
def m_law_order (x_deck : (List Int)) (x_many : Int) : M ((List Int) × (List Int)) :=
chk (okR x_many) >>= fun _ =>
chk (okR x_many) >>= fun _ =>
loopN (fun (y14 : Int) (st26 : (List Int) × (List Int) × (List Int)) =>
m_law_take st26.2.2 (st26.2.1.length : Int) >>= fun r36 =>
popI st26.2.1 r36.1 >>= fun t54 =>
appL st26.1 t54.1 >>= fun _ =>
.ok ((st26.1 ++ [t54.1]), t54.2, r36.2)) (rangeL 0 x_many) (([] : List Int), (rangeL 0 x_many), x_deck) >>= fun st64 =>
.ok (st64.1, st64.2.2)
def sp_law_order (mg : Str → Option Value) : Sp := fun vs H Q E => ∃ (F : Hp) (a_deck : Addr) (w_deck : (List V)) (x_deck : (List Int)) (x_many : Int), vs = [.ref a_deck, V.int x_many] ∧ Pre F [(a_deck, .lst w_deck)] H ∧ RL (a := Int) F w_deck x_deck ∧
  wp (m_law_order x_deck x_many) (fun r => ∀ (F' H' : Hp) (w0 : (List V)), Gr [a_deck] F H F' H' → H' a_deck = some (.lst w0) → RL (a := Int) F' w0 r.2 → ∀ (p : Addr) (w : (List V)), H p = none → F' p = none → H' p = some (.lst w) → RL (a := Int) F' w r.1 → Q (.ref p) H')
  (fun n => ∀ (C : Addr) (H' : Hp), mg (Str.ofString n) = some (.ref C) → Kp [a_deck] H H' → E (.ref C) none H')
set_option maxHeartbeats 20000000 in
theorem ok_law_order (nb : Nb mg) (C_law_take : Ca P w K mg base "_law_take" 1 ["deck", "many"] (sp_law_take mg)) (D : Df K mg "_law_order" "_law_order" s_law_order ["deck", "many"]) : Ca P w K mg base "_law_order" 2 ["deck", "many"] (sp_law_order mg) := by
  obtain ⟨fa_law_take, fd_law_take, G_law_take, M_law_take, K_law_take, B_law_take⟩ := C_law_take.ex
  refine Ca.mk' D sc_law_order (fun vs H Q E h => ?_) (fun q_ f_ cdv A outer s H vs Q E hr h => ?_)
  · obtain ⟨F, _, _, _, _, rfl, _⟩ := h
    rfl
  · obtain ⟨F, a_deck, w_deck, x_deck, x_many, rfl, P0, f_deck, hk⟩ := h
    have nd := sc_law_order.nd
    have hu64 := hr.units
    have hu128 := hu128_of hr
    have O := P0.start
    refine ⟨_, (pss_cons (ps_toN (ps_set (i := 2) nd rfl (Or.inl rfl) (pe_listRg rfl (by rfl) nb.b_list (prg_1 (by rfl) nb.b_range (pv 1)))))
  (pss_cons (ps_toN (ps_set (i := 3) nd rfl (Or.inl rfl) (pe_lst pa_nil)))
  (pss_cons (ps_for (passes_of rfl) rfl (pi_range1 rfl nb.b_range (pa_cons (pv 1) pa_nil)) (pg_name (i := 4) nd rfl (Or.inl rfl)) (pss_one (ps_expr (bmK (K := K) rfl (pe_bm PySem.F.plainAttrs_list PySem.F.slot_list_append PySem.F.type_list_append mt_append (pv 3) (pa_cons (bmK (K := K) rfl (pe_bm PySem.F.plainAttrs_list PySem.F.slot_list_pop PySem.F.type_list_pop mt_popAt (pv 2) (pa_cons (pe_call G_law_take (hr.mono (by decide)) rfl M_law_take K_law_take B_law_take .nil (passes_call (takes_of rfl rfl rfl rfl) fun _ _ _ _ h => h) (pa_cons (pv 0) (pa_cons (pe_callB call_lenT (by rfl) nb.b_len PySem.boot_len (pa_cons (pv 2) pa_nil)) pa_nil))) pa_nil))) pa_nil))))))
  (pss_one (ps_ret (pv 3)))))), ?_⟩
    obtain ⟨c2, hk⟩ := wp_chk hk
    refine ⟨_, rfl, _, rfl, c2.rg1, fun p3 hp4 => ?_⟩
    have hl6 : RL (a := Int) F (rgV 0 x_many) (rangeL 0 x_many) := RL.rg
    have O5 := O.new (o := .lst (rgV 0 x_many)) hp4
    refine ⟨[some (V.ref a_deck), some (V.int x_many), some (V.ref p3), none, none], rfl, (by show 0 ≤ sizeLine; decide), fun p9 hp10 => ?_⟩
    have hl12 : RL (a := Int) F ([]) ([] : List Int) := RL.nil
    have z13 := O5.was hp10
    have O11 := O5.new (o := .lst ([])) hp10
    obtain ⟨c15, hk⟩ := wp_chk hk
    obtain ⟨L16, hL17, hLs18, hLd19⟩ := loopN_L hk
    refine ⟨[some (V.ref a_deck), some (V.int x_many), some (V.ref p3), some (V.ref p9), none], rfl, _, rfl, _, rfl, c15.lo, c15.hi, ?_⟩
    refine for_range (lo := 0) (n := (x_many).toNat) (fun i σ H_ => ∃ (F_ : Hp) (st : (List Int) × (List Int) × (List Int)) (w_0 : (List V)) (w_1 : (List V)) (w_2 : (List V)) (t_0 : Option V), σ = [some (V.ref a_deck), some (V.int x_many), some (V.ref p3), some (V.ref p9), t_0] ∧ Same F F_ ∧ Ow _ F_ [(p9, .lst w_0), (p3, .lst w_1), (a_deck, .lst w_2)] H_ ∧ RL (a := Int) F_ w_0 st.1 ∧ RL (a := Int) F_ w_1 st.2.1 ∧ RL (a := Int) F_ w_2 st.2.2 ∧ L16 (List.drop i (rangeL 0 x_many)) st) ⟨F, (([] : List Int), (rangeL 0 x_many), x_deck), [], (rgV 0 x_many), w_deck, none, rfl, Same.refl _, O11, hl12, hl6, f_deck, hL17⟩ ?_ ?_
    · rintro i20 sg22 H23 hi24 ⟨F34, st26, w27, w28, w29, t33, rfl, S25, O35, hl30, hl31, hl32, hL17⟩
      rw [rangeL_get0 hi24] at hL17
      have hk := hLs18 _ _ _ hL17
      obtain ⟨y14, he_⟩ : ∃ z_, z_ = 0 + (i20 : Int) := ⟨_, rfl⟩
      try rw [← he_] at hk
      rw [← he_]
      refine ⟨_, rfl, (.inl ⟨rfl, _, SqL.of (O35.at 0 rfl)⟩), _, rfl, (.inl ⟨rfl, _, SqL.of (O35.at 1 rfl)⟩), _, rfl, _, rfl, _, _, _, rfl, (.inl (O35.at 1 rfl)), hl31.len, _, _, _, _, _, rfl, (O35.pre1 2 rfl), hl32, wp_call hk (fun r36 er37 hk F38 H39 w41 g40 h42 hl43 => ?_) (fun n hn C H1 hC kp => hn C H1 hC (O35.kp1 kp 2 rfl))⟩
      have O44 := O35.call1 g40 2 rfl h42
      have S_ := g40.f
      have hl30 := hl30.mono S_
      have hl31 := hl31.mono S_
      have S25 := S25.trans S_
      obtain ⟨j45, y46, e47, c48, c49, e50, hk⟩ := wp_popI hk
      obtain ⟨w51, e52, r53⟩ := hl31.get e50
      refine ⟨_, _, _, _, _, rfl, rfl, (O44.at 1 rfl), c48, c49, (by rw [hl31.len]; exact e47), e52, ?_⟩
      obtain rfl := R.int_ r53
      have O55 := O44.set 1 (.lst (w28.eraseIdx j45)) rfl
      have hl56 : RL (a := Int) F38 (w28.eraseIdx j45) (st26.2.1.eraseIdx j45) := RL.erase j45 hl31
      obtain ⟨c57, hk⟩ := wp_appL hk
      refine ⟨_, _, _, rfl, rfl, (O55.at 0 rfl), (by rw [hl30.len]; exact c57), ?_⟩
      have O59 := O55.set 0 (.lst (w27 ++ [V.int y46])) rfl
      have hl60 : RL (a := Int) F38 (w27 ++ [V.int y46]) (st26.1 ++ [y46]) := RL.snoc hl30 R.int
      exact ⟨F38, ((st26.1 ++ [y46]), st26.2.1.eraseIdx j45, r36.2), (w27 ++ [V.int y46]), (w28.eraseIdx j45), w41, some (V.int y14), rfl, S25, O59, hl60, hl56, hl43, hk⟩
    rintro sg61 H62 ⟨F73, st64, w66, w67, w68, t72, rfl, S63, O74, hl69, hl70, hl71, hL65⟩
    rw [rangeL_end0] at hL65
    have hk := hLd19 _ hL65
    refine ⟨_, rfl, ?_⟩
    exact hk _ _ w68 O74.g (O74.at 2 rfl) hl71 _ _ z13 (O74.cf _ (List.mem_of_getElem? (i := 0) rfl)) (O74.at 0 rfl) hl69
abbrev s_law_tree : Stmt := top 31
theorem sc_law_tree : FnScope ["deck", "most", "far", "many", "order", "kind", "ties", "k", "at", "pair"] ["deck", "most", "far"] (defScope s_law_tree) := ⟨rfl, rfl, rfl, by decide +kernel, rfl, by decide +kernel, by decide +kernel⟩
def m_law_tree (x_deck : (List Int)) (x_most : Int) (x_far : Int) : M (((List Int) × (List (T3 Int Int Int))) × (List Int)) :=
m_law_take x_deck x_most >>= fun r1 =>
m_law_order r1.2 ((1 : Int) + r1.1) >>= fun r10 =>
m_law_take r10.2 (5 : Int) >>= fun r32 =>
chk (okR (1 : Int)) >>= fun _ =>
chk (okR ((1 : Int) + r1.1)) >>= fun _ =>
loopN (fun (y47 : Int) (st60 : (List Int) × (List (T3 Int Int Int))) =>
m_law_take st60.1 y47 >>= fun r70 =>
m_law_take r70.2 (3 : Int) >>= fun r79 =>
m_law_take r79.2 y47 >>= fun r88 =>
opt (atI ([r70.1, (y47 - (1 : Int)), (0 : Int), (if ((y47 - (1 : Int)) - r79.1) > (0 : Int) then ((y47 - (1 : Int)) - r79.1) else (0 : Int)), r88.1]) r32.1) >>= fun y110 =>
opt (atI r10.1 y47) >>= fun y120 =>
opt (atI r10.1 y110) >>= fun y130 =>
opt (atI (sortT ([y120, y130])) (0 : Int)) >>= fun y161 =>
opt (atI (sortT ([y120, y130])) (1 : Int)) >>= fun y171 =>
m_law_number r88.2 x_far >>= fun r176 =>
appL st60.2 (T3.mk y161 y171 r176.1) >>= fun _ =>
.ok (r176.2, (st60.2 ++ [(T3.mk y161 y171 r176.1)]))) (rangeL (1 : Int) ((1 : Int) + r1.1)) (r32.2, ([] : List (T3 Int Int Int))) >>= fun st199 =>
chk (okR ((1 : Int) + r1.1)) >>= fun _ =>
compS (fun (y210 : Int) (st228 : (List Int)) =>
m_law_number st228 x_far >>= fun r234 =>
.ok (some r234.1, r234.2)) (rangeL 0 ((1 : Int) + r1.1)) st199.1 >>= fun q256 =>
.ok ((q256.1, (sortT st199.2)), q256.2)
def sp_law_tree (mg : Str → Option Value) : Sp := fun vs H Q E => ∃ (F : Hp) (a_deck : Addr) (w_deck : (List V)) (x_deck : (List Int)) (x_most : Int) (x_far : Int), vs = [.ref a_deck, V.int x_most, V.int x_far] ∧ Pre F [(a_deck, .lst w_deck)] H ∧ RL (a := Int) F w_deck x_deck ∧
  wp (m_law_tree x_deck x_most x_far) (fun r => ∀ (F' H' : Hp) (w0 : (List V)), Gr [a_deck] F H F' H' → H' a_deck = some (.lst w0) → RL (a := Int) F' w0 r.2 → ∀ v : V, R (a := ((List Int) × (List (T3 Int Int Int)))) F' v r.1 → Q v H')
  (fun n => ∀ (C : Addr) (H' : Hp), mg (Str.ofString n) = some (.ref C) → Kp [a_deck] H H' → E (.ref C) none H')
set_option maxHeartbeats 20000000 in
theorem ok_law_tree (nb : Nb mg) (C_law_number : Ca P w K mg base "_law_number" 2 ["deck", "far"] (sp_law_number mg)) (C_law_order : Ca P w K mg base "_law_order" 2 ["deck", "many"] (sp_law_order mg)) (C_law_take : Ca P w K mg base "_law_take" 1 ["deck", "many"] (sp_law_take mg)) (D : Df K mg "_law_tree" "_law_tree" s_law_tree ["deck", "most", "far"]) : Ca P w K mg base "_law_tree" 3 ["deck", "most", "far"] (sp_law_tree mg) := by
  obtain ⟨fa_law_number, fd_law_number, G_law_number, M_law_number, K_law_number, B_law_number⟩ := C_law_number.ex
  obtain ⟨fa_law_order, fd_law_order, G_law_order, M_law_order, K_law_order, B_law_order⟩ := C_law_order.ex
  obtain ⟨fa_law_take, fd_law_take, G_law_take, M_law_take, K_law_take, B_law_take⟩ := C_law_take.ex
  refine Ca.mk' D sc_law_tree (fun vs H Q E h => ?_) (fun q_ f_ cdv A outer s H vs Q E hr h => ?_)
  · obtain ⟨F, _, _, _, _, _, rfl, _⟩ := h
    rfl
  · obtain ⟨F, a_deck, w_deck, x_deck, x_most, x_far, rfl, P0, f_deck, hk⟩ := h
    have nd := sc_law_tree.nd
    have hu64 := hr.units
    have hu128 := hu128_of hr
    have O := P0.start
    refine ⟨_, (pss_cons (ps_toN (ps_set (i := 3) nd rfl (Or.inl rfl) (pe_op op_add pe_int (pe_call G_law_take (hr.mono (by decide)) rfl M_law_take K_law_take B_law_take .nil (passes_call (takes_of rfl rfl rfl rfl) fun _ _ _ _ h => h) (pa_cons (pv 0) (pa_cons (pv 1) pa_nil))))))
  (pss_cons (ps_toN (ps_set (i := 4) nd rfl (Or.inl rfl) (pe_call G_law_order (hr.mono (by decide)) rfl M_law_order K_law_order B_law_order .nil (passes_call (takes_of rfl rfl rfl rfl) fun _ _ _ _ h => h) (pa_cons (pv 0) (pa_cons (pv 3) pa_nil)))))
  (pss_cons (ps_toN (ps_set (i := 5) nd rfl (Or.inl rfl) (pe_call G_law_take (hr.mono (by decide)) rfl M_law_take K_law_take B_law_take .nil (passes_call (takes_of rfl rfl rfl rfl) fun _ _ _ _ h => h) (pa_cons (pv 0) (pa_cons pe_int pa_nil)))))
  (pss_cons (ps_toN (ps_set (i := 6) nd rfl (Or.inl rfl) (pe_lst pa_nil)))
  (pss_cons (ps_for (passes_of rfl) rfl (pi_range2 rfl nb.b_range (pa_cons pe_int (pa_cons (pv 3) pa_nil))) (pg_name (i := 7) nd rfl (Or.inl rfl)) (pss_cons (ps_toN (ps_set (i := 8) nd rfl (Or.inl rfl) (pe_ix (ixListK (K := K) rfl) (pe_lst (pa_cons (pe_call G_law_take (hr.mono (by decide)) rfl M_law_take K_law_take B_law_take .nil (passes_call (takes_of rfl rfl rfl rfl) fun _ _ _ _ h => h) (pa_cons (pv 0) (pa_cons (pv 7) pa_nil))) (pa_cons (pe_op op_sub (pv 7) pe_int) (pa_cons pe_int (pa_cons (pe_callB (call_max2 rfl) (by rfl) nb.b_max (by decide +kernel) (pa_cons pe_int (pa_cons (pe_op op_sub (pe_op op_sub (pv 7) pe_int) (pe_call G_law_take (hr.mono (by decide)) rfl M_law_take K_law_take B_law_take .nil (passes_call (takes_of rfl rfl rfl rfl) fun _ _ _ _ h => h) (pa_cons (pv 0) (pa_cons pe_int pa_nil)))) pa_nil))) (pa_cons (pe_call G_law_take (hr.mono (by decide)) rfl M_law_take K_law_take B_law_take .nil (passes_call (takes_of rfl rfl rfl rfl) fun _ _ _ _ h => h) (pa_cons (pv 0) (pa_cons (pv 7) pa_nil))) pa_nil)))))) (pv 5) (fun _ _ => rfl))))
  (pss_cons (ps_toN (ps_set (i := 9) nd rfl (Or.inl rfl) (pe_callB (cr_sortedT Int hu128) (by rfl) nb.b_sorted (by decide +kernel) (pa_cons (pe_lst (pa_cons (pe_ix (ixListK (K := K) rfl) (pv 4) (pv 7) (fun _ _ => rfl)) (pa_cons (pe_ix (ixListK (K := K) rfl) (pv 4) (pv 8) (fun _ _ => rfl)) pa_nil))) pa_nil))))
  (pss_one (ps_expr (bmK (K := K) rfl (pe_bm PySem.F.plainAttrs_list PySem.F.slot_list_append PySem.F.type_list_append mt_append (pv 6) (pa_cons (pe_tup (pa_cons (pe_ix (ixListK (K := K) rfl) (pv 9) pe_int (fun _ _ => rfl)) (pa_cons (pe_ix (ixListK (K := K) rfl) (pv 9) pe_int (fun _ _ => rfl)) (pa_cons (pe_call G_law_number (hr.mono (by decide)) rfl M_law_number K_law_number B_law_number .nil (passes_call (takes_of rfl rfl rfl rfl) fun _ _ _ _ h => h) (pa_cons (pv 0) (pa_cons (pv 2) pa_nil))) pa_nil)))) pa_nil))))))))
  (pss_one (ps_ret (pe_tup (pa_cons (pe_lc (own := [("k", 7)]) (g := gName 7) (tt := _) rfl nd (pi_range1 rfl nb.b_range (pa_cons (pv 3) pa_nil)) (blkOk_by (own := [("k", 7)]) (N := ["deck", "most", "far", "many", "order", "kind", "ties", "k", "at", "pair"]) (sc := defScope s_law_tree) (by decide +kernel)) (fun _ _ _ _ _ => (pg_name (i := 7) nd rfl (Or.inl rfl))) (fun _ _ _ _ _ => pts_nil) (fun _ _ _ _ _ => (pe_call G_law_number (hr.mono (by decide)) rfl M_law_number K_law_number B_law_number .nil passL (pa_cons (pv 0) (pa_cons (pv 2) pa_nil))))) (pa_cons (pe_callB (cr_sortedT (T3 Int Int Int) hu128) (by rfl) nb.b_sorted (by decide +kernel) (pa_cons (pv 6) pa_nil)) pa_nil)))))))))), ?_⟩
    refine ⟨_, rfl, _, rfl, _, _, _, _, _, rfl, (O.pre1 0 rfl), f_deck, wp_call hk (fun r1 er2 hk F3 H4 w6 g5 h7 hl8 => ?_) (fun n hn C H1 hC kp => hn C H1 hC (O.kp1 kp 0 rfl))⟩
    have O9 := O.call1 g5 0 rfl h7
    have S_ := g5.f
    refine ⟨_, _, rfl, rfl, [some (V.ref a_deck), some (V.int x_most), some (V.int x_far), some (V.int ((1 : Int) + r1.1)), none, none, none, none, none, none], rfl, _, rfl, _, rfl, _, _, _, _, _, rfl, (O9.pre1 0 rfl), hl8, wp_call hk (fun r10 er11 hk F12 H13 w15 g14 h16 hl17 p18 w19 hn20 hf21 h22 hl23 => ?_) (fun n hn C H1 hC kp => hn C H1 hC (O9.kp1 kp 0 rfl))⟩
    have O24 := O9.call1 g14 0 rfl h16
    have S_ := g14.f
    have O25 := O9.got O24 rfl hn20 hf21 h22
    have z26 := O9.was hn20
    obtain ⟨F27, O28, S29, h30⟩ := O25.frzE 0 rfl z26
    have hl17 := hl17.mono S29
    have hl23 := hl23.mono S29
    have h31 := R.lst (a := Int) h30 hl23
    refine ⟨[some (V.ref a_deck), some (V.int x_most), some (V.int x_far), some (V.int ((1 : Int) + r1.1)), some (V.ref p18), none, none, none, none, none], rfl, _, rfl, _, _, _, _, _, rfl, (O28.pre1 0 rfl), hl17, wp_call hk (fun r32 er33 hk F34 H35 w37 g36 h38 hl39 => ?_) (fun n hn C H1 hC kp => hn C H1 hC (O28.kp1 kp 0 rfl))⟩
    have O40 := O28.call1 g36 0 rfl h38
    have S_ := g36.f
    have h31 := h31.mono S_
    refine ⟨[some (V.ref a_deck), some (V.int x_most), some (V.int x_far), some (V.int ((1 : Int) + r1.1)), some (V.ref p18), some (V.int r32.1), none, none, none, none], rfl, (by show 0 ≤ sizeLine; decide), fun p42 hp43 => ?_⟩
    have hl45 : RL (a := (T3 Int Int Int)) F34 ([]) ([] : List (T3 Int Int Int)) := RL.nil
    have O44 := O40.new (o := .lst ([])) hp43
    obtain ⟨c48, hk⟩ := wp_chk hk
    obtain ⟨c49, hk⟩ := wp_chk hk
    obtain ⟨L50, hL51, hLs52, hLd53⟩ := loopN_L hk
    refine ⟨[some (V.ref a_deck), some (V.int x_most), some (V.int x_far), some (V.int ((1 : Int) + r1.1)), some (V.ref p18), some (V.int r32.1), some (V.ref p42), none, none, none], rfl, _, rfl, _, _, rfl, ⟨c48.lo, c48.hi, c49.lo, c49.hi⟩, ?_⟩
    refine for_range (lo := (1 : Int)) (n := (((1 : Int) + r1.1) - (1 : Int)).toNat) (fun i σ H_ => ∃ (F_ : Hp) (st : (List Int) × (List (T3 Int Int Int))) (w_0 : (List V)) (w_1 : (List V)) (t_0 : Option V) (t_1 : Option V) (t_2 : Option V), σ = [some (V.ref a_deck), some (V.int x_most), some (V.int x_far), some (V.int ((1 : Int) + r1.1)), some (V.ref p18), some (V.int r32.1), some (V.ref p42), t_0, t_1, t_2] ∧ Same F34 F_ ∧ Ow _ F_ [(p42, .lst w_1), (a_deck, .lst w_0)] H_ ∧ RL (a := Int) F_ w_0 st.1 ∧ RL (a := (T3 Int Int Int)) F_ w_1 st.2 ∧ L50 (List.drop i (rangeL (1 : Int) ((1 : Int) + r1.1))) st) ⟨F34, (r32.2, ([] : List (T3 Int Int Int))), w37, [], none, none, none, rfl, Same.refl _, O44, hl39, hl45, hL51⟩ ?_ ?_
    · rintro i54 sg56 H57 hi58 ⟨F68, st60, w61, w62, t65, t66, t67, rfl, S59, O69, hl63, hl64, hL51⟩
      have h31 := h31.mono S59
      rw [rangeL_get hi58] at hL51
      have hk := hLs52 _ _ _ hL51
      obtain ⟨y47, he_⟩ : ∃ z_, z_ = (1 : Int) + (i54 : Int) := ⟨_, rfl⟩
      try rw [← he_] at hk
      rw [← he_]
      refine ⟨_, rfl, _, rfl, _, _, _, _, _, rfl, (O69.pre1 1 rfl), hl63, wp_call hk (fun r70 er71 hk F72 H73 w75 g74 h76 hl77 => ?_) (fun n hn C H1 hC kp => hn C H1 hC (O69.kp1 kp 1 rfl))⟩
      have O78 := O69.call1 g74 1 rfl h76
      have S_ := g74.f
      have h31 := h31.mono S_
      have hl64 := hl64.mono S_
      have S59 := S59.trans S_
      refine ⟨_, rfl, _, _, rfl, rfl, _, rfl, _, _, rfl, rfl, _, rfl, _, _, _, _, _, rfl, (O78.pre1 1 rfl), hl77, wp_call hk (fun r79 er80 hk F81 H82 w84 g83 h85 hl86 => ?_) (fun n hn C H1 hC kp => hn C H1 hC (O78.kp1 kp 1 rfl))⟩
      have O87 := O78.call1 g83 1 rfl h85
      have S_ := g83.f
      have h31 := h31.mono S_
      have hl64 := hl64.mono S_
      have S59 := S59.trans S_
      refine ⟨_, _, rfl, rfl, _, _, rfl, _, rfl, _, rfl, _, _, _, _, _, rfl, (O87.pre1 1 rfl), hl86, wp_call hk (fun r88 er89 hk F90 H91 w93 g92 h94 hl95 => ?_) (fun n hn C H1 hC kp => hn C H1 hC (O87.kp1 kp 1 rfl))⟩
      have O96 := O87.call1 g92 1 rfl h94
      have S_ := g92.f
      have h31 := h31.mono S_
      have hl64 := hl64.mono S_
      have S59 := S59.trans S_
      refine ⟨(by show 5 ≤ sizeLine; decide), fun p97 hp98 => ?_⟩
      have hl104 : RL (a := Int) F90 ([V.int r70.1, V.int (y47 - (1 : Int)), V.int (0 : Int), V.int (if ((y47 - (1 : Int)) - r79.1) > (0 : Int) then ((y47 - (1 : Int)) - r79.1) else (0 : Int)), V.int r88.1]) ([r70.1, (y47 - (1 : Int)), (0 : Int), (if ((y47 - (1 : Int)) - r79.1) > (0 : Int) then ((y47 - (1 : Int)) - r79.1) else (0 : Int)), r88.1]) := RL.cons R.int (RL.cons R.int (RL.cons R.int (RL.cons R.int (RL.cons R.int RL.nil))))
      obtain ⟨F99, O100, S101, h102⟩ := O96.putE hp98 (.lst ([V.int r70.1, V.int (y47 - (1 : Int)), V.int (0 : Int), V.int (if ((y47 - (1 : Int)) - r79.1) > (0 : Int) then ((y47 - (1 : Int)) - r79.1) else (0 : Int)), V.int r88.1]))
      have h31 := h31.mono S101
      have hl64 := hl64.mono S101
      have S59 := S59.trans S101
      have hl95 := hl95.mono S101
      have hl104 := hl104.mono S101
      have h103 := R.lst (a := Int) h102 hl104
      obtain ⟨p105, w106, e107, h108, hl109⟩ := R.lst_ h103
      cases e107
      obtain ⟨y110, e111, hk⟩ := wp_opt hk
      obtain ⟨w112, e113, r114⟩ := hl109.atI e111
      obtain rfl := R.int_ r114
      obtain ⟨p115, w116, e117, h118, hl119⟩ := R.lst_ h31
      cases e117
      obtain ⟨y120, e121, hk⟩ := wp_opt hk
      obtain ⟨w122, e123, r124⟩ := hl119.atI e121
      obtain rfl := R.int_ r124
      obtain ⟨p125, w126, e127, h128, hl129⟩ := R.lst_ h31
      cases e127
      obtain ⟨y130, e131, hk⟩ := wp_opt hk
      obtain ⟨w132, e133, r134⟩ := hl129.atI e131
      obtain rfl := R.int_ r134
      refine ⟨_, rfl, _, _, _, _, rfl, rfl, (SqLF O100.s h108), e113, [some (V.ref a_deck), some (V.int x_most), some (V.int x_far), some (V.int ((1 : Int) + r1.1)), some (V.ref p18), some (V.int r32.1), some (V.ref p42), some (V.int y47), some (V.int y110), t67], rfl, _, rfl, _, rfl, _, _, _, _, rfl, rfl, (SqLF O100.s h118), e123, _, rfl, _, rfl, _, _, _, _, rfl, rfl, (SqLF O100.s h128), e133, (by show 2 ≤ sizeLine; decide), fun p135 hp136 => ?_⟩
      have hl142 : RL (a := Int) F99 ([V.int y120, V.int y130]) ([y120, y130]) := RL.cons R.int (RL.cons R.int RL.nil)
      obtain ⟨F137, O138, S139, h140⟩ := O100.putE hp136 (.lst ([V.int y120, V.int y130]))
      have hl64 := hl64.mono S139
      have S59 := S59.trans S139
      have hl95 := hl95.mono S139
      have hl142 := hl142.mono S139
      have h141 := R.lst (a := Int) h140 hl142
      obtain ⟨p143, w144, e145, h146, hl147⟩ := R.lst_ h141
      cases e145
      refine ⟨_, _, _, rfl, (O138.s _ _ h146), (RL.mono hl147 O138.s), fun p148 hp149 => ?_⟩
      have hl155 : RL (a := Int) F137 (sortV w144 ([y120, y130])) (sortT ([y120, y130])) := (RL.sorted hl147)
      obtain ⟨F150, O151, S152, h153⟩ := O138.putE hp149 (.lst (sortV w144 ([y120, y130])))
      have hl64 := hl64.mono S152
      have S59 := S59.trans S152
      have hl95 := hl95.mono S152
      have hl155 := hl155.mono S152
      have h154 := R.lst (a := Int) h153 hl155
      obtain ⟨p156, w157, e158, h159, hl160⟩ := R.lst_ h154
      cases e158
      obtain ⟨y161, e162, hk⟩ := wp_opt hk
      obtain ⟨w163, e164, r165⟩ := hl160.atI e162
      obtain rfl := R.int_ r165
      obtain ⟨p166, w167, e168, h169, hl170⟩ := R.lst_ h154
      cases e168
      obtain ⟨y171, e172, hk⟩ := wp_opt hk
      obtain ⟨w173, e174, r175⟩ := hl170.atI e172
      obtain rfl := R.int_ r175
      refine ⟨[some (V.ref a_deck), some (V.int x_most), some (V.int x_far), some (V.int ((1 : Int) + r1.1)), some (V.ref p18), some (V.int r32.1), some (V.ref p42), some (V.int y47), some (V.int y110), some (V.ref p148)], rfl, _, rfl, (.inl ⟨rfl, _, SqL.of (O151.at 0 rfl)⟩), _, rfl, _, _, _, _, rfl, rfl, (SqLF O151.s h159), e164, _, rfl, _, _, _, _, rfl, rfl, (SqLF O151.s h169), e174, _, rfl, _, rfl, _, _, _, _, _, rfl, (O151.pre1 1 rfl), hl95, wp_call hk (fun r176 er177 hk F178 H179 w181 g180 h182 hl183 => ?_) (fun n hn C H1 hC kp => hn C H1 hC (O151.kp1 kp 1 rfl))⟩
      have O184 := O151.call1 g180 1 rfl h182
      have S_ := g180.f
      have hl64 := hl64.mono S_
      have S59 := S59.trans S_
      refine ⟨(by show 3 ≤ sizeLine; decide), fun p185 hp186 => ?_⟩
      obtain ⟨F187, O188, S189, h190⟩ := O184.putE hp186 (.tup [V.int y161, V.int y171, V.int r176.1])
      have hl64 := hl64.mono S189
      have S59 := S59.trans S189
      have hl183 := hl183.mono S189
      have h191 : R (a := (T3 Int Int Int)) F187 (.ref p185) (T3.mk y161 y171 r176.1) := R.t3 h190 R.int R.int R.int
      obtain ⟨c192, hk⟩ := wp_appL hk
      refine ⟨_, _, _, rfl, rfl, (O188.at 0 rfl), (by rw [hl64.len]; exact c192), ?_⟩
      have O194 := O188.set 0 (.lst (w62 ++ [V.ref p185])) rfl
      have hl195 : RL (a := (T3 Int Int Int)) F187 (w62 ++ [V.ref p185]) (st60.2 ++ [(T3.mk y161 y171 r176.1)]) := RL.snoc hl64 h191
      exact ⟨F187, (r176.2, (st60.2 ++ [(T3.mk y161 y171 r176.1)])), w181, (w62 ++ [V.ref p185]), some (V.int y47), some (V.int y110), some (V.ref p148), rfl, S59, O194, hl183, hl195, hk⟩
    rintro sg196 H197 ⟨F208, st199, w201, w202, t205, t206, t207, rfl, S198, O209, hl203, hl204, hL200⟩
    rw [rangeL_end] at hL200
    have hk := hLd53 _ hL200
    obtain ⟨c211, hk⟩ := wp_chk hk
    obtain ⟨c216, L212, hL213, hLs214, hLd215⟩ := compS_L hk
    refine ⟨_, rfl, _, rfl, c211.lo, c211.hi, fun p217 hp218 => ?_⟩
    have z243 := O209.was hp218
    refine lc_range (lo := 0) (n := (((1 : Int) + r1.1)).toNat) (fun i H => ∃ (F_ : Hp) (st : (List Int)) (acc : List Int) (wa : List V) (w_0 : (List V)), Same F208 F_ ∧ Ow _ F_ [(p217, .lst wa), (p42, .lst w202), (a_deck, .lst w_0)] H ∧ RL F_ wa acc ∧ RL (a := Int) F_ w_0 st ∧ wa.length ≤ i ∧ L212 (List.drop i (rangeL 0 ((1 : Int) + r1.1))) acc st) ⟨F208, st199.1, [], [], w201, Same.refl _, O209.new hp218, RL.nil, hl203, Nat.zero_le _, hL213⟩ ?_ ?_
    · rintro i219 H221 hi222 ⟨F227, st228, acc224, wa225, w230, S229, O233, hl232, hl231, la226, hL213⟩
      rw [rangeL_get0 hi222] at hL213
      have hk := hLs214 _ _ _ _ hL213
      obtain ⟨y210, he_⟩ : ∃ z_, z_ = 0 + (i219 : Int) := ⟨_, rfl⟩
      try rw [← he_] at hk
      rw [← he_]
      refine ⟨rfl, ?_⟩
      refine ⟨_, rfl, _, rfl, _, _, _, _, _, rfl, (O233.pre1 2 rfl), hl231, wp_call hk (fun r234 er235 hk F236 H237 w239 g238 h240 hl241 => ?_) (fun n hn => hn.elim)⟩
      have O242 := O233.call1 g238 2 rfl h240
      have S_ := g238.f
      have S229 := S229.trans S_
      have hl232 := hl232.mono S_
      refine ⟨_, (O242.at 0 rfl), (comp_lenR la226 hi222 (by rw [Int.sub_zero]) c216), ?_⟩
      exact ⟨F236, r234.2, acc224 ++ [r234.1], wa225 ++ [V.int r234.1], w239, S229, O242.set 0 (.lst (wa225 ++ [V.int r234.1])) rfl, RL.snoc hl232 R.int, hl241, by rw [List.length_append]; exact Nat.succ_le_succ la226, hk⟩
    rintro H244 ⟨F245, st246, acc247, wa248, w254, S249, O250, hl251, hl255, la252, hL253⟩
    rw [rangeL_end0] at hL253
    have hk := hLd215 _ _ hL253
    have hl204 := hl204.mono S249
    obtain ⟨F257, O258, S259, h260⟩ := O250.frzE 0 rfl z243
    have hl204 := hl204.mono S259
    have hl255 := hl255.mono S259
    have hl251 := hl251.mono S259
    have h261 := R.lst (a := Int) h260 hl251
    refine ⟨_, rfl, _, _, _, rfl, (O258.at 0 rfl), (RL.mono hl204 O258.s), fun p262 hp263 => ?_⟩
    have hl269 : RL (a := (T3 Int Int Int)) F257 (sortV w202 st199.2) (sortT st199.2) := (RL.sorted hl204)
    obtain ⟨F264, O265, S266, h267⟩ := O258.putE hp263 (.lst (sortV w202 st199.2))
    have hl255 := hl255.mono S266
    have h261 := h261.mono S266
    have hl269 := hl269.mono S266
    have h268 := R.lst (a := (T3 Int Int Int)) h267 hl269
    refine ⟨(by show 2 ≤ sizeLine; decide), fun p270 hp271 => ?_⟩
    obtain ⟨F272, O273, S274, h275⟩ := O265.putE hp271 (.tup [V.ref p217, V.ref p262])
    have hl255 := hl255.mono S274
    have h261 := h261.mono S274
    have h268 := h268.mono S274
    have h276 : R (a := ((List Int) × (List (T3 Int Int Int)))) F272 (.ref p270) (acc247, (sortT st199.2)) := R.t2 h275 h261 h268
    exact hk _ _ w254 O273.g (O273.at 1 rfl) hl255 _ h276
abbrev s_law_copied : Stmt := top 32
theorem sc_law_copied : FnScope ["tree"] ["tree"] (defScope s_law_copied) := ⟨rfl, rfl, rfl, by decide +kernel, rfl, by decide +kernel, by decide +kernel⟩
def m_law_copied (x_tree : ((List Int) × (List (T3 Int Int Int)))) : M (((List Int) × (List (T3 Int Int Int)))) :=
.ok (x_tree.1, x_tree.2)
def sp_law_copied (mg : Str → Option Value) : Sp := fun vs H Q E => ∃ (F : Hp) (v_tree : V) (x_tree : ((List Int) × (List (T3 Int Int Int)))), vs = [v_tree] ∧ Pre F [] H ∧ R (a := ((List Int) × (List (T3 Int Int Int)))) F v_tree x_tree ∧
  wp (m_law_copied x_tree) (fun r => ∀ (F' H' : Hp), Gr [] F H F' H' → ∀ v : V, R (a := ((List Int) × (List (T3 Int Int Int)))) F' v r → Q v H')
  (fun n => ∀ (C : Addr) (H' : Hp), mg (Str.ofString n) = some (.ref C) → Kp [] H H' → E (.ref C) none H')
set_option maxHeartbeats 20000000 in
theorem ok_law_copied (nb : Nb mg) (D : Df K mg "_law_copied" "_law_copied" s_law_copied ["tree"]) : Ca P w K mg base "_law_copied" 1 ["tree"] (sp_law_copied mg) := by
  refine Ca.mk' D sc_law_copied (fun vs H Q E h => ?_) (fun q_ f_ cdv A outer s H vs Q E hr h => ?_)
  · obtain ⟨F, _, _, rfl, _⟩ := h
    rfl
  · obtain ⟨F, v_tree, x_tree, rfl, P0, f_tree, hk⟩ := h
    have nd := sc_law_copied.nd
    have hu64 := hr.units
    have hu128 := hu128_of hr
    have O := P0.start
    refine ⟨_, (pss_one (ps_ret (pe_tup (pa_cons (pe_callTy (listOfK (K := K) rfl) (by rfl) nb.b_list (by decide +kernel) (pa_cons (pe_ix (ixTupK (K := K) rfl) (pv 0) pe_int (fun _ _ => rfl)) pa_nil)) (pa_cons (pe_callTy (listOfK (K := K) rfl) (by rfl) nb.b_list (by decide +kernel) (pa_cons (pe_ix (ixTupK (K := K) rfl) (pv 0) pe_int (fun _ _ => rfl)) pa_nil)) pa_nil))))), ?_⟩
    obtain ⟨p1, v4, v5, e2, h3, r6, r7⟩ := R.t2_ f_tree
    cases e2
    obtain ⟨p8, w9, e10, h11, hl12⟩ := R.lst_ r6
    cases e10
    refine ⟨_, rfl, _, _, _, _, rfl, rfl, (SqTF O.s h3), rfl, _, _, rfl, (.inl (SqLF O.s h11)), fun p13 hp14 => ?_⟩
    have hl20 : RL (a := Int) F w9 x_tree.1 := hl12
    obtain ⟨F15, O16, S17, h18⟩ := O.putE hp14 (.lst w9)
    have h3 := S17 _ _ h3
    have r7 := r7.mono S17
    have hl20 := hl20.mono S17
    have h19 := R.lst (a := Int) h18 hl20
    obtain ⟨p21, w22, e23, h24, hl25⟩ := R.lst_ r7
    cases e23
    refine ⟨_, rfl, _, _, _, _, rfl, rfl, (SqTF O16.s h3), rfl, _, _, rfl, (.inl (SqLF O16.s h24)), fun p26 hp27 => ?_⟩
    have hl33 : RL (a := (T3 Int Int Int)) F15 w22 x_tree.2 := hl25
    obtain ⟨F28, O29, S30, h31⟩ := O16.putE hp27 (.lst w22)
    have h19 := h19.mono S30
    have hl33 := hl33.mono S30
    have h32 := R.lst (a := (T3 Int Int Int)) h31 hl33
    refine ⟨(by show 2 ≤ sizeLine; decide), fun p34 hp35 => ?_⟩
    obtain ⟨F36, O37, S38, h39⟩ := O29.putE hp35 (.tup [V.ref p13, V.ref p26])
    have h19 := h19.mono S38
    have h32 := h32.mono S38
    have h40 : R (a := ((List Int) × (List (T3 Int Int Int)))) F36 (.ref p34) (x_tree.1, x_tree.2) := R.t2 h39 h19 h32
    exact hk _ _  O37.g  _ h40
abbrev s_law_leaf : Stmt := top 33
theorem sc_law_leaf : FnScope ["deck", "leaves", "many", "way"] ["deck", "leaves", "many"] (defScope s_law_leaf) := ⟨rfl, rfl, rfl, by decide +kernel, rfl, by decide +kernel, by decide +kernel⟩
def m_law_leaf (x_deck : (List Int)) (x_leaves : (List Str)) (x_many : Int) : M (Sm × (List Int)) :=
m_law_take x_deck ((1 : Int) + (x_leaves.length : Int)) >>= fun r6 =>
if r6.1 = (0 : Int) then (
m_law_take r6.2 (19 : Int) >>= fun r16 =>
.ok ((Sm.num ("number" : Str) (r16.1 - (9 : Int))), r16.2))
else (
opt (atI x_leaves (r6.1 - (1 : Int))) >>= fun y37 =>
if y37 ∈ ([(("so" : Str), ("more" : Str)).1, (("so" : Str), ("more" : Str)).2]) then (
opt (atI x_leaves (r6.1 - (1 : Int))) >>= fun y62 =>
m_law_take r6.2 x_many >>= fun r67 =>
.ok ((Sm.num y62 r67.1), r67.2))
else (
opt (atI x_leaves (r6.1 - (1 : Int))) >>= fun y88 =>
.ok ((Sm.nam y88), r6.2)))
def sp_law_leaf (mg : Str → Option Value) : Sp := fun vs H Q E => ∃ (F : Hp) (a_deck : Addr) (w_deck : (List V)) (x_deck : (List Int)) (v_leaves : V) (x_leaves : (List Str)) (x_many : Int), vs = [.ref a_deck, v_leaves, V.int x_many] ∧ Pre F [(a_deck, .lst w_deck)] H ∧ RL (a := Int) F w_deck x_deck ∧ R (a := (List Str)) F v_leaves x_leaves ∧
  wp (m_law_leaf x_deck x_leaves x_many) (fun r => ∀ (F' H' : Hp) (w0 : (List V)), Gr [a_deck] F H F' H' → H' a_deck = some (.lst w0) → RL (a := Int) F' w0 r.2 → ∀ v : V, R (a := Sm) F' v r.1 → Q v H')
  (fun n => ∀ (C : Addr) (H' : Hp), mg (Str.ofString n) = some (.ref C) → Kp [a_deck] H H' → E (.ref C) none H')
set_option maxHeartbeats 20000000 in
theorem ok_law_leaf (nb : Nb mg) (C_law_take : Ca P w K mg base "_law_take" 1 ["deck", "many"] (sp_law_take mg)) (D : Df K mg "_law_leaf" "_law_leaf" s_law_leaf ["deck", "leaves", "many"]) : Ca P w K mg base "_law_leaf" 2 ["deck", "leaves", "many"] (sp_law_leaf mg) := by
  obtain ⟨fa_law_take, fd_law_take, G_law_take, M_law_take, K_law_take, B_law_take⟩ := C_law_take.ex
  refine Ca.mk' D sc_law_leaf (fun vs H Q E h => ?_) (fun q_ f_ cdv A outer s H vs Q E hr h => ?_)
  · obtain ⟨F, _, _, _, _, _, _, rfl, _⟩ := h
    rfl
  · obtain ⟨F, a_deck, w_deck, x_deck, v_leaves, x_leaves, x_many, rfl, P0, f_deck, f_leaves, hk⟩ := h
    have nd := sc_law_leaf.nd
    have hu64 := hr.units
    have hu128 := hu128_of hr
    have O := P0.start
    refine ⟨_, (pss_cons (ps_toN (ps_set (i := 3) nd rfl (Or.inl rfl) (pe_call G_law_take (hr.mono (by decide)) rfl M_law_take K_law_take B_law_take .nil (passes_call (takes_of rfl rfl rfl rfl) fun _ _ _ _ h => h) (pa_cons (pv 0) (pa_cons (pe_op op_add pe_int (pe_callB call_lenT (by rfl) nb.b_len PySem.boot_len (pa_cons (pv 1) pa_nil))) pa_nil)))))
  (pss_cons (ps_if (pt_cmpR (op_eqT Int hu64) (pv 3) pe_int (nomark _)) (pss_one (ps_ret (pe_tup (pa_cons pe_str (pa_cons (pe_op op_sub (pe_call G_law_take (hr.mono (by decide)) rfl M_law_take K_law_take B_law_take .nil (passes_call (takes_of rfl rfl rfl rfl) fun _ _ _ _ h => h) (pa_cons (pv 0) (pa_cons pe_int pa_nil))) pe_int) pa_nil))))) pss_nil)
  (pss_cons (ps_if (pt_cmpR (op_inT Str hu64) (pe_ix (ixListK (K := K) rfl) (pv 1) (pe_op op_sub (pv 3) pe_int) (fun _ _ => rfl)) (pe_tup (pa_cons pe_str (pa_cons pe_str pa_nil))) rfl) (pss_one (ps_ret (pe_tup (pa_cons (pe_ix (ixListK (K := K) rfl) (pv 1) (pe_op op_sub (pv 3) pe_int) (fun _ _ => rfl)) (pa_cons (pe_call G_law_take (hr.mono (by decide)) rfl M_law_take K_law_take B_law_take .nil (passes_call (takes_of rfl rfl rfl rfl) fun _ _ _ _ h => h) (pa_cons (pv 0) (pa_cons (pv 2) pa_nil))) pa_nil))))) pss_nil)
  (pss_one (ps_ret (pe_tup (pa_cons (pe_ix (ixListK (K := K) rfl) (pv 1) (pe_op op_sub (pv 3) pe_int) (fun _ _ => rfl)) pa_nil))))))), ?_⟩
    obtain ⟨p1, w2, e3, h4, hl5⟩ := R.lst_ f_leaves
    cases e3
    refine ⟨_, rfl, _, rfl, _, _, _, rfl, (.inl (O.s _ _ h4)), hl5.len, _, _, rfl, rfl, _, _, _, _, _, rfl, (O.pre1 0 rfl), f_deck, wp_call hk (fun r6 er7 hk F8 H9 w11 g10 h12 hl13 => ?_) (fun n hn C H1 hC kp => hn C H1 hC (O.kp1 kp 0 rfl))⟩
    have O14 := O.call1 g10 0 rfl h12
    have S_ := g10.f
    have f_leaves := f_leaves.mono S_
    refine ⟨[some (V.ref a_deck), some (V.ref p1), some (V.int x_many), some (V.int r6.1)], rfl, _, rfl, _, _, R.int, R.int, _, rfl, ?_⟩
    refine iteD (fun q15 => ?_) (fun q15 => ?_)
    · have hk := wp_if hk q15
      refine ⟨_, rfl, _, _, _, _, _, rfl, (O14.pre1 0 rfl), hl13, wp_call hk (fun r16 er17 hk F18 H19 w21 g20 h22 hl23 => ?_) (fun n hn C H1 hC kp => hn C H1 hC (O14.kp1 kp 0 rfl))⟩
      have O24 := O14.call1 g20 0 rfl h22
      refine ⟨_, _, rfl, rfl, (by show 2 ≤ sizeLine; decide), fun p25 hp26 => ?_⟩
      obtain ⟨F27, O28, S29, h30⟩ := O24.putE hp26 (.tup [V.str ("number" : Str), V.int (r16.1 - (9 : Int))])
      have hl23 := hl23.mono S29
      have h31 : R (a := (Str × Int)) F27 (.ref p25) (("number" : Str), (r16.1 - (9 : Int))) := R.t2 h30 R.str R.int
      exact hk _ _ w21 O28.g (O28.at 0 rfl) hl23 _ (R.of_num h31)
    · have hk := wp_el hk q15
      obtain ⟨p32, w33, e34, h35, hl36⟩ := R.lst_ f_leaves
      cases e34
      obtain ⟨y37, e38, hk⟩ := wp_opt hk
      obtain ⟨w39, e40, r41⟩ := hl36.atI e38
      obtain rfl := R.str_ r41
      refine ⟨_, rfl, _, rfl, _, _, rfl, rfl, _, _, _, _, rfl, rfl, (SqLF O14.s h35), e40, (by show 2 ≤ sizeLine; decide), fun p42 hp43 => ?_⟩
      obtain ⟨F44, O45, S46, h47⟩ := O14.putE hp43 (.tup [V.str ("so" : Str), V.str ("more" : Str)])
      have f_leaves := f_leaves.mono S46
      have hl13 := hl13.mono S46
      have h48 : R (a := (Str × Str)) F44 (.ref p42) (("so" : Str), ("more" : Str)) := R.t2 h47 R.str R.str
      obtain ⟨p49, v52, v53, e50, h51, r54, r55⟩ := R.t2T_ h48
      cases e50
      obtain rfl := R.str_ r54
      obtain rfl := R.str_ r55
      refine ⟨_, _, _, _, R.str, rfl, (.inr (h51.mono O45.s)), (RL.mono (RL.cons R.str (RL.cons R.str RL.nil)) O45.s), _, rfl, ?_⟩
      refine iteD (fun q56 => ?_) (fun q56 => ?_)
      · have hk := wp_if hk q56
        obtain ⟨p57, w58, e59, h60, hl61⟩ := R.lst_ f_leaves
        cases e59
        obtain ⟨y62, e63, hk⟩ := wp_opt hk
        obtain ⟨w64, e65, r66⟩ := hl61.atI e63
        obtain rfl := R.str_ r66
        refine ⟨_, rfl, _, rfl, _, _, rfl, rfl, _, _, _, _, rfl, rfl, (SqLF O45.s h60), e65, _, rfl, _, rfl, _, _, _, _, _, rfl, (O45.pre1 0 rfl), hl13, wp_call hk (fun r67 er68 hk F69 H70 w72 g71 h73 hl74 => ?_) (fun n hn C H1 hC kp => hn C H1 hC (O45.kp1 kp 0 rfl))⟩
        have O75 := O45.call1 g71 0 rfl h73
        refine ⟨(by show 2 ≤ sizeLine; decide), fun p76 hp77 => ?_⟩
        obtain ⟨F78, O79, S80, h81⟩ := O75.putE hp77 (.tup [V.str y62, V.int r67.1])
        have hl74 := hl74.mono S80
        have h82 : R (a := (Str × Int)) F78 (.ref p76) (y62, r67.1) := R.t2 h81 R.str R.int
        exact hk _ _ w72 O79.g (O79.at 0 rfl) hl74 _ (R.of_num h82)
      · have hk := wp_el hk q56
        obtain ⟨p83, w84, e85, h86, hl87⟩ := R.lst_ f_leaves
        cases e85
        obtain ⟨y88, e89, hk⟩ := wp_opt hk
        obtain ⟨w90, e91, r92⟩ := hl87.atI e89
        obtain rfl := R.str_ r92
        refine ⟨_, rfl, _, rfl, _, _, rfl, rfl, _, _, _, _, rfl, rfl, (SqLF O45.s h86), e91, (by show 1 ≤ sizeLine; decide), fun p93 hp94 => ?_⟩
        obtain ⟨F95, O96, S97, h98⟩ := O45.putE hp94 (.tup [V.str y88])
        have hl13 := hl13.mono S97
        have h99 := R.of_nam h98
        exact hk _ _ w11 O96.g (O96.at 0 rfl) hl13 _ h99
abbrev s_law_sum : Stmt := top 34
theorem sc_law_sum : FnScope ["deck", "leaves", "many", "deep", "times", "way", "one", "other"] ["deck", "leaves", "many", "deep", "times"] (defScope s_law_sum) := ⟨rfl, rfl, rfl, by decide +kernel, rfl, by decide +kernel, by decide +kernel⟩
def m_law_sum : Nat → (List Int) → (List Str) → Int → Int → Bool → M (Sm × (List Int))
  | 0, _, _, _, _, _ => bad
  | k_ + 1, x_deck, x_leaves, x_many, x_deep, x_times =>
    m_law_take x_deck (7 : Int) >>= fun r1 =>
    if x_deep = (0 : Int) then (
    m_law_leaf r1.2 x_leaves x_many >>= fun r11 =>
    .ok (r11.1, r11.2))
    else (
    if r1.1 < (2 : Int) then (
    m_law_leaf r1.2 x_leaves x_many >>= fun r23 =>
    .ok (r23.1, r23.2))
    else (
    if r1.1 = (6 : Int) then (
    if x_times = true then (
    m_law_leaf r1.2 (cutL x_leaves (some (-(1 : Int))) none) x_many >>= fun r49 =>
    m_law_leaf r49.2 ([] : List Str) (1 : Int) >>= fun r68 =>
    m_law_leaf r68.2 (cutL x_leaves none (some (1 : Int))) x_many >>= fun r92 =>
    m_law_take r92.2 (2 : Int) >>= fun r111 =>
    opt (atI ([r68.1, r92.1]) r111.1) >>= fun y125 =>
    .ok ((Sm.two ("times" : Str) y125 r49.1), r111.2))
    else (
    m_law_sum k_ r1.2 x_leaves x_many (x_deep - (1 : Int)) x_times >>= fun r137 =>
    opt (atI ([("plus" : Str), ("less" : Str), ("most" : Str), ("least" : Str), ("plus" : Str)]) (r1.1 - (2 : Int))) >>= fun y161 =>
    m_law_sum k_ r137.2 x_leaves x_many (x_deep - (1 : Int)) x_times >>= fun r166 =>
    .ok ((Sm.two y161 r137.1 r166.1), r166.2)))
    else (
    m_law_sum k_ r1.2 x_leaves x_many (x_deep - (1 : Int)) x_times >>= fun r184 =>
    opt (atI ([("plus" : Str), ("less" : Str), ("most" : Str), ("least" : Str), ("plus" : Str)]) (r1.1 - (2 : Int))) >>= fun y208 =>
    m_law_sum k_ r184.2 x_leaves x_many (x_deep - (1 : Int)) x_times >>= fun r213 =>
    .ok ((Sm.two y208 r184.1 r213.1), r213.2))))
def sp_law_sum (k_ : Nat) (mg : Str → Option Value) : Sp := fun vs H Q E => ∃ (F : Hp) (a_deck : Addr) (w_deck : (List V)) (x_deck : (List Int)) (v_leaves : V) (x_leaves : (List Str)) (x_many : Int) (x_deep : Int) (x_times : Bool), vs = [.ref a_deck, v_leaves, V.int x_many, V.int x_deep, V.bl x_times] ∧ Pre F [(a_deck, .lst w_deck)] H ∧ RL (a := Int) F w_deck x_deck ∧ R (a := (List Str)) F v_leaves x_leaves ∧
  wp (m_law_sum k_ x_deck x_leaves x_many x_deep x_times) (fun r => ∀ (F' H' : Hp) (w0 : (List V)), Gr [a_deck] F H F' H' → H' a_deck = some (.lst w0) → RL (a := Int) F' w0 r.2 → ∀ v : V, R (a := Sm) F' v r.1 → Q v H')
  (fun n => ∀ (C : Addr) (H' : Hp), mg (Str.ofString n) = some (.ref C) → Kp [a_deck] H H' → E (.ref C) none H')
set_option maxHeartbeats 20000000 in
theorem ok_law_sum (nb : Nb mg) (C_law_leaf : Ca P w K mg base "_law_leaf" 2 ["deck", "leaves", "many"] (sp_law_leaf mg)) (C_law_take : Ca P w K mg base "_law_take" 1 ["deck", "many"] (sp_law_take mg)) (D : Df K mg "_law_sum" "_law_sum" s_law_sum ["deck", "leaves", "many", "deep", "times"]) : ∀ k_ : Nat, Ca P w K mg base "_law_sum" (k_ + 3) ["deck", "leaves", "many", "deep", "times"] (sp_law_sum k_ mg) := by
  intro k_
  induction k_ with
  | zero =>
    refine Ca.mk' D sc_law_sum (fun vs H Q E h => ?_) (fun q_ f_ cdv A outer s H vs Q E hr h => ?_)
    · obtain ⟨F, _, _, _, _, _, _, _, _, rfl, _⟩ := h
      rfl
    · obtain ⟨F, _, _, _, _, _, _, _, _, rfl, _, _, _, hk⟩ := h
      exact hk.elim
  | succ k_ ih_ =>
    have C_law_sum := ih_
    obtain ⟨fa_law_leaf, fd_law_leaf, G_law_leaf, M_law_leaf, K_law_leaf, B_law_leaf⟩ := C_law_leaf.ex
    obtain ⟨fa_law_take, fd_law_take, G_law_take, M_law_take, K_law_take, B_law_take⟩ := C_law_take.ex
    obtain ⟨fa_law_sum, fd_law_sum, G_law_sum, M_law_sum, K_law_sum, B_law_sum⟩ := C_law_sum.ex
    refine Ca.mk' D sc_law_sum (fun vs H Q E h => ?_) (fun q_ f_ cdv A outer s H vs Q E hr h => ?_)
    · obtain ⟨F, _, _, _, _, _, _, _, _, rfl, _⟩ := h
      rfl
    · obtain ⟨F, a_deck, w_deck, x_deck, v_leaves, x_leaves, x_many, x_deep, x_times, rfl, P0, f_deck, f_leaves, hk⟩ := h
      have nd := sc_law_sum.nd
      have hu64 := hr.units
      have hu128 := hu128_of hr
      have O := P0.start
      refine ⟨_, (pss_cons (ps_toN (ps_set (i := 5) nd rfl (Or.inl rfl) (pe_call G_law_take (hr.mono (by omega)) rfl M_law_take K_law_take B_law_take .nil (passes_call (takes_of rfl rfl rfl rfl) fun _ _ _ _ h => h) (pa_cons (pv 0) (pa_cons pe_int pa_nil)))))
  (pss_cons (ps_if (PW.pt (pw_or (pt_cmpR (op_eqT Int hu64) (pv 3) pe_int (nomark _)) (pw_or1 (pt_cmpR op_lt (pv 5) pe_int (nomark _))))) (pss_one (ps_ret (pe_call G_law_leaf (hr.mono (by omega)) rfl M_law_leaf K_law_leaf B_law_leaf .nil (passes_call (takes_of rfl rfl rfl rfl) fun _ _ _ _ h => h) (pa_cons (pv 0) (pa_cons (pv 1) (pa_cons (pv 2) pa_nil)))))) pss_nil)
  (pss_cons (ps_if (PW.pt (pw_and (pt_cmpR (op_eqT Int hu64) (pv 5) pe_int (nomark _)) (pw_and1 (pt_val (pv 4))))) (pss_cons (ps_toN (ps_set (i := 7) nd rfl (Or.inl rfl) (pe_call G_law_leaf (hr.mono (by omega)) rfl M_law_leaf K_law_leaf B_law_leaf .nil (passes_call (takes_of rfl rfl rfl rfl) fun _ _ _ _ h => h) (pa_cons (pv 0) (pa_cons (pe_slice (slListK (K := K) rfl) (pv 1) (po_some (pe_un un_neg pe_int)) po_none) (pa_cons (pv 2) pa_nil))))))
  (pss_one (ps_ret (pe_tup (pa_cons pe_str (pa_cons (pe_ix (ixListK (K := K) rfl) (pe_lst (pa_cons (pe_call G_law_leaf (hr.mono (by omega)) rfl M_law_leaf K_law_leaf B_law_leaf .nil (passes_call (takes_of rfl rfl rfl rfl) fun _ _ _ _ h => h) (pa_cons (pv 0) (pa_cons (pe_lst pa_nil) (pa_cons pe_int pa_nil)))) (pa_cons (pe_call G_law_leaf (hr.mono (by omega)) rfl M_law_leaf K_law_leaf B_law_leaf .nil (passes_call (takes_of rfl rfl rfl rfl) fun _ _ _ _ h => h) (pa_cons (pv 0) (pa_cons (pe_slice (slListK (K := K) rfl) (pv 1) po_none (po_some pe_int)) (pa_cons (pv 2) pa_nil)))) pa_nil))) (pe_call G_law_take (hr.mono (by omega)) rfl M_law_take K_law_take B_law_take .nil (passes_call (takes_of rfl rfl rfl rfl) fun _ _ _ _ h => h) (pa_cons (pv 0) (pa_cons pe_int pa_nil))) (fun _ _ => rfl)) (pa_cons (pv 7) pa_nil))))))) pss_nil)
  (pss_cons (ps_toN (ps_set (i := 6) nd rfl (Or.inl rfl) (pe_call G_law_sum (hr.mono (by omega)) rfl M_law_sum K_law_sum B_law_sum .nil (passes_call (takes_of rfl rfl rfl rfl) fun _ _ _ _ h => h) (pa_cons (pv 0) (pa_cons (pv 1) (pa_cons (pv 2) (pa_cons (pe_op op_sub (pv 3) pe_int) (pa_cons (pv 4) pa_nil))))))))
  (pss_one (ps_ret (pe_tup (pa_cons (pe_ix (ixListK (K := K) rfl) (pe_lst (pa_cons pe_str (pa_cons pe_str (pa_cons pe_str (pa_cons pe_str (pa_cons pe_str pa_nil)))))) (pe_op op_sub (pv 5) pe_int) (fun _ _ => rfl)) (pa_cons (pv 6) (pa_cons (pe_call G_law_sum (hr.mono (by omega)) rfl M_law_sum K_law_sum B_law_sum .nil (passes_call (takes_of rfl rfl rfl rfl) fun _ _ _ _ h => h) (pa_cons (pv 0) (pa_cons (pv 1) (pa_cons (pv 2) (pa_cons (pe_op op_sub (pv 3) pe_int) (pa_cons (pv 4) pa_nil)))))) pa_nil)))))))))), ?_⟩
      refine ⟨_, rfl, _, _, _, _, _, rfl, (O.pre1 0 rfl), f_deck, wp_call hk (fun r1 er2 hk F3 H4 w6 g5 h7 hl8 => ?_) (fun n hn C H1 hC kp => hn C H1 hC (O.kp1 kp 0 rfl))⟩
      have O9 := O.call1 g5 0 rfl h7
      have S_ := g5.f
      have f_leaves := f_leaves.mono S_
      refine ⟨[some (V.ref a_deck), some v_leaves, some (V.int x_many), some (V.int x_deep), some (V.bl x_times), some (V.int r1.1), none, none], rfl, _, rfl, _, _, R.int, R.int, _, rfl, ?_⟩
      refine iteD (fun q10 => ?_) (fun q10 => ?_)
      · have hk := wp_if hk q10
        refine iteT ?_
        refine ⟨_, rfl, _, rfl, _, rfl, _, _, _, _, _, _, _, rfl, (O9.pre1 0 rfl), hl8, f_leaves, wp_call hk (fun r11 er12 hk F13 H14 w16 g15 h17 hl18 v19 r20 => ?_) (fun n hn C H1 hC kp => hn C H1 hC (O9.kp1 kp 0 rfl))⟩
        have O21 := O9.call1 g15 0 rfl h17
        exact hk _ _ w16 O21.g (O21.at 0 rfl) hl18 _ r20
      · have hk := wp_el hk q10
        refine ⟨_, rfl, _, _, rfl, rfl, _, rfl, ?_⟩
        refine iteD (fun q22 => ?_) (fun q22 => ?_)
        · have hk := wp_if hk q22
          refine ⟨_, rfl, _, rfl, _, rfl, _, _, _, _, _, _, _, rfl, (O9.pre1 0 rfl), hl8, f_leaves, wp_call hk (fun r23 er24 hk F25 H26 w28 g27 h29 hl30 v31 r32 => ?_) (fun n hn C H1 hC kp => hn C H1 hC (O9.kp1 kp 0 rfl))⟩
          have O33 := O9.call1 g27 0 rfl h29
          exact hk _ _ w28 O33.g (O33.at 0 rfl) hl30 _ r32
        · have hk := wp_el hk q22
          refine ⟨_, rfl, _, _, R.int, R.int, _, rfl, ?_⟩
          refine iteD (fun q34 => ?_) (fun q34 => ?_)
          · have hk := wp_if hk q34
            refine ⟨_, rfl, _, rfl, ?_⟩
            refine iteB (fun q35 => ?_) (fun q35 => ?_)
            · have hk := wp_if hk q35
              obtain ⟨p36, w37, e38, h39, hl40⟩ := R.lst_ f_leaves
              cases e38
              refine ⟨_, rfl, _, rfl, _, rfl, _, rfl, _, _, rfl, (SqLF O9.s h39), fun p41 hp42 => ?_⟩
              have hl48 : RL (a := Str) F3 (cutV w37 (some (-(1 : Int))) none) (cutL x_leaves (some (-(1 : Int))) none) := RL.cutL hl40 (some (-(1 : Int))) none
              obtain ⟨F43, O44, S45, h46⟩ := O9.putE hp42 (.lst (cutV w37 (some (-(1 : Int))) none))
              have f_leaves := f_leaves.mono S45
              have hl8 := hl8.mono S45
              have hl48 := hl48.mono S45
              have h47 := R.lst (a := Str) h46 hl48
              refine ⟨_, rfl, _, _, _, _, _, _, _, rfl, (O44.pre1 0 rfl), hl8, h47, wp_call hk (fun r49 er50 hk F51 H52 w54 g53 h55 hl56 v57 r58 => ?_) (fun n hn C H1 hC kp => hn C H1 hC (O44.kp1 kp 0 rfl))⟩
              have O59 := O44.call1 g53 0 rfl h55
              have S_ := g53.f
              have f_leaves := f_leaves.mono S_
              refine ⟨[some (V.ref a_deck), some (V.ref p36), some (V.int x_many), some (V.int x_deep), some (V.bl x_times), some (V.int r1.1), none, some v57], rfl, _, rfl, (by show 0 ≤ sizeLine; decide), fun p60 hp61 => ?_⟩
              have hl67 : RL (a := Str) F51 ([]) ([] : List Str) := RL.nil
              obtain ⟨F62, O63, S64, h65⟩ := O59.putE hp61 (.lst ([]))
              have f_leaves := f_leaves.mono S64
              have hl56 := hl56.mono S64
              have r58 := r58.mono S64
              have hl67 := hl67.mono S64
              have h66 := R.lst (a := Str) h65 hl67
              refine ⟨_, _, _, _, _, _, _, rfl, (O63.pre1 0 rfl), hl56, h66, wp_call hk (fun r68 er69 hk F70 H71 w73 g72 h74 hl75 v76 r77 => ?_) (fun n hn C H1 hC kp => hn C H1 hC (O63.kp1 kp 0 rfl))⟩
              have O78 := O63.call1 g72 0 rfl h74
              have S_ := g72.f
              have f_leaves := f_leaves.mono S_
              have r58 := r58.mono S_
              obtain ⟨p79, w80, e81, h82, hl83⟩ := R.lst_ f_leaves
              cases e81
              refine ⟨_, rfl, _, rfl, _, rfl, _, _, rfl, (SqLF O78.s h82), fun p84 hp85 => ?_⟩
              have hl91 : RL (a := Str) F70 (cutV w80 none (some (1 : Int))) (cutL x_leaves none (some (1 : Int))) := RL.cutL hl83 none (some (1 : Int))
              obtain ⟨F86, O87, S88, h89⟩ := O78.putE hp85 (.lst (cutV w80 none (some (1 : Int))))
              have r58 := r58.mono S88
              have hl75 := hl75.mono S88
              have r77 := r77.mono S88
              have hl91 := hl91.mono S88
              have h90 := R.lst (a := Str) h89 hl91
              refine ⟨_, rfl, _, _, _, _, _, _, _, rfl, (O87.pre1 0 rfl), hl75, h90, wp_call hk (fun r92 er93 hk F94 H95 w97 g96 h98 hl99 v100 r101 => ?_) (fun n hn C H1 hC kp => hn C H1 hC (O87.kp1 kp 0 rfl))⟩
              have O102 := O87.call1 g96 0 rfl h98
              have S_ := g96.f
              have r58 := r58.mono S_
              have r77 := r77.mono S_
              refine ⟨(by show 2 ≤ sizeLine; decide), fun p103 hp104 => ?_⟩
              have hl110 : RL (a := Sm) F94 ([v76, v100]) ([r68.1, r92.1]) := RL.cons r77 (RL.cons r101 RL.nil)
              obtain ⟨F105, O106, S107, h108⟩ := O102.putE hp104 (.lst ([v76, v100]))
              have r58 := r58.mono S107
              have hl99 := hl99.mono S107
              have hl110 := hl110.mono S107
              have h109 := R.lst (a := Sm) h108 hl110
              refine ⟨_, rfl, _, _, _, _, _, rfl, (O106.pre1 0 rfl), hl99, wp_call hk (fun r111 er112 hk F113 H114 w116 g115 h117 hl118 => ?_) (fun n hn C H1 hC kp => hn C H1 hC (O106.kp1 kp 0 rfl))⟩
              have O119 := O106.call1 g115 0 rfl h117
              have S_ := g115.f
              have r58 := r58.mono S_
              have h109 := h109.mono S_
              obtain ⟨p120, w121, e122, h123, hl124⟩ := R.lst_ h109
              cases e122
              obtain ⟨y125, e126, hk⟩ := wp_opt hk
              obtain ⟨w127, e128, r129⟩ := hl124.atI e126
              refine ⟨_, _, _, _, rfl, rfl, (SqLF O119.s h123), e128, _, rfl, (by show 3 ≤ sizeLine; decide), fun p130 hp131 => ?_⟩
              obtain ⟨F132, O133, S134, h135⟩ := O119.putE hp131 (.tup [V.str ("times" : Str), w127, v57])
              have r58 := r58.mono S134
              have hl118 := hl118.mono S134
              have r129 := r129.mono S134
              have h136 : R (a := (T3 Str Sm Sm)) F132 (.ref p130) (T3.mk ("times" : Str) y125 r49.1) := R.t3 h135 R.str r129 r58
              exact hk _ _ w116 O133.g (O133.at 0 rfl) hl118 _ (R.of_two h136)
            · have hk := wp_el hk q35
              refine ⟨_, rfl, _, rfl, _, rfl, _, rfl, _, _, rfl, rfl, _, rfl, _, _, _, _, _, _, _, _, _, rfl, (O9.pre1 0 rfl), hl8, f_leaves, wp_call hk (fun r137 er138 hk F139 H140 w142 g141 h143 hl144 v145 r146 => ?_) (fun n hn C H1 hC kp => hn C H1 hC (O9.kp1 kp 0 rfl))⟩
              have O147 := O9.call1 g141 0 rfl h143
              have S_ := g141.f
              have f_leaves := f_leaves.mono S_
              refine ⟨[some (V.ref a_deck), some v_leaves, some (V.int x_many), some (V.int x_deep), some (V.bl x_times), some (V.int r1.1), some v145, none], rfl, (by show 5 ≤ sizeLine; decide), fun p148 hp149 => ?_⟩
              have hl155 : RL (a := Str) F139 ([V.str ("plus" : Str), V.str ("less" : Str), V.str ("most" : Str), V.str ("least" : Str), V.str ("plus" : Str)]) ([("plus" : Str), ("less" : Str), ("most" : Str), ("least" : Str), ("plus" : Str)]) := RL.cons R.str (RL.cons R.str (RL.cons R.str (RL.cons R.str (RL.cons R.str RL.nil))))
              obtain ⟨F150, O151, S152, h153⟩ := O147.putE hp149 (.lst ([V.str ("plus" : Str), V.str ("less" : Str), V.str ("most" : Str), V.str ("least" : Str), V.str ("plus" : Str)]))
              have f_leaves := f_leaves.mono S152
              have hl144 := hl144.mono S152
              have r146 := r146.mono S152
              have hl155 := hl155.mono S152
              have h154 := R.lst (a := Str) h153 hl155
              obtain ⟨p156, w157, e158, h159, hl160⟩ := R.lst_ h154
              cases e158
              obtain ⟨y161, e162, hk⟩ := wp_opt hk
              obtain ⟨w163, e164, r165⟩ := hl160.atI e162
              obtain rfl := R.str_ r165
              refine ⟨_, rfl, _, _, rfl, rfl, _, _, _, _, rfl, rfl, (SqLF O151.s h159), e164, _, rfl, _, rfl, _, rfl, _, rfl, _, rfl, _, _, rfl, rfl, _, rfl, _, _, _, _, _, _, _, _, _, rfl, (O151.pre1 0 rfl), hl144, f_leaves, wp_call hk (fun r166 er167 hk F168 H169 w171 g170 h172 hl173 v174 r175 => ?_) (fun n hn C H1 hC kp => hn C H1 hC (O151.kp1 kp 0 rfl))⟩
              have O176 := O151.call1 g170 0 rfl h172
              have S_ := g170.f
              have r146 := r146.mono S_
              refine ⟨(by show 3 ≤ sizeLine; decide), fun p177 hp178 => ?_⟩
              obtain ⟨F179, O180, S181, h182⟩ := O176.putE hp178 (.tup [V.str y161, v145, v174])
              have r146 := r146.mono S181
              have hl173 := hl173.mono S181
              have r175 := r175.mono S181
              have h183 : R (a := (T3 Str Sm Sm)) F179 (.ref p177) (T3.mk y161 r137.1 r166.1) := R.t3 h182 R.str r146 r175
              exact hk _ _ w171 O180.g (O180.at 0 rfl) hl173 _ (R.of_two h183)
          · have hk := wp_el hk q34
            refine iteF ?_
            refine ⟨_, rfl, _, rfl, _, rfl, _, rfl, _, _, rfl, rfl, _, rfl, _, _, _, _, _, _, _, _, _, rfl, (O9.pre1 0 rfl), hl8, f_leaves, wp_call hk (fun r184 er185 hk F186 H187 w189 g188 h190 hl191 v192 r193 => ?_) (fun n hn C H1 hC kp => hn C H1 hC (O9.kp1 kp 0 rfl))⟩
            have O194 := O9.call1 g188 0 rfl h190
            have S_ := g188.f
            have f_leaves := f_leaves.mono S_
            refine ⟨[some (V.ref a_deck), some v_leaves, some (V.int x_many), some (V.int x_deep), some (V.bl x_times), some (V.int r1.1), some v192, none], rfl, (by show 5 ≤ sizeLine; decide), fun p195 hp196 => ?_⟩
            have hl202 : RL (a := Str) F186 ([V.str ("plus" : Str), V.str ("less" : Str), V.str ("most" : Str), V.str ("least" : Str), V.str ("plus" : Str)]) ([("plus" : Str), ("less" : Str), ("most" : Str), ("least" : Str), ("plus" : Str)]) := RL.cons R.str (RL.cons R.str (RL.cons R.str (RL.cons R.str (RL.cons R.str RL.nil))))
            obtain ⟨F197, O198, S199, h200⟩ := O194.putE hp196 (.lst ([V.str ("plus" : Str), V.str ("less" : Str), V.str ("most" : Str), V.str ("least" : Str), V.str ("plus" : Str)]))
            have f_leaves := f_leaves.mono S199
            have hl191 := hl191.mono S199
            have r193 := r193.mono S199
            have hl202 := hl202.mono S199
            have h201 := R.lst (a := Str) h200 hl202
            obtain ⟨p203, w204, e205, h206, hl207⟩ := R.lst_ h201
            cases e205
            obtain ⟨y208, e209, hk⟩ := wp_opt hk
            obtain ⟨w210, e211, r212⟩ := hl207.atI e209
            obtain rfl := R.str_ r212
            refine ⟨_, rfl, _, _, rfl, rfl, _, _, _, _, rfl, rfl, (SqLF O198.s h206), e211, _, rfl, _, rfl, _, rfl, _, rfl, _, rfl, _, _, rfl, rfl, _, rfl, _, _, _, _, _, _, _, _, _, rfl, (O198.pre1 0 rfl), hl191, f_leaves, wp_call hk (fun r213 er214 hk F215 H216 w218 g217 h219 hl220 v221 r222 => ?_) (fun n hn C H1 hC kp => hn C H1 hC (O198.kp1 kp 0 rfl))⟩
            have O223 := O198.call1 g217 0 rfl h219
            have S_ := g217.f
            have r193 := r193.mono S_
            refine ⟨(by show 3 ≤ sizeLine; decide), fun p224 hp225 => ?_⟩
            obtain ⟨F226, O227, S228, h229⟩ := O223.putE hp225 (.tup [V.str y208, v192, v221])
            have r193 := r193.mono S228
            have hl220 := hl220.mono S228
            have r222 := r222.mono S228
            have h230 : R (a := (T3 Str Sm Sm)) F226 (.ref p224) (T3.mk y208 r184.1 r213.1) := R.t3 h229 R.str r193 r222
            exact hk _ _ w218 O227.g (O227.at 0 rfl) hl220 _ (R.of_two h230)
abbrev s_law_rule : Stmt := top 35
theorem sc_law_rule : FnScope ["deck", "times", "many", "found", "leaves", "k"] ["deck", "times"] (defScope s_law_rule) := ⟨rfl, rfl, rfl, by decide +kernel, rfl, by decide +kernel, by decide +kernel⟩
def m_law_rule (x_deck : (List Int)) (x_times : Bool) : M ((T4 (List Sm) (List Sm) (List Sm) Sm) × (List Int)) :=
m_law_take x_deck (3 : Int) >>= fun r1 =>
loopN (fun (y53 : (List Str)) (st64 : (List (List Sm)) × (List Int)) =>
chk (okR ((1 : Int) + r1.1)) >>= fun _ =>
compS (fun (y74 : Int) (st92 : (List Int)) =>
m_law_sum 5 st92 y53 ((1 : Int) + r1.1) (2 : Int) x_times >>= fun r98 =>
.ok (some r98.1, r98.2)) (rangeL 0 ((1 : Int) + r1.1)) st64.2 >>= fun q122 =>
appL st64.1 q122.1 >>= fun _ =>
.ok ((st64.1 ++ [q122.1]), q122.2)) ([[("own" : Str)], [("more" : Str), ("own" : Str), ("tie" : Str)], [("so" : Str), ("own" : Str), ("more" : Str)]]) (([] : List (List Sm)), r1.2) >>= fun st135 =>
opt (atI st135.1 (0 : Int)) >>= fun y144 =>
opt (atI st135.1 (1 : Int)) >>= fun y149 =>
opt (atI st135.1 (2 : Int)) >>= fun y154 =>
m_law_sum 5 st135.2 ([("so" : Str), ("own" : Str)]) ((1 : Int) + r1.1) (2 : Int) x_times >>= fun r167 =>
.ok ((T4.mk y144 y149 y154 r167.1), r167.2)
def sp_law_rule (mg : Str → Option Value) : Sp := fun vs H Q E => ∃ (F : Hp) (a_deck : Addr) (w_deck : (List V)) (x_deck : (List Int)) (x_times : Bool), vs = [.ref a_deck, V.bl x_times] ∧ Pre F [(a_deck, .lst w_deck)] H ∧ RL (a := Int) F w_deck x_deck ∧
  wp (m_law_rule x_deck x_times) (fun r => ∀ (F' H' : Hp) (w0 : (List V)), Gr [a_deck] F H F' H' → H' a_deck = some (.lst w0) → RL (a := Int) F' w0 r.2 → ∀ v : V, R (a := (T4 (List Sm) (List Sm) (List Sm) Sm)) F' v r.1 → Q v H')
  (fun n => ∀ (C : Addr) (H' : Hp), mg (Str.ofString n) = some (.ref C) → Kp [a_deck] H H' → E (.ref C) none H')
set_option maxHeartbeats 20000000 in
theorem ok_law_rule (nb : Nb mg) (C_law_sum : Ca P w K mg base "_law_sum" 8 ["deck", "leaves", "many", "deep", "times"] (sp_law_sum 5 mg)) (C_law_take : Ca P w K mg base "_law_take" 1 ["deck", "many"] (sp_law_take mg)) (D : Df K mg "_law_rule" "_law_rule" s_law_rule ["deck", "times"]) : Ca P w K mg base "_law_rule" 9 ["deck", "times"] (sp_law_rule mg) := by
  obtain ⟨fa_law_sum, fd_law_sum, G_law_sum, M_law_sum, K_law_sum, B_law_sum⟩ := C_law_sum.ex
  obtain ⟨fa_law_take, fd_law_take, G_law_take, M_law_take, K_law_take, B_law_take⟩ := C_law_take.ex
  refine Ca.mk' D sc_law_rule (fun vs H Q E h => ?_) (fun q_ f_ cdv A outer s H vs Q E hr h => ?_)
  · obtain ⟨F, _, _, _, _, rfl, _⟩ := h
    rfl
  · obtain ⟨F, a_deck, w_deck, x_deck, x_times, rfl, P0, f_deck, hk⟩ := h
    have nd := sc_law_rule.nd
    have hu64 := hr.units
    have hu128 := hu128_of hr
    have O := P0.start
    refine ⟨_, (pss_cons (ps_toN (ps_set (i := 2) nd rfl (Or.inr rfl) (pe_op op_add pe_int (pe_call G_law_take (hr.mono (by decide)) rfl M_law_take K_law_take B_law_take .nil (passes_call (takes_of rfl rfl rfl rfl) fun _ _ _ _ h => h) (pa_cons (pv 0) (pa_cons pe_int pa_nil))))))
  (pss_cons (ps_toN (ps_set (i := 3) nd rfl (Or.inl rfl) (pe_lst pa_nil)))
  (pss_cons (ps_for (passes_of rfl) rfl (piListK (K := K) rfl (pe_lst (pa_cons (pe_lst (pa_cons pe_str pa_nil)) (pa_cons (pe_lst (pa_cons pe_str (pa_cons pe_str (pa_cons pe_str pa_nil)))) (pa_cons (pe_lst (pa_cons pe_str (pa_cons pe_str (pa_cons pe_str pa_nil)))) pa_nil))))) (pg_name (i := 4) nd rfl (Or.inr rfl)) (pss_one (ps_expr (bmK (K := K) rfl (pe_bm PySem.F.plainAttrs_list PySem.F.slot_list_append PySem.F.type_list_append mt_append (pv 3) (pa_cons (pe_lc (own := [("k", 5)]) (g := gName 5) (tt := _) rfl nd (pi_range1 rfl nb.b_range (pa_cons (pv 2) pa_nil)) (blkOk_by (own := [("k", 5)]) (N := ["deck", "times", "many", "found", "leaves", "k"]) (sc := defScope s_law_rule) (by decide +kernel)) (fun _ _ _ _ _ => (pg_name (i := 5) nd rfl (Or.inl rfl))) (fun _ _ _ _ _ => pts_nil) (fun _ _ _ _ _ => (pe_call G_law_sum (hr.mono (by decide)) rfl M_law_sum K_law_sum B_law_sum .nil passL (pa_cons (pv 0) (pa_cons (pv 4) (pa_cons (pv 2) (pa_cons pe_int (pa_cons (pv 1) pa_nil)))))))) pa_nil))))))
  (pss_one (ps_ret (pe_tup (pa_cons (pe_ix (ixListK (K := K) rfl) (pv 3) pe_int (fun _ _ => rfl)) (pa_cons (pe_ix (ixListK (K := K) rfl) (pv 3) pe_int (fun _ _ => rfl)) (pa_cons (pe_ix (ixListK (K := K) rfl) (pv 3) pe_int (fun _ _ => rfl)) (pa_cons (pe_call G_law_sum (hr.mono (by decide)) rfl M_law_sum K_law_sum B_law_sum .nil (passes_call (takes_of rfl rfl rfl rfl) fun _ _ _ _ h => h) (pa_cons (pv 0) (pa_cons (pe_lst (pa_cons pe_str (pa_cons pe_str pa_nil))) (pa_cons (pv 2) (pa_cons pe_int (pa_cons (pv 1) pa_nil)))))) pa_nil)))))))))), ?_⟩
    refine ⟨_, rfl, _, _, _, _, _, rfl, (O.pre1 0 rfl), f_deck, wp_call hk (fun r1 er2 hk F3 H4 w6 g5 h7 hl8 => ?_) (fun n hn C H1 hC kp => hn C H1 hC (O.kp1 kp 0 rfl))⟩
    have O9 := O.call1 g5 0 rfl h7
    have S_ := g5.f
    refine ⟨_, _, rfl, rfl, [some (V.ref a_deck), some (V.bl x_times), some (V.int ((1 : Int) + r1.1)), none, none, none], rfl, (by show 0 ≤ sizeLine; decide), fun p11 hp12 => ?_⟩
    have hl14 : RL (a := (List Sm)) F3 ([]) ([] : List (List Sm)) := RL.nil
    have O13 := O9.new (o := .lst ([])) hp12
    refine ⟨[some (V.ref a_deck), some (V.bl x_times), some (V.int ((1 : Int) + r1.1)), some (V.ref p11), none, none], rfl, (by show 1 ≤ sizeLine; decide), fun p16 hp17 => ?_⟩
    have hl23 : RL (a := Str) F3 ([V.str ("own" : Str)]) ([("own" : Str)]) := RL.cons R.str RL.nil
    obtain ⟨F18, O19, S20, h21⟩ := O13.putE hp17 (.lst ([V.str ("own" : Str)]))
    have hl8 := hl8.mono S20
    have hl14 := hl14.mono S20
    have hl23 := hl23.mono S20
    have h22 := R.lst (a := Str) h21 hl23
    refine ⟨(by show 3 ≤ sizeLine; decide), fun p24 hp25 => ?_⟩
    have hl31 : RL (a := Str) F18 ([V.str ("more" : Str), V.str ("own" : Str), V.str ("tie" : Str)]) ([("more" : Str), ("own" : Str), ("tie" : Str)]) := RL.cons R.str (RL.cons R.str (RL.cons R.str RL.nil))
    obtain ⟨F26, O27, S28, h29⟩ := O19.putE hp25 (.lst ([V.str ("more" : Str), V.str ("own" : Str), V.str ("tie" : Str)]))
    have hl8 := hl8.mono S28
    have hl14 := hl14.mono S28
    have h22 := h22.mono S28
    have hl31 := hl31.mono S28
    have h30 := R.lst (a := Str) h29 hl31
    refine ⟨(by show 3 ≤ sizeLine; decide), fun p32 hp33 => ?_⟩
    have hl39 : RL (a := Str) F26 ([V.str ("so" : Str), V.str ("own" : Str), V.str ("more" : Str)]) ([("so" : Str), ("own" : Str), ("more" : Str)]) := RL.cons R.str (RL.cons R.str (RL.cons R.str RL.nil))
    obtain ⟨F34, O35, S36, h37⟩ := O27.putE hp33 (.lst ([V.str ("so" : Str), V.str ("own" : Str), V.str ("more" : Str)]))
    have hl8 := hl8.mono S36
    have hl14 := hl14.mono S36
    have h22 := h22.mono S36
    have h30 := h30.mono S36
    have hl39 := hl39.mono S36
    have h38 := R.lst (a := Str) h37 hl39
    refine ⟨(by show 3 ≤ sizeLine; decide), fun p40 hp41 => ?_⟩
    have hl47 : RL (a := (List Str)) F34 ([V.ref p16, V.ref p24, V.ref p32]) ([[("own" : Str)], [("more" : Str), ("own" : Str), ("tie" : Str)], [("so" : Str), ("own" : Str), ("more" : Str)]]) := RL.cons h22 (RL.cons h30 (RL.cons h38 RL.nil))
    obtain ⟨F42, O43, S44, h45⟩ := O35.putE hp41 (.lst ([V.ref p16, V.ref p24, V.ref p32]))
    have hl8 := hl8.mono S44
    have hl14 := hl14.mono S44
    have hl47 := hl47.mono S44
    have h46 := R.lst (a := (List Str)) h45 hl47
    obtain ⟨p48, w49, e50, h51, hl52⟩ := R.lst_ h46
    cases e50
    obtain ⟨L54, hL55, hLs56, hLd57⟩ := loopN_L hk
    refine ⟨_, rfl, ⟨_, (SqLF O43.s h51)⟩, ?_⟩
    refine for_list (K := K) (xs := w49) (fun i σ H_ => ∃ (F_ : Hp) (st : (List (List Sm)) × (List Int)) (w_0 : (List V)) (w_1 : (List V)) (t_0 : Option V), σ = [some (V.ref a_deck), some (V.bl x_times), some (V.int ((1 : Int) + r1.1)), some (V.ref p11), t_0, none] ∧ Same F42 F_ ∧ Ow _ F_ [(p11, .lst w_0), (a_deck, .lst w_1)] H_ ∧ RL (a := (List Sm)) F_ w_0 st.1 ∧ RL (a := Int) F_ w_1 st.2 ∧ L54 (List.drop i ([[("own" : Str)], [("more" : Str), ("own" : Str), ("tie" : Str)], [("so" : Str), ("own" : Str), ("more" : Str)]])) st) ⟨F42, (([] : List (List Sm)), r1.2), [], w6, none, rfl, Same.refl _, O43, hl14, hl8, hL55⟩ (fun i_ σ_ H_ _ hp_ => ?_) ?_ ?_
    · obtain ⟨_, _, _, _, _, _, hS_, hO_, _⟩ := hp_
      exact SqLF hO_.s (hS_ _ _ h51)
    · rintro i58 x59 sg60 H61 hi62 ⟨F70, st64, w65, w66, t69, rfl, S63, O71, hl67, hl68, hL55⟩
      have hl52 := hl52.mono S63
      obtain ⟨y53, e72, r73⟩ := RL.got hl52 hi62
      rw [drop_at e72] at hL55
      have hk := hLs56 _ _ _ hL55
      obtain ⟨c75, hk⟩ := wp_chk hk
      obtain ⟨c80, L76, hL77, hLs78, hLd79⟩ := compS_L hk
      refine ⟨_, rfl, (.inl ⟨rfl, _, SqL.of (O71.at 0 rfl)⟩), _, rfl, _, rfl, c75.lo, c75.hi, fun p81 hp82 => ?_⟩
      have z109 := O71.was hp82
      refine lc_range (lo := 0) (n := (((1 : Int) + r1.1)).toNat) (fun i H => ∃ (F_ : Hp) (st : (List Int)) (acc : List Sm) (wa : List V) (w_0 : (List V)), Same F70 F_ ∧ Ow _ F_ [(p81, .lst wa), (p11, .lst w65), (a_deck, .lst w_0)] H ∧ RL F_ wa acc ∧ RL (a := Int) F_ w_0 st ∧ wa.length ≤ i ∧ L76 (List.drop i (rangeL 0 ((1 : Int) + r1.1))) acc st) ⟨F70, st64.2, [], [], w66, Same.refl _, O71.new hp82, RL.nil, hl68, Nat.zero_le _, hL77⟩ ?_ ?_
      · rintro i83 H85 hi86 ⟨F91, st92, acc88, wa89, w94, S93, O97, hl96, hl95, la90, hL77⟩
        have r73 := r73.mono S93
        rw [rangeL_get0 hi86] at hL77
        have hk := hLs78 _ _ _ _ hL77
        obtain ⟨y74, he_⟩ : ∃ z_, z_ = 0 + (i83 : Int) := ⟨_, rfl⟩
        try rw [← he_] at hk
        rw [← he_]
        refine ⟨rfl, ?_⟩
        refine ⟨_, rfl, _, rfl, _, rfl, _, rfl, _, _, _, _, _, _, _, _, _, rfl, (O97.pre1 2 rfl), hl95, r73, wp_call hk (fun r98 er99 hk F100 H101 w103 g102 h104 hl105 v106 r107 => ?_) (fun n hn => hn.elim)⟩
        have O108 := O97.call1 g102 2 rfl h104
        have S_ := g102.f
        have S93 := S93.trans S_
        have hl96 := hl96.mono S_
        refine ⟨_, (O108.at 0 rfl), (comp_lenR la90 hi86 (by rw [Int.sub_zero]) c80), ?_⟩
        exact ⟨F100, r98.2, acc88 ++ [r98.1], wa89 ++ [v106], w103, S93, O108.set 0 (.lst (wa89 ++ [v106])) rfl, RL.snoc hl96 r107, hl105, by rw [List.length_append]; exact Nat.succ_le_succ la90, hk⟩
      rintro H110 ⟨F111, st112, acc113, wa114, w120, S115, O116, hl117, hl121, la118, hL119⟩
      rw [rangeL_end0] at hL119
      have hk := hLd79 _ _ hL119
      have hl67 := hl67.mono S115
      have S63 := S63.trans S115
      obtain ⟨F123, O124, S125, h126⟩ := O116.frzE 0 rfl z109
      have hl67 := hl67.mono S125
      have S63 := S63.trans S125
      have hl121 := hl121.mono S125
      have hl117 := hl117.mono S125
      have h127 := R.lst (a := Sm) h126 hl117
      obtain ⟨c128, hk⟩ := wp_appL hk
      refine ⟨_, _, _, rfl, rfl, (O124.at 0 rfl), (by rw [hl67.len]; exact c128), ?_⟩
      have O130 := O124.set 0 (.lst (w65 ++ [V.ref p81])) rfl
      have hl131 : RL (a := (List Sm)) F123 (w65 ++ [V.ref p81]) (st64.1 ++ [acc113]) := RL.snoc hl67 h127
      exact ⟨F123, ((st64.1 ++ [acc113]), st112), (w65 ++ [V.ref p81]), w120, some x59, rfl, S63, O130, hl131, hl121, hk⟩
    rintro sg132 H133 ⟨F142, st135, w137, w138, t141, rfl, S134, O143, hl139, hl140, hL136⟩
    rw [drop_end hl52.len] at hL136
    have hk := hLd57 _ hL136
    obtain ⟨y144, e145, hk⟩ := wp_opt hk
    obtain ⟨w146, e147, r148⟩ := hl139.atI e145
    obtain ⟨y149, e150, hk⟩ := wp_opt hk
    obtain ⟨w151, e152, r153⟩ := hl139.atI e150
    obtain ⟨y154, e155, hk⟩ := wp_opt hk
    obtain ⟨w156, e157, r158⟩ := hl139.atI e155
    refine ⟨_, rfl, _, _, _, _, rfl, rfl, (SqL.of (O143.at 0 rfl)), e147, _, rfl, _, _, _, _, rfl, rfl, (SqL.of (O143.at 0 rfl)), e152, _, rfl, _, _, _, _, rfl, rfl, (SqL.of (O143.at 0 rfl)), e157, _, rfl, (by show 2 ≤ sizeLine; decide), fun p159 hp160 => ?_⟩
    have hl166 : RL (a := Str) F142 ([V.str ("so" : Str), V.str ("own" : Str)]) ([("so" : Str), ("own" : Str)]) := RL.cons R.str (RL.cons R.str RL.nil)
    obtain ⟨F161, O162, S163, h164⟩ := O143.putE hp160 (.lst ([V.str ("so" : Str), V.str ("own" : Str)]))
    have hl140 := hl140.mono S163
    have r148 := r148.mono S163
    have r153 := r153.mono S163
    have r158 := r158.mono S163
    have hl166 := hl166.mono S163
    have h165 := R.lst (a := Str) h164 hl166
    refine ⟨_, rfl, _, rfl, _, _, _, _, _, _, _, _, _, rfl, (O162.pre1 1 rfl), hl140, h165, wp_call hk (fun r167 er168 hk F169 H170 w172 g171 h173 hl174 v175 r176 => ?_) (fun n hn C H1 hC kp => hn C H1 hC (O162.kp1 kp 1 rfl))⟩
    have O177 := O162.call1 g171 1 rfl h173
    have S_ := g171.f
    have r148 := r148.mono S_
    have r153 := r153.mono S_
    have r158 := r158.mono S_
    refine ⟨(by show 4 ≤ sizeLine; decide), fun p178 hp179 => ?_⟩
    obtain ⟨F180, O181, S182, h183⟩ := O177.putE hp179 (.tup [w146, w151, w156, v175])
    have r148 := r148.mono S182
    have r153 := r153.mono S182
    have r158 := r158.mono S182
    have hl174 := hl174.mono S182
    have r176 := r176.mono S182
    have h184 : R (a := (T4 (List Sm) (List Sm) (List Sm) Sm)) F180 (.ref p178) (T4.mk y144 y149 y154 r167.1) := R.t4 h183 r148 r153 r158 r176
    exact hk _ _ w172 O181.g (O181.at 1 rfl) hl174 _ h184
abbrev s_law_case : Stmt := top 36
theorem sc_law_case : FnScope ["deck", "most", "times", "rule", "far"] ["deck", "most"] (defScope s_law_case) := ⟨rfl, rfl, rfl, by decide +kernel, rfl, by decide +kernel, by decide +kernel⟩
def m_law_case (x_deck : (List Int)) (x_most : Int) : M ((((List Int) × (List (T3 Int Int Int))) × (T4 (List Sm) (List Sm) (List Sm) Sm)) × (List Int)) :=
m_law_take x_deck (2 : Int) >>= fun r1 =>
m_law_rule r1.2 (decide (r1.1 = (0 : Int))) >>= fun r10 =>
opt (atI ([[(4 : Int), (1000 : Int), ((10 : Int) ^ Int.toNat (29 : Int))], [(4 : Int), (1000 : Int), ((10 : Int) ^ Int.toNat (6 : Int))]]) (if (decide (r1.1 = (0 : Int))) = true then (1 : Int) else 0)) >>= fun y50 =>
m_law_take r10.2 (3 : Int) >>= fun r55 =>
opt (atI y50 r55.1) >>= fun y69 =>
m_law_tree r55.2 x_most y69 >>= fun r74 =>
.ok ((r74.1, r10.1), r74.2)
def sp_law_case (mg : Str → Option Value) : Sp := fun vs H Q E => ∃ (F : Hp) (a_deck : Addr) (w_deck : (List V)) (x_deck : (List Int)) (x_most : Int), vs = [.ref a_deck, V.int x_most] ∧ Pre F [(a_deck, .lst w_deck)] H ∧ RL (a := Int) F w_deck x_deck ∧
  wp (m_law_case x_deck x_most) (fun r => ∀ (F' H' : Hp) (w0 : (List V)), Gr [a_deck] F H F' H' → H' a_deck = some (.lst w0) → RL (a := Int) F' w0 r.2 → ∀ v : V, R (a := (((List Int) × (List (T3 Int Int Int))) × (T4 (List Sm) (List Sm) (List Sm) Sm))) F' v r.1 → Q v H')
  (fun n => ∀ (C : Addr) (H' : Hp), mg (Str.ofString n) = some (.ref C) → Kp [a_deck] H H' → E (.ref C) none H')
set_option maxHeartbeats 20000000 in
theorem ok_law_case (nb : Nb mg) (C_law_rule : Ca P w K mg base "_law_rule" 9 ["deck", "times"] (sp_law_rule mg)) (C_law_take : Ca P w K mg base "_law_take" 1 ["deck", "many"] (sp_law_take mg)) (C_law_tree : Ca P w K mg base "_law_tree" 3 ["deck", "most", "far"] (sp_law_tree mg)) (D : Df K mg "_law_case" "_law_case" s_law_case ["deck", "most"]) : Ca P w K mg base "_law_case" 10 ["deck", "most"] (sp_law_case mg) := by
  obtain ⟨fa_law_rule, fd_law_rule, G_law_rule, M_law_rule, K_law_rule, B_law_rule⟩ := C_law_rule.ex
  obtain ⟨fa_law_take, fd_law_take, G_law_take, M_law_take, K_law_take, B_law_take⟩ := C_law_take.ex
  obtain ⟨fa_law_tree, fd_law_tree, G_law_tree, M_law_tree, K_law_tree, B_law_tree⟩ := C_law_tree.ex
  refine Ca.mk' D sc_law_case (fun vs H Q E h => ?_) (fun q_ f_ cdv A outer s H vs Q E hr h => ?_)
  · obtain ⟨F, _, _, _, _, rfl, _⟩ := h
    rfl
  · obtain ⟨F, a_deck, w_deck, x_deck, x_most, rfl, P0, f_deck, hk⟩ := h
    have nd := sc_law_case.nd
    have hu64 := hr.units
    have hu128 := hu128_of hr
    have O := P0.start
    refine ⟨_, (pss_cons (ps_toN (ps_set (i := 2) nd rfl (Or.inl rfl) (pe_cmpR (op_eqT Int hu64) (pe_call G_law_take (hr.mono (by decide)) rfl M_law_take K_law_take B_law_take .nil (passes_call (takes_of rfl rfl rfl rfl) fun _ _ _ _ h => h) (pa_cons (pv 0) (pa_cons pe_int pa_nil))) pe_int (nomark _))))
  (pss_cons (ps_toN (ps_set (i := 3) nd rfl (Or.inl rfl) (pe_call G_law_rule (hr.mono (by decide)) rfl M_law_rule K_law_rule B_law_rule .nil (passes_call (takes_of rfl rfl rfl rfl) fun _ _ _ _ h => h) (pa_cons (pv 0) (pa_cons (pv 2) pa_nil)))))
  (pss_cons (ps_toN (ps_set (i := 4) nd rfl (Or.inl rfl) (pe_ix (ixListK (K := K) rfl) (pe_ix (ixListK (K := K) rfl) (pe_lst (pa_cons (pe_lst (pa_cons pe_int (pa_cons pe_int (pa_cons (pe_op op_pow pe_int pe_int) pa_nil)))) (pa_cons (pe_lst (pa_cons pe_int (pa_cons pe_int (pa_cons (pe_op op_pow pe_int pe_int) pa_nil)))) pa_nil))) (pe_callTy intB (by rfl) nb.b_int (by decide +kernel) (pa_cons (pv 2) pa_nil)) (fun _ _ => rfl)) (pe_call G_law_take (hr.mono (by decide)) rfl M_law_take K_law_take B_law_take .nil (passes_call (takes_of rfl rfl rfl rfl) fun _ _ _ _ h => h) (pa_cons (pv 0) (pa_cons pe_int pa_nil))) (fun _ _ => rfl))))
  (pss_one (ps_ret (pe_tup (pa_cons (pe_call G_law_tree (hr.mono (by decide)) rfl M_law_tree K_law_tree B_law_tree .nil (passes_call (takes_of rfl rfl rfl rfl) fun _ _ _ _ h => h) (pa_cons (pv 0) (pa_cons (pv 1) (pa_cons (pv 4) pa_nil)))) (pa_cons (pv 3) pa_nil)))))))), ?_⟩
    refine ⟨_, rfl, _, _, _, _, _, rfl, (O.pre1 0 rfl), f_deck, wp_call hk (fun r1 er2 hk F3 H4 w6 g5 h7 hl8 => ?_) (fun n hn C H1 hC kp => hn C H1 hC (O.kp1 kp 0 rfl))⟩
    have O9 := O.call1 g5 0 rfl h7
    have S_ := g5.f
    refine ⟨_, _, R.int, R.int, [some (V.ref a_deck), some (V.int x_most), some (V.bl (decide (r1.1 = (0 : Int)))), none, none], rfl, _, rfl, _, rfl, _, _, _, _, _, rfl, (O9.pre1 0 rfl), hl8, wp_call hk (fun r10 er11 hk F12 H13 w15 g14 h16 hl17 v18 r19 => ?_) (fun n hn C H1 hC kp => hn C H1 hC (O9.kp1 kp 0 rfl))⟩
    have O20 := O9.call1 g14 0 rfl h16
    have S_ := g14.f
    refine ⟨[some (V.ref a_deck), some (V.int x_most), some (V.bl (decide (r1.1 = (0 : Int)))), some v18, none], rfl, _, _, rfl, rfl, (by decide), (by show 3 ≤ sizeLine; decide), fun p21 hp22 => ?_⟩
    have hl28 : RL (a := Int) F12 ([V.int (4 : Int), V.int (1000 : Int), V.int ((10 : Int) ^ Int.toNat (29 : Int))]) ([(4 : Int), (1000 : Int), ((10 : Int) ^ Int.toNat (29 : Int))]) := RL.cons R.int (RL.cons R.int (RL.cons R.int RL.nil))
    obtain ⟨F23, O24, S25, h26⟩ := O20.putE hp22 (.lst ([V.int (4 : Int), V.int (1000 : Int), V.int ((10 : Int) ^ Int.toNat (29 : Int))]))
    have hl17 := hl17.mono S25
    have r19 := r19.mono S25
    have hl28 := hl28.mono S25
    have h27 := R.lst (a := Int) h26 hl28
    refine ⟨_, _, rfl, rfl, (by decide), (by show 3 ≤ sizeLine; decide), fun p29 hp30 => ?_⟩
    have hl36 : RL (a := Int) F23 ([V.int (4 : Int), V.int (1000 : Int), V.int ((10 : Int) ^ Int.toNat (6 : Int))]) ([(4 : Int), (1000 : Int), ((10 : Int) ^ Int.toNat (6 : Int))]) := RL.cons R.int (RL.cons R.int (RL.cons R.int RL.nil))
    obtain ⟨F31, O32, S33, h34⟩ := O24.putE hp30 (.lst ([V.int (4 : Int), V.int (1000 : Int), V.int ((10 : Int) ^ Int.toNat (6 : Int))]))
    have hl17 := hl17.mono S33
    have r19 := r19.mono S33
    have h27 := h27.mono S33
    have hl36 := hl36.mono S33
    have h35 := R.lst (a := Int) h34 hl36
    refine ⟨(by show 2 ≤ sizeLine; decide), fun p37 hp38 => ?_⟩
    have hl44 : RL (a := (List Int)) F31 ([V.ref p21, V.ref p29]) ([[(4 : Int), (1000 : Int), ((10 : Int) ^ Int.toNat (29 : Int))], [(4 : Int), (1000 : Int), ((10 : Int) ^ Int.toNat (6 : Int))]]) := RL.cons h27 (RL.cons h35 RL.nil)
    obtain ⟨F39, O40, S41, h42⟩ := O32.putE hp38 (.lst ([V.ref p21, V.ref p29]))
    have hl17 := hl17.mono S41
    have r19 := r19.mono S41
    have hl44 := hl44.mono S41
    have h43 := R.lst (a := (List Int)) h42 hl44
    obtain ⟨p45, w46, e47, h48, hl49⟩ := R.lst_ h43
    cases e47
    obtain ⟨y50, e51, hk⟩ := wp_opt hk
    obtain ⟨w52, e53, r54⟩ := hl49.atI e51
    refine ⟨_, rfl, _, rfl, _, _, _, _, rfl, rfl, (SqLF O40.s h48), e53, _, rfl, _, _, _, _, _, rfl, (O40.pre1 0 rfl), hl17, wp_call hk (fun r55 er56 hk F57 H58 w60 g59 h61 hl62 => ?_) (fun n hn C H1 hC kp => hn C H1 hC (O40.kp1 kp 0 rfl))⟩
    have O63 := O40.call1 g59 0 rfl h61
    have S_ := g59.f
    have r19 := r19.mono S_
    have r54 := r54.mono S_
    obtain ⟨p64, w65, e66, h67, hl68⟩ := R.lst_ r54
    cases e66
    obtain ⟨y69, e70, hk⟩ := wp_opt hk
    obtain ⟨w71, e72, r73⟩ := hl68.atI e70
    obtain rfl := R.int_ r73
    refine ⟨_, _, _, _, rfl, rfl, (SqLF O63.s h67), e72, [some (V.ref a_deck), some (V.int x_most), some (V.bl (decide (r1.1 = (0 : Int)))), some v18, some (V.int y69)], rfl, _, rfl, _, rfl, _, rfl, _, _, _, _, _, _, rfl, (O63.pre1 0 rfl), hl62, wp_call hk (fun r74 er75 hk F76 H77 w79 g78 h80 hl81 v82 r83 => ?_) (fun n hn C H1 hC kp => hn C H1 hC (O63.kp1 kp 0 rfl))⟩
    have O84 := O63.call1 g78 0 rfl h80
    have S_ := g78.f
    have r19 := r19.mono S_
    refine ⟨_, rfl, (by show 2 ≤ sizeLine; decide), fun p85 hp86 => ?_⟩
    obtain ⟨F87, O88, S89, h90⟩ := O84.putE hp86 (.tup [v82, v18])
    have r19 := r19.mono S89
    have hl81 := hl81.mono S89
    have r83 := r83.mono S89
    have h91 : R (a := (((List Int) × (List (T3 Int Int Int))) × (T4 (List Sm) (List Sm) (List Sm) Sm))) F87 (.ref p85) (r74.1, r10.1) := R.t2 h90 r83 r19
    exact hk _ _ w79 O88.g (O88.at 0 rfl) hl81 _ h91
abbrev s_law_value : Stmt := top 37
theorem sc_law_value : FnScope ["told", "known", "one", "other", "part"] ["told", "known"] (defScope s_law_value) := ⟨rfl, rfl, rfl, by decide +kernel, rfl, by decide +kernel, by decide +kernel⟩
def m_law_value : Nat → Sm → (List (Str × IL)) → M (Int)
  | 0, _, _ => bad
  | k_ + 1, x_told, x_known =>
    if (Sm.word x_told) = ("number" : Str) then (
    opt (Sm.int? x_told) >>= fun y6 =>
    .ok y6)
    else (
    if (Sm.word x_told) ∈ ([(("own" : Str), ("tie" : Str)).1, (("own" : Str), ("tie" : Str)).2]) then (
    opt (dGet x_known (Sm.word x_told)) >>= fun y40 =>
    opt (IL.i? y40) >>= fun y45 =>
    .ok y45)
    else (
    if (Sm.word x_told) ∈ ([(("so" : Str), ("more" : Str)).1, (("so" : Str), ("more" : Str)).2]) then (
    opt (dGet x_known (Sm.word x_told)) >>= fun y76 =>
    opt (Sm.int? x_told) >>= fun y81 =>
    opt (IL.l? y76) >>= fun y87 =>
    opt (atI y87 y81) >>= fun y95 =>
    .ok y95)
    else (
    opt (Sm.two? x_told) >>= fun y100 =>
    compS (fun (y117 : Sm) (st134 : Unit) =>
    m_law_value k_ y117 x_known >>= fun r140 =>
    .ok (some r140, ())) ([y100.1, y100.2]) () >>= fun q157 =>
    two2 q157.1 >>= fun (x168, x169) =>
    if (Sm.word x_told) = ("times" : Str) then (
    chk (CMulW x168 x169) >>= fun _ =>
    .ok (x168 * x169))
    else (
    if (Sm.word x_told) ∈ ([(("plus" : Str), ("less" : Str)).1, (("plus" : Str), ("less" : Str)).2]) then (
    opt (atI ([(1 : Int), (-(1 : Int))]) (if (decide ((Sm.word x_told) = ("less" : Str))) = true then (1 : Int) else 0)) >>= fun y224 =>
    chk (CMulW y224 x169) >>= fun _ =>
    .ok (x168 + (y224 * x169)))
    else (
    opt (atI (sortT ([x168, x169])) (if (decide ((Sm.word x_told) = ("most" : Str))) = true then (1 : Int) else 0)) >>= fun y260 =>
    .ok y260)))))
def sp_law_value (k_ : Nat) (mg : Str → Option Value) : Sp := fun vs H Q E => ∃ (F : Hp) (v_told : V) (x_told : Sm) (v_known : V) (x_known : (List (Str × IL))), vs = [v_told, v_known] ∧ Pre F [] H ∧ R (a := Sm) F v_told x_told ∧ RDv (κ := Str) (β := IL) F v_known x_known ∧
  wp (m_law_value k_ x_told x_known) (fun r => ∀ (F' H' : Hp), Gr [] F H F' H' → Q (V.int r) H')
  (fun n => ∀ (C : Addr) (H' : Hp), mg (Str.ofString n) = some (.ref C) → Kp [] H H' → E (.ref C) none H')
set_option maxHeartbeats 20000000 in
theorem ok_law_value (nb : Nb mg) (D : Df K mg "_law_value" "_law_value" s_law_value ["told", "known"]) : ∀ k_ : Nat, Ca P w K mg base "_law_value" (k_ + 1) ["told", "known"] (sp_law_value k_ mg) := by
  intro k_
  induction k_ with
  | zero =>
    refine Ca.mk' D sc_law_value (fun vs H Q E h => ?_) (fun q_ f_ cdv A outer s H vs Q E hr h => ?_)
    · obtain ⟨F, _, _, _, _, rfl, _⟩ := h
      rfl
    · obtain ⟨F, _, _, _, _, rfl, _, _, _, hk⟩ := h
      exact hk.elim
  | succ k_ ih_ =>
    have C_law_value := ih_
    obtain ⟨fa_law_value, fd_law_value, G_law_value, M_law_value, K_law_value, B_law_value⟩ := C_law_value.ex
    refine Ca.mk' D sc_law_value (fun vs H Q E h => ?_) (fun q_ f_ cdv A outer s H vs Q E hr h => ?_)
    · obtain ⟨F, _, _, _, _, rfl, _⟩ := h
      rfl
    · obtain ⟨F, v_told, x_told, v_known, x_known, rfl, P0, f_told, f_known, hk⟩ := h
      have nd := sc_law_value.nd
      have hu64 := hr.units
      have hu128 := hu128_of hr
      have O := P0.start
      refine ⟨_, (pss_cons (ps_if (pt_cmpR (op_eqT Str hu64) (pe_ix (ixTupK (K := K) rfl) (pv 0) pe_int (fun _ _ => rfl)) pe_str (nomark _)) (pss_one (ps_ret (pe_ix (ixTupK (K := K) rfl) (pv 0) pe_int (fun _ _ => rfl)))) pss_nil)
  (pss_cons (ps_if (pt_cmpR (op_inT Str hu64) (pe_ix (ixTupK (K := K) rfl) (pv 0) pe_int (fun _ _ => rfl)) (pe_tup (pa_cons pe_str (pa_cons pe_str pa_nil))) rfl) (pss_one (ps_ret (pe_dget (u1_of hu64) (pv 1) (pe_ix (ixTupK (K := K) rfl) (pv 0) pe_int (fun _ _ => rfl)) (fun _ _ => rfl)))) pss_nil)
  (pss_cons (ps_if (pt_cmpR (op_inT Str hu64) (pe_ix (ixTupK (K := K) rfl) (pv 0) pe_int (fun _ _ => rfl)) (pe_tup (pa_cons pe_str (pa_cons pe_str pa_nil))) rfl) (pss_one (ps_ret (pe_ix (ixListK (K := K) rfl) (pe_dget (u1_of hu64) (pv 1) (pe_ix (ixTupK (K := K) rfl) (pv 0) pe_int (fun _ _ => rfl)) (fun _ _ => rfl)) (pe_ix (ixTupK (K := K) rfl) (pv 0) pe_int (fun _ _ => rfl)) (fun _ _ => rfl)))) pss_nil)
  (pss_cons (ps_asg (pe_lc (own := [("part", 4)]) (g := gName 4) (tt := _) rfl nd (piTupK (K := K) rfl (pe_slice (slTupK (K := K) rfl) (pv 0) (po_some pe_int) po_none)) (blkOk_by (own := [("part", 4)]) (N := ["told", "known", "one", "other", "part"]) (sc := defScope s_law_value) (by decide +kernel)) (fun _ _ _ _ _ => (pg_name (i := 4) nd rfl (Or.inl rfl))) (fun _ _ _ _ _ => pts_nil) (fun _ _ _ _ _ => (pe_call G_law_value (hr.mono (by omega)) rfl M_law_value K_law_value B_law_value .nil passL (pa_cons (pv 4) (pa_cons (pv 1) pa_nil))))) (pgLstK (K := K) rfl rfl (pgs_cons (pg_name (i := 2) nd rfl (Or.inl rfl)) (pgs_cons (pg_name (i := 3) nd rfl (Or.inl rfl)) pgs_nil))))
  (pss_cons (ps_if (pt_cmpR (op_eqT Str hu64) (pe_ix (ixTupK (K := K) rfl) (pv 0) pe_int (fun _ _ => rfl)) pe_str (nomark _)) (pss_one (ps_ret (pe_op op_mulW (pv 2) (pv 3)))) pss_nil)
  (pss_cons (ps_if (pt_cmpR (op_inT Str hu64) (pe_ix (ixTupK (K := K) rfl) (pv 0) pe_int (fun _ _ => rfl)) (pe_tup (pa_cons pe_str (pa_cons pe_str pa_nil))) rfl) (pss_one (ps_ret (pe_op op_add (pv 2) (pe_op op_mulW (pe_ix (ixListK (K := K) rfl) (pe_lst (pa_cons pe_int (pa_cons (pe_un un_neg pe_int) pa_nil))) (pe_callTy intB (by rfl) nb.b_int (by decide +kernel) (pa_cons (pe_cmpR (op_eqT Str hu64) (pe_ix (ixTupK (K := K) rfl) (pv 0) pe_int (fun _ _ => rfl)) pe_str (nomark _)) pa_nil)) (fun _ _ => rfl)) (pv 3))))) pss_nil)
  (pss_one (ps_ret (pe_ix (ixListK (K := K) rfl) (pe_callB (cr_sortedT Int hu128) (by rfl) nb.b_sorted (by decide +kernel) (pa_cons (pe_lst (pa_cons (pv 2) (pa_cons (pv 3) pa_nil))) pa_nil)) (pe_callTy intB (by rfl) nb.b_int (by decide +kernel) (pa_cons (pe_cmpR (op_eqT Str hu64) (pe_ix (ixTupK (K := K) rfl) (pv 0) pe_int (fun _ _ => rfl)) pe_str (nomark _)) pa_nil)) (fun _ _ => rfl)))))))))), ?_⟩
      obtain ⟨p1, w2, e3, h4⟩ := R.sm_ f_told
      cases e3
      refine ⟨_, rfl, _, _, _, _, rfl, rfl, (SqTK O.s h4), (atI0 _ _), _, _, R.str, R.str, _, rfl, ?_⟩
      refine iteD (fun q5 => ?_) (fun q5 => ?_)
      · have hk := wp_if hk q5
        obtain ⟨y6, e7, hk⟩ := wp_opt hk
        obtain ⟨p8, w9, e10, h11⟩ := R.sm_int f_told e7
        cases e10
        refine ⟨_, rfl, _, _, _, _, rfl, rfl, (SqTK O.s h11), rfl, ?_⟩
        exact hk _ _  O.g 
      · have hk := wp_el hk q5
        obtain ⟨p12, w13, e14, h15⟩ := R.sm_ f_told
        cases e14
        refine ⟨_, rfl, _, _, _, _, rfl, rfl, (SqTK O.s h15), (atI0 _ _), (by show 2 ≤ sizeLine; decide), fun p16 hp17 => ?_⟩
        obtain ⟨F18, O19, S20, h21⟩ := O.putE hp17 (.tup [V.str ("own" : Str), V.str ("tie" : Str)])
        have f_told := f_told.mono S20
        have f_known := f_known.mono S20
        have h22 : R (a := (Str × Str)) F18 (.ref p16) (("own" : Str), ("tie" : Str)) := R.t2 h21 R.str R.str
        obtain ⟨p23, v26, v27, e24, h25, r28, r29⟩ := R.t2T_ h22
        cases e24
        obtain rfl := R.str_ r28
        obtain rfl := R.str_ r29
        refine ⟨_, _, _, _, R.str, rfl, (.inr (h25.mono O19.s)), (RL.mono (RL.cons R.str (RL.cons R.str RL.nil)) O19.s), _, rfl, ?_⟩
        refine iteD (fun q30 => ?_) (fun q30 => ?_)
        · have hk := wp_if hk q30
          obtain ⟨p31, w32, e33, h34⟩ := R.sm_ f_told
          cases e33
          obtain ⟨p35, w36, e37, h38, hl39⟩ := f_known
          cases e37
          have h38 : Rd F18 _ (.dK w36) := h38
          obtain ⟨y40, e41, hk⟩ := wp_opt hk
          obtain ⟨w42, e43, r44⟩ := RD.some hl39 (k := (Sm.word x_told)) e41
          obtain ⟨y45, e46, hk⟩ := wp_opt hk
          have r47 := R.il_i r44 e46
          obtain rfl := R.int_ r47
          refine ⟨_, rfl, _, rfl, _, _, _, _, rfl, rfl, (SqTK O19.s h34), (atI0 _ _), _, _, rfl, (dget_S (rd_mono O19.s h38) e43), ?_⟩
          exact hk _ _  O19.g 
        · have hk := wp_el hk q30
          obtain ⟨p48, w49, e50, h51⟩ := R.sm_ f_told
          cases e50
          refine ⟨_, rfl, _, _, _, _, rfl, rfl, (SqTK O19.s h51), (atI0 _ _), (by show 2 ≤ sizeLine; decide), fun p52 hp53 => ?_⟩
          obtain ⟨F54, O55, S56, h57⟩ := O19.putE hp53 (.tup [V.str ("so" : Str), V.str ("more" : Str)])
          have f_told := f_told.mono S56
          have f_known := f_known.mono S56
          have h58 : R (a := (Str × Str)) F54 (.ref p52) (("so" : Str), ("more" : Str)) := R.t2 h57 R.str R.str
          obtain ⟨p59, v62, v63, e60, h61, r64, r65⟩ := R.t2T_ h58
          cases e60
          obtain rfl := R.str_ r64
          obtain rfl := R.str_ r65
          refine ⟨_, _, _, _, R.str, rfl, (.inr (h61.mono O55.s)), (RL.mono (RL.cons R.str (RL.cons R.str RL.nil)) O55.s), _, rfl, ?_⟩
          refine iteD (fun q66 => ?_) (fun q66 => ?_)
          · have hk := wp_if hk q66
            obtain ⟨p67, w68, e69, h70⟩ := R.sm_ f_told
            cases e69
            obtain ⟨p71, w72, e73, h74, hl75⟩ := f_known
            cases e73
            have h74 : Rd F54 _ (.dK w72) := h74
            obtain ⟨y76, e77, hk⟩ := wp_opt hk
            obtain ⟨w78, e79, r80⟩ := RD.some hl75 (k := (Sm.word x_told)) e77
            obtain ⟨y81, e82, hk⟩ := wp_opt hk
            obtain ⟨p83, w84, e85, h86⟩ := R.sm_int f_told e82
            cases e85
            obtain ⟨y87, e88, hk⟩ := wp_opt hk
            have r89 := R.il_l r80 e88
            obtain ⟨p90, w91, e92, h93, hl94⟩ := R.lst_ r89
            cases e92
            obtain ⟨y95, e96, hk⟩ := wp_opt hk
            obtain ⟨w97, e98, r99⟩ := hl94.atI e96
            obtain rfl := R.int_ r99
            refine ⟨_, rfl, _, rfl, _, _, _, _, rfl, rfl, (SqTK O55.s h70), (atI0 _ _), _, _, rfl, (dget_S (rd_mono O55.s h74) e79), _, rfl, _, _, _, _, rfl, rfl, (SqTK O55.s h86), rfl, _, _, _, _, rfl, rfl, (SqLF O55.s h93), e98, ?_⟩
            exact hk _ _  O55.g 
          · have hk := wp_el hk q66
            obtain ⟨y100, e101, hk⟩ := wp_opt hk
            obtain ⟨p102, w103, v104, v105, e106, h107, r108, r109⟩ := R.sm_two f_told e101
            cases e106
            refine ⟨_, rfl, _, rfl, _, _, rfl, (SqTK O55.s h107), (sl3 _ _ _), fun p110 hp111 => ?_⟩
            obtain ⟨F112, O113, S114, h115⟩ := O55.putE hp111 (.tup [v104, v105])
            have f_told := f_told.mono S114
            have f_known := f_known.mono S114
            have r108 := r108.mono S114
            have r109 := r109.mono S114
            have hl116 : RL (a := Sm) F112 [v104, v105] [y100.1, y100.2] := RL.cons r108 (RL.cons r109 RL.nil)
            obtain ⟨c122, L118, hL119, hLs120, hLd121⟩ := compS_L hk
            refine ⟨_, rfl, ⟨_, (SqTF O113.s h115)⟩, fun p123 hp124 => ?_⟩
            have z146 := O113.was hp124
            refine lc_tup (K := K) (xs := [v104, v105]) (fun i H => ∃ (F_ : Hp) (st : Unit) (acc : List Int) (wa : List V), Same F112 F_ ∧ Ow _ F_ [(p123, .lst wa)] H ∧ RL F_ wa acc ∧ wa.length ≤ i ∧ L118 (List.drop i ([y100.1, y100.2])) acc st) ⟨F112, (), [], [], Same.refl _, O113.new hp124, RL.nil, Nat.zero_le _, hL119⟩ (fun i_ H_ _ hp_ => ?_) ?_ ?_
            · obtain ⟨_, _, _, _, hS_, hO_, _⟩ := hp_
              exact SqTF hO_.s (hS_ _ _ h115)
            · rintro i125 x126 H127 hi128 ⟨F133, st134, acc130, wa131, S135, O137, hl136, la132, hL119⟩
              have f_known := f_known.mono S135
              have hl116 := hl116.mono S135
              obtain ⟨y117, e138, r139⟩ := RL.got hl116 hi128
              rw [drop_at e138] at hL119
              have hk := hLs120 _ _ _ _ hL119
              refine ⟨rfl, ?_⟩
              refine ⟨_, rfl, _, rfl, _, _, _, _, _, rfl, O137.pre0, r139, f_known, wp_call hk (fun r140 er141 hk F142 H143 g144 => ?_) (fun n hn => hn.elim)⟩
              have O145 := O137.call0 g144
              have S_ := g144.f
              have hl116 := hl116.mono S_
              have S135 := S135.trans S_
              have hl136 := hl136.mono S_
              refine ⟨_, (O145.at 0 rfl), (comp_len la132 hi128 hl116.len c122), ?_⟩
              exact ⟨F142, (), acc130 ++ [r140], wa131 ++ [V.int r140], S135, O145.set 0 (.lst (wa131 ++ [V.int r140])) rfl, RL.snoc hl136 R.int, by rw [List.length_append]; exact Nat.succ_le_succ la132, hk⟩
            rintro H147 ⟨F148, st149, acc150, wa151, S152, O153, hl154, la155, hL156⟩
            rw [drop_end hl116.len] at hL156
            have hk := hLd121 _ _ hL156
            have f_told := f_told.mono S152
            obtain ⟨F158, O159, S160, h161⟩ := O153.frzE 0 rfl z146
            have f_told := f_told.mono S160
            have hl154 := hl154.mono S160
            have h162 := R.lst (a := Int) h161 hl154
            obtain ⟨p163, w164, e165, h166, hl167⟩ := R.lst_ h162
            cases e165
            obtain ⟨x168, x169, e170, hk⟩ := wp_two2 hk
            have hl171 : RL (a := Int) F158 w164 [x168, x169] := by rw [← e170]; exact hl167
            obtain ⟨w172, w173, e174, r175, q176⟩ := RL.cons_ hl171
            obtain ⟨w177, w178, e179, r180, q181⟩ := RL.cons_ q176
            rw [e179, RL.nil_ q181] at e174
            obtain rfl := R.int_ r175
            obtain rfl := R.int_ r180
            refine ⟨_, _, rfl, (SqLF O159.s h166), (by rw [e174]; rfl), ?_⟩
            rw [e174]
            obtain ⟨p182, w183, e184, h185⟩ := R.sm_ f_told
            cases e184
            refine ⟨_, _, rfl, _, _, rfl, rfl, _, rfl, _, _, _, _, rfl, rfl, (SqTK O159.s h185), (atI0 _ _), _, _, R.str, R.str, _, rfl, ?_⟩
            refine iteD (fun q186 => ?_) (fun q186 => ?_)
            · have hk := wp_if hk q186
              obtain ⟨c187, hk⟩ := wp_chk hk
              refine ⟨_, rfl, _, rfl, _, _, rfl, rfl, c187, ?_⟩
              exact hk _ _  O159.g 
            · have hk := wp_el hk q186
              obtain ⟨p188, w189, e190, h191⟩ := R.sm_ f_told
              cases e190
              refine ⟨_, rfl, _, _, _, _, rfl, rfl, (SqTK O159.s h191), (atI0 _ _), (by show 2 ≤ sizeLine; decide), fun p192 hp193 => ?_⟩
              obtain ⟨F194, O195, S196, h197⟩ := O159.putE hp193 (.tup [V.str ("plus" : Str), V.str ("less" : Str)])
              have f_told := f_told.mono S196
              have h198 : R (a := (Str × Str)) F194 (.ref p192) (("plus" : Str), ("less" : Str)) := R.t2 h197 R.str R.str
              obtain ⟨p199, v202, v203, e200, h201, r204, r205⟩ := R.t2T_ h198
              cases e200
              obtain rfl := R.str_ r204
              obtain rfl := R.str_ r205
              refine ⟨_, _, _, _, R.str, rfl, (.inr (h201.mono O195.s)), (RL.mono (RL.cons R.str (RL.cons R.str RL.nil)) O195.s), _, rfl, ?_⟩
              refine iteD (fun q206 => ?_) (fun q206 => ?_)
              · have hk := wp_if hk q206
                refine ⟨_, rfl, _, rfl, (by show 2 ≤ sizeLine; decide), fun p207 hp208 => ?_⟩
                have hl214 : RL (a := Int) F194 ([V.int (1 : Int), V.int (-(1 : Int))]) ([(1 : Int), (-(1 : Int))]) := RL.cons R.int (RL.cons R.int RL.nil)
                obtain ⟨F209, O210, S211, h212⟩ := O195.putE hp208 (.lst ([V.int (1 : Int), V.int (-(1 : Int))]))
                have f_told := f_told.mono S211
                have hl214 := hl214.mono S211
                have h213 := R.lst (a := Int) h212 hl214
                obtain ⟨p215, w216, e217, h218⟩ := R.sm_ f_told
                cases e217
                obtain ⟨p219, w220, e221, h222, hl223⟩ := R.lst_ h213
                cases e221
                obtain ⟨y224, e225, hk⟩ := wp_opt hk
                obtain ⟨w226, e227, r228⟩ := hl223.atI e225
                obtain rfl := R.int_ r228
                obtain ⟨c229, hk⟩ := wp_chk hk
                refine ⟨_, rfl, _, _, _, _, rfl, rfl, (SqTK O210.s h218), (atI0 _ _), _, _, R.str, R.str, _, rfl, _, _, _, _, rfl, rfl, (SqLF O210.s h222), e227, _, rfl, _, _, rfl, rfl, c229, _, _, rfl, rfl, ?_⟩
                exact hk _ _  O210.g 
              · have hk := wp_el hk q206
                refine ⟨_, rfl, _, rfl, (by show 2 ≤ sizeLine; decide), fun p230 hp231 => ?_⟩
                have hl237 : RL (a := Int) F194 ([V.int x168, V.int x169]) ([x168, x169]) := RL.cons R.int (RL.cons R.int RL.nil)
                obtain ⟨F232, O233, S234, h235⟩ := O195.putE hp231 (.lst ([V.int x168, V.int x169]))
                have f_told := f_told.mono S234
                have hl237 := hl237.mono S234
                have h236 := R.lst (a := Int) h235 hl237
                obtain ⟨p238, w239, e240, h241, hl242⟩ := R.lst_ h236
                cases e240
                refine ⟨_, _, _, rfl, (O233.s _ _ h241), (RL.mono hl242 O233.s), fun p243 hp244 => ?_⟩
                have hl250 : RL (a := Int) F232 (sortV w239 ([x168, x169])) (sortT ([x168, x169])) := (RL.sorted hl242)
                obtain ⟨F245, O246, S247, h248⟩ := O233.putE hp244 (.lst (sortV w239 ([x168, x169])))
                have f_told := f_told.mono S247
                have hl250 := hl250.mono S247
                have h249 := R.lst (a := Int) h248 hl250
                obtain ⟨p251, w252, e253, h254⟩ := R.sm_ f_told
                cases e253
                obtain ⟨p255, w256, e257, h258, hl259⟩ := R.lst_ h249
                cases e257
                obtain ⟨y260, e261, hk⟩ := wp_opt hk
                obtain ⟨w262, e263, r264⟩ := hl259.atI e261
                obtain rfl := R.int_ r264
                refine ⟨_, rfl, _, _, _, _, rfl, rfl, (SqTK O246.s h254), (atI0 _ _), _, _, R.str, R.str, _, rfl, _, _, _, _, rfl, rfl, (SqLF O246.s h258), e263, ?_⟩
                exact hk _ _  O246.g 
abbrev s_law_near : Stmt := top 38
theorem sc_law_near : FnScope ["tree", "place", "a", "b", "length"] ["tree", "place"] (defScope s_law_near) := ⟨rfl, rfl, rfl, by decide +kernel, rfl, by decide +kernel, by decide +kernel⟩
def m_law_near (x_tree : ((List Int) × (List (T3 Int Int Int)))) (x_place : Int) : M ((List (Int × Int))) :=
compS (fun (y14 : (T3 Int Int Int)) (st31 : Unit) =>
if x_place ∈ ([(y14.a, y14.b).1, (y14.a, y14.b).2]) then (
.ok (some (((y14.a + y14.b) - x_place), y14.c), ()))
else (
.ok (none, ()))) x_tree.2 () >>= fun q79 =>
.ok (sortT q79.1)
def sp_law_near (mg : Str → Option Value) : Sp := fun vs H Q E => ∃ (F : Hp) (v_tree : V) (x_tree : ((List Int) × (List (T3 Int Int Int)))) (x_place : Int), vs = [v_tree, V.int x_place] ∧ Pre F [] H ∧ R (a := ((List Int) × (List (T3 Int Int Int)))) F v_tree x_tree ∧
  wp (m_law_near x_tree x_place) (fun r => ∀ (F' H' : Hp), Gr [] F H F' H' → ∀ (p : Addr) (w : (List V)), H p = none → F' p = none → H' p = some (.lst w) → RL (a := (Int × Int)) F' w r → Q (.ref p) H')
  (fun n => ∀ (C : Addr) (H' : Hp), mg (Str.ofString n) = some (.ref C) → Kp [] H H' → E (.ref C) none H')
set_option maxHeartbeats 20000000 in
theorem ok_law_near (nb : Nb mg) (D : Df K mg "_law_near" "_law_near" s_law_near ["tree", "place"]) : Ca P w K mg base "_law_near" 1 ["tree", "place"] (sp_law_near mg) := by
  refine Ca.mk' D sc_law_near (fun vs H Q E h => ?_) (fun q_ f_ cdv A outer s H vs Q E hr h => ?_)
  · obtain ⟨F, _, _, _, rfl, _⟩ := h
    rfl
  · obtain ⟨F, v_tree, x_tree, x_place, rfl, P0, f_tree, hk⟩ := h
    have nd := sc_law_near.nd
    have hu64 := hr.units
    have hu128 := hu128_of hr
    have O := P0.start
    refine ⟨_, (pss_one (ps_ret (pe_callB (cr_sortedT (Int × Int) hu128) (by rfl) nb.b_sorted (by decide +kernel) (pa_cons (pe_lc (own := [("a", 2), ("b", 3), ("length", 4)]) (g := gTup K 3 (gCons (gName 2) (gCons (gName 3) (gCons (gName 4) (gNil))))) (tt := _) rfl nd (piListK (K := K) rfl (pe_ix (ixTupK (K := K) rfl) (pv 0) pe_int (fun _ _ => rfl))) (blkOk_by (own := [("a", 2), ("b", 3), ("length", 4)]) (N := ["tree", "place", "a", "b", "length"]) (sc := defScope s_law_near) (by decide +kernel)) (fun _ _ _ _ _ => (pg_tup rfl (pgs_cons (pg_name (i := 2) nd rfl (Or.inl rfl)) (pgs_cons (pg_name (i := 3) nd rfl (Or.inl rfl)) (pgs_cons (pg_name (i := 4) nd rfl (Or.inl rfl)) pgs_nil))))) (fun _ _ _ _ _ => (pts_one (pt_cmpR (op_inT Int hu64) (pv 1) (pe_tup (pa_cons (pv 2) (pa_cons (pv 3) pa_nil))) rfl))) (fun _ _ _ _ _ => (pe_tup (pa_cons (pe_op op_sub (pe_op op_add (pv 2) (pv 3)) (pv 1)) (pa_cons (pv 4) pa_nil))))) pa_nil)))), ?_⟩
    obtain ⟨p2, v5, v6, e3, h4, r7, r8⟩ := R.t2_ f_tree
    cases e3
    obtain ⟨p9, w10, e11, h12, hl13⟩ := R.lst_ r8
    cases e11
    obtain ⟨c19, L15, hL16, hLs17, hLd18⟩ := compS_L hk
    refine ⟨_, rfl, _, _, _, _, rfl, rfl, (SqTF O.s h4), rfl, _, rfl, ⟨_, (SqLF O.s h12)⟩, fun p20 hp21 => ?_⟩
    have z68 := O.was hp21
    refine lc_list (K := K) (xs := w10) (fun i H => ∃ (F_ : Hp) (st : Unit) (acc : List (Int × Int)) (wa : List V), Same F F_ ∧ Ow _ F_ [(p20, .lst wa)] H ∧ RL F_ wa acc ∧ wa.length ≤ i ∧ L15 (List.drop i x_tree.2) acc st) ⟨F, (), [], [], Same.refl _, O.new hp21, RL.nil, Nat.zero_le _, hL16⟩ (fun i_ H_ _ hp_ => ?_) ?_ ?_
    · obtain ⟨_, _, _, _, hS_, hO_, _⟩ := hp_
      exact SqLF hO_.s (hS_ _ _ h12)
    · rintro i22 x23 H24 hi25 ⟨F30, st31, acc27, wa28, S32, O34, hl33, la29, hL16⟩
      have hl13 := hl13.mono S32
      obtain ⟨y14, e35, r36⟩ := RL.got hl13 hi25
      rw [drop_at e35] at hL16
      have hk := hLs17 _ _ _ _ hL16
      obtain ⟨p37, v40, v41, v42, e38, h39, r43, r44, r45⟩ := R.t3_ r36
      cases e38
      obtain rfl := R.int_ r43
      obtain rfl := R.int_ r44
      obtain rfl := R.int_ r45
      refine ⟨_, _, rfl, (SqTF O34.s h39), rfl, _, _, rfl, _, _, rfl, _, _, rfl, rfl, rfl, _, rfl, _, rfl, _, rfl, (by show 2 ≤ sizeLine; decide), fun p46 hp47 => ?_⟩
      obtain ⟨F48, O49, S50, h51⟩ := O34.putE hp47 (.tup [V.int y14.a, V.int y14.b])
      have hl13 := hl13.mono S50
      have S32 := S32.trans S50
      have hl33 := hl33.mono S50
      have h52 : R (a := (Int × Int)) F48 (.ref p46) (y14.a, y14.b) := R.t2 h51 R.int R.int
      obtain ⟨p53, v56, v57, e54, h55, r58, r59⟩ := R.t2_ h52
      cases e54
      obtain rfl := R.int_ r58
      obtain rfl := R.int_ r59
      refine ⟨_, _, _, _, R.int, rfl, (.inr (.inl (O49.s _ _ h55))), (RL.mono (RL.cons R.int (RL.cons R.int RL.nil)) O49.s), _, rfl, ?_⟩
      refine iteD (fun q60 => ?_) (fun q60 => ?_)
      · have hk := wp_if hk q60
        refine ⟨_, rfl, _, rfl, _, _, rfl, rfl, _, rfl, _, _, rfl, rfl, _, rfl, (by show 2 ≤ sizeLine; decide), fun p61 hp62 => ?_⟩
        obtain ⟨F63, O64, S65, h66⟩ := O49.putE hp62 (.tup [V.int ((y14.a + y14.b) - x_place), V.int y14.c])
        have hl13 := hl13.mono S65
        have S32 := S32.trans S65
        have hl33 := hl33.mono S65
        have h67 : R (a := (Int × Int)) F63 (.ref p61) (((y14.a + y14.b) - x_place), y14.c) := R.t2 h66 R.int R.int
        refine ⟨_, (O64.at 0 rfl), (comp_len la29 hi25 hl13.len c19), ?_⟩
        exact ⟨F63, (), acc27 ++ [(((y14.a + y14.b) - x_place), y14.c)], wa28 ++ [V.ref p61], S32, O64.set 0 (.lst (wa28 ++ [V.ref p61])) rfl, RL.snoc hl33 h67, by rw [List.length_append]; exact Nat.succ_le_succ la29, hk⟩
      · have hk := wp_el hk q60
        exact ⟨F48, (), acc27, wa28, S32, O49, hl33, Nat.le_succ_of_le la29, hk⟩
    rintro H69 ⟨F70, st71, acc72, wa73, S74, O75, hl76, la77, hL78⟩
    rw [drop_end hl13.len] at hL78
    have hk := hLd18 _ _ hL78
    obtain ⟨F80, O81, S82, h83⟩ := O75.frzE 0 rfl z68
    have hl76 := hl76.mono S82
    have h84 := R.lst (a := (Int × Int)) h83 hl76
    obtain ⟨p85, w86, e87, h88, hl89⟩ := R.lst_ h84
    cases e87
    refine ⟨_, _, _, rfl, (O81.s _ _ h88), (RL.mono hl89 O81.s), fun p90 hp91 => ?_⟩
    have hl93 : RL (a := (Int × Int)) F80 (sortV w86 acc72) (sortT acc72) := (RL.sorted hl89)
    have z94 := O81.was hp91
    have O92 := O81.new (o := .lst (sortV w86 acc72)) hp91
    exact hk _ _  O92.g  _ _ z94 (O92.cf _ (List.mem_of_getElem? (i := 0) rfl)) (O92.at 0 rfl) hl93

abbrev s_law_row : Stmt := top 39
theorem sc_law_row : FnScope ["tree", "rule", "place", "without", "own", "so", "other", "length", "one", "more"] ["tree", "rule", "place", "without"] (defScope s_law_row) := ⟨rfl, rfl, rfl, by decide +kernel, rfl, by decide +kernel, by decide +kernel⟩
abbrev s_law_branch : Stmt := top 40
theorem sc_law_branch : FnScope ["tree", "rule", "a", "b", "length", "more", "one"] ["tree", "rule", "a", "b", "length"] (defScope s_law_branch) := ⟨rfl, rfl, rfl, by decide +kernel, rfl, by decide +kernel, by decide +kernel⟩
mutual
def m_law_row : Nat → ((List Int) × (List (T3 Int Int Int))) → (T4 (List Sm) (List Sm) (List Sm) Sm) → Int → (Option Int) → M ((List Int))
  | 0, _, _, _, _ => bad
  | k_ + 1, x_tree, x_rule, x_place, x_without =>
    opt (atI x_tree.1 x_place) >>= fun y13 =>
    compS (fun (y34 : Sm) (st51 : Unit) =>
    m_law_value 12 y34 (mergeDS [(("own" : Str), (IL.i y13))]) >>= fun r68 =>
    .ok (some r68, ())) x_rule.a () >>= fun q86 =>
    m_law_near x_tree x_place >>= fun r92 =>
    loopN (fun (y116 : (Int × Int)) (st127 : (List Int)) =>
    if (some y116.1) ≠ x_without then (
    m_law_branch k_ x_tree x_rule x_place y116.1 y116.2 >>= fun r145 =>
    compS (fun (y158 : Sm) (st175 : Unit) =>
    m_law_value 12 y158 (mergeDS [(("own" : Str), (IL.i y13)), (("so" : Str), (IL.l st127)), (("more" : Str), (IL.l r145))]) >>= fun r192 =>
    .ok (some r192, ())) x_rule.c () >>= fun q210 =>
    .ok q210.1)
    else (
    .ok st127)) r92 q86.1 >>= fun st219 =>
    .ok st219
def m_law_branch : Nat → ((List Int) × (List (T3 Int Int Int))) → (T4 (List Sm) (List Sm) (List Sm) Sm) → Int → Int → Int → M ((List Int))
  | 0, _, _, _, _, _ => bad
  | k_ + 1, x_tree, x_rule, x_a, x_b, x_length =>
    m_law_row k_ x_tree x_rule x_b (some x_a) >>= fun r1 =>
    compS (fun (y25 : Sm) (st42 : Unit) =>
    opt (atI x_tree.1 x_b) >>= fun y66 =>
    m_law_value 12 y25 (mergeDS [(("own" : Str), (IL.i y66)), (("tie" : Str), (IL.i x_length)), (("more" : Str), (IL.l r1))]) >>= fun r76 =>
    .ok (some r76, ())) x_rule.b () >>= fun q94 =>
    .ok q94.1
end
def sp_law_row (k_ : Nat) (mg : Str → Option Value) : Sp := fun vs H Q E => ∃ (F : Hp) (v_tree : V) (x_tree : ((List Int) × (List (T3 Int Int Int)))) (v_rule : V) (x_rule : (T4 (List Sm) (List Sm) (List Sm) Sm)) (x_place : Int) (v_without : V) (x_without : (Option Int)), vs = [v_tree, v_rule, V.int x_place, v_without] ∧ Pre F [] H ∧ R (a := ((List Int) × (List (T3 Int Int Int)))) F v_tree x_tree ∧ R (a := (T4 (List Sm) (List Sm) (List Sm) Sm)) F v_rule x_rule ∧ R (a := (Option Int)) F v_without x_without ∧
  wp (m_law_row k_ x_tree x_rule x_place x_without) (fun r => ∀ (F' H' : Hp), Gr [] F H F' H' → ∀ v : V, R (a := (List Int)) F' v r → Q v H')
  (fun n => ∀ (C : Addr) (H' : Hp), mg (Str.ofString n) = some (.ref C) → Kp [] H H' → E (.ref C) none H')
def sp_law_branch (k_ : Nat) (mg : Str → Option Value) : Sp := fun vs H Q E => ∃ (F : Hp) (v_tree : V) (x_tree : ((List Int) × (List (T3 Int Int Int)))) (v_rule : V) (x_rule : (T4 (List Sm) (List Sm) (List Sm) Sm)) (x_a : Int) (x_b : Int) (x_length : Int), vs = [v_tree, v_rule, V.int x_a, V.int x_b, V.int x_length] ∧ Pre F [] H ∧ R (a := ((List Int) × (List (T3 Int Int Int)))) F v_tree x_tree ∧ R (a := (T4 (List Sm) (List Sm) (List Sm) Sm)) F v_rule x_rule ∧
  wp (m_law_branch k_ x_tree x_rule x_a x_b x_length) (fun r => ∀ (F' H' : Hp), Gr [] F H F' H' → ∀ v : V, R (a := (List Int)) F' v r → Q v H')
  (fun n => ∀ (C : Addr) (H' : Hp), mg (Str.ofString n) = some (.ref C) → Kp [] H H' → E (.ref C) none H')
theorem zero_law_row (nb : Nb mg) (C_law_near : Ca P w K mg base "_law_near" 1 ["tree", "place"] (sp_law_near mg)) (C_law_value : Ca P w K mg base "_law_value" 13 ["told", "known"] (sp_law_value 12 mg)) (D : Df K mg "_law_row" "_law_row" s_law_row ["tree", "rule", "place", "without"]) : Ca P w K mg base "_law_row" (0 + 60) ["tree", "rule", "place", "without"] (sp_law_row 0 mg) := by
  refine Ca.mk' D sc_law_row (fun vs H Q E h => ?_) (fun q_ f_ cdv A outer s H vs Q E hr h => ?_)
  · obtain ⟨F, _, _, _, _, _, _, _, rfl, _⟩ := h
    rfl
  · obtain ⟨F, _, _, _, _, _, _, _, rfl, _, _, _, _, hk⟩ := h
    exact hk.elim
theorem zero_law_branch (nb : Nb mg) (C_law_value : Ca P w K mg base "_law_value" 13 ["told", "known"] (sp_law_value 12 mg)) (D : Df K mg "_law_branch" "_law_branch" s_law_branch ["tree", "rule", "a", "b", "length"]) : Ca P w K mg base "_law_branch" (0 + 60) ["tree", "rule", "a", "b", "length"] (sp_law_branch 0 mg) := by
  refine Ca.mk' D sc_law_branch (fun vs H Q E h => ?_) (fun q_ f_ cdv A outer s H vs Q E hr h => ?_)
  · obtain ⟨F, _, _, _, _, _, _, _, rfl, _⟩ := h
    rfl
  · obtain ⟨F, _, _, _, _, _, _, _, rfl, _, _, _, hk⟩ := h
    exact hk.elim
set_option maxHeartbeats 2000000 in
theorem step_law_row (nb : Nb mg) (C_law_near : Ca P w K mg base "_law_near" 1 ["tree", "place"] (sp_law_near mg)) (C_law_value : Ca P w K mg base "_law_value" 13 ["told", "known"] (sp_law_value 12 mg)) (D : Df K mg "_law_row" "_law_row" s_law_row ["tree", "rule", "place", "without"]) {k_ : Nat} (C_law_row : Ca P w K mg base "_law_row" (k_ + 60) ["tree", "rule", "place", "without"] (sp_law_row k_ mg)) (C_law_branch : Ca P w K mg base "_law_branch" (k_ + 60) ["tree", "rule", "a", "b", "length"] (sp_law_branch k_ mg)) : Ca P w K mg base "_law_row" (k_ + 1 + 60) ["tree", "rule", "place", "without"] (sp_law_row (k_ + 1) mg) := by
  obtain ⟨fa_law_near, fd_law_near, G_law_near, M_law_near, K_law_near, B_law_near⟩ := C_law_near.ex
  obtain ⟨fa_law_value, fd_law_value, G_law_value, M_law_value, K_law_value, B_law_value⟩ := C_law_value.ex
  obtain ⟨fa_law_row, fd_law_row, G_law_row, M_law_row, K_law_row, B_law_row⟩ := C_law_row.ex
  obtain ⟨fa_law_branch, fd_law_branch, G_law_branch, M_law_branch, K_law_branch, B_law_branch⟩ := C_law_branch.ex
  refine Ca.mk' D sc_law_row (fun vs H Q E h => ?_) (fun q_ f_ cdv A outer s H vs Q E hr h => ?_)
  · obtain ⟨F, _, _, _, _, _, _, _, rfl, _⟩ := h
    rfl
  · obtain ⟨F, v_tree, x_tree, v_rule, x_rule, x_place, v_without, x_without, rfl, P0, f_tree, f_rule, f_without, hk⟩ := h
    have nd := sc_law_row.nd
    have hu64 := hr.units
    have hu128 := hu128_of hr
    have O := P0.start
    refine ⟨_, (pss_cons (ps_toN (ps_set (i := 4) nd rfl (Or.inr rfl) (pe_ix (ixListK (K := K) rfl) (pe_ix (ixTupK (K := K) rfl) (pv 0) pe_int (fun _ _ => rfl)) (pv 2) (fun _ _ => rfl))))
  (pss_cons (ps_toN (ps_set (i := 5) nd rfl (Or.inr rfl) (pe_lc (own := [("one", 8)]) (g := gName 8) (tt := _) rfl nd (piListK (K := K) rfl (pe_ix (ixTupK (K := K) rfl) (pv 1) pe_int (fun _ _ => rfl))) (blkOk_by (own := [("one", 8)]) (N := ["tree", "rule", "place", "without", "own", "so", "other", "length", "one", "more"]) (sc := defScope s_law_row) (by decide +kernel)) (fun _ _ _ _ _ => (pg_name (i := 8) nd rfl (Or.inl rfl))) (fun _ _ _ _ _ => pts_nil) (fun _ _ _ _ _ => (pe_call G_law_value (hr.mono (by omega)) rfl M_law_value K_law_value B_law_value .nil passL (pa_cons (pv 8) (pa_cons (pe_disp (pps_cons pe_str (pv 4) pps_nil) rfl rfl (fun h => nomatch h) (by show 1 ≤ 15; decide)) pa_nil)))))))
  (pss_cons (ps_for (passes_of rfl) rfl (piListK (K := K) rfl (pe_call G_law_near (hr.mono (by omega)) rfl M_law_near K_law_near B_law_near .nil (passes_call (takes_of rfl rfl rfl rfl) fun _ _ _ _ h => h) (pa_cons (pv 0) (pa_cons (pv 2) pa_nil)))) (pg_tup rfl (pgs_cons (pg_name (i := 6) nd rfl (Or.inl rfl)) (pgs_cons (pg_name (i := 7) nd rfl (Or.inl rfl)) pgs_nil))) (pss_one (ps_if (pt_cmpR (op_neT (Option Int) hu64) (pv 6) (pv 3) (nomark _)) (pss_cons (ps_toN (ps_set (i := 9) nd rfl (Or.inr rfl) (pe_call G_law_branch (hr.mono (by omega)) rfl M_law_branch K_law_branch B_law_branch .nil (passes_call (takes_of rfl rfl rfl rfl) fun _ _ _ _ h => h) (pa_cons (pv 0) (pa_cons (pv 1) (pa_cons (pv 2) (pa_cons (pv 6) (pa_cons (pv 7) pa_nil))))))))
  (pss_one (ps_toN (ps_set (i := 5) nd rfl (Or.inr rfl) (pe_lc (own := [("one", 8)]) (g := gName 8) (tt := _) rfl nd (piListK (K := K) rfl (pe_ix (ixTupK (K := K) rfl) (pv 1) pe_int (fun _ _ => rfl))) (blkOk_by (own := [("one", 8)]) (N := ["tree", "rule", "place", "without", "own", "so", "other", "length", "one", "more"]) (sc := defScope s_law_row) (by decide +kernel)) (fun _ _ _ _ _ => (pg_name (i := 8) nd rfl (Or.inl rfl))) (fun _ _ _ _ _ => pts_nil) (fun _ _ _ _ _ => (pe_call G_law_value (hr.mono (by omega)) rfl M_law_value K_law_value B_law_value .nil passL (pa_cons (pv 8) (pa_cons (pe_disp (pps_cons pe_str (pv 4) (pps_cons pe_str (pv 5) (pps_cons pe_str (pv 9) pps_nil))) rfl rfl (fun h => nomatch h) (by show 3 ≤ 15; decide)) pa_nil))))))))) pss_nil)))
  (pss_one (ps_ret (pv 5)))))), ?_⟩
    obtain ⟨p1, v4, v5, e2, h3, r6, r7⟩ := R.t2_ f_tree
    cases e2
    obtain ⟨p8, w9, e10, h11, hl12⟩ := R.lst_ r6
    cases e10
    obtain ⟨y13, e14, hk⟩ := wp_opt hk
    obtain ⟨w15, e16, r17⟩ := hl12.atI e14
    obtain rfl := R.int_ r17
    obtain ⟨p18, v21, v22, v23, v24, e19, h20, r25, r26, r27, r28⟩ := R.t4_ f_rule
    cases e19
    obtain ⟨p29, w30, e31, h32, hl33⟩ := R.lst_ r25
    cases e31
    obtain ⟨c39, L35, hL36, hLs37, hLd38⟩ := compS_L hk
    refine ⟨_, rfl, _, _, _, _, rfl, rfl, (SqTF O.s h3), rfl, _, rfl, _, _, _, _, rfl, rfl, (SqLF O.s h11), e16, [some (V.ref p1), some (V.ref p18), some (V.int x_place), some v_without, some (V.int y13), none, none, none, none, none], rfl, _, rfl, _, _, _, _, rfl, rfl, (SqTF O.s h20), rfl, _, rfl, ⟨_, (SqLF O.s h32)⟩, fun p40 hp41 => ?_⟩
    have z75 := O.was hp41
    refine lc_list (K := K) (xs := w30) (fun i H => ∃ (F_ : Hp) (st : Unit) (acc : List Int) (wa : List V), Same F F_ ∧ Ow _ F_ [(p40, .lst wa)] H ∧ RL F_ wa acc ∧ wa.length ≤ i ∧ L35 (List.drop i x_rule.a) acc st) ⟨F, (), [], [], Same.refl _, O.new hp41, RL.nil, Nat.zero_le _, hL36⟩ (fun i_ H_ _ hp_ => ?_) ?_ ?_
    · obtain ⟨_, _, _, _, hS_, hO_, _⟩ := hp_
      exact SqLF hO_.s (hS_ _ _ h32)
    · rintro i42 x43 H44 hi45 ⟨F50, st51, acc47, wa48, S52, O54, hl53, la49, hL36⟩
      have hl33 := hl33.mono S52
      obtain ⟨y34, e55, r56⟩ := RL.got hl33 hi45
      rw [drop_at e55] at hL36
      have hk := hLs37 _ _ _ _ hL36
      refine ⟨rfl, ?_⟩
      refine ⟨_, rfl, fun p58 hp59 => ?_⟩
      have O60 := O54.new (o := .dK []) hp59
      refine ⟨_, rfl, (O60.at 0 rfl), [(DK.kk ("own" : Str), V.int y13)], rfl, (by show 1 ≤ 15; decide), ?_⟩
      have O63 := O60.set 0 (.dK (mergeK [] [(DK.kk ("own" : Str), V.int y13)])) rfl
      have hl64 : RD (κ := Str) (β := IL) F50 (mergeK [] [(DK.kk ("own" : Str), V.int y13)]) (mergeDS [(("own" : Str), (IL.i y13))]) := merge_rdS (.cons (k := ("own" : Str)) (R.of_i R.int) .nil) .nil
      have hi65 : ∀ b ∈ ([p58] : List Addr), ∃ o, (b, o) ∈ ([(p58, .dK (mergeK [] [(DK.kk ("own" : Str), V.int y13)])), (p40, .lst wa48)] : List (Addr × HO)) := (inA_cons 0 rfl inA_nil)
      have S66 := O63.lendS hi65
      have h67 := RDv.mk (κ := Str) (β := IL) (.inl ((lendF_at (by simp)).trans (O63.at 0 rfl) : lendF [p58] F50 _ p58 = some (.dK (mergeK [] [(DK.kk ("own" : Str), V.int y13)])))) (hl64.mono S66)
      refine ⟨_, _, _, _, _, rfl, (O63.lendP hi65), (r56.mono S66), h67, wp_call hk (fun r68 er69 hk F70 H71 g72 => ?_) (fun n hn => hn.elim)⟩
      have O73 := O63.borrow S66 g72
      have O74 := O73.drop 0
      refine ⟨_, (O74.at 0 rfl), (comp_len la49 hi45 hl33.len c39), ?_⟩
      exact ⟨F50, (), acc47 ++ [r68], wa48 ++ [V.int r68], S52, O74.set 0 (.lst (wa48 ++ [V.int r68])) rfl, RL.snoc hl53 R.int, by rw [List.length_append]; exact Nat.succ_le_succ la49, hk⟩
    rintro H76 ⟨F77, st78, acc79, wa80, S81, O82, hl83, la84, hL85⟩
    rw [drop_end hl33.len] at hL85
    have hk := hLd38 _ _ hL85
    have f_tree := f_tree.mono S81
    have f_rule := f_rule.mono S81
    have f_without := f_without.mono S81
    have h20 := S81 _ _ h20
    have r27 := r27.mono S81
    obtain ⟨F87, O88, S89, h90⟩ := O82.frzE 0 rfl z75
    have f_tree := f_tree.mono S89
    have f_rule := f_rule.mono S89
    have f_without := f_without.mono S89
    have h20 := S89 _ _ h20
    have r27 := r27.mono S89
    have hl83 := hl83.mono S89
    have h91 := R.lst (a := Int) h90 hl83
    refine ⟨[some (V.ref p1), some (V.ref p18), some (V.int x_place), some v_without, some (V.int y13), some (V.ref p40), none, none, none, none], rfl, _, rfl, _, rfl, _, _, _, _, rfl, O88.pre0, f_tree, wp_call hk (fun r92 er93 hk F94 H95 g96 p97 w98 hn99 hf100 h101 hl102 => ?_) (fun n hn C H1 hC kp => hn C H1 hC (O88.kp0 kp))⟩
    have O103 := O88.call0 g96
    have S_ := g96.f
    have f_tree := f_tree.mono S_
    have f_rule := f_rule.mono S_
    have f_without := f_without.mono S_
    have h20 := S_ _ _ h20
    have r27 := r27.mono S_
    have h91 := h91.mono S_
    have O104 := O88.got O103 rfl hn99 hf100 h101
    have z105 := O88.was hn99
    obtain ⟨F106, O107, S108, h109⟩ := O104.frzE 0 rfl z105
    have f_tree := f_tree.mono S108
    have f_rule := f_rule.mono S108
    have f_without := f_without.mono S108
    have h20 := S108 _ _ h20
    have r27 := r27.mono S108
    have h91 := h91.mono S108
    have hl102 := hl102.mono S108
    have h110 := R.lst (a := (Int × Int)) h109 hl102
    obtain ⟨p111, w112, e113, h114, hl115⟩ := R.lst_ h110
    cases e113
    obtain ⟨L117, hL118, hLs119, hLd120⟩ := loopN_L hk
    refine ⟨_, rfl, ⟨_, (SqLF O107.s h114)⟩, ?_⟩
    refine for_list (K := K) (xs := w112) (fun i σ H_ => ∃ (F_ : Hp) (st : (List Int)) (v_0 : V) (t_0 : Option V) (t_1 : Option V) (t_2 : Option V), σ = [some (V.ref p1), some (V.ref p18), some (V.int x_place), some v_without, some (V.int y13), some v_0, t_0, t_1, none, t_2] ∧ Same F106 F_ ∧ Ow _ F_ [] H_ ∧ R (a := (List Int)) F_ v_0 st ∧ L117 (List.drop i r92) st) ⟨F106, acc79, V.ref p40, none, none, none, rfl, Same.refl _, O107, h91, hL118⟩ (fun i_ σ_ H_ _ hp_ => ?_) ?_ ?_
    · obtain ⟨_, _, _, _, _, _, _, hS_, hO_, _⟩ := hp_
      exact SqLF hO_.s (hS_ _ _ h114)
    · rintro i121 x122 sg123 H124 hi125 ⟨F133, st127, v128, t130, t131, t132, rfl, S126, O134, r129, hL118⟩
      have f_tree := f_tree.mono S126
      have f_rule := f_rule.mono S126
      have f_without := f_without.mono S126
      have h20 := S126 _ _ h20
      have r27 := r27.mono S126
      have hl115 := hl115.mono S126
      obtain ⟨y116, e135, r136⟩ := RL.got hl115 hi125
      rw [drop_at e135] at hL118
      have hk := hLs119 _ _ _ hL118
      obtain ⟨p137, v140, v141, e138, h139, r142, r143⟩ := R.t2_ r136
      cases e138
      obtain rfl := R.int_ r142
      obtain rfl := R.int_ r143
      refine ⟨_, _, rfl, (SqTF O134.s h139), rfl, _, _, rfl, _, _, rfl, rfl, _, rfl, _, rfl, _, _, (R.mono (R.jst R.int) O134.s), (R.mono f_without O134.s), _, rfl, ?_⟩
      refine iteD (fun q144 => ?_) (fun q144 => ?_)
      · have hk := wp_if hk q144
        refine ⟨_, rfl, _, rfl, _, rfl, _, rfl, _, rfl, _, _, _, _, _, _, _, _, rfl, O134.pre0, f_tree, f_rule, wp_call hk (fun r145 er146 hk F147 H148 g149 v150 r151 => ?_) (fun n hn C H1 hC kp => hn C H1 hC (O134.kp0 kp))⟩
        have O152 := O134.call0 g149
        have S_ := g149.f
        have h20 := S_ _ _ h20
        have r27 := r27.mono S_
        have r129 := r129.mono S_
        have S126 := S126.trans S_
        obtain ⟨p153, w154, e155, h156, hl157⟩ := R.lst_ r27
        cases e155
        obtain ⟨c163, L159, hL160, hLs161, hLd162⟩ := compS_L hk
        refine ⟨[some (V.ref p1), some (V.ref p18), some (V.int x_place), some v_without, some (V.int y13), some v128, some (V.int y116.1), some (V.int y116.2), none, some v150], rfl, _, rfl, _, _, _, _, rfl, rfl, (SqTF O152.s h20), rfl, _, rfl, ⟨_, (SqLF O152.s h156)⟩, fun p164 hp165 => ?_⟩
        have z199 := O152.was hp165
        refine lc_list (K := K) (xs := w154) (fun i H => ∃ (F_ : Hp) (st : Unit) (acc : List Int) (wa : List V), Same F147 F_ ∧ Ow _ F_ [(p164, .lst wa)] H ∧ RL F_ wa acc ∧ wa.length ≤ i ∧ L159 (List.drop i x_rule.c) acc st) ⟨F147, (), [], [], Same.refl _, O152.new hp165, RL.nil, Nat.zero_le _, hL160⟩ (fun i_ H_ _ hp_ => ?_) ?_ ?_
        · obtain ⟨_, _, _, _, hS_, hO_, _⟩ := hp_
          exact SqLF hO_.s (hS_ _ _ h156)
        · rintro i166 x167 H168 hi169 ⟨F174, st175, acc171, wa172, S176, O178, hl177, la173, hL160⟩
          have r129 := r129.mono S176
          have r151 := r151.mono S176
          have hl157 := hl157.mono S176
          obtain ⟨y158, e179, r180⟩ := RL.got hl157 hi169
          rw [drop_at e179] at hL160
          have hk := hLs161 _ _ _ _ hL160
          refine ⟨rfl, ?_⟩
          refine ⟨_, rfl, fun p182 hp183 => ?_⟩
          have O184 := O178.new (o := .dK []) hp183
          refine ⟨_, rfl, _, rfl, _, rfl, (O184.at 0 rfl), [(DK.kk ("own" : Str), V.int y13), (DK.kk ("so" : Str), v128), (DK.kk ("more" : Str), v150)], rfl, (by show 3 ≤ 15; decide), ?_⟩
          have O187 := O184.set 0 (.dK (mergeK [] [(DK.kk ("own" : Str), V.int y13), (DK.kk ("so" : Str), v128), (DK.kk ("more" : Str), v150)])) rfl
          have hl188 : RD (κ := Str) (β := IL) F174 (mergeK [] [(DK.kk ("own" : Str), V.int y13), (DK.kk ("so" : Str), v128), (DK.kk ("more" : Str), v150)]) (mergeDS [(("own" : Str), (IL.i y13)), (("so" : Str), (IL.l st127)), (("more" : Str), (IL.l r145))]) := merge_rdS (.cons (k := ("own" : Str)) (R.of_i R.int) (.cons (k := ("so" : Str)) (R.of_l r129) (.cons (k := ("more" : Str)) (R.of_l r151) .nil))) .nil
          have hi189 : ∀ b ∈ ([p182] : List Addr), ∃ o, (b, o) ∈ ([(p182, .dK (mergeK [] [(DK.kk ("own" : Str), V.int y13), (DK.kk ("so" : Str), v128), (DK.kk ("more" : Str), v150)])), (p164, .lst wa172)] : List (Addr × HO)) := (inA_cons 0 rfl inA_nil)
          have S190 := O187.lendS hi189
          have h191 := RDv.mk (κ := Str) (β := IL) (.inl ((lendF_at (by simp)).trans (O187.at 0 rfl) : lendF [p182] F174 _ p182 = some (.dK (mergeK [] [(DK.kk ("own" : Str), V.int y13), (DK.kk ("so" : Str), v128), (DK.kk ("more" : Str), v150)])))) (hl188.mono S190)
          refine ⟨_, _, _, _, _, rfl, (O187.lendP hi189), (r180.mono S190), h191, wp_call hk (fun r192 er193 hk F194 H195 g196 => ?_) (fun n hn => hn.elim)⟩
          have O197 := O187.borrow S190 g196
          have O198 := O197.drop 0
          refine ⟨_, (O198.at 0 rfl), (comp_len la173 hi169 hl157.len c163), ?_⟩
          exact ⟨F174, (), acc171 ++ [r192], wa172 ++ [V.int r192], S176, O198.set 0 (.lst (wa172 ++ [V.int r192])) rfl, RL.snoc hl177 R.int, by rw [List.length_append]; exact Nat.succ_le_succ la173, hk⟩
        rintro H200 ⟨F201, st202, acc203, wa204, S205, O206, hl207, la208, hL209⟩
        rw [drop_end hl157.len] at hL209
        have hk := hLd162 _ _ hL209
        have S126 := S126.trans S205
        obtain ⟨F211, O212, S213, h214⟩ := O206.frzE 0 rfl z199
        have S126 := S126.trans S213
        have hl207 := hl207.mono S213
        have h215 := R.lst (a := Int) h214 hl207
        refine ⟨[some (V.ref p1), some (V.ref p18), some (V.int x_place), some v_without, some (V.int y13), some (V.ref p164), some (V.int y116.1), some (V.int y116.2), none, some v150], rfl, ?_⟩
        exact ⟨F211, acc203, V.ref p164, some (V.int y116.1), some (V.int y116.2), some v150, rfl, S126, O212, h215, hk⟩
      · have hk := wp_el hk q144
        exact ⟨F133, st127, v128, some (V.int y116.1), some (V.int y116.2), t132, rfl, S126, O134, r129, hk⟩
    rintro sg216 H217 ⟨F226, st219, v221, t223, t224, t225, rfl, S218, O227, r222, hL220⟩
    rw [drop_end hl115.len] at hL220
    have hk := hLd120 _ hL220
    refine ⟨_, rfl, ?_⟩
    exact hk _ _  O227.g  _ r222
set_option maxHeartbeats 2000000 in
theorem step_law_branch (nb : Nb mg) (C_law_value : Ca P w K mg base "_law_value" 13 ["told", "known"] (sp_law_value 12 mg)) (D : Df K mg "_law_branch" "_law_branch" s_law_branch ["tree", "rule", "a", "b", "length"]) {k_ : Nat} (C_law_row : Ca P w K mg base "_law_row" (k_ + 60) ["tree", "rule", "place", "without"] (sp_law_row k_ mg)) (C_law_branch : Ca P w K mg base "_law_branch" (k_ + 60) ["tree", "rule", "a", "b", "length"] (sp_law_branch k_ mg)) : Ca P w K mg base "_law_branch" (k_ + 1 + 60) ["tree", "rule", "a", "b", "length"] (sp_law_branch (k_ + 1) mg) := by
  obtain ⟨fa_law_value, fd_law_value, G_law_value, M_law_value, K_law_value, B_law_value⟩ := C_law_value.ex
  obtain ⟨fa_law_row, fd_law_row, G_law_row, M_law_row, K_law_row, B_law_row⟩ := C_law_row.ex
  obtain ⟨fa_law_branch, fd_law_branch, G_law_branch, M_law_branch, K_law_branch, B_law_branch⟩ := C_law_branch.ex
  refine Ca.mk' D sc_law_branch (fun vs H Q E h => ?_) (fun q_ f_ cdv A outer s H vs Q E hr h => ?_)
  · obtain ⟨F, _, _, _, _, _, _, _, rfl, _⟩ := h
    rfl
  · obtain ⟨F, v_tree, x_tree, v_rule, x_rule, x_a, x_b, x_length, rfl, P0, f_tree, f_rule, hk⟩ := h
    have nd := sc_law_branch.nd
    have hu64 := hr.units
    have hu128 := hu128_of hr
    have O := P0.start
    refine ⟨_, (pss_cons (ps_toN (ps_set (i := 5) nd rfl (Or.inr rfl) (pe_call G_law_row (hr.mono (by omega)) rfl M_law_row K_law_row B_law_row .nil (passes_call (takes_of rfl rfl rfl rfl) fun _ _ _ _ h => h) (pa_cons (pv 0) (pa_cons (pv 1) (pa_cons (pv 3) (pa_cons (pv 2) pa_nil)))))))
  (pss_one (ps_ret (pe_lc (own := [("one", 6)]) (g := gName 6) (tt := _) rfl nd (piListK (K := K) rfl (pe_ix (ixTupK (K := K) rfl) (pv 1) pe_int (fun _ _ => rfl))) (blkOk_by (own := [("one", 6)]) (N := ["tree", "rule", "a", "b", "length", "more", "one"]) (sc := defScope s_law_branch) (by decide +kernel)) (fun _ _ _ _ _ => (pg_name (i := 6) nd rfl (Or.inl rfl))) (fun _ _ _ _ _ => pts_nil) (fun _ _ _ _ _ => (pe_call G_law_value (hr.mono (by omega)) rfl M_law_value K_law_value B_law_value .nil passL (pa_cons (pv 6) (pa_cons (pe_disp (pps_cons pe_str (pe_ix (ixListK (K := K) rfl) (pe_ix (ixTupK (K := K) rfl) (pv 0) pe_int (fun _ _ => rfl)) (pv 3) (fun _ _ => rfl)) (pps_cons pe_str (pv 4) (pps_cons pe_str (pv 5) pps_nil))) rfl rfl (fun h => nomatch h) (by show 3 ≤ 15; decide)) pa_nil)))))))), ?_⟩
    refine ⟨_, rfl, _, rfl, _, rfl, _, rfl, _, _, _, _, _, _, _, _, rfl, O.pre0, f_tree, f_rule, (R.jst R.int), wp_call hk (fun r1 er2 hk F3 H4 g5 v6 r7 => ?_) (fun n hn C H1 hC kp => hn C H1 hC (O.kp0 kp))⟩
    have O8 := O.call0 g5
    have S_ := g5.f
    have f_tree := f_tree.mono S_
    have f_rule := f_rule.mono S_
    obtain ⟨p9, v12, v13, v14, v15, e10, h11, r16, r17, r18, r19⟩ := R.t4_ f_rule
    cases e10
    obtain ⟨p20, w21, e22, h23, hl24⟩ := R.lst_ r17
    cases e22
    obtain ⟨c30, L26, hL27, hLs28, hLd29⟩ := compS_L hk
    refine ⟨[some v_tree, some (V.ref p9), some (V.int x_a), some (V.int x_b), some (V.int x_length), some v6, none], rfl, _, rfl, _, _, _, _, rfl, rfl, (SqTF O8.s h11), rfl, _, rfl, ⟨_, (SqLF O8.s h23)⟩, fun p31 hp32 => ?_⟩
    have z83 := O8.was hp32
    refine lc_list (K := K) (xs := w21) (fun i H => ∃ (F_ : Hp) (st : Unit) (acc : List Int) (wa : List V), Same F3 F_ ∧ Ow _ F_ [(p31, .lst wa)] H ∧ RL F_ wa acc ∧ wa.length ≤ i ∧ L26 (List.drop i x_rule.b) acc st) ⟨F3, (), [], [], Same.refl _, O8.new hp32, RL.nil, Nat.zero_le _, hL27⟩ (fun i_ H_ _ hp_ => ?_) ?_ ?_
    · obtain ⟨_, _, _, _, hS_, hO_, _⟩ := hp_
      exact SqLF hO_.s (hS_ _ _ h23)
    · rintro i33 x34 H35 hi36 ⟨F41, st42, acc38, wa39, S43, O45, hl44, la40, hL27⟩
      have f_tree := f_tree.mono S43
      have r7 := r7.mono S43
      have hl24 := hl24.mono S43
      obtain ⟨y25, e46, r47⟩ := RL.got hl24 hi36
      rw [drop_at e46] at hL27
      have hk := hLs28 _ _ _ _ hL27
      refine ⟨rfl, ?_⟩
      refine ⟨_, rfl, fun p49 hp50 => ?_⟩
      have O51 := O45.new (o := .dK []) hp50
      obtain ⟨p54, v57, v58, e55, h56, r59, r60⟩ := R.t2_ f_tree
      cases e55
      obtain ⟨p61, w62, e63, h64, hl65⟩ := R.lst_ r59
      cases e63
      obtain ⟨y66, e67, hk⟩ := wp_opt hk
      obtain ⟨w68, e69, r70⟩ := hl65.atI e67
      obtain rfl := R.int_ r70
      refine ⟨_, rfl, _, _, _, _, rfl, rfl, (SqTF O51.s h56), rfl, _, rfl, _, _, _, _, rfl, rfl, (SqLF O51.s h64), e69, _, rfl, _, rfl, (O51.at 0 rfl), [(DK.kk ("own" : Str), V.int y66), (DK.kk ("tie" : Str), V.int x_length), (DK.kk ("more" : Str), v6)], rfl, (by show 3 ≤ 15; decide), ?_⟩
      have O71 := O51.set 0 (.dK (mergeK [] [(DK.kk ("own" : Str), V.int y66), (DK.kk ("tie" : Str), V.int x_length), (DK.kk ("more" : Str), v6)])) rfl
      have hl72 : RD (κ := Str) (β := IL) F41 (mergeK [] [(DK.kk ("own" : Str), V.int y66), (DK.kk ("tie" : Str), V.int x_length), (DK.kk ("more" : Str), v6)]) (mergeDS [(("own" : Str), (IL.i y66)), (("tie" : Str), (IL.i x_length)), (("more" : Str), (IL.l r1))]) := merge_rdS (.cons (k := ("own" : Str)) (R.of_i R.int) (.cons (k := ("tie" : Str)) (R.of_i R.int) (.cons (k := ("more" : Str)) (R.of_l r7) .nil))) .nil
      have hi73 : ∀ b ∈ ([p49] : List Addr), ∃ o, (b, o) ∈ ([(p49, .dK (mergeK [] [(DK.kk ("own" : Str), V.int y66), (DK.kk ("tie" : Str), V.int x_length), (DK.kk ("more" : Str), v6)])), (p31, .lst wa39)] : List (Addr × HO)) := (inA_cons 0 rfl inA_nil)
      have S74 := O71.lendS hi73
      have h75 := RDv.mk (κ := Str) (β := IL) (.inl ((lendF_at (by simp)).trans (O71.at 0 rfl) : lendF [p49] F41 _ p49 = some (.dK (mergeK [] [(DK.kk ("own" : Str), V.int y66), (DK.kk ("tie" : Str), V.int x_length), (DK.kk ("more" : Str), v6)])))) (hl72.mono S74)
      refine ⟨_, _, _, _, _, rfl, (O71.lendP hi73), (r47.mono S74), h75, wp_call hk (fun r76 er77 hk F78 H79 g80 => ?_) (fun n hn => hn.elim)⟩
      have O81 := O71.borrow S74 g80
      have O82 := O81.drop 0
      refine ⟨_, (O82.at 0 rfl), (comp_len la40 hi36 hl24.len c30), ?_⟩
      exact ⟨F41, (), acc38 ++ [r76], wa39 ++ [V.int r76], S43, O82.set 0 (.lst (wa39 ++ [V.int r76])) rfl, RL.snoc hl44 R.int, by rw [List.length_append]; exact Nat.succ_le_succ la40, hk⟩
    rintro H84 ⟨F85, st86, acc87, wa88, S89, O90, hl91, la92, hL93⟩
    rw [drop_end hl24.len] at hL93
    have hk := hLd29 _ _ hL93
    obtain ⟨F95, O96, S97, h98⟩ := O90.frzE 0 rfl z83
    have hl91 := hl91.mono S97
    have h99 := R.lst (a := Int) h98 hl91
    exact hk _ _  O96.g  _ h99
theorem ok_grp_rows (nb : Nb mg) (C_law_near : Ca P w K mg base "_law_near" 1 ["tree", "place"] (sp_law_near mg)) (C_law_value : Ca P w K mg base "_law_value" 13 ["told", "known"] (sp_law_value 12 mg)) (D_law_row : Df K mg "_law_row" "_law_row" s_law_row ["tree", "rule", "place", "without"]) (D_law_branch : Df K mg "_law_branch" "_law_branch" s_law_branch ["tree", "rule", "a", "b", "length"]) : ∀ k_ : Nat, Ca P w K mg base "_law_row" (k_ + 60) ["tree", "rule", "place", "without"] (sp_law_row k_ mg) ∧ Ca P w K mg base "_law_branch" (k_ + 60) ["tree", "rule", "a", "b", "length"] (sp_law_branch k_ mg) := by
  intro k_
  induction k_ with
  | zero => exact ⟨zero_law_row nb C_law_near C_law_value D_law_row, zero_law_branch nb C_law_value D_law_branch⟩
  | succ k_ ih_ =>
    obtain ⟨C_law_row, C_law_branch⟩ := ih_
    exact ⟨step_law_row nb C_law_near C_law_value D_law_row C_law_row C_law_branch, step_law_branch nb C_law_value D_law_branch C_law_row C_law_branch⟩
abbrev s_law_due : Stmt := top 42
theorem sc_law_due : FnScope ["tree", "rule", "found", "a", "b", "length"] ["tree", "rule"] (defScope s_law_due) := ⟨rfl, rfl, rfl, by decide +kernel, rfl, by decide +kernel, by decide +kernel⟩
def m_law_due (x_tree : ((List Int) × (List (T3 Int Int Int)))) (x_rule : (T4 (List Sm) (List Sm) (List Sm) Sm)) : M ((List ((Int × Int) × (List Int)))) :=
loopN (fun (y19 : (T3 Int Int Int)) (st30 : (List ((Int × Int) × (List Int)))) =>
m_law_branch 100 x_tree x_rule y19.a y19.b y19.c >>= fun r56 =>
appL st30 ((y19.a, y19.b), r56) >>= fun _ =>
m_law_branch 100 x_tree x_rule y19.b y19.a y19.c >>= fun r82 =>
appL (st30 ++ [((y19.a, y19.b), r56)]) ((y19.b, y19.a), r82) >>= fun _ =>
.ok ((st30 ++ [((y19.a, y19.b), r56)]) ++ [((y19.b, y19.a), r82)])) x_tree.2 ([] : List ((Int × Int) × (List Int))) >>= fun st104 =>
.ok (sortT st104)
def sp_law_due (mg : Str → Option Value) : Sp := fun vs H Q E => ∃ (F : Hp) (v_tree : V) (x_tree : ((List Int) × (List (T3 Int Int Int)))) (v_rule : V) (x_rule : (T4 (List Sm) (List Sm) (List Sm) Sm)), vs = [v_tree, v_rule] ∧ Pre F [] H ∧ R (a := ((List Int) × (List (T3 Int Int Int)))) F v_tree x_tree ∧ R (a := (T4 (List Sm) (List Sm) (List Sm) Sm)) F v_rule x_rule ∧
  wp (m_law_due x_tree x_rule) (fun r => ∀ (F' H' : Hp), Gr [] F H F' H' → ∀ (p : Addr) (w : (List V)), H p = none → F' p = none → H' p = some (.lst w) → RL (a := ((Int × Int) × (List Int))) F' w r → Q (.ref p) H')
  (fun n => ∀ (C : Addr) (H' : Hp), mg (Str.ofString n) = some (.ref C) → Kp [] H H' → E (.ref C) none H')
set_option maxHeartbeats 20000000 in
theorem ok_law_due (nb : Nb mg) (C_law_branch : Ca P w K mg base "_law_branch" 160 ["tree", "rule", "a", "b", "length"] (sp_law_branch 100 mg)) (D : Df K mg "_law_due" "_law_due" s_law_due ["tree", "rule"]) : Ca P w K mg base "_law_due" 161 ["tree", "rule"] (sp_law_due mg) := by
  obtain ⟨fa_law_branch, fd_law_branch, G_law_branch, M_law_branch, K_law_branch, B_law_branch⟩ := C_law_branch.ex
  refine Ca.mk' D sc_law_due (fun vs H Q E h => ?_) (fun q_ f_ cdv A outer s H vs Q E hr h => ?_)
  · obtain ⟨F, _, _, _, _, rfl, _⟩ := h
    rfl
  · obtain ⟨F, v_tree, x_tree, v_rule, x_rule, rfl, P0, f_tree, f_rule, hk⟩ := h
    have nd := sc_law_due.nd
    have hu64 := hr.units
    have hu128 := hu128_of hr
    have O := P0.start
    refine ⟨_, (pss_cons (ps_toN (ps_set (i := 2) nd rfl (Or.inl rfl) (pe_lst pa_nil)))
  (pss_cons (ps_for (passes_of rfl) rfl (piListK (K := K) rfl (pe_ix (ixTupK (K := K) rfl) (pv 0) pe_int (fun _ _ => rfl))) (pg_tup rfl (pgs_cons (pg_name (i := 3) nd rfl (Or.inl rfl)) (pgs_cons (pg_name (i := 4) nd rfl (Or.inl rfl)) (pgs_cons (pg_name (i := 5) nd rfl (Or.inl rfl)) pgs_nil)))) (pss_cons (ps_expr (bmK (K := K) rfl (pe_bm PySem.F.plainAttrs_list PySem.F.slot_list_append PySem.F.type_list_append mt_append (pv 2) (pa_cons (pe_tup (pa_cons (pe_tup (pa_cons (pv 3) (pa_cons (pv 4) pa_nil))) (pa_cons (pe_call G_law_branch (hr.mono (by decide)) rfl M_law_branch K_law_branch B_law_branch .nil (passes_call (takes_of rfl rfl rfl rfl) fun _ _ _ _ h => h) (pa_cons (pv 0) (pa_cons (pv 1) (pa_cons (pv 3) (pa_cons (pv 4) (pa_cons (pv 5) pa_nil)))))) pa_nil))) pa_nil))))
  (pss_one (ps_expr (bmK (K := K) rfl (pe_bm PySem.F.plainAttrs_list PySem.F.slot_list_append PySem.F.type_list_append mt_append (pv 2) (pa_cons (pe_tup (pa_cons (pe_tup (pa_cons (pv 4) (pa_cons (pv 3) pa_nil))) (pa_cons (pe_call G_law_branch (hr.mono (by decide)) rfl M_law_branch K_law_branch B_law_branch .nil (passes_call (takes_of rfl rfl rfl rfl) fun _ _ _ _ h => h) (pa_cons (pv 0) (pa_cons (pv 1) (pa_cons (pv 4) (pa_cons (pv 3) (pa_cons (pv 5) pa_nil)))))) pa_nil))) pa_nil)))))))
  (pss_one (ps_ret (pe_callB (cr_sortedT ((Int × Int) × (List Int)) hu128) (by rfl) nb.b_sorted (by decide +kernel) (pa_cons (pv 2) pa_nil)))))), ?_⟩
    refine ⟨(by show 0 ≤ sizeLine; decide), fun p2 hp3 => ?_⟩
    have hl5 : RL (a := ((Int × Int) × (List Int))) F ([]) ([] : List ((Int × Int) × (List Int))) := RL.nil
    have O4 := O.new (o := .lst ([])) hp3
    obtain ⟨p7, v10, v11, e8, h9, r12, r13⟩ := R.t2_ f_tree
    cases e8
    obtain ⟨p14, w15, e16, h17, hl18⟩ := R.lst_ r13
    cases e16
    obtain ⟨L20, hL21, hLs22, hLd23⟩ := loopN_L hk
    refine ⟨[some (V.ref p7), some v_rule, some (V.ref p2), none, none, none], rfl, _, rfl, _, _, _, _, rfl, rfl, (SqTF O4.s h9), rfl, _, rfl, ⟨_, (SqLF O4.s h17)⟩, ?_⟩
    refine for_list (K := K) (xs := w15) (fun i σ H_ => ∃ (F_ : Hp) (st : (List ((Int × Int) × (List Int)))) (w_0 : (List V)) (t_0 : Option V) (t_1 : Option V) (t_2 : Option V), σ = [some (V.ref p7), some v_rule, some (V.ref p2), t_0, t_1, t_2] ∧ Same F F_ ∧ Ow _ F_ [(p2, .lst w_0)] H_ ∧ RL (a := ((Int × Int) × (List Int))) F_ w_0 st ∧ L20 (List.drop i x_tree.2) st) ⟨F, ([] : List ((Int × Int) × (List Int))), [], none, none, none, rfl, Same.refl _, O4, hl5, hL21⟩ (fun i_ σ_ H_ _ hp_ => ?_) ?_ ?_
    · obtain ⟨_, _, _, _, _, _, _, hS_, hO_, _⟩ := hp_
      exact SqLF hO_.s (hS_ _ _ h17)
    · rintro i24 x25 sg26 H27 hi28 ⟨F36, st30, w31, t33, t34, t35, rfl, S29, O37, hl32, hL21⟩
      have f_tree := f_tree.mono S29
      have f_rule := f_rule.mono S29
      have hl18 := hl18.mono S29
      obtain ⟨y19, e38, r39⟩ := RL.got hl18 hi28
      rw [drop_at e38] at hL21
      have hk := hLs22 _ _ _ hL21
      obtain ⟨p40, v43, v44, v45, e41, h42, r46, r47, r48⟩ := R.t3_ r39
      cases e41
      obtain rfl := R.int_ r46
      obtain rfl := R.int_ r47
      obtain rfl := R.int_ r48
      refine ⟨_, _, rfl, (SqTF O37.s h42), rfl, _, _, rfl, _, _, rfl, _, _, rfl, rfl, _, rfl, (.inl ⟨rfl, _, SqL.of (O37.at 0 rfl)⟩), _, rfl, _, rfl, (by show 2 ≤ sizeLine; decide), fun p49 hp50 => ?_⟩
      obtain ⟨F51, O52, S53, h54⟩ := O37.putE hp50 (.tup [V.int y19.a, V.int y19.b])
      have f_tree := f_tree.mono S53
      have f_rule := f_rule.mono S53
      have hl32 := hl32.mono S53
      have S29 := S29.trans S53
      have h55 : R (a := (Int × Int)) F51 (.ref p49) (y19.a, y19.b) := R.t2 h54 R.int R.int
      refine ⟨_, rfl, _, rfl, _, rfl, _, rfl, _, rfl, _, _, _, _, _, _, _, _, rfl, O52.pre0, f_tree, f_rule, wp_call hk (fun r56 er57 hk F58 H59 g60 v61 r62 => ?_) (fun n hn C H1 hC kp => hn C H1 hC (O52.kp0 kp))⟩
      have O63 := O52.call0 g60
      have S_ := g60.f
      have f_tree := f_tree.mono S_
      have f_rule := f_rule.mono S_
      have hl32 := hl32.mono S_
      have S29 := S29.trans S_
      have h55 := h55.mono S_
      refine ⟨(by show 2 ≤ sizeLine; decide), fun p64 hp65 => ?_⟩
      obtain ⟨F66, O67, S68, h69⟩ := O63.putE hp65 (.tup [V.ref p49, v61])
      have f_tree := f_tree.mono S68
      have f_rule := f_rule.mono S68
      have hl32 := hl32.mono S68
      have S29 := S29.trans S68
      have h55 := h55.mono S68
      have r62 := r62.mono S68
      have h70 : R (a := ((Int × Int) × (List Int))) F66 (.ref p64) ((y19.a, y19.b), r56) := R.t2 h69 h55 r62
      obtain ⟨c71, hk⟩ := wp_appL hk
      refine ⟨_, _, _, rfl, rfl, (O67.at 0 rfl), (by rw [hl32.len]; exact c71), ?_⟩
      have O73 := O67.set 0 (.lst (w31 ++ [V.ref p64])) rfl
      have hl74 : RL (a := ((Int × Int) × (List Int))) F66 (w31 ++ [V.ref p64]) (st30 ++ [((y19.a, y19.b), r56)]) := RL.snoc hl32 h70
      refine ⟨_, rfl, (.inl ⟨rfl, _, SqL.of (O73.at 0 rfl)⟩), _, rfl, _, rfl, (by show 2 ≤ sizeLine; decide), fun p75 hp76 => ?_⟩
      obtain ⟨F77, O78, S79, h80⟩ := O73.putE hp76 (.tup [V.int y19.b, V.int y19.a])
      have f_tree := f_tree.mono S79
      have f_rule := f_rule.mono S79
      have S29 := S29.trans S79
      have hl74 := hl74.mono S79
      have h81 : R (a := (Int × Int)) F77 (.ref p75) (y19.b, y19.a) := R.t2 h80 R.int R.int
      refine ⟨_, rfl, _, rfl, _, rfl, _, rfl, _, rfl, _, _, _, _, _, _, _, _, rfl, O78.pre0, f_tree, f_rule, wp_call hk (fun r82 er83 hk F84 H85 g86 v87 r88 => ?_) (fun n hn C H1 hC kp => hn C H1 hC (O78.kp0 kp))⟩
      have O89 := O78.call0 g86
      have S_ := g86.f
      have S29 := S29.trans S_
      have hl74 := hl74.mono S_
      have h81 := h81.mono S_
      refine ⟨(by show 2 ≤ sizeLine; decide), fun p90 hp91 => ?_⟩
      obtain ⟨F92, O93, S94, h95⟩ := O89.putE hp91 (.tup [V.ref p75, v87])
      have S29 := S29.trans S94
      have hl74 := hl74.mono S94
      have h81 := h81.mono S94
      have r88 := r88.mono S94
      have h96 : R (a := ((Int × Int) × (List Int))) F92 (.ref p90) ((y19.b, y19.a), r82) := R.t2 h95 h81 r88
      obtain ⟨c97, hk⟩ := wp_appL hk
      refine ⟨_, _, _, rfl, rfl, (O93.at 0 rfl), (by rw [hl74.len]; exact c97), ?_⟩
      have O99 := O93.set 0 (.lst ((w31 ++ [V.ref p64]) ++ [V.ref p90])) rfl
      have hl100 : RL (a := ((Int × Int) × (List Int))) F92 ((w31 ++ [V.ref p64]) ++ [V.ref p90]) ((st30 ++ [((y19.a, y19.b), r56)]) ++ [((y19.b, y19.a), r82)]) := RL.snoc hl74 h96
      exact ⟨F92, ((st30 ++ [((y19.a, y19.b), r56)]) ++ [((y19.b, y19.a), r82)]), ((w31 ++ [V.ref p64]) ++ [V.ref p90]), some (V.int y19.a), some (V.int y19.b), some (V.int y19.c), rfl, S29, O99, hl100, hk⟩
    rintro sg101 H102 ⟨F111, st104, w106, t108, t109, t110, rfl, S103, O112, hl107, hL105⟩
    rw [drop_end hl18.len] at hL105
    have hk := hLd23 _ hL105
    refine ⟨_, rfl, _, _, _, rfl, (O112.at 0 rfl), (RL.mono hl107 O112.s), fun p114 hp115 => ?_⟩
    have hl117 : RL (a := ((Int × Int) × (List Int))) F111 (sortV w106 st104) (sortT st104) := (RL.sorted hl107)
    have z118 := O112.was hp115
    have O116 := O112.new (o := .lst (sortV w106 st104)) hp115
    exact hk _ _  O116.g  _ _ z118 (O116.cf _ (List.mem_of_getElem? (i := 0) rfl)) (O116.at 0 rfl) hl117
abbrev s_law : Stmt := top 43
theorem sc_law : FnScope ["script", "cell", "deck", "due", "handed", "kept", "turn", "tree", "rule", "found", "one", "branch", "row"] ["script"] (defScope s_law) := ⟨rfl, rfl, rfl, by decide +kernel, rfl, by decide +kernel, by decide +kernel⟩
def m_law (x_script : (List Int)) : M (Bool) :=
chk (([((10 : Int) ^ Int.toNat (18 : Int))]).length + (cutL x_script none (some (2 : Int))).length < 16777216) >>= fun _ =>
loopM (fun (y41 : Int) (st52 : Unit) =>
m_law_deck y41 >>= fun r68 =>
m_law_take r68 (4 : Int) >>= fun r90 =>
opt (atI ([(8 : Int), (8 : Int), (8 : Int), (40 : Int)]) r90.1) >>= fun y104 =>
m_law_case r90.2 y104 >>= fun r109 =>
m_law_due r109.1.1 r109.1.2 >>= fun r127 =>
m_law_copied r109.1.1 >>= fun r146 =>
chk (okR (2 : Int)) >>= fun _ =>
loopM (fun (y211 : Int) (st223 : Unit) =>
m_all_rows r146 (T4.mk r109.1.2.a r109.1.2.b r109.1.2.c r109.1.2.d) >>= fun r230 =>
if r230 ≠ r127 then (
.ok (.rt (.rt false)))
else (
if r146 ≠ r109.1.1 then (
.ok (.rt (.rt false)))
else (
chk (min (dep (T4.mk r109.1.2.a r109.1.2.b r109.1.2.c r109.1.2.d)) (dep r109.1.2) ≤ 60) >>= fun _ =>
if (T4.mk r109.1.2.a r109.1.2.b r109.1.2.c r109.1.2.d) ≠ r109.1.2 then (
.ok (.rt (.rt false)))
else (
chk ((List.map (fun (x : (Int × Int) × List Int) => x.1) r230).Nodup) >>= fun _ =>
loopM (fun (y287 : ((Int × Int) × (List Int))) (st299 : Unit) =>
m_law_are_whole y287.2 >>= fun r320 =>
if r320 = true then (
appL y287.2 (0 : Int) >>= fun _ =>
.ok (.nx ()))
else (
.ok (.rt (.rt (.rt false))))) r230 () >>= fun f346 => match f346 with
| .rt z_ => .ok z_
| .nx st339 =>
compS (fun (y347 : ((Int × Int) × (List Int))) (st364 : Unit) =>
.ok (some (y347.2.length : Int), ())) (List.map (pushR (0 : Int)) r230) () >>= fun q393 =>
chk (CRep ([((r109.1.2.a.length : Int) + (1 : Int))]).length (r127.length : Int)) >>= fun _ =>
if q393.1 ≠ (repL (r127.length : Int) ([((r109.1.2.a.length : Int) + (1 : Int))])) then (
.ok (.rt (.rt false)))
else (
appL (List.map (pushR (0 : Int)) r230) (((0 : Int), (0 : Int)), ([] : List Int)) >>= fun _ =>
.ok (.nx ())))))) (rangeL 0 (2 : Int)) () >>= fun f469 => match f469 with
| .rt z_ => .ok z_
| .nx st462 =>
.ok (.nx ())) (([((10 : Int) ^ Int.toNat (18 : Int))]) ++ (cutL x_script none (some (2 : Int)))) () >>= fun f488 => match f488 with
| .rt z_ => .ok z_
| .nx st474 =>
.ok true
def sp_law (K : PySem.W.Frag) : Sp := fun vs H Q E => ∃ (F : Hp) (a_script : Addr) (x_script : (List Int)), vs = [.ref a_script] ∧ Pre F [] H ∧ SqL K F a_script (x_script.map V.int) ∧
  wp (m_law x_script) (fun r => ∀ (F' H' : Hp), Gr [] F H F' H' → Q (V.bl r) H') (fun _ => False)
set_option maxHeartbeats 20000000 in
theorem ok_law (nb : Nb mg) (C_law_are_whole : Ca P w K mg base "_law_are_whole" 2 ["found"] (sp_law_are_whole mg)) (C_law_case : Ca P w K mg base "_law_case" 10 ["deck", "most"] (sp_law_case mg)) (C_law_copied : Ca P w K mg base "_law_copied" 1 ["tree"] (sp_law_copied mg)) (C_law_deck : Ca P w K mg base "_law_deck" 2 ["cell"] (sp_law_deck mg)) (C_law_due : Ca P w K mg base "_law_due" 161 ["tree", "rule"] (sp_law_due mg)) (C_law_take : Ca P w K mg base "_law_take" 1 ["deck", "many"] (sp_law_take mg)) (C_all_rows : Ca P w K mg base "all_rows" 64 ["tree", "rule"] (sp_all_rows mg)) {f : Addr} {fd : FuncData} (F_ : Fun K "law" "law" s_law f fd) : FnOk P w K mg base (L2.CX P w) 162 f fd ["script"] (sp_law K) := by
  obtain ⟨fa_law_are_whole, fd_law_are_whole, G_law_are_whole, M_law_are_whole, K_law_are_whole, B_law_are_whole⟩ := C_law_are_whole.ex
  obtain ⟨fa_law_case, fd_law_case, G_law_case, M_law_case, K_law_case, B_law_case⟩ := C_law_case.ex
  obtain ⟨fa_law_copied, fd_law_copied, G_law_copied, M_law_copied, K_law_copied, B_law_copied⟩ := C_law_copied.ex
  obtain ⟨fa_law_deck, fd_law_deck, G_law_deck, M_law_deck, K_law_deck, B_law_deck⟩ := C_law_deck.ex
  obtain ⟨fa_law_due, fd_law_due, G_law_due, M_law_due, K_law_due, B_law_due⟩ := C_law_due.ex
  obtain ⟨fa_law_take, fd_law_take, G_law_take, M_law_take, K_law_take, B_law_take⟩ := C_law_take.ex
  obtain ⟨fa_all_rows, fd_all_rows, G_all_rows, M_all_rows, K_all_rows, B_all_rows⟩ := C_all_rows.ex
  refine F_.okX sc_law (fun vs H Q E h => ?_) (fun cdv A outer s H vs Q E hr h => ?_)
  · obtain ⟨F, _, _, rfl, _⟩ := h
    rfl
  · obtain ⟨F, a_script, x_script, rfl, P0, f_script, hk⟩ := h
    have nd := sc_law.nd
    have hu64 := hr.units
    have hu128 := hu128_of hr
    have O := P0.start
    refine ⟨_, (pss_cons (ps_for (passes_of rfl) rfl (piListK (K := K) rfl (pe_op op_cat (pe_lst (pa_cons (pe_op op_pow pe_int pe_int) pa_nil)) (pe_slice (slListK (K := K) rfl) (pv 0) po_none (po_some pe_int)))) (pg_name (i := 1) nd rfl (Or.inl rfl)) (pss_cons (ps_toN (ps_set (i := 2) nd rfl (Or.inl rfl) (pe_call G_law_deck (hr.mono (by decide)) rfl M_law_deck K_law_deck B_law_deck .nil (passes_call (takes_of rfl rfl rfl rfl) fun _ _ _ _ h => h) (pa_cons (pv 1) pa_nil))))
  (pss_cons (ps_asg (pe_call G_law_case (hr.mono (by decide)) rfl M_law_case K_law_case B_law_case .nil (passes_call (takes_of rfl rfl rfl rfl) fun _ _ _ _ h => h) (pa_cons (pv 2) (pa_cons (pe_ix (ixListK (K := K) rfl) (pe_lst (pa_cons pe_int (pa_cons pe_int (pa_cons pe_int (pa_cons pe_int pa_nil))))) (pe_call G_law_take (hr.mono (by decide)) rfl M_law_take K_law_take B_law_take .nil (passes_call (takes_of rfl rfl rfl rfl) fun _ _ _ _ h => h) (pa_cons (pv 2) (pa_cons pe_int pa_nil))) (fun _ _ => rfl)) pa_nil))) (pg_tup rfl (pgs_cons (pg_name (i := 7) nd rfl (Or.inl rfl)) (pgs_cons (pg_name (i := 8) nd rfl (Or.inl rfl)) pgs_nil))))
  (pss_cons (ps_toN (ps_set (i := 3) nd rfl (Or.inl rfl) (pe_call G_law_due (hr.mono (by decide)) rfl M_law_due K_law_due B_law_due .nil (passes_call (takes_of rfl rfl rfl rfl) fun _ _ _ _ h => h) (pa_cons (pv 7) (pa_cons (pv 8) pa_nil)))))
  (pss_cons (ps_toN (ps_set (i := 4) nd rfl (Or.inl rfl) (pe_call G_law_copied (hr.mono (by decide)) rfl M_law_copied K_law_copied B_law_copied .nil (passes_call (takes_of rfl rfl rfl rfl) fun _ _ _ _ h => h) (pa_cons (pv 7) pa_nil))))
  (pss_cons (ps_toN (ps_set (i := 5) nd rfl (Or.inl rfl) (pe_tup (pa_cons (pe_callTy (listOfK (K := K) rfl) (by rfl) nb.b_list (by decide +kernel) (pa_cons (pe_ix (ixTupK (K := K) rfl) (pv 8) pe_int (fun _ _ => rfl)) pa_nil)) (pa_cons (pe_callTy (listOfK (K := K) rfl) (by rfl) nb.b_list (by decide +kernel) (pa_cons (pe_ix (ixTupK (K := K) rfl) (pv 8) pe_int (fun _ _ => rfl)) pa_nil)) (pa_cons (pe_callTy (listOfK (K := K) rfl) (by rfl) nb.b_list (by decide +kernel) (pa_cons (pe_ix (ixTupK (K := K) rfl) (pv 8) pe_int (fun _ _ => rfl)) pa_nil)) (pa_cons (pe_ix (ixTupK (K := K) rfl) (pv 8) pe_int (fun _ _ => rfl)) pa_nil)))))))
  (pss_one (ps_for (passes_of rfl) rfl (pi_range1 rfl nb.b_range (pa_cons pe_int pa_nil)) (pg_name (i := 6) nd rfl (Or.inl rfl)) (pss_cons (ps_toN (ps_set (i := 9) nd rfl (Or.inl rfl) (pe_call G_all_rows (hr.mono (by decide)) rfl M_all_rows K_all_rows B_all_rows .nil (passes_call (takes_of rfl rfl rfl rfl) fun _ _ _ _ h => h) (pa_cons (pv 4) (pa_cons (pv 5) pa_nil)))))
  (pss_cons (ps_if (PW.pt (pw_or (pt_not (pt_val (pe_callB (isiK (K := K) rfl) (by rfl) nb.b_isinstance (by decide +kernel) (pa_cons (pv 9) (pa_cons (pe_bltn (v := .ty "list") (by rfl) nb.b_list (by decide +kernel) rfl) pa_nil))))) (pw_or (pt_cmpR (op_neT (List ((Int × Int) × (List Int))) hu64) (pv 9) (pv 3) (nomark _)) (pw_or (pt_cmpR (op_neT ((List Int) × (List (T3 Int Int Int))) hu64) (pv 4) (pv 7) (nomark _)) (pw_or1 (pt_cmpR (op_neX (T4 (List Sm) (List Sm) (List Sm) Sm) hu64) (pv 5) (pv 8) (nomark _))))))) (pss_one (ps_ret pe_bl)) pss_nil)
  (pss_cons (ps_for (passes_of rfl) rfl (piListK (K := K) rfl (pv 9)) (pg_name (i := 10) nd rfl (Or.inl rfl)) (pss_cons (ps_if (PW.pt (pw_or (pt_not (pt_val (pe_callB (isiK (K := K) rfl) (by rfl) nb.b_isinstance (by decide +kernel) (pa_cons (pv 10) (pa_cons (pe_bltn (v := .ty "tuple") (by rfl) nb.b_tuple (by decide +kernel) rfl) pa_nil))))) (pw_or (pt_not (pt_val (pe_callB (isiK (K := K) rfl) (by rfl) nb.b_isinstance (by decide +kernel) (pa_cons (pe_ix (ixTupK (K := K) rfl) (pv 10) pe_int (fun _ _ => rfl)) (pa_cons (pe_bltn (v := .ty "tuple") (by rfl) nb.b_tuple (by decide +kernel) rfl) pa_nil))))) (pw_or1 (pt_not (pt_val (pe_call G_law_are_whole (hr.mono (by decide)) rfl M_law_are_whole K_law_are_whole B_law_are_whole .nil (passes_call (takes_of rfl rfl rfl rfl) fun _ _ _ _ h => h) (pa_cons (pe_ix (ixTupK (K := K) rfl) (pv 10) pe_int (fun _ _ => rfl)) pa_nil)))))))) (pss_one (ps_ret pe_bl)) pss_nil)
  (pss_one (ps_expr (bmK (K := K) rfl (pe_bm PySem.F.plainAttrs_list PySem.F.slot_list_append PySem.F.type_list_append mt_append (pe_ix (ixTupK (K := K) rfl) (pv 10) pe_int (fun _ _ => rfl)) (pa_cons pe_int pa_nil)))))))
  (pss_cons (ps_if (pt_cmpR (op_neT (List Int) hu64) (pe_lc (own := [("branch", 11), ("row", 12)]) (g := gTup K 2 (gCons (gName 11) (gCons (gName 12) (gNil)))) (tt := _) rfl nd (piListK (K := K) rfl (pv 9)) (blkOk_by (own := [("branch", 11), ("row", 12)]) (N := ["script", "cell", "deck", "due", "handed", "kept", "turn", "tree", "rule", "found", "one", "branch", "row"]) (sc := defScope s_law) (by decide +kernel)) (fun _ _ _ _ _ => (pg_tup rfl (pgs_cons (pg_name (i := 11) nd rfl (Or.inl rfl)) (pgs_cons (pg_name (i := 12) nd rfl (Or.inl rfl)) pgs_nil)))) (fun _ _ _ _ _ => pts_nil) (fun _ _ _ _ _ => (pe_callB call_lenT (by rfl) nb.b_len PySem.boot_len (pa_cons (pv 12) pa_nil)))) (pe_op op_rep (pe_lst (pa_cons (pe_op op_add (pe_callB call_lenT (by rfl) nb.b_len PySem.boot_len (pa_cons (pe_ix (ixTupK (K := K) rfl) (pv 8) pe_int (fun _ _ => rfl)) pa_nil)) pe_int) pa_nil)) (pe_callB call_lenT (by rfl) nb.b_len PySem.boot_len (pa_cons (pv 3) pa_nil))) (nomark _)) (pss_one (ps_ret pe_bl)) pss_nil)
  (pss_one (ps_expr (bmK (K := K) rfl (pe_bm PySem.F.plainAttrs_list PySem.F.slot_list_append PySem.F.type_list_append mt_append (pv 9) (pa_cons (pe_tup (pa_cons (pe_tup (pa_cons pe_int (pa_cons pe_int pa_nil))) (pa_cons (pe_lst pa_nil) pa_nil))) pa_nil)))))))))))))))))
  (pss_one (ps_ret pe_bl))), ?_⟩
    refine ⟨_, _, rfl, rfl, (by decide), (by show 1 ≤ sizeLine; decide), fun p1 hp2 => ?_⟩
    have hl8 : RL (a := Int) F ([V.int ((10 : Int) ^ Int.toNat (18 : Int))]) ([((10 : Int) ^ Int.toNat (18 : Int))]) := RL.cons R.int RL.nil
    obtain ⟨F3, O4, S5, h6⟩ := O.putE hp2 (.lst ([V.int ((10 : Int) ^ Int.toNat (18 : Int))]))
    have f_script := S5.seq f_script
    have hl8 := hl8.mono S5
    have h7 := R.lst (a := Int) h6 hl8
    refine ⟨_, rfl, _, rfl, _, _, rfl, (O4.s.seq f_script), fun p9 hp10 => ?_⟩
    have hl16 : RL (a := Int) F3 (cutV (List.map V.int x_script) none (some (2 : Int))) (cutL x_script none (some (2 : Int))) := RL.cutL (RL.of_ints (H := F3)) none (some (2 : Int))
    obtain ⟨F11, O12, S13, h14⟩ := O4.putE hp10 (.lst (cutV (List.map V.int x_script) none (some (2 : Int))))
    have h7 := h7.mono S13
    have hl16 := hl16.mono S13
    have h15 := R.lst (a := Int) h14 hl16
    obtain ⟨p17, w18, e19, h20, hl21⟩ := R.lst_ h7
    cases e19
    obtain ⟨p22, w23, e24, h25, hl26⟩ := R.lst_ h15
    cases e24
    obtain ⟨c27, hk⟩ := wp_chk hk
    refine ⟨_, _, _, _, rfl, rfl, (O12.s _ _ h20), (O12.s _ _ h25), (by rw [hl21.len, hl26.len]; exact le_line c27), fun p28 hp29 => ?_⟩
    have hl35 : RL (a := Int) F11 (w18 ++ w23) (([((10 : Int) ^ Int.toNat (18 : Int))]) ++ (cutL x_script none (some (2 : Int)))) := RL.app hl21 hl26
    obtain ⟨F30, O31, S32, h33⟩ := O12.putE hp29 (.lst (w18 ++ w23))
    have hl35 := hl35.mono S32
    have h34 := R.lst (a := Int) h33 hl35
    obtain ⟨p36, w37, e38, h39, hl40⟩ := R.lst_ h34
    cases e38
    obtain ⟨L42, hL43, hLs44, hLd45⟩ := loopM_L hk
    refine ⟨_, rfl, ⟨_, (SqLF O31.s h39)⟩, ?_⟩
    refine for_list (K := K) (xs := w37) (fun i σ H_ => ∃ (F_ : Hp) (st : Unit) (t_0 : Option V) (t_1 : Option V) (t_2 : Option V) (t_3 : Option V) (t_4 : Option V) (t_5 : Option V) (t_6 : Option V) (t_7 : Option V) (t_8 : Option V) (t_9 : Option V), σ = [some (V.ref a_script), t_0, t_1, t_2, t_3, t_4, t_5, t_6, t_7, t_8, t_9, none, none] ∧ Same F30 F_ ∧ Ow _ F_ [] H_ ∧ L42 (List.drop i (([((10 : Int) ^ Int.toNat (18 : Int))]) ++ (cutL x_script none (some (2 : Int))))) st) ⟨F30, (), none, none, none, none, none, none, none, none, none, none, rfl, Same.refl _, O31, hL43⟩ (fun i_ σ_ H_ _ hp_ => ?_) ?_ ?_
    · obtain ⟨_, _, _, _, _, _, _, _, _, _, _, _, _, hS_, hO_, _⟩ := hp_
      exact SqLF hO_.s (hS_ _ _ h39)
    · rintro i46 x47 sg48 H49 hi50 ⟨F63, st52, t53, t54, t55, t56, t57, t58, t59, t60, t61, t62, rfl, S51, O64, hL43⟩
      have hl40 := hl40.mono S51
      obtain ⟨y41, e65, r66⟩ := RL.got hl40 hi50
      rw [drop_at e65] at hL43
      have hk := hLs44 _ _ _ hL43
      obtain rfl := R.int_ r66
      refine ⟨_, rfl, _, _, rfl, O64.pre0, wp_call hk (fun r68 er69 hk F70 H71 g72 p73 w74 hn75 hf76 h77 hl78 => ?_) (fun n hn C H1 hC kp => hn.elim)⟩
      have O79 := O64.call0 g72
      have S_ := g72.f
      have S51 := S51.trans S_
      have O80 := O64.got O79 rfl hn75 hf76 h77
      refine ⟨[some (V.ref a_script), some (V.int y41), some (V.ref p73), t55, t56, t57, t58, t59, t60, t61, t62, none, none], rfl, _, rfl, (by show 4 ≤ sizeLine; decide), fun p82 hp83 => ?_⟩
      have hl89 : RL (a := Int) F70 ([V.int (8 : Int), V.int (8 : Int), V.int (8 : Int), V.int (40 : Int)]) ([(8 : Int), (8 : Int), (8 : Int), (40 : Int)]) := RL.cons R.int (RL.cons R.int (RL.cons R.int (RL.cons R.int RL.nil)))
      obtain ⟨F84, O85, S86, h87⟩ := O80.putE hp83 (.lst ([V.int (8 : Int), V.int (8 : Int), V.int (8 : Int), V.int (40 : Int)]))
      have S51 := S51.trans S86
      have hl78 := hl78.mono S86
      have hl89 := hl89.mono S86
      have h88 := R.lst (a := Int) h87 hl89
      refine ⟨_, rfl, _, _, _, _, _, rfl, (O85.pre1 0 rfl), hl78, wp_call hk (fun r90 er91 hk F92 H93 w95 g94 h96 hl97 => ?_) (fun n hn C H1 hC kp => hn.elim)⟩
      have O98 := O85.call1 g94 0 rfl h96
      have S_ := g94.f
      have S51 := S51.trans S_
      have h88 := h88.mono S_
      obtain ⟨p99, w100, e101, h102, hl103⟩ := R.lst_ h88
      cases e101
      obtain ⟨y104, e105, hk⟩ := wp_opt hk
      obtain ⟨w106, e107, r108⟩ := hl103.atI e105
      obtain rfl := R.int_ r108
      refine ⟨_, _, _, _, rfl, rfl, (SqLF O98.s h102), e107, _, _, _, _, _, rfl, (O98.pre1 0 rfl), hl97, wp_call hk (fun r109 er110 hk F111 H112 w114 g113 h115 hl116 v117 r118 => ?_) (fun n hn C H1 hC kp => hn.elim)⟩
      have O119 := O98.call1 g113 0 rfl h115
      have S_ := g113.f
      have S51 := S51.trans S_
      obtain ⟨p120, v123, v124, e121, h122, r125, r126⟩ := R.t2_ r118
      cases e121
      refine ⟨_, _, rfl, (SqTF O119.s h122), rfl, _, _, rfl, _, _, rfl, rfl, _, rfl, _, rfl, _, _, _, _, _, rfl, O119.pre0, r125, r126, wp_call hk (fun r127 er128 hk F129 H130 g131 p132 w133 hn134 hf135 h136 hl137 => ?_) (fun n hn C H1 hC kp => hn.elim)⟩
      have O138 := O119.call0 g131
      have S_ := g131.f
      have S51 := S51.trans S_
      have r125 := r125.mono S_
      have r126 := r126.mono S_
      have O139 := O119.got O138 rfl hn134 hf135 h136
      have z140 := O119.was hn134
      obtain ⟨F141, O142, S143, h144⟩ := O139.frzE 0 rfl z140
      have S51 := S51.trans S143
      have r125 := r125.mono S143
      have r126 := r126.mono S143
      have hl137 := hl137.mono S143
      have h145 := R.lst (a := ((Int × Int) × (List Int))) h144 hl137
      refine ⟨[some (V.ref a_script), some (V.int y41), some (V.ref p73), some (V.ref p132), t56, t57, t58, some v123, some v124, t61, t62, none, none], rfl, _, rfl, _, _, _, rfl, O142.pre0, r125, wp_call hk (fun r146 er147 hk F148 H149 g150 v151 r152 => ?_) (fun n hn C H1 hC kp => hn.elim)⟩
      have O153 := O142.call0 g150
      have S_ := g150.f
      have S51 := S51.trans S_
      have r125 := r125.mono S_
      have r126 := r126.mono S_
      have h145 := h145.mono S_
      obtain ⟨p154, v157, v158, v159, v160, e155, h156, r161, r162, r163, r164⟩ := R.t4_ r126
      cases e155
      obtain ⟨p165, w166, e167, h168, hl169⟩ := R.lst_ r161
      cases e167
      refine ⟨[some (V.ref a_script), some (V.int y41), some (V.ref p73), some (V.ref p132), some v151, t57, t58, some v123, some (V.ref p154), t61, t62, none, none], rfl, _, rfl, _, _, _, _, rfl, rfl, (SqTF O153.s h156), rfl, _, _, rfl, (.inl (SqLF O153.s h168)), fun p170 hp171 => ?_⟩
      have hl177 : RL (a := Sm) F148 w166 r109.1.2.a := hl169
      obtain ⟨F172, O173, S174, h175⟩ := O153.putE hp171 (.lst w166)
      have S51 := S51.trans S174
      have r125 := r125.mono S174
      have r126 := r126.mono S174
      have h145 := h145.mono S174
      have r152 := r152.mono S174
      have h156 := S174 _ _ h156
      have r161 := r161.mono S174
      have r162 := r162.mono S174
      have r163 := r163.mono S174
      have r164 := r164.mono S174
      have hl177 := hl177.mono S174
      have h176 := R.lst (a := Sm) h175 hl177
      obtain ⟨p178, w179, e180, h181, hl182⟩ := R.lst_ r162
      cases e180
      refine ⟨_, rfl, _, _, _, _, rfl, rfl, (SqTF O173.s h156), rfl, _, _, rfl, (.inl (SqLF O173.s h181)), fun p183 hp184 => ?_⟩
      have hl190 : RL (a := Sm) F172 w179 r109.1.2.b := hl182
      obtain ⟨F185, O186, S187, h188⟩ := O173.putE hp184 (.lst w179)
      have S51 := S51.trans S187
      have r125 := r125.mono S187
      have r126 := r126.mono S187
      have h145 := h145.mono S187
      have r152 := r152.mono S187
      have h156 := S187 _ _ h156
      have r161 := r161.mono S187
      have r163 := r163.mono S187
      have r164 := r164.mono S187
      have h176 := h176.mono S187
      have hl190 := hl190.mono S187
      have h189 := R.lst (a := Sm) h188 hl190
      obtain ⟨p191, w192, e193, h194, hl195⟩ := R.lst_ r163
      cases e193
      refine ⟨_, rfl, _, _, _, _, rfl, rfl, (SqTF O186.s h156), rfl, _, _, rfl, (.inl (SqLF O186.s h194)), fun p196 hp197 => ?_⟩
      have hl203 : RL (a := Sm) F185 w192 r109.1.2.c := hl195
      obtain ⟨F198, O199, S200, h201⟩ := O186.putE hp197 (.lst w192)
      have S51 := S51.trans S200
      have r125 := r125.mono S200
      have r126 := r126.mono S200
      have h145 := h145.mono S200
      have r152 := r152.mono S200
      have h156 := S200 _ _ h156
      have r161 := r161.mono S200
      have r164 := r164.mono S200
      have h176 := h176.mono S200
      have h189 := h189.mono S200
      have hl203 := hl203.mono S200
      have h202 := R.lst (a := Sm) h201 hl203
      refine ⟨_, rfl, _, _, _, _, rfl, rfl, (SqTF O199.s h156), rfl, (by show 4 ≤ sizeLine; decide), fun p204 hp205 => ?_⟩
      obtain ⟨F206, O207, S208, h209⟩ := O199.putE hp205 (.tup [V.ref p170, V.ref p183, V.ref p196, v160])
      have S51 := S51.trans S208
      have r125 := r125.mono S208
      have r126 := r126.mono S208
      have h145 := h145.mono S208
      have r152 := r152.mono S208
      have h156 := S208 _ _ h156
      have r161 := r161.mono S208
      have r164 := r164.mono S208
      have h176 := h176.mono S208
      have h189 := h189.mono S208
      have h202 := h202.mono S208
      have h210 : R (a := (T4 (List Sm) (List Sm) (List Sm) Sm)) F206 (.ref p204) (T4.mk r109.1.2.a r109.1.2.b r109.1.2.c r109.1.2.d) := R.t4 h209 h176 h189 h202 r164
      obtain ⟨c212, hk⟩ := wp_chk hk
      obtain ⟨L213, hL214, hLs215, hLd216⟩ := loopM_L hk
      refine ⟨[some (V.ref a_script), some (V.int y41), some (V.ref p73), some (V.ref p132), some v151, some (V.ref p204), t58, some v123, some (V.ref p154), t61, t62, none, none], rfl, _, rfl, c212.lo, c212.hi, ?_⟩
      refine for_range (lo := 0) (n := ((2 : Int)).toNat) (fun i σ H_ => ∃ (F_ : Hp) (st : Unit) (t_0 : Option V) (t_1 : Option V) (t_2 : Option V), σ = [some (V.ref a_script), some (V.int y41), some (V.ref p73), some (V.ref p132), some v151, some (V.ref p204), t_0, some v123, some (V.ref p154), t_1, t_2, none, none] ∧ Same F206 F_ ∧ Ow _ F_ [(p73, .lst w114)] H_ ∧ L213 (List.drop i (rangeL 0 (2 : Int))) st) ⟨F206, (), t58, t61, t62, rfl, Same.refl _, O207, hL214⟩ ?_ ?_
      · rintro i217 sg219 H220 hi221 ⟨F227, st223, t224, t225, t226, rfl, S222, O228, hL214⟩
        have r125 := r125.mono S222
        have r126 := r126.mono S222
        have h145 := h145.mono S222
        have r152 := r152.mono S222
        have h156 := S222 _ _ h156
        have r161 := r161.mono S222
        have h210 := h210.mono S222
        rw [rangeL_get0 hi221] at hL214
        have hk := hLs215 _ _ _ hL214
        obtain ⟨y211, he_⟩ : ∃ z_, z_ = 0 + (i217 : Int) := ⟨_, rfl⟩
        try rw [← he_] at hk
        rw [← he_]
        refine ⟨_, rfl, _, rfl, _, _, _, _, _, rfl, O228.pre0, r152, h210, wp_call hk (fun r230 er231 hk F232 H233 g234 p235 w236 hn237 hf238 h239 hl240 fr241 => ?_) (fun n hn C H1 hC kp => hn.elim)⟩
        have O242 := O228.call0 g234
        have sv262 := h145
        have sv264 := h156
        have sv265 := r161
        have sv279 := S222
        have S_ := g234.f
        have r125 := r125.mono S_
        have r126 := r126.mono S_
        have h145 := h145.mono S_
        have r152 := r152.mono S_
        have h156 := S_ _ _ h156
        have r161 := r161.mono S_
        have h210 := h210.mono S_
        have S222 := S222.trans S_
        have Sb280 := S_
        have O281 := O228.got O242 rfl hn237 hf238 h239
        refine ⟨[some (V.ref a_script), some (V.int y41), some (V.ref p73), some (V.ref p132), some v151, some (V.ref p204), some (V.int y211), some v123, some (V.ref p154), some (V.ref p235), t226, none, none], rfl, _, rfl, _, _, _, _, true, rfl, .ty _, (.base (.lst (O281.at 0 rfl))), kit_ty (by decide +kernel), _, rfl, ?_⟩
        refine iteNT ?_
        refine ⟨_, rfl, _, rfl, _, _, (R.lst (a := ((Int × Int) × (List Int))) (O281.at 0 rfl) (hl240.mono O281.s)), (R.mono h145 O281.s), _, rfl, ?_⟩
        refine iteD (fun q283 => ?_) (fun q283 => ?_)
        · have hk := wp_if hk q283
          refine iteT ?_
          exact hk _ _  O281.g 
        · have hk := wp_el hk q283
          refine ⟨_, rfl, _, rfl, _, _, (R.mono r152 O281.s), (R.mono r125 O281.s), _, rfl, ?_⟩
          refine iteD (fun q284 => ?_) (fun q284 => ?_)
          · have hk := wp_if hk q284
            refine iteT ?_
            exact hk _ _  O281.g 
          · have hk := wp_el hk q284
            obtain ⟨c285, hk⟩ := wp_chk hk
            refine ⟨_, rfl, _, rfl, _, _, (R.mono h210 O281.s), (R.mono r126 O281.s), c285, _, rfl, ?_⟩
            refine iteD (fun q286 => ?_) (fun q286 => ?_)
            · have hk := wp_if hk q286
              exact hk _ _  O281.g 
            · have hk := wp_el hk q286
              obtain ⟨cN292, hk⟩ := wp_chk hk
              obtain ⟨L288, hL289, hLs290, hLd291⟩ := loopM_L hk
              refine ⟨_, rfl, _, rfl, ⟨_, (SqL.of (O281.at 0 rfl))⟩, ?_⟩
              refine for_list (K := K) (xs := w236) (fun i σ H_ => ∃ (F_ : Hp) (st : Unit) (t_0 : Option V), σ = [some (V.ref a_script), some (V.int y41), some (V.ref p73), some (V.ref p132), some v151, some (V.ref p204), some (V.int y211), some v123, some (V.ref p154), some (V.ref p235), t_0, none, none] ∧ Same F227 F_ ∧ Ow _ F_ [(p235, .lst w236), (p73, .lst w114)] H_ ∧ PX (⟨[], F, H⟩ : Ent) F227 F_ w236 (pushAt (0 : Int) r230 i) ∧ L288 (List.drop i r230) st) ⟨F232, (), t226, rfl, Sb280, O281, PX.mk O228 (0 : Int) fr241 cN292 hl240, hL289⟩ (fun i_ σ_ H_ _ hp_ => ?_) ?_ ?_
              · obtain ⟨_, _, _, _, hS_, hO_, _⟩ := hp_
                exact SqL.of (hO_.at 0 rfl)
              · rintro i293 x294 sg295 H296 hi297 ⟨F302, st299, t300, rfl, S298, O303, hP301, hL289⟩
                obtain ⟨y287, e304, r305⟩ := PX.got hP301 hi297
                rw [drop_at e304] at hL289
                have hk := hLs290 _ _ _ hL289
                obtain ⟨p306, v309, v310, e307, h308, r311, r312⟩ := R.t2_ r305
                cases e307
                refine ⟨_, rfl, _, _, _, _, true, rfl, .ty _, (.base (.tup (O303.s _ _ h308))), kit_ty (by decide +kernel), _, rfl, ?_⟩
                refine iteNT ?_
                obtain ⟨p313, v316, v317, e314, h315, r318, r319⟩ := R.t2_ r311
                cases e314
                obtain rfl := R.int_ r318
                obtain rfl := R.int_ r319
                refine ⟨_, rfl, _, _, _, _, rfl, rfl, (SqTF O303.s h308), rfl, _, _, _, _, true, rfl, .ty _, (.base (.tup (O303.s _ _ h315))), kit_ty (by decide +kernel), _, rfl, ?_⟩
                refine iteNT ?_
                refine ⟨_, rfl, _, _, _, _, rfl, rfl, (SqTF O303.s h308), rfl, _, _, _, rfl, O303.pre0, r312, wp_call hk (fun r320 er321 hk F322 H323 g324 => ?_) (fun n hn C H1 hC kp => hn.elim)⟩
                have O325 := O303.call0 g324
                have S_ := g324.f
                have S298 := S298.trans S_
                have hP301 := hP301.mono S_
                have h308 := S_ _ _ h308
                have r312 := r312.mono S_
                refine ⟨_, rfl, ?_⟩
                refine iteBN (fun q326 => ?_) (fun q326 => ?_)
                · have hk := wp_if hk q326
                  obtain ⟨p327, w328, e329, h330, hl331⟩ := R.lst_ r312
                  cases e329
                  obtain ⟨c332, hk⟩ := wp_appL hk
                  refine ⟨_, rfl, _, _, _, _, rfl, rfl, (SqTF O325.s h308), rfl, (.inl ⟨rfl, _, (SqLF O325.s h330)⟩), _, _, _, rfl, rfl, (O325.s _ _ h330), (by rw [hl331.len]; exact c332), ?_⟩
                  obtain ⟨F333, O334, S335, hP301⟩ := PX.push hP301 O325 S298 hi297 e304 h308 h330
                  have S298 := S335
                  exact ⟨F333, (), some (V.ref p306), rfl, S298, O334, hP301, hk⟩
                · have hk := wp_el hk q326
                  exact hk _ _  O325.g 
              rintro sg336 H337 ⟨F343, st339, t341, rfl, S338, O344, hP342, hL340⟩
              rw [drop_end hl240.len] at hL340
              have hk := hLd291 _ hL340
              have h145 := sv262
              have h156 := sv264
              have r161 := sv265
              have S222 := sv279
              have h145 := h145.mono S338
              have h156 := S338 _ _ h156
              have r161 := r161.mono S338
              have S222 := S222.trans S338
              have hl345 := PX.done hP342
              obtain ⟨c352, L348, hL349, hLs350, hLd351⟩ := compS_L hk
              refine ⟨_, rfl, _, rfl, ⟨_, (SqL.of (O344.at 0 rfl))⟩, fun p353 hp354 => ?_⟩
              have z382 := O344.was hp354
              refine lc_list (K := K) (xs := w236) (fun i H => ∃ (F_ : Hp) (st : Unit) (acc : List Int) (wa : List V), Same F343 F_ ∧ Ow _ F_ [(p353, .lst wa), (p235, .lst w236), (p73, .lst w114)] H ∧ RL F_ wa acc ∧ wa.length ≤ i ∧ L348 (List.drop i (List.map (pushR (0 : Int)) r230)) acc st) ⟨F343, (), [], [], Same.refl _, O344.new hp354, RL.nil, Nat.zero_le _, hL349⟩ (fun i_ H_ _ hp_ => ?_) ?_ ?_
              · obtain ⟨_, _, _, _, hS_, hO_, _⟩ := hp_
                exact SqL.of (hO_.at 1 rfl)
              · rintro i355 x356 H357 hi358 ⟨F363, st364, acc360, wa361, S365, O367, hl366, la362, hL349⟩
                have hl345 := hl345.mono S365
                obtain ⟨y347, e368, r369⟩ := RL.got hl345 hi358
                rw [drop_at e368] at hL349
                have hk := hLs350 _ _ _ _ hL349
                obtain ⟨p370, v373, v374, e371, h372, r375, r376⟩ := R.t2_ r369
                cases e371
                refine ⟨_, _, rfl, (SqTF O367.s h372), rfl, _, _, rfl, _, _, rfl, rfl, rfl, ?_⟩
                obtain ⟨p377, w378, e379, h380, hl381⟩ := R.lst_ r376
                cases e379
                refine ⟨_, rfl, _, _, _, rfl, (.inl (O367.s _ _ h380)), hl381.len, _, (O367.at 0 rfl), (comp_len la362 hi358 hl345.len c352), ?_⟩
                exact ⟨F363, (), acc360 ++ [(y347.2.length : Int)], wa361 ++ [V.int (y347.2.length : Int)], S365, O367.set 0 (.lst (wa361 ++ [V.int (y347.2.length : Int)])) rfl, RL.snoc hl366 R.int, by rw [List.length_append]; exact Nat.succ_le_succ la362, hk⟩
              rintro H383 ⟨F384, st385, acc386, wa387, S388, O389, hl390, la391, hL392⟩
              rw [drop_end hl345.len] at hL392
              have hk := hLd351 _ _ hL392
              have h145 := h145.mono S388
              have h156 := S388 _ _ h156
              have r161 := r161.mono S388
              have S222 := S222.trans S388
              have hl345 := hl345.mono S388
              obtain ⟨F394, O395, S396, h397⟩ := O389.frzE 0 rfl z382
              have h145 := h145.mono S396
              have h156 := S396 _ _ h156
              have r161 := r161.mono S396
              have S222 := S222.trans S396
              have hl345 := hl345.mono S396
              have hl390 := hl390.mono S396
              have h398 := R.lst (a := Int) h397 hl390
              obtain ⟨p399, w400, e401, h402, hl403⟩ := R.lst_ r161
              cases e401
              refine ⟨_, rfl, _, _, _, _, rfl, rfl, (SqTF O395.s h156), rfl, _, _, _, rfl, (.inl (O395.s _ _ h402)), hl403.len, _, _, rfl, rfl, (by show 1 ≤ sizeLine; decide), fun p404 hp405 => ?_⟩
              have hl411 : RL (a := Int) F394 ([V.int ((r109.1.2.a.length : Int) + (1 : Int))]) ([((r109.1.2.a.length : Int) + (1 : Int))]) := RL.cons R.int RL.nil
              obtain ⟨F406, O407, S408, h409⟩ := O395.putE hp405 (.lst ([V.int ((r109.1.2.a.length : Int) + (1 : Int))]))
              have h145 := h145.mono S408
              have S222 := S222.trans S408
              have hl345 := hl345.mono S408
              have h398 := h398.mono S408
              have hl411 := hl411.mono S408
              have h410 := R.lst (a := Int) h409 hl411
              obtain ⟨p412, w413, e414, h415, hl416⟩ := R.lst_ h145
              cases e414
              obtain ⟨p417, w418, e419, h420, hl421⟩ := R.lst_ h410
              cases e419
              obtain ⟨c422, hk⟩ := wp_chk hk
              refine ⟨_, rfl, _, _, _, rfl, (.inl (O407.s _ _ h415)), hl416.len, _, _, _, rfl, rfl, (O407.s _ _ h420), c422.1, c422.2.1, (by rw [hl421.len]; exact le_line c422.2.2), fun p423 hp424 => ?_⟩
              have hl430 : RL (a := Int) F406 (repL (r127.length : Int) w418) (repL (r127.length : Int) ([((r109.1.2.a.length : Int) + (1 : Int))])) := RL.rep hl421 (r127.length : Int)
              obtain ⟨F425, O426, S427, h428⟩ := O407.putE hp424 (.lst (repL (r127.length : Int) w418))
              have S222 := S222.trans S427
              have hl345 := hl345.mono S427
              have h398 := h398.mono S427
              have hl430 := hl430.mono S427
              have h429 := R.lst (a := Int) h428 hl430
              refine ⟨_, _, (R.mono h398 O426.s), (R.mono h429 O426.s), _, rfl, ?_⟩
              refine iteD (fun q431 => ?_) (fun q431 => ?_)
              · have hk := wp_if hk q431
                exact hk _ _  O426.g 
              · have hk := wp_el hk q431
                refine ⟨_, rfl, (.inl ⟨rfl, _, SqL.of (O426.at 0 rfl)⟩), (by show 2 ≤ sizeLine; decide), fun p432 hp433 => ?_⟩
                obtain ⟨F434, O435, S436, h437⟩ := O426.putE hp433 (.tup [V.int (0 : Int), V.int (0 : Int)])
                have S222 := S222.trans S436
                have hl345 := hl345.mono S436
                refine ⟨(by show 0 ≤ sizeLine; decide), fun p439 hp440 => ?_⟩
                obtain ⟨F441, O442, S443, h444⟩ := O435.putE hp440 (.lst ([]))
                have S222 := S222.trans S443
                have hl345 := hl345.mono S443
                refine ⟨(by show 2 ≤ sizeLine; decide), fun p447 hp448 => ?_⟩
                obtain ⟨F449, O450, S451, h452⟩ := O442.putE hp448 (.tup [V.ref p432, V.ref p439])
                have S222 := S222.trans S451
                have hl345 := hl345.mono S451
                obtain ⟨c454, hk⟩ := wp_appL hk
                refine ⟨_, _, _, rfl, rfl, (O450.at 0 rfl), (by rw [hl345.len]; exact c454), ?_⟩
                have O456 := O450.set 0 (.lst (w236 ++ [V.ref p447])) rfl
                have O458 := O456.drop 0
                exact ⟨F449, (), some (V.int y211), some (V.ref p235), t341, rfl, S222, O458, hk⟩
      rintro sg459 H460 ⟨F467, st462, t464, t465, t466, rfl, S461, O468, hL463⟩
      rw [rangeL_end0] at hL463
      have hk := hLd216 _ hL463
      have S51 := S51.trans S461
      have O470 := O468.drop 0
      exact ⟨F467, (), some (V.int y41), some (V.ref p73), some (V.ref p132), some v151, some (V.ref p204), t464, some v123, some (V.ref p154), t465, t466, rfl, S51, O470, hk⟩
    rintro sg471 H472 ⟨F486, st474, t476, t477, t478, t479, t480, t481, t482, t483, t484, t485, rfl, S473, O487, hL475⟩
    rw [drop_end hl40.len] at hL475
    have hk := hLd45 _ hL475
    exact hk _ _  O487.g 
end
set_option maxHeartbeats 2000000
def m_told_by (x_rule : (T4 (List Sm) (List Sm) (List Sm) Sm)) (x_so : (List Int)) (x_own : Int) : M (Int) :=
m_sum_at 12 x_rule.d x_own (0 : Int) x_so ([] : List Int) >>= fun r20 =>
.ok r20
def m_law_seat (x_tree : ((List Int) × (List (T3 Int Int Int)))) (x_rule : (T4 (List Sm) (List Sm) (List Sm) Sm)) (x_place : Int) : M (Int) :=
opt (atI x_tree.1 x_place) >>= fun y30 =>
m_law_row 100 x_tree x_rule x_place (none : (Option Int)) >>= fun r35 =>
m_law_value 12 x_rule.d (mergeDS [(("own" : Str), (IL.i y30)), (("so" : Str), (IL.l r35))]) >>= fun r48 =>
.ok r48

/-! ### the law's own helpers -/
theorem take_ok (d m : Int) (h : 0 < m) (h2 : m ≤ 10 ^ 40) : m_law_take [d] m = .ok (d % m, [d / m]) := by
  unfold m_law_take
  rw [opt_b (show L2.atI [d] (0 : Int) = some d from rfl), chk_b h, opt_b (show L2.atI [d] (0 : Int) = some d from rfl), chk_b (cdivW h h2)]
  rfl
theorem pow10 (n : Nat) : (10 : Int) ^ n = ((10 ^ n : Nat) : Int) := by rw [Int.natCast_pow]; rfl
theorem stir_ok (c k : Int) (h : 1 ≤ k ∧ k ≤ 3) : ∃ s, m_law_stir c k = .ok s ∧ 0 ≤ s ∧ s < 10 ^ 62 := by
  unfold m_law_stir
  have e40 : (10 : Int) ^ Int.toNat (40 : Int) = 10000000000000000000000000000000000000000 := by decide
  have e60 : (3 : Int) ^ Int.toNat (60 : Int) = 42391158275216203514294433201 := by decide
  have e61 : (10 : Int) ^ Int.toNat (61 : Int) = 10000000000000000000000000000000000000000000000000000000000000 := by decide
  rw [e40, e60, e61]
  obtain ⟨r, hr⟩ : ∃ r, r = c % 10000000000000000000000000000000000000000 := ⟨_, rfl⟩
  have r0 : 0 ≤ r := by omega
  have r1 : r < 10000000000000000000000000000000000000000 := by omega
  rw [← hr]
  rw [chk_b (by decide)]
  rw [chk_b (cmulW (Nat.lt_of_lt_of_le (m := 10 ^ 40) (by omega) (by decide +kernel)) (by decide +kernel))]
  rw [chk_b (cmulW (by decide +kernel) (Nat.lt_of_lt_of_le (m := 5) (by omega) (by decide +kernel)))]
  obtain ⟨q, hq⟩ : ∃ q, q = 42391158275216203514294433201 * (k + 1) := ⟨_, rfl⟩
  have q0 : 0 ≤ q ∧ q ≤ 42391158275216203514294433201 * 4 := by omega
  rw [← hq]
  rw [chk_b (cmulW (Nat.lt_of_lt_of_le (m := 10 ^ 40) (by omega) (by decide +kernel)) (Nat.lt_of_lt_of_le (m := 5) (by omega) (by decide +kernel)))]
  have q2 : 0 ≤ q * (k + 1) ∧ q * (k + 1) ≤ 42391158275216203514294433201 * 16 := by
    have : k = 1 ∨ k = 2 ∨ k = 3 := by omega
    rcases this with rfl | rfl | rfl <;> omega
  rw [ret_b]
  obtain ⟨n, hn⟩ : ∃ n, n = r * 48271 + q * (k + 1) + k := ⟨_, rfl⟩
  rw [← hn]
  have n0 : 0 ≤ n := by omega
  have n1 : n.natAbs < 2 ^ 160 := Nat.lt_of_lt_of_le (m := 10 ^ 46) (by omega) (by decide)
  rw [chk_b (cmulW (Nat.lt_of_lt_of_le n1 (Nat.pow_le_pow_right (by decide) (by decide))) (Nat.lt_of_lt_of_le n1 (Nat.pow_le_pow_right (by decide) (by decide))))]
  rw [chk_b (cmulW (by decide +kernel) (Nat.lt_of_lt_of_le n1 (Nat.pow_le_pow_right (by decide) (by decide))))]
  rw [ret_b]
  have m1 : (n * n).natAbs < 2 ^ (160 + 160) := wide_lt n1 n1
  have m2 : ((69621 : Int) * n).natAbs < 2 ^ (17 + 160) := wide_lt (by decide) n1
  have m3 : (n * n + 69621 * n).natAbs < 2 ^ 321 := by
    have a1 := Int.natAbs_add_le (n * n) (69621 * n)
    have a2 : (2 : Nat) ^ (17 + 160) ≤ 2 ^ 320 := Nat.pow_le_pow_right (by decide) (by decide)
    have a3 : (2 : Nat) ^ 321 = 2 ^ 320 + 2 ^ 320 := by decide
    omega
  rw [chk_b (cmulW (Nat.lt_of_lt_of_le m3 (Nat.pow_le_pow_right (by decide) (by decide))) (Nat.lt_of_lt_of_le m3 (Nat.pow_le_pow_right (by decide) (by decide))))]
  rw [chk_b (by decide), chk_b (cdivW (by decide) (by decide))]
  refine ⟨_, rfl, ?_⟩
  have : (10 : Int) ^ 62 = 100000000000000000000000000000000000000000000000000000000000000 := by decide
  rw [this]
  omega
theorem deck_ok (c : Int) : ∃ d, m_law_deck c = .ok [d] := by
  unfold m_law_deck
  have e60 : (10 : Int) ^ Int.toNat (60 : Int) = 10 ^ 60 := rfl
  by_cases h : (10 : Int) ^ Int.toNat (18 : Int) ≤ c
  · rw [if_pos h]
    exact ⟨_, rfl⟩
  · rw [if_neg h]
    obtain ⟨s1, e1, a1, b1⟩ := stir_ok c 1 (by decide)
    obtain ⟨s2, e2, a2, b2⟩ := stir_ok c 2 (by decide)
    obtain ⟨s3, e3, _, _⟩ := stir_ok c 3 (by decide)
    have k62 : ((10 : Int) ^ 62).natAbs < 2 ^ 210 := by decide
    have w1 : s1.natAbs < 2 ^ 210 := wide_le a1 (Int.le_of_lt b1) k62
    have w2 : s2.natAbs < 2 ^ 210 := wide_le a2 (Int.le_of_lt b2) k62
    have k60 : ((10 : Int) ^ 60).natAbs < 2 ^ 200 := by decide
    rw [bind_ok e1, e60, chk_b (cmulW (Nat.lt_of_lt_of_le w1 (Nat.pow_le_pow_right (by decide) (by decide))) (Nat.lt_of_lt_of_le k60 (Nat.pow_le_pow_right (by decide) (by decide)))), bind_ok e2]
    have m1 : (s1 * 10 ^ 60).natAbs < 2 ^ (210 + 200) := wide_lt w1 k60
    have m2 : (s1 * 10 ^ 60 + s2).natAbs < 2 ^ 411 := by
      have x1 := Int.natAbs_add_le (s1 * 10 ^ 60) s2
      have x2 : (2 : Nat) ^ 210 ≤ 2 ^ 410 := Nat.pow_le_pow_right (by decide) (by decide)
      have x3 : (2 : Nat) ^ 411 = 2 ^ 410 + 2 ^ 410 := by decide
      omega
    rw [chk_b (cmulW (Nat.lt_of_lt_of_le m2 (Nat.pow_le_pow_right (by decide) (by decide))) (Nat.lt_of_lt_of_le k60 (Nat.pow_le_pow_right (by decide) (by decide)))), bind_ok e3]
    exact ⟨_, rfl⟩
/-- how far numbers go -/
def farB : Int := 100000000000000000000000000000
theorem number_ok (d far : Int) (h : 0 ≤ far) (h2 : far ≤ farB) : ∃ x d', m_law_number [d] far = .ok (x, [d']) ∧ -far ≤ x ∧ x ≤ far := by
  unfold m_law_number
  have hb : far ≤ 100000000000000000000000000000 := h2
  rw [chk_b (cmulW (by decide +kernel) (Nat.lt_of_lt_of_le (m := 10 ^ 40) (by omega) (by decide +kernel)))]
  rw [bind_ok (take_ok d (2 * far + 1) (by omega) (by have : (10 : Int) ^ 40 = 10000000000000000000000000000000000000000 := by decide
                                                      omega))]
  refine ⟨_, _, rfl, ?_, ?_⟩
  · show -far ≤ d % (2 * far + 1) - far
    have := Int.emod_nonneg d (show (2 * far + 1) ≠ 0 by omega)
    omega
  · show d % (2 * far + 1) - far ≤ far
    have := Int.emod_lt_of_pos d (show 0 < (2 * far + 1) by omega)
    omega
theorem take_small (d m : Int) (h : 0 < m) (h2 : m ≤ 1000000) : ∃ x d', m_law_take [d] m = .ok (x, [d']) ∧ 0 ≤ x ∧ x < m := by
  have k : (10 : Int) ^ 40 = 10000000000000000000000000000000000000000 := by decide
  exact ⟨_, _, take_ok d m h (by omega), Int.emod_nonneg _ (by omega), Int.emod_lt_of_pos _ h⟩
theorem nums_ok (far : Int) (h : 0 ≤ far) (h2 : far ≤ farB) {items : List Int} (hl : items.length < 16777216) (d : Int) :
    ∃ xs d', compS (fun (_ : Int) (st : List Int) => m_law_number st far >>= fun r => .ok (some r.1, r.2)) items [d] = .ok (xs, [d']) ∧ xs.length = items.length ∧ ∀ x ∈ xs, -far ≤ x ∧ x ≤ far := by
  obtain ⟨acc, st, e, ⟨d', rfl⟩, h3, h4⟩ := compS_run (f := fun (_ : Int) (st : List Int) => m_law_number st far >>= fun r => .ok (some r.1, r.2)) hl
    (fun pre acc st => (∃ d', st = [d']) ∧ acc.length = pre.length ∧ ∀ x ∈ acc, -far ≤ x ∧ x ≤ far) (x := [d]) ⟨⟨d, rfl⟩, rfl, fun _ h => nomatch h⟩ fun pre y post acc st _ ⟨⟨d', hd⟩, h3, h4⟩ => by
      subst hd
      obtain ⟨x, d2, e, hx⟩ := number_ok d' far h h2
      refine ⟨some x, [d2], by rw [bind_ok e], ⟨d2, rfl⟩, by simp [h3], fun z hz => ?_⟩
      rcases List.mem_append.mp hz with hz | hz
      · exact h4 z hz
      · rw [List.mem_singleton.mp hz]; exact hx
  exact ⟨acc, d', e, h3, h4⟩
theorem rangeL_mem {lo hi x : Int} : x ∈ rangeL lo hi ↔ lo ≤ x ∧ x < hi := by
  unfold rangeL
  rw [List.mem_map]
  constructor
  · rintro ⟨j, hj, rfl⟩
    have := List.mem_range.mp hj
    omega
  · rintro ⟨h1, h2⟩
    exact ⟨(x - lo).toNat, List.mem_range.mpr (by omega), by omega⟩
theorem rangeL_nodup (lo hi : Int) : (rangeL lo hi).Nodup := by
  unfold rangeL
  rw [List.nodup_iff_pairwise_ne, List.pairwise_map]
  exact List.nodup_range.imp fun h e => h (by omega)
/-- an order of all places -/
theorem order_ok (d n : Int) (h0 : 0 ≤ n) (h1 : n ≤ 1000000) : ∃ o d', m_law_order [d] n = .ok (o, [d']) ∧ o.Perm (rangeL 0 n) := by
  unfold m_law_order
  have hr : okR n := ⟨by omega, h1⟩
  rw [chk_b hr, chk_b hr]
  have hlen : (rangeL 0 n).length = n.toNat := by rw [rangeL_length]; omega
  obtain ⟨st, e, h2⟩ := loopN_run (f := fun (_ : Int) (st26 : (List Int) × (List Int) × (List Int)) =>
      m_law_take st26.2.2 (st26.2.1.length : Int) >>= fun r36 => popI st26.2.1 r36.1 >>= fun t54 => appL st26.1 t54.1 >>= fun _ => (.ok ((st26.1 ++ [t54.1]), t54.2, r36.2) : M _))
    (all := rangeL 0 n) (fun pre st => (∃ d', st.2.2 = [d']) ∧ (st.1 ++ st.2.1).Perm (rangeL 0 n) ∧ st.1.length = pre.length) (x := ([], rangeL 0 n, [d])) ⟨⟨d, rfl⟩, List.Perm.refl _, rfl⟩ fun pre y post st ea ⟨⟨d', hd⟩, hp, hl⟩ => by
      obtain ⟨fs, ls, ds⟩ := st
      have hd : ds = [d'] := hd
      subst hd
      have hp : (fs ++ ls).Perm (rangeL 0 n) := hp
      have hl : fs.length = pre.length := hl
      have hpl := hp.length_eq
      rw [List.length_append, hlen] at hpl
      have hal := congrArg List.length ea
      rw [List.length_append, List.length_cons, hlen] at hal
      obtain ⟨x, d2, ex, x0, x1⟩ := take_small d' (ls.length : Int) (by omega) (by omega)
      have hx : x.toNat < ls.length := by omega
      have eg : ls[x.toNat]? = some ls[x.toNat] := List.getElem?_eq_getElem hx
      refine ⟨(fs ++ [ls[x.toNat]], ls.eraseIdx x.toNat, [d2]), ?_, ⟨d2, rfl⟩, ?_, by simp [hl]⟩
      · show (m_law_take [d'] (ls.length : Int) >>= fun r36 => popI ls r36.1 >>= fun t54 => appL fs t54.1 >>= fun _ => (.ok ((fs ++ [t54.1]), t54.2, r36.2) : M _)) = _
        rw [bind_ok ex, bind_ok (popI_ok x0 eg (by omega)), bind_ok (appL_ok (by omega))]
      · show ((fs ++ [ls[x.toNat]]) ++ ls.eraseIdx x.toNat).Perm (rangeL 0 n)
        refine List.Perm.trans ?_ hp
        rw [List.append_assoc]
        refine List.Perm.append_left fs ?_
        show (ls[x.toNat] :: ls.eraseIdx x.toNat).Perm ls
        exact erase_perm hx
  obtain ⟨fs, ls, ds⟩ := st
  obtain ⟨⟨d', hd⟩, hp, hl⟩ := h2
  have hd : ds = [d'] := hd
  subst hd
  have hp : (fs ++ ls).Perm (rangeL 0 n) := hp
  have hl : fs.length = (rangeL 0 n).length := hl
  have hpl := hp.length_eq
  rw [List.length_append] at hpl
  have : ls = [] := List.length_eq_zero_iff.mp (by omega)
  subst this
  rw [List.append_nil] at hp
  rw [bind_ok e]
  exact ⟨fs, d', rfl, hp⟩

theorem at5 (a b c d e k : Int) (h : 0 ≤ k) (h5 : k < 5) (P : Int → Prop) (pa : P a) (pb : P b) (pc : P c) (pd : P d) (pe : P e) : ∃ x, L2.atI [a, b, c, d, e] k = some x ∧ P x := by
  obtain ⟨x, e1, e2⟩ := atI_some (xs := [a, b, c, d, e]) h (by simpa using h5)
  refine ⟨x, e1, ?_⟩
  have hm := List.mem_of_getElem? e2
  simp only [List.mem_cons, List.not_mem_nil, or_false] at hm
  rcases hm with rfl | rfl | rfl | rfl | rfl <;> assumption
theorem tree_ok (d most far : Int) (m1 : 1 ≤ most) (m2 : most ≤ 1000) (f0 : 0 ≤ far) (f1 : far ≤ farB) :
    ∃ t d', m_law_tree [d] most far = .ok (t, [d']) ∧ TreeOk t ∧ (t.1.length : Int) ≤ most ∧ (∀ x ∈ t.1, -far ≤ x ∧ x ≤ far) ∧ ∀ x ∈ t.2, -far ≤ x.c ∧ x.c ≤ far := by
  unfold m_law_tree
  obtain ⟨r, d1, e1, r0, r1⟩ := take_small d most (by omega) (by omega)
  rw [bind_ok e1]
  show ∃ t d', (m_law_order [d1] ((1 : Int) + r) >>= _) = _ ∧ _
  obtain ⟨o, d2, e2, po⟩ := order_ok d1 (1 + r) (by omega) (by omega)
  rw [bind_ok e2]
  obtain ⟨kd, d3, e3, k0, k5⟩ := take_small d2 5 (by decide) (by decide)
  show ∃ t d', (m_law_take [d2] 5 >>= _) = _ ∧ _
  rw [bind_ok e3, chk_b (show okR 1 by decide), chk_b (show okR (1 + r) from ⟨by omega, by omega⟩)]
  have olen : o.length = (1 + r).toNat := by
    have := po.length_eq
    rw [rangeL_length] at this
    omega
  have ond : o.Nodup := po.nodup_iff.mpr (rangeL_nodup _ _)
  obtain ⟨st, e4, h4⟩ := loopN_run (f := fun (y47 : Int) (st60 : (List Int) × (List (T3 Int Int Int))) =>
      m_law_take st60.1 y47 >>= fun r70 =>
      m_law_take r70.2 (3 : Int) >>= fun r79 =>
      m_law_take r79.2 y47 >>= fun r88 =>
      opt (atI ([r70.1, (y47 - (1 : Int)), (0 : Int), (if ((y47 - (1 : Int)) - r79.1) > (0 : Int) then ((y47 - (1 : Int)) - r79.1) else (0 : Int)), r88.1]) kd) >>= fun y110 =>
      opt (atI o y47) >>= fun y120 =>
      opt (atI o y110) >>= fun y130 =>
      opt (atI (sortT ([y120, y130])) (0 : Int)) >>= fun y161 =>
      opt (atI (sortT ([y120, y130])) (1 : Int)) >>= fun y171 =>
      m_law_number r88.2 far >>= fun r176 =>
      appL st60.2 (T3.mk y161 y171 r176.1) >>= fun _ =>
      (.ok (r176.2, (st60.2 ++ [(T3.mk y161 y171 r176.1)])) : M _)) (all := rangeL (1 : Int) ((1 : Int) + r)) (x := ([d3], []))
    (fun pre st => (∃ d', st.1 = [d']) ∧ Grown (o.take (pre.length + 1)) st.2 ∧ ∀ x ∈ st.2, -far ≤ x.c ∧ x.c ≤ far)
    ⟨⟨d3, rfl⟩, by
      cases o with
      | nil => simp at olen; omega
      | cons p o => exact Grown.one p, fun _ h => nomatch h⟩
    fun pre y post st ea ⟨⟨d', hd⟩, hg, hc⟩ => by
      obtain ⟨ds, ts⟩ := st
      have hd : ds = [d'] := hd
      subst hd
      have hg : Grown (o.take (pre.length + 1)) ts := hg
      have hc : ∀ x ∈ ts, -far ≤ x.c ∧ x.c ≤ far := hc
      -- the turn's number
      have hy : y = 1 + (pre.length : Int) ∧ pre.length < r.toNat := by
        have hl := congrArg List.length ea
        rw [rangeL_length, List.length_append, List.length_cons] at hl
        have hg2 : (rangeL 1 (1 + r))[pre.length]? = some y := by rw [ea]; simp
        unfold rangeL at hg2
        rw [List.getElem?_map, List.getElem?_range (by omega)] at hg2
        exact ⟨(Option.some.inj hg2).symm, by omega⟩
      obtain ⟨hy, hpl⟩ := hy
      obtain ⟨q1, d4, a1, b1, c1⟩ := take_small d' y (by omega) (by omega)
      obtain ⟨q2, d5, a2, b2, c2⟩ := take_small d4 3 (by decide) (by decide)
      obtain ⟨q3, d6, a3, b3, c3⟩ := take_small d5 y (by omega) (by omega)
      obtain ⟨at_, a4, b4, c4⟩ := at5 q1 (y - 1) 0 (if (y - 1) - q2 > 0 then (y - 1) - q2 else 0) q3 kd k0 k5 (fun x => 0 ≤ x ∧ x < y) ⟨b1, c1⟩ (by omega) (by omega) (by split <;> omega) ⟨b3, c3⟩
      obtain ⟨p, a5, b5⟩ := atI_some (xs := o) (j := y) (by omega) (by omega)
      obtain ⟨q, a6, b6⟩ := atI_some (xs := o) (j := at_) b4 (by omega)
      obtain ⟨c, d7, a7, b7⟩ := number_ok d6 far f0 f1
      have hq : q ∈ o.take (pre.length + 1) := by
        refine List.mem_iff_getElem?.mpr ⟨at_.toNat, ?_⟩
        rw [List.getElem?_take_of_lt (by omega)]
        exact b6
      have hp : p ∉ o.take (pre.length + 1) := fun hm => by
        obtain ⟨j, hj⟩ := List.mem_iff_getElem?.mp hm
        rw [List.getElem?_take] at hj
        split at hj
        · have := nd_ix ond hj b5
          omega
        · cases hj
      have hpq : p ≠ q := fun e => hp (e ▸ hq)
      have hs : sortT [p, q] = [(tieOf p q c).a, (tieOf p q c).b] := by
        rw [sort2]
        unfold tieOf
        by_cases hh : p ≤ q
        · rw [if_pos hh, if_pos hh]
        · rw [if_neg hh, if_neg hh]
      have hcc : (tieOf p q c).c = c := (tieOf_lt hpq).2.2
      have et : T3.mk (tieOf p q c).a (tieOf p q c).b c = tieOf p q c := PySem.W.T3.same rfl rfl hcc.symm
      have hlt : ts.length < 16777216 := by
        have := hg.len
        rw [List.length_take] at this
        omega
      refine ⟨([d7], ts ++ [tieOf p q c]), ?_, ⟨d7, rfl⟩, ?_, fun x hx => ?_⟩
      · show (m_law_take [d'] y >>= _) = _
        rw [bind_ok a1]
        show (m_law_take [d4] 3 >>= _) = _
        rw [bind_ok a2]
        show (m_law_take [d5] y >>= _) = _
        rw [bind_ok a3]
        show (opt (atI [q1, y - 1, 0, (if (y - 1) - q2 > 0 then (y - 1) - q2 else 0), q3] kd) >>= _) = _
        rw [opt_b a4, opt_b a5, opt_b a6, hs]
        rw [opt_b (show L2.atI [(tieOf p q c).a, (tieOf p q c).b] (0 : Int) = some (tieOf p q c).a from rfl), opt_b (show L2.atI [(tieOf p q c).a, (tieOf p q c).b] (1 : Int) = some (tieOf p q c).b from rfl)]
        show (m_law_number [d6] far >>= _) = _
        rw [bind_ok a7]
        show (appL ts (T3.mk (tieOf p q c).a (tieOf p q c).b c) >>= _) = _
        rw [bind_ok (appL_ok hlt)]
        show (Except.ok ([d7], ts ++ [T3.mk (tieOf p q c).a (tieOf p q c).b c]) : M _) = _
        rw [et]
      · have e5 : o.take ((pre ++ [y]).length + 1) = o.take (pre.length + 1) ++ [p] := by
          rw [List.length_append]
          show o.take (pre.length + 1 + 1) = _
          rw [List.take_succ]
          have e6 : y.toNat = pre.length + 1 := by omega
          rw [e6] at b5
          rw [b5]
          rfl
        rw [e5]
        exact Grown.more q p c hg hq hp
      · rcases List.mem_append.mp hx with hx | hx
        · exact hc x hx
        · rw [List.mem_singleton.mp hx, hcc]
          exact b7
  obtain ⟨ds, ts⟩ := st
  obtain ⟨⟨d8, hd⟩, hg, hc⟩ := h4
  have hd : ds = [d8] := hd
  subst hd
  have hg : Grown (o.take ((rangeL 1 (1 + r)).length + 1)) ts := hg
  have hc : ∀ x ∈ ts, -far ≤ x.c ∧ x.c ≤ far := hc
  rw [rangeL_length] at hg
  have e5 : o.take ((1 + r - 1).toNat + 1) = o := List.take_of_length_le (by omega)
  rw [e5] at hg
  show ∃ t d', (loopN _ (rangeL 1 (1 + r)) ([d3], []) >>= _) = _ ∧ _
  rw [bind_ok e4, chk_b (show okR (1 + r) from ⟨by omega, by omega⟩)]
  obtain ⟨ws, d9, e6, w1, w2⟩ := nums_ok far f0 f1 (items := rangeL 0 (1 + r)) (by rw [rangeL_length]; omega) d8
  show ∃ t d', (compS _ (rangeL 0 (1 + r)) [d8] >>= _) = _ ∧ _
  rw [bind_ok e6]
  rw [rangeL_length] at w1
  have hlen : ((1 + r).toNat : Int) = 1 + r := by omega
  refine ⟨(ws, sortT ts), d9, rfl, ⟨⟨o, ts, hg, ?_, rfl⟩⟩, ?_, w2, fun x hx => hc x (sortT_mem.mp hx)⟩
  · show o.Perm (rangeL 0 (ws.length : Int))
    have : (ws.length : Int) = 1 + r := by omega
    rw [this]
    exact po
  · show (ws.length : Int) ≤ most
    omega

theorem rangeL_len0 (n : Nat) : (rangeL 0 (n : Int)).length = n := by rw [rangeL_length]; omega
theorem are_whole_ok (xs : List Int) (h : xs.length < 16777216) : m_law_are_whole xs = .ok true := by
  unfold m_law_are_whole
  rw [bind_ok (compS_pure (fun _ => none) h fun y _ => by
    show (m_law_whole y >>= _) = _
    unfold m_law_whole
    rw [ok_b, if_pos rfl])]
  have : xs.filterMap (fun _ => (none : Option Int)) = [] := by
    induction xs with
    | nil => rfl
    | cons x xs ih => rw [List.filterMap_cons]; exact ih (by simp at h; omega)
  rw [this]
  rfl
theorem cut10 (ns : List Int) (k : Nat) : (cutL ns none (some (k : Int))).length ≤ ns.length := by
  unfold cutL
  rw [List.length_take, List.length_drop]
  omega
theorem at4 (k : Int) (h : 0 ≤ k) (h4 : k < 4) : ∃ x, L2.atI [(10 : Int), 10, 10, 40] k = some x ∧ (x = 10 ∨ x = 40) := by
  obtain ⟨x, e1, e2⟩ := atI_some (xs := [(10 : Int), 10, 10, 40]) h (by simpa using h4)
  refine ⟨x, e1, ?_⟩
  have hm := List.mem_of_getElem? e2
  simp only [List.mem_cons, List.not_mem_nil, or_false] at hm
  omega

theorem comp2 {i c : Type} {f : i → Unit → M (Option c × Unit)} {a b : i} {va vb : c} (ha : f a () = .ok (some va, ())) (hb : f b () = .ok (some vb, ())) : compS f [a, b] () = .ok ([va, vb], ()) := by
  unfold compS
  rw [chk_b (show [a, b].length < 16777216 by show 2 < 16777216; decide)]
  show (nox (f a ()) >>= _) = _
  rw [ha]
  show (nox (f b ()) >>= _) = _
  rw [hb]
  rfl
theorem s_no : ¬ ("own" : Str) = ("number" : Str) := by decide +kernel
theorem s_nt : ¬ ("tie" : Str) = ("number" : Str) := by decide +kernel
theorem s_ns : ¬ ("so" : Str) = ("number" : Str) := by decide +kernel
theorem s_nm : ¬ ("more" : Str) = ("number" : Str) := by decide +kernel
theorem s_to : ¬ ("tie" : Str) = ("own" : Str) := by decide +kernel
theorem s_so : ¬ ("so" : Str) = ("own" : Str) := by decide +kernel
theorem s_mo : ¬ ("more" : Str) = ("own" : Str) := by decide +kernel
theorem s_st : ¬ ("so" : Str) = ("tie" : Str) := by decide +kernel
theorem s_mt : ¬ ("more" : Str) = ("tie" : Str) := by decide +kernel
theorem s_ms : ¬ ("more" : Str) = ("so" : Str) := by decide +kernel
section
variable {own tie : Int} {so more : List Int}
def OpW (w : Str) : Prop := w = "plus" ∨ w = "less" ∨ w = "times" ∨ w = "most" ∨ w = "least"
theorem op_sum {d : Nat} {w : Str} {a b : Sm} {va vb : Int} (hw : OpW w) (ha : m_sum_at d a own tie so more = .ok va) (hb : m_sum_at d b own tie so more = .ok vb) :
    m_sum_at (d + 1) (.two w a b) own tie so more = (if w = ("plus" : Str) then .ok (va + vb) else if w = ("less" : Str) then .ok (va - vb) else if w = ("times" : Str) then (chk (CMulW va vb) >>= fun _ => .ok (va * vb)) else if w = ("most" : Str) then .ok (if vb > va then vb else va) else .ok (if vb < va then vb else va)) := by
  have h1 : ¬ w = ("number" : Str) ∧ ¬ w = ("own" : Str) ∧ ¬ w = ("tie" : Str) ∧ ¬ w = ("so" : Str) ∧ ¬ w = ("more" : Str) := by
    rcases hw with e | e | e | e | e <;> subst e <;> decide +kernel
  unfold m_sum_at
  rw [if_neg (show ¬ Sm.word (.two w a b) = _ from h1.1), if_neg (show ¬ Sm.word (.two w a b) = _ from h1.2.1), if_neg (show ¬ Sm.word (.two w a b) = _ from h1.2.2.1), if_neg (show ¬ Sm.word (.two w a b) = _ from h1.2.2.2.1), if_neg (show ¬ Sm.word (.two w a b) = _ from h1.2.2.2.2)]
  rw [opt_b (show Sm.two? (.two w a b) = some (a, b) from rfl)]
  rw [bind_ok (comp2 (va := va) (vb := vb) (by show (m_sum_at d a own tie so more >>= _) = _; rw [bind_ok ha]) (by show (m_sum_at d b own tie so more >>= _) = _; rw [bind_ok hb]))]
  rfl
theorem op_val {d : Nat} {w : Str} {a b : Sm} {va vb : Int} {kn : List (Str × IL)} (hw : OpW w) (ha : m_law_value d a kn = .ok va) (hb : m_law_value d b kn = .ok vb) :
    m_law_value (d + 1) (.two w a b) kn = (if w = ("times" : Str) then (chk (CMulW va vb) >>= fun _ => .ok (va * vb)) else if w ∈ ([("plus" : Str), "less"] : List Str) then (opt (atI [(1 : Int), -1] (if (decide (w = ("less" : Str))) = true then (1 : Int) else 0)) >>= fun y => chk (CMulW y vb) >>= fun _ => .ok (va + y * vb)) else (opt (atI (sortT [va, vb]) (if (decide (w = ("most" : Str))) = true then (1 : Int) else 0)) >>= fun y => .ok y)) := by
  have h1 : ¬ w = ("number" : Str) ∧ ¬ w ∈ ([("own" : Str), "tie"] : List Str) ∧ ¬ w ∈ ([("so" : Str), "more"] : List Str) := by
    rcases hw with e | e | e | e | e <;> subst e <;> decide +kernel
  unfold m_law_value
  rw [if_neg (show ¬ Sm.word (.two w a b) = _ from h1.1), if_neg (show ¬ Sm.word (.two w a b) ∈ ([("own" : Str), "tie"] : List Str) from h1.2.1), if_neg (show ¬ Sm.word (.two w a b) ∈ ([("so" : Str), "more"] : List Str) from h1.2.2)]
  rw [opt_b (show Sm.two? (.two w a b) = some (a, b) from rfl)]
  rw [bind_ok (comp2 (va := va) (vb := vb) (by show (m_law_value d a kn >>= _) = _; rw [bind_ok ha]) (by show (m_law_value d b kn >>= _) = _; rw [bind_ok hb]))]
  rfl
end
theorem words_at {ws : List Str} (h : ∀ w ∈ ws, OpW w) {k : Int} (k0 : 0 ≤ k) (k1 : k < ws.length) : ∃ w, L2.atI ws k = some w ∧ OpW w := by
  obtain ⟨w, e1, e2⟩ := atI_some k0 k1
  exact ⟨w, e1, h w (List.mem_of_getElem? e2)⟩

/-! ### drawn sums and rules -/
def LeafIn (ws : List Str) (many : Int) (x : Sm) : Prop := (∃ n : Int, x = .num "number" n ∧ n.natAbs < 100) ∨ (x = .nam "own" ∧ ("own" : Str) ∈ ws) ∨ (x = .nam "tie" ∧ ("tie" : Str) ∈ ws) ∨ (∃ k : Int, x = .num "so" k ∧ (0 ≤ k ∧ k < many) ∧ ("so" : Str) ∈ ws) ∨ ∃ k : Int, x = .num "more" k ∧ (0 ≤ k ∧ k < many) ∧ ("more" : Str) ∈ ws
/-- the bits of a leaf's worth -/
def lb (S M : Nat) (x : Sm) : Nat := if x.word = ("so" : Str) then S else if x.word = ("more" : Str) then M else 100
def Op4 (w : Str) : Prop := w = "plus" ∨ w = "less" ∨ w = "most" ∨ w = "least"
def Good2 (ws : List Str) (many : Int) : Nat → Sm → Prop
  | 0, _ => False
  | d + 1, x => LeafIn ws many x ∨ (∃ a b, x = .two "times" a b ∧ LeafIn ws many a ∧ LeafIn ws many b ∧ ∀ S M, lb S M a + lb S M b ≤ S + M + 200) ∨ ∃ w a b, x = .two w a b ∧ Op4 w ∧ Good2 ws many d a ∧ Good2 ws many d b
def four : List Str := ["own", "tie", "so", "more"]
theorem LeafIn.sub {ws ws' : List Str} {many : Int} {x : Sm} (h : LeafIn ws many x) (s : ∀ w ∈ ws, w ∈ ws') : LeafIn ws' many x := by
  rcases h with h | ⟨e, h⟩ | ⟨e, h⟩ | ⟨k, e, hk, h⟩ | ⟨k, e, hk, h⟩
  · exact .inl h
  · exact .inr (.inl ⟨e, s _ h⟩)
  · exact .inr (.inr (.inl ⟨e, s _ h⟩))
  · exact .inr (.inr (.inr (.inl ⟨k, e, hk, s _ h⟩)))
  · exact .inr (.inr (.inr (.inr ⟨k, e, hk, s _ h⟩)))
theorem leaf_ok2 (ws : List Str) (hw : ∀ w ∈ ws, w ∈ four) (hl : ws.length ≤ 4) (many : Int) (m1 : 1 ≤ many) (m2 : many ≤ 3) (d : Int) : ∃ x d', m_law_leaf [d] ws many = .ok (x, [d']) ∧ LeafIn ws many x := by
  obtain ⟨w, d1, e1, w0, w5⟩ := take_small d (1 + (ws.length : Int)) (by omega) (by omega)
  unfold m_law_leaf
  rw [bind_ok e1]
  show ∃ x d', (if w = 0 then _ else _) = _ ∧ _
  by_cases h0 : w = 0
  · rw [if_pos h0]
    obtain ⟨n, d2, e2, n0, n1⟩ := take_small d1 19 (by decide) (by decide)
    show ∃ x d', (m_law_take [d1] 19 >>= _) = _ ∧ _
    rw [bind_ok e2]
    exact ⟨_, d2, rfl, .inl ⟨n - 9, rfl, by omega⟩⟩
  · rw [if_neg h0]
    obtain ⟨z, a1, a2⟩ := atI_some (xs := ws) (j := w - 1) (by omega) (by omega)
    have hz := List.mem_of_getElem? a2
    rw [opt_b a1]
    by_cases hs : z ∈ ([("so" : Str), "more"] : List Str)
    · show ∃ x d', (if z ∈ ([("so" : Str), "more"] : List Str) then _ else _) = _ ∧ _
      rw [if_pos hs, opt_b a1]
      obtain ⟨k, d2, e2, k0, k1⟩ := take_small d1 many (by omega) (by omega)
      show ∃ x d', (m_law_take [d1] many >>= _) = _ ∧ _
      rw [bind_ok e2]
      rcases List.mem_cons.mp hs with e | e
      · subst e
        exact ⟨_, d2, rfl, .inr (.inr (.inr (.inl ⟨k, rfl, ⟨k0, k1⟩, hz⟩)))⟩
      · have e := List.mem_singleton.mp e
        subst e
        exact ⟨_, d2, rfl, .inr (.inr (.inr (.inr ⟨k, rfl, ⟨k0, k1⟩, hz⟩)))⟩
    · show ∃ x d', (if z ∈ ([("so" : Str), "more"] : List Str) then _ else _) = _ ∧ _
      rw [if_neg hs, opt_b a1]
      refine ⟨_, d1, rfl, ?_⟩
      have h4 := hw z hz
      unfold four at h4
      simp only [List.mem_cons, List.not_mem_nil, or_false] at h4 hs
      rcases h4 with e | e | e | e
      · subst e; exact .inr (.inl ⟨rfl, hz⟩)
      · subst e; exact .inr (.inr (.inl ⟨rfl, hz⟩))
      · exact (hs (.inl e)).elim
      · exact (hs (.inr e)).elim
theorem lb_le {ws : List Str} {many : Int} {x : Sm} (h : LeafIn ws many x) : (x.word = "so" ∧ ("so" : Str) ∈ ws) ∨ (x.word = "more" ∧ ("more" : Str) ∈ ws) ∨ (¬ x.word = ("so" : Str) ∧ ¬ x.word = ("more" : Str)) := by
  rcases h with ⟨n, e, _⟩ | ⟨e, h⟩ | ⟨e, h⟩ | ⟨k, e, hk, h⟩ | ⟨k, e, hk, h⟩
  · subst e; exact .inr (.inr ⟨fun z => s_ns z.symm, fun z => s_nm z.symm⟩)
  · subst e; exact .inr (.inr ⟨fun z => s_so z.symm, fun z => s_mo z.symm⟩)
  · subst e; exact .inr (.inr ⟨fun z => s_st z.symm, fun z => s_mt z.symm⟩)
  · subst e; exact .inl ⟨rfl, h⟩
  · subst e; exact .inr (.inl ⟨rfl, h⟩)
theorem pair_lb {ls rs : List Str} {many many' : Int} {a b : Sm} (ha : LeafIn ls many a) (hb : LeafIn rs many' b) (h1 : ¬ (("so" : Str) ∈ ls ∧ ("so" : Str) ∈ rs)) (h2 : ¬ (("more" : Str) ∈ ls ∧ ("more" : Str) ∈ rs)) (S M : Nat) : lb S M a + lb S M b ≤ S + M + 200 := by
  unfold lb
  rcases lb_le ha with ⟨e, m⟩ | ⟨e, m⟩ | ⟨e, e'⟩ <;> rcases lb_le hb with ⟨f, n⟩ | ⟨f, n⟩ | ⟨f, f'⟩
  · exact (h1 ⟨m, n⟩).elim
  · rw [if_pos e, f, if_neg s_ms, if_pos rfl]; omega
  · rw [if_pos e, if_neg f, if_neg f']; omega
  · rw [e, if_neg s_ms, if_pos rfl, if_pos f]; omega
  · exact (h2 ⟨m, n⟩).elim
  · rw [e, if_neg s_ms, if_pos rfl, if_neg f, if_neg f']; omega
  · rw [if_neg e, if_neg e', if_pos f]; omega
  · rw [if_neg e, if_neg e', f, if_neg s_ms, if_pos rfl]; omega
  · rw [if_neg e, if_neg e', if_neg f, if_neg f']; omega
theorem ops4 : ∀ w ∈ [("plus" : Str), "less", "most", "least", "plus"], Op4 w := by
  intro w hw
  unfold Op4
  simp only [List.mem_cons, List.not_mem_nil, or_false] at hw
  rcases hw with e | e | e | e | e <;> simp [e]
structure WsOk (ws : List Str) : Prop where
  four : ∀ w ∈ ws, w ∈ four
  len : ws.length ≤ 4
  cut : ∃ l r, cutL ws (some (-(1 : Int))) none = [r] ∧ cutL ws none (some (1 : Int)) = [l] ∧ l ∈ ws ∧ r ∈ ws ∧ ¬ (l = "so" ∧ r = "so") ∧ ¬ (l = "more" ∧ r = "more")
theorem sum_ok (ws : List Str) (W : WsOk ws) (many : Int) (m1 : 1 ≤ many) (m2 : many ≤ 3) (times : Bool) : ∀ (p n : Nat) (d : Int), p < n → ∃ x d', m_law_sum n [d] ws many (p : Int) times = .ok (x, [d']) ∧ Good2 ws many (p + 1) x
  | _, 0, _, h => absurd h (Nat.not_lt_zero _)
  | 0, n + 1, d, _ => by
    obtain ⟨w, d1, e1, w0, w9⟩ := take_small d 7 (by decide) (by decide)
    obtain ⟨x, d2, e2, hx⟩ := leaf_ok2 ws W.four W.len many m1 m2 d1
    unfold m_law_sum
    rw [bind_ok e1, if_pos (show ((0 : Nat) : Int) = 0 from rfl)]
    show ∃ x d', (m_law_leaf [d1] ws many >>= _) = _ ∧ _
    rw [bind_ok e2]
    exact ⟨x, d2, rfl, .inl hx⟩
  | p + 1, n + 1, d, h => by
    obtain ⟨w, d1, e1, w0, w9⟩ := take_small d 7 (by decide) (by decide)
    unfold m_law_sum
    rw [bind_ok e1, if_neg (by omega)]
    show ∃ x d', (if w < 2 then _ else _) = _ ∧ _
    by_cases hw : w < 2
    · rw [if_pos hw]
      obtain ⟨x, d2, e2, hx⟩ := leaf_ok2 ws W.four W.len many m1 m2 d1
      show ∃ x d', (m_law_leaf [d1] ws many >>= _) = _ ∧ _
      rw [bind_ok e2]
      exact ⟨x, d2, rfl, .inl hx⟩
    · rw [if_neg hw]
      obtain ⟨a, d2, e2, ha⟩ := sum_ok ws W many m1 m2 times p n d1 (by omega)
      obtain ⟨o, e3, e3'⟩ := atI_some (xs := [("plus" : Str), "less", "most", "least", "plus"]) (j := w - 2) (by omega) (by show w - 2 < ((5 : Nat) : Int); omega)
      have ho := ops4 o (List.mem_of_getElem? e3')
      obtain ⟨b, d3, e4, hb⟩ := sum_ok ws W many m1 m2 times p n d2 (by omega)
      have plain : ∃ x d', (m_law_sum n [d1] ws many (((p + 1 : Nat) : Int) - 1) times >>= fun r184 => opt (atI ([("plus" : Str), ("less" : Str), ("most" : Str), ("least" : Str), ("plus" : Str)]) (w - (2 : Int))) >>= fun y208 => m_law_sum n r184.2 ws many (((p + 1 : Nat) : Int) - 1) times >>= fun r213 => (.ok ((Sm.two (T3.mk y208 r184.1 r213.1).a (T3.mk y208 r184.1 r213.1).b (T3.mk y208 r184.1 r213.1).c), r213.2) : M _)) = .ok (x, [d']) ∧ Good2 ws many (p + 1 + 1) x := by
        rw [show (((p + 1 : Nat) : Int) - 1) = (p : Int) by omega]
        rw [bind_ok e2, opt_b e3]
        show ∃ x d', (m_law_sum n [d2] ws many (p : Int) times >>= _) = _ ∧ _
        rw [bind_ok e4]
        exact ⟨_, d3, rfl, .inr (.inr ⟨o, a, b, rfl, ho, ha, hb⟩)⟩
      show ∃ x d', (if w = 6 then _ else _) = _ ∧ _
      by_cases h6 : w = 6
      · rw [if_pos h6]
        cases times with
        | false =>
          rw [if_neg Bool.false_ne_true]
          exact plain
        | true =>
          rw [if_pos rfl]
          obtain ⟨l, r, c1, c2, hl, hr, n1, n2⟩ := W.cut
          have sub1 : ∀ (y : Str), y ∈ ws → ∀ z ∈ [y], z ∈ ws := fun y hy z hz => by rw [List.mem_singleton.mp hz]; exact hy
          obtain ⟨x1, f1, g1, q1⟩ := leaf_ok2 [r] (fun z hz => W.four z (sub1 r hr z hz)) (by simp) many m1 m2 d1
          obtain ⟨x2, f2, g2, q2⟩ := leaf_ok2 [] (fun _ h => nomatch h) (by simp) 1 (by omega) (by omega) f1
          obtain ⟨x3, f3, g3, q3⟩ := leaf_ok2 [l] (fun z hz => W.four z (sub1 l hl z hz)) (by simp) many m1 m2 f2
          obtain ⟨j, f4, g4, j0, j2⟩ := take_small f3 2 (by decide) (by decide)
          rw [c1, c2]
          show ∃ x d', (m_law_leaf [d1] [r] many >>= _) = _ ∧ _
          rw [bind_ok g1]
          show ∃ x d', (m_law_leaf [f1] [] 1 >>= _) = _ ∧ _
          rw [bind_ok g2]
          show ∃ x d', (m_law_leaf [f2] [l] many >>= _) = _ ∧ _
          rw [bind_ok g3]
          show ∃ x d', (m_law_take [f3] 2 >>= _) = _ ∧ _
          rw [bind_ok g4]
          have q2' : LeafIn [] many x2 := by
            rcases q2 with z | ⟨_, z⟩ | ⟨_, z⟩ | ⟨_, _, _, z⟩ | ⟨_, _, _, z⟩
            · exact .inl z
            all_goals cases z
          have hj : j = 0 ∨ j = 1 := by omega
          rcases hj with e | e
          · subst e
            refine ⟨_, f4, rfl, .inr (.inl ⟨x2, x1, rfl, q2'.sub (fun _ h => nomatch h), q1.sub (sub1 r hr), pair_lb q2' q1 (fun z => absurd z.1 List.not_mem_nil) (fun z => absurd z.1 List.not_mem_nil)⟩)⟩
          · subst e
            refine ⟨_, f4, rfl, .inr (.inl ⟨x3, x1, rfl, q3.sub (sub1 l hl), q1.sub (sub1 r hr), pair_lb q3 q1 (fun z => n1 ⟨(List.mem_singleton.mp z.1).symm, (List.mem_singleton.mp z.2).symm⟩) (fun z => n2 ⟨(List.mem_singleton.mp z.1).symm, (List.mem_singleton.mp z.2).symm⟩)⟩)⟩
      · rw [if_neg h6]
        exact plain

abbrev Rule := T4 (List Sm) (List Sm) (List Sm) Sm
def wsB : List Str := ["own"]
def wsO : List Str := ["more", "own", "tie"]
def wsJ : List Str := ["so", "own", "more"]
def wsT : List Str := ["so", "own"]
theorem okB : WsOk wsB := ⟨by decide +kernel, by decide +kernel, "own", "own", rfl, rfl, by decide +kernel, by decide +kernel, by decide +kernel, by decide +kernel⟩
theorem okO : WsOk wsO := ⟨by decide +kernel, by decide +kernel, "more", "tie", rfl, rfl, by decide +kernel, by decide +kernel, by decide +kernel, by decide +kernel⟩
theorem okJ : WsOk wsJ := ⟨by decide +kernel, by decide +kernel, "so", "more", rfl, rfl, by decide +kernel, by decide +kernel, by decide +kernel, by decide +kernel⟩
theorem okT : WsOk wsT := ⟨by decide +kernel, by decide +kernel, "so", "own", rfl, rfl, by decide +kernel, by decide +kernel, by decide +kernel, by decide +kernel⟩
structure RuleOk (r : Rule) (many : Int) : Prop where
  m1 : 1 ≤ many
  m2 : many ≤ 3
  la : (r.a.length : Int) = many
  lb : (r.b.length : Int) = many
  lc : (r.c.length : Int) = many
  ga : ∀ x ∈ r.a, Good2 wsB many 3 x
  gb : ∀ x ∈ r.b, Good2 wsO many 3 x
  gc : ∀ x ∈ r.c, Good2 wsJ many 3 x
  gd : Good2 wsT many 3 r.d
theorem sums_ok (ws : List Str) (W : WsOk ws) (many : Int) (m1 : 1 ≤ many) (m2 : many ≤ 3) (times : Bool) (d : Int) :
    ∃ xs d', compS (fun (y74 : Int) (st92 : (List Int)) =>
      m_law_sum 5 st92 ws many (2 : Int) times >>= fun r98 =>
      .ok (some r98.1, r98.2)) (rangeL 0 many) [d] = .ok (xs, [d']) ∧ (xs.length : Int) = many ∧ ∀ x ∈ xs, Good2 ws many 3 x := by
  obtain ⟨acc, st, e, ⟨d', hd⟩, h3, h4⟩ := compS_run (f := fun (y74 : Int) (st92 : (List Int)) =>
      m_law_sum 5 st92 ws many (2 : Int) times >>= fun r98 =>
      .ok (some r98.1, r98.2)) (all := rangeL 0 many) (by rw [rangeL_length]; omega)
    (fun pre acc st => (∃ d', st = [d']) ∧ acc.length = pre.length ∧ ∀ x ∈ acc, Good2 ws many 3 x) (x := [d]) ⟨⟨d, rfl⟩, rfl, fun _ h => nomatch h⟩ fun pre y post acc st _ ⟨⟨d', hd⟩, h3, h4⟩ => by
      subst hd
      obtain ⟨x, d2, e, hx⟩ := sum_ok ws W many m1 m2 times 2 5 d' (by decide)
      refine ⟨some x, [d2], by rw [bind_ok (show m_law_sum 5 [d'] ws many (2 : Int) times = _ from e)], ⟨d2, rfl⟩, by rw [List.length_append, List.length_append, h3, List.length_singleton, List.length_singleton], fun z hz => ?_⟩
      rcases List.mem_append.mp hz with hz | hz
      · exact h4 z hz
      · rw [List.mem_singleton.mp hz]; exact hx
  subst hd
  rw [rangeL_length] at h3
  exact ⟨acc, d', e, by omega, h4⟩
theorem loop3 {i s : Type} {f : i → s → M s} {a b c : i} {x x1 x2 x3 : s} (h1 : f a x = .ok x1) (h2 : f b x1 = .ok x2) (h3 : f c x2 = .ok x3) : loopN f [a, b, c] x = .ok x3 := by
  show (f a x >>= _) = _
  rw [bind_ok h1]
  show (f b x1 >>= _) = _
  rw [bind_ok h2]
  show (f c x2 >>= _) = _
  rw [bind_ok h3]
  rfl
theorem rule_ok (d : Int) (times : Bool) : ∃ r d' many, m_law_rule [d] times = .ok (r, [d']) ∧ RuleOk r many := by
  obtain ⟨k, d1, e1, k0, k3⟩ := take_small d 3 (by decide) (by decide)
  have m1 : 1 ≤ 1 + k := by omega
  have m2 : 1 + k ≤ 3 := by omega
  obtain ⟨xa, d2, ea, la, ga⟩ := sums_ok wsB okB (1 + k) m1 m2 times d1
  obtain ⟨xb, d3, eb, lb, gb⟩ := sums_ok wsO okO (1 + k) m1 m2 times d2
  obtain ⟨xc, d4, ec, lc, gc⟩ := sums_ok wsJ okJ (1 + k) m1 m2 times d3
  obtain ⟨xd, d5, ed, gd⟩ := sum_ok wsT okT (1 + k) m1 m2 times 2 5 d4 (by decide)
  refine ⟨⟨xa, xb, xc, xd⟩, d5, 1 + k, ?_, ⟨m1, m2, la, lb, lc, ga, gb, gc, gd⟩⟩
  unfold m_law_rule
  rw [bind_ok e1]
  have ok : okR (1 + k) := ⟨by omega, by omega⟩
  rw [bind_ok (loop3 (x1 := ([xa], [d2])) (x2 := ([xa, xb], [d3])) (x3 := ([xa, xb, xc], [d4])) (by
      show (chk (okR (1 + k)) >>= _) = _
      rw [chk_b ok]
      exact (bind_ok ea _).trans rfl) (by
      show (chk (okR (1 + k)) >>= _) = _
      rw [chk_b ok]
      exact (bind_ok eb _).trans rfl) (by
      show (chk (okR (1 + k)) >>= _) = _
      rw [chk_b ok]
      exact (bind_ok ec _).trans rfl))]
  rw [opt_b (show L2.atI [xa, xb, xc] (0 : Int) = some xa from rfl), opt_b (show L2.atI [xa, xb, xc] (1 : Int) = some xb from rfl), opt_b (show L2.atI [xa, xb, xc] (2 : Int) = some xc from rfl)]
  show (m_law_sum 5 [d4] wsT (1 + k) (2 : Int) times >>= _) = _
  rw [bind_ok (show m_law_sum 5 [d4] wsT (1 + k) (2 : Int) times = _ from ed)]
theorem may_leaf {ws ws' : List Str} {many : Int} (s : ∀ w ∈ ws, w ∈ ws') (n : Nat) {x : Sm} (h : LeafIn ws many x) : m_may_stand (n + 1) x ⟨ws'⟩ many = .ok true := by
  unfold m_may_stand
  rcases h with ⟨k, e, _⟩ | ⟨e, h⟩ | ⟨e, h⟩ | ⟨k, e, hk, h⟩ | ⟨k, e, hk, h⟩
  · subst e
    rw [if_pos (show Sm.word (.num "number" k) = ("number" : Str) from rfl)]
  · subst e
    rw [if_neg (show ¬ Sm.word (.nam "own") = ("number" : Str) from s_no), if_pos (show Sm.word (.nam "own") ∈ ([("own" : Str), "tie"] : List Str) from List.mem_cons_self)]
    exact congrArg Except.ok (decide_eq_true (s _ h))
  · subst e
    rw [if_neg (show ¬ Sm.word (.nam "tie") = ("number" : Str) from s_nt), if_pos (show Sm.word (.nam "tie") ∈ ([("own" : Str), "tie"] : List Str) from List.mem_cons_of_mem _ List.mem_cons_self)]
    exact congrArg Except.ok (decide_eq_true (s _ h))
  · subst e
    rw [if_neg (show ¬ Sm.word (.num "so" k) = ("number" : Str) from s_ns), if_neg (show ¬ Sm.word (.num "so" k) ∈ ([("own" : Str), "tie"] : List Str) from fun z => by
      rcases List.mem_cons.mp z with z | z
      · exact s_so z
      · exact s_st (List.mem_singleton.mp z)), if_pos (show Sm.word (.num "so" k) ∈ ([("so" : Str), "more"] : List Str) from List.mem_cons_self), if_pos (show Sm.word (.num "so" k) ∈ ws' from s _ h)]
    rw [opt_b (show Sm.int? (.num "so" k) = some k from rfl), if_pos hk.1]
    exact congrArg Except.ok (decide_eq_true hk.2)
  · subst e
    rw [if_neg (show ¬ Sm.word (.num "more" k) = ("number" : Str) from s_nm), if_neg (show ¬ Sm.word (.num "more" k) ∈ ([("own" : Str), "tie"] : List Str) from fun z => by
      rcases List.mem_cons.mp z with z | z
      · exact s_mo z
      · exact s_mt (List.mem_singleton.mp z)), if_pos (show Sm.word (.num "more" k) ∈ ([("so" : Str), "more"] : List Str) from List.mem_cons_of_mem _ List.mem_cons_self), if_pos (show Sm.word (.num "more" k) ∈ ws' from s _ h)]
    rw [opt_b (show Sm.int? (.num "more" k) = some k from rfl), if_pos hk.1]
    exact congrArg Except.ok (decide_eq_true hk.2)
theorem may_two {ws' : List Str} {many : Int} {n : Nat} {w : Str} {a b : Sm} (hw : OpW w) (ha : m_may_stand n a ⟨ws'⟩ many = .ok true) (hb : m_may_stand n b ⟨ws'⟩ many = .ok true) : m_may_stand (n + 1) (.two w a b) ⟨ws'⟩ many = .ok true := by
  have h1 : ¬ w = ("number" : Str) ∧ ¬ w ∈ ([("own" : Str), "tie"] : List Str) ∧ ¬ w ∈ ([("so" : Str), "more"] : List Str) := by
    rcases hw with e | e | e | e | e <;> subst e <;> decide +kernel
  unfold m_may_stand
  rw [if_neg (show ¬ Sm.word (.two w a b) = _ from h1.1), if_neg (show ¬ Sm.word (.two w a b) ∈ ([("own" : Str), "tie"] : List Str) from h1.2.1), if_neg (show ¬ Sm.word (.two w a b) ∈ ([("so" : Str), "more"] : List Str) from h1.2.2)]
  rw [opt_b (show Sm.two? (.two w a b) = some (a, b) from rfl)]
  show (m_may_stand n a ⟨ws'⟩ many >>= _) = _
  rw [bind_ok ha, if_pos rfl, opt_b (show Sm.two? (.two w a b) = some (a, b) from rfl)]
  show (m_may_stand n b ⟨ws'⟩ many >>= _) = _
  rw [bind_ok hb]
theorem op4w {w : Str} (h : Op4 w) : OpW w := by
  rcases h with e | e | e | e
  · exact .inl e
  · exact .inr (.inl e)
  · exact .inr (.inr (.inr (.inl e)))
  · exact .inr (.inr (.inr (.inr e)))
theorem may_ok {ws ws' : List Str} {many : Int} (s : ∀ w ∈ ws, w ∈ ws') : ∀ (n d : Nat) (x : Sm), d + 1 ≤ n → Good2 ws many d x → m_may_stand n x ⟨ws'⟩ many = .ok true
  | 0, _, _, h, _ => absurd h (by omega)
  | _, 0, _, _, h => h.elim
  | n + 1, d + 1, x, hn, h => by
    rcases h with h | ⟨a, b, e, ha, hb, _⟩ | ⟨w, a, b, e, hw, ha, hb⟩
    · exact may_leaf s n h
    · subst e
      obtain ⟨n', rfl⟩ : ∃ n', n = n' + 1 := ⟨n - 1, by omega⟩
      exact may_two (.inr (.inr (.inl rfl))) (may_leaf s n' ha) (may_leaf s n' hb)
    · subst e
      exact may_two (op4w hw) (may_ok s n d a (by omega) ha) (may_ok s n d b (by omega) hb)
theorem is_rule_ok {r : Rule} {many : Int} (R : RuleOk r many) : m_is_rule r = .ok true := by
  have h1 := R.la
  have h2 := R.lb
  have h3 := R.lc
  have m1 := R.m1
  have m2 := R.m2
  unfold m_is_rule
  rw [if_pos (by omega), if_pos (by omega), if_neg (by omega), if_neg (by omega), h1]
  have one : ∀ (xs : List Sm) (ws ws' : List Str), xs.length < 16777216 → (∀ x ∈ xs, Good2 ws many 3 x) → (∀ w ∈ ws, w ∈ ws') →
      (compS (fun (y123 : Sm) (st140 : Unit) =>
        m_may_stand 60 y123 ⟨ws'⟩ many >>= fun r146 =>
        if r146 = true then (
        .ok (none, ()))
        else (
        .ok (some y123, ()))) xs () >>= fun q164 =>
        if q164.1 ≠ ([] : List Sm) then (
        .ok (.rt false))
        else (
        (.ok (.nx ()) : M (Fl Unit Bool)))) = .ok (.nx ()) := fun xs ws ws' hl hg hs => by
    rw [bind_ok (compS_pure (fun _ => none) hl fun y hy => by rw [bind_ok (may_ok hs 60 3 y (by decide) (hg y hy)), if_pos rfl])]
    rw [if_neg (by
      intro z
      refine z ?_
      show List.filterMap _ _ = []
      rw [List.filterMap_eq_nil_iff]
      exact fun _ _ => rfl)]
  rw [bind_ok (loopM_all fun y hy => by
    simp only [List.mem_cons, List.not_mem_nil, or_false] at hy
    rcases hy with e | e | e
    · subst e; exact one r.a wsB _ (by omega) R.ga (by decide +kernel)
    · subst e; exact one r.b wsO _ (by omega) R.gb (by decide +kernel)
    · subst e; exact one r.c wsJ _ (by omega) R.gc (by decide +kernel))]
  show (m_may_stand 60 r.d ⟨[("own" : Str), "so"]⟩ many >>= _) = _
  rw [bind_ok (may_ok (ws := wsT) (by decide +kernel) 60 3 r.d (by decide) R.gd)]

/-! ### sums told of rows -/
structure Ev (ws : List Str) (many own tie : Int) (so more : List Int) (kn : List (Str × IL)) (S M : Nat) : Prop where
  ho : own.natAbs < 2 ^ 100
  ht : tie.natAbs < 2 ^ 100
  hs : ("so" : Str) ∈ ws → (so.length : Int) = many ∧ ∀ y ∈ so, y.natAbs < 2 ^ S
  hm : ("more" : Str) ∈ ws → (more.length : Int) = many ∧ ∀ y ∈ more, y.natAbs < 2 ^ M
  ko : ("own" : Str) ∈ ws → dGet kn ("own" : Str) = some (.i own)
  kt : ("tie" : Str) ∈ ws → dGet kn ("tie" : Str) = some (.i tie)
  ks : ("so" : Str) ∈ ws → dGet kn ("so" : Str) = some (.l so)
  km : ("more" : Str) ∈ ws → dGet kn ("more" : Str) = some (.l more)
  S1 : 1 ≤ S
  M1 : 1 ≤ M
  SM : S + M ≤ 900000
section
variable {ws : List Str} {many own tie : Int} {so more : List Int} {kn : List (Str × IL)} {S M : Nat}
theorem leaf_eval2 (E : Ev ws many own tie so more kn S M) (n : Nat) {x : Sm} (h : LeafIn ws many x) : ∃ v, m_sum_at (n + 1) x own tie so more = .ok v ∧ m_law_value (n + 1) x kn = .ok v ∧ v.natAbs < 2 ^ lb S M x := by
  rcases h with ⟨k, e, hk⟩ | ⟨e, h⟩ | ⟨e, h⟩ | ⟨k, e, hk, h⟩ | ⟨k, e, hk, h⟩
  · subst e
    refine ⟨k, ?_, ?_, ?_⟩
    · unfold m_sum_at
      rw [if_pos (show Sm.word (.num "number" k) = ("number" : Str) from rfl)]
      rfl
    · unfold m_law_value
      rw [if_pos (show Sm.word (.num "number" k) = ("number" : Str) from rfl)]
      rfl
    · unfold lb
      rw [if_neg (show ¬ Sm.word (.num "number" k) = ("so" : Str) from fun z => s_ns z.symm), if_neg (show ¬ Sm.word (.num "number" k) = ("more" : Str) from fun z => s_nm z.symm)]
      exact Nat.lt_of_lt_of_le hk (by decide)
  · subst e
    refine ⟨own, ?_, ?_, ?_⟩
    · unfold m_sum_at
      rw [if_neg (show ¬ Sm.word (.nam "own") = ("number" : Str) from s_no), if_pos (show Sm.word (.nam "own") = ("own" : Str) from rfl)]
    · unfold m_law_value
      rw [if_neg (show ¬ Sm.word (.nam "own") = ("number" : Str) from s_no), if_pos (show Sm.word (.nam "own") ∈ ([("own" : Str), "tie"] : List Str) from List.mem_cons_self)]
      rw [opt_b (show dGet kn (Sm.word (.nam "own")) = some (.i own) from E.ko h)]
      rfl
    · unfold lb
      rw [if_neg (show ¬ Sm.word (.nam "own") = ("so" : Str) from fun z => s_so z.symm), if_neg (show ¬ Sm.word (.nam "own") = ("more" : Str) from fun z => s_mo z.symm)]
      exact E.ho
  · subst e
    refine ⟨tie, ?_, ?_, ?_⟩
    · unfold m_sum_at
      rw [if_neg (show ¬ Sm.word (.nam "tie") = ("number" : Str) from s_nt), if_neg (show ¬ Sm.word (.nam "tie") = ("own" : Str) from s_to), if_pos (show Sm.word (.nam "tie") = ("tie" : Str) from rfl)]
    · unfold m_law_value
      rw [if_neg (show ¬ Sm.word (.nam "tie") = ("number" : Str) from s_nt), if_pos (show Sm.word (.nam "tie") ∈ ([("own" : Str), "tie"] : List Str) from List.mem_cons_of_mem _ List.mem_cons_self)]
      rw [opt_b (show dGet kn (Sm.word (.nam "tie")) = some (.i tie) from E.kt h)]
      rfl
    · unfold lb
      rw [if_neg (show ¬ Sm.word (.nam "tie") = ("so" : Str) from fun z => s_st z.symm), if_neg (show ¬ Sm.word (.nam "tie") = ("more" : Str) from fun z => s_mt z.symm)]
      exact E.ht
  · subst e
    obtain ⟨h1, h2⟩ := E.hs h
    obtain ⟨v, e1, e2⟩ := atI_some (xs := so) (j := k) hk.1 (by omega)
    refine ⟨v, ?_, ?_, ?_⟩
    · unfold m_sum_at
      rw [if_neg (show ¬ Sm.word (.num "so" k) = ("number" : Str) from s_ns), if_neg (show ¬ Sm.word (.num "so" k) = ("own" : Str) from s_so), if_neg (show ¬ Sm.word (.num "so" k) = ("tie" : Str) from s_st), if_pos (show Sm.word (.num "so" k) = ("so" : Str) from rfl)]
      show (opt (atI so k) >>= _) = _
      rw [opt_b e1]
    · unfold m_law_value
      rw [if_neg (show ¬ Sm.word (.num "so" k) = ("number" : Str) from s_ns), if_neg (show ¬ Sm.word (.num "so" k) ∈ ([("own" : Str), "tie"] : List Str) from fun z => by
        rcases List.mem_cons.mp z with z | z
        · exact s_so z
        · exact s_st (List.mem_singleton.mp z)), if_pos (show Sm.word (.num "so" k) ∈ ([("so" : Str), "more"] : List Str) from List.mem_cons_self)]
      rw [opt_b (show dGet kn (Sm.word (.num "so" k)) = some (.l so) from E.ks h)]
      show (opt (atI so k) >>= _) = _
      rw [opt_b e1]
    · unfold lb
      rw [if_pos (show Sm.word (.num "so" k) = ("so" : Str) from rfl)]
      exact h2 v (List.mem_of_getElem? e2)
  · subst e
    obtain ⟨h1, h2⟩ := E.hm h
    obtain ⟨v, e1, e2⟩ := atI_some (xs := more) (j := k) hk.1 (by omega)
    refine ⟨v, ?_, ?_, ?_⟩
    · unfold m_sum_at
      rw [if_neg (show ¬ Sm.word (.num "more" k) = ("number" : Str) from s_nm), if_neg (show ¬ Sm.word (.num "more" k) = ("own" : Str) from s_mo), if_neg (show ¬ Sm.word (.num "more" k) = ("tie" : Str) from s_mt), if_neg (show ¬ Sm.word (.num "more" k) = ("so" : Str) from s_ms), if_pos (show Sm.word (.num "more" k) = ("more" : Str) from rfl)]
      show (opt (atI more k) >>= _) = _
      rw [opt_b e1]
    · unfold m_law_value
      rw [if_neg (show ¬ Sm.word (.num "more" k) = ("number" : Str) from s_nm), if_neg (show ¬ Sm.word (.num "more" k) ∈ ([("own" : Str), "tie"] : List Str) from fun z => by
        rcases List.mem_cons.mp z with z | z
        · exact s_mo z
        · exact s_mt (List.mem_singleton.mp z)), if_pos (show Sm.word (.num "more" k) ∈ ([("so" : Str), "more"] : List Str) from List.mem_cons_of_mem _ List.mem_cons_self)]
      rw [opt_b (show dGet kn (Sm.word (.num "more" k)) = some (.l more) from E.km h)]
      show (opt (atI more k) >>= _) = _
      rw [opt_b e1]
    · unfold lb
      rw [if_neg (show ¬ Sm.word (.num "more" k) = ("so" : Str) from s_ms), if_pos (show Sm.word (.num "more" k) = ("more" : Str) from rfl)]
      exact h2 v (List.mem_of_getElem? e2)
theorem lb_pos (E : Ev ws many own tie so more kn S M) (x : Sm) : 0 < lb S M x := by
  have := E.S1
  have := E.M1
  unfold lb
  split
  · omega
  · split <;> omega
theorem lb_sum (x : Sm) : lb S M x ≤ S + M + 200 := by
  unfold lb
  split
  · omega
  · split <;> omega
theorem pow_lt {v a b : Nat} (h : v < 2 ^ a) (l : a ≤ b) : v < 2 ^ b := Nat.lt_of_lt_of_le h (Nat.pow_le_pow_right (by decide) l)
theorem eval2 (E : Ev ws many own tie so more kn S M) : ∀ (n d : Nat) (x : Sm), d + 1 ≤ n → d ≤ 10 → Good2 ws many d x → ∃ v, m_sum_at n x own tie so more = .ok v ∧ m_law_value n x kn = .ok v ∧ v.natAbs < 2 ^ (S + M + 200 + d)
  | 0, _, _, h, _, _ => absurd h (by omega)
  | _, 0, _, _, _, h => h.elim
  | n + 1, d + 1, x, hn, hd, h => by
    have hSM := E.SM
    rcases h with h | ⟨a, b, e, ha, hb, hlb⟩ | ⟨w, a, b, e, hw, ha, hb⟩
    · obtain ⟨v, e1, e2, e3⟩ := leaf_eval2 E n h
      have := lb_sum (S := S) (M := M) x
      exact ⟨v, e1, e2, pow_lt e3 (by omega)⟩
    · subst e
      obtain ⟨n', rfl⟩ : ∃ n', n = n' + 1 := ⟨n - 1, by omega⟩
      obtain ⟨va, a1, a2, a3⟩ := leaf_eval2 E n' ha
      obtain ⟨vb, b1, b2, b3⟩ := leaf_eval2 E n' hb
      have hl := hlb S M
      have cm : CMulW va vb := wide_mul a3 b3 (lb_pos E a) (lb_pos E b) (by omega)
      refine ⟨va * vb, ?_, ?_, ?_⟩
      · rw [op_sum (.inr (.inr (.inl rfl))) a1 b1, if_neg (by decide +kernel), if_neg (by decide +kernel), if_pos rfl, chk_b cm]
      · rw [op_val (.inr (.inr (.inl rfl))) a2 b2, if_pos rfl, chk_b cm]
      · rw [Int.natAbs_mul]
        have := Nat.mul_lt_mul'' a3 b3
        rw [← Nat.pow_add] at this
        exact pow_lt this (by omega)
    · subst e
      obtain ⟨va, a1, a2, a3⟩ := eval2 E n d a (by omega) (by omega) ha
      obtain ⟨vb, b1, b2, b3⟩ := eval2 E n d b (by omega) (by omega) hb
      have c1 : CMulW 1 vb := wide_mul (i := 1) (a := 1) (by decide) b3 (by decide) (by omega) (by omega)
      have c2 : CMulW (-1) vb := wide_mul (i := -1) (a := 1) (by decide) b3 (by decide) (by omega) (by omega)
      have hp : 2 ^ (S + M + 200 + (d + 1)) = 2 ^ (S + M + 200 + d) + 2 ^ (S + M + 200 + d) := by rw [← Nat.add_assoc, Nat.pow_succ]; omega
      rw [op_sum (op4w hw) a1 b1, op_val (op4w hw) a2 b2, hp]
      generalize 2 ^ (S + M + 200 + d) = X at a3 b3 ⊢
      rcases hw with e | e | e | e
      · subst e
        refine ⟨va + vb, by rw [if_pos rfl], ?_, by omega⟩
        rw [if_neg (by decide +kernel), if_pos (by decide +kernel)]
        rw [show (if (decide (("plus" : Str) = ("less" : Str))) = true then (1 : Int) else 0) = 0 from if_neg (by decide +kernel)]
        rw [opt_b (show L2.atI [(1 : Int), -1] 0 = some 1 from rfl), chk_b c1, Int.one_mul]
      · subst e
        refine ⟨va - vb, by rw [if_neg (by decide +kernel), if_pos rfl], ?_, by omega⟩
        rw [if_neg (by decide +kernel), if_pos (by decide +kernel)]
        rw [show (if (decide (("less" : Str) = ("less" : Str))) = true then (1 : Int) else 0) = 1 from if_pos (by decide +kernel)]
        rw [opt_b (show L2.atI [(1 : Int), -1] 1 = some (-1) from rfl), chk_b c2]
        exact congrArg Except.ok (by omega)
      · subst e
        refine ⟨if vb > va then vb else va, by rw [if_neg (by decide +kernel), if_neg (by decide +kernel), if_neg (by decide +kernel), if_pos rfl], ?_, by split <;> omega⟩
        rw [if_neg (by decide +kernel), if_neg (by decide +kernel)]
        rw [show (if (decide (("most" : Str) = ("most" : Str))) = true then (1 : Int) else 0) = 1 from if_pos (by decide +kernel), sort2]
        by_cases hle : va ≤ vb
        · rw [if_pos hle]
          show Except.ok vb = _
          split
          · rfl
          · exact congrArg Except.ok (by omega)
        · rw [if_neg hle, if_neg (by omega)]
          rfl
      · subst e
        refine ⟨if vb < va then vb else va, by rw [if_neg (by decide +kernel), if_neg (by decide +kernel), if_neg (by decide +kernel), if_neg (by decide +kernel)], ?_, by split <;> omega⟩
        rw [if_neg (by decide +kernel), if_neg (by decide +kernel)]
        rw [show (if (decide (("least" : Str) = ("most" : Str))) = true then (1 : Int) else 0) = 0 from if_neg (by decide +kernel), sort2]
        by_cases hle : va ≤ vb
        · rw [if_pos hle, if_neg (by omega)]
          rfl
        · rw [if_neg hle, if_pos (by omega)]
          rfl
theorem evalL (E : Ev ws many own tie so more kn S M) {xs : List Sm} (hg : ∀ x ∈ xs, Good2 ws many 3 x) (hl : xs.length < 16777216) :
    ∃ vs : List Int, (∀ f : Sm → Unit → PG.M (Option Int × Unit), (∀ y v, m_sum_at 12 y own tie so more = .ok v → f y () = .ok (some v, ())) → compS f xs () = .ok (vs, ())) ∧
      (∀ f : Sm → Unit → PG.M (Option Int × Unit), (∀ y v, m_law_value 12 y kn = .ok v → f y () = .ok (some v, ())) → compS f xs () = .ok (vs, ())) ∧ vs.length = xs.length ∧ ∀ v ∈ vs, v.natAbs < 2 ^ (S + M + 203) := by
  have hv : ∀ y, ∃ v : Int, y ∈ xs → m_sum_at 12 y own tie so more = .ok v ∧ m_law_value 12 y kn = .ok v ∧ v.natAbs < 2 ^ (S + M + 200 + 3) := fun y => by
    by_cases hy : y ∈ xs
    · obtain ⟨v, h⟩ := eval2 E 12 3 y (by decide) (by decide) (hg y hy)
      exact ⟨v, fun _ => h⟩
    · exact ⟨0, fun z => (hy z).elim⟩
  obtain ⟨val, hval⟩ := Classical.skolem.mp hv
  refine ⟨xs.map val, fun f hf => ?_, fun f hf => ?_, List.length_map _, fun v hv => ?_⟩
  · rw [compS_pure (fun y => some (val y)) hl fun y hy => hf y _ (hval y hy).1, List.filterMap_eq_map']
  · rw [compS_pure (fun y => some (val y)) hl fun y hy => hf y _ (hval y hy).2.1, List.filterMap_eq_map']
  · obtain ⟨y, hy, rfl⟩ := List.mem_map.mp hv
    exact (hval y hy).2.2
end

theorem dPut_new {κ β : Type} [DecidableEq κ] {xs : List (κ × β)} {k : κ} {y : β} (h : ∀ p ∈ xs, p.1 ≠ k) : dPut xs k y = xs ++ [(k, y)] := by
  unfold dPut
  rw [if_neg]
  intro z
  obtain ⟨p, hp, e⟩ := List.any_eq_true.mp z
  exact h p hp (of_decide_eq_true e)

theorem merge_newS {β : Type} : ∀ {xs ac : List (Str × β)}, ((ac ++ xs).map (·.1)).Nodup → xs.foldl (fun acc p => dPut acc p.1 p.2) ac = ac ++ xs
  | [], ac, _ => by simp
  | x :: xs, ac, h => by
    rw [List.foldl_cons]
    have hn : ∀ p ∈ ac, p.1 ≠ x.1 := fun p hp e => by
      rw [List.map_append, List.map_cons, List.nodup_append] at h
      exact h.2.2 p.1 (List.mem_map.mpr ⟨p, hp, rfl⟩) x.1 List.mem_cons_self e
    rw [dPut_new hn, merge_newS (by rw [List.append_assoc]; exact h), List.append_assoc]
    rfl

def lenOf (ts : List Tie) : List ((Int × Int) × Int) := ts.flatMap fun t => [((t.a, t.b), t.c), ((t.b, t.a), t.c)]
theorem lenOf_mem {ts : List Tie} {p : (Int × Int) × Int} : p ∈ lenOf ts ↔ ∃ t ∈ ts, p = ((t.a, t.b), t.c) ∨ p = ((t.b, t.a), t.c) := by
  unfold lenOf
  simp [List.mem_flatMap]
theorem lenOf_len : ∀ ts : List Tie, (lenOf ts).length = 2 * ts.length
  | [] => rfl
  | t :: ts => by
    show (lenOf ts).length + 1 + 1 = 2 * (ts.length + 1)
    rw [lenOf_len ts]
    omega
theorem grown_pairs {ps : List Int} {ts : List Tie} (g : Grown ps ts) : (ts.map fun x => (x.a, x.b)).Nodup := by
  induction g with
  | one p => exact List.nodup_nil
  | @more ps ts q p c g hq hp ih =>
    rw [List.map_append, List.nodup_append]
    refine ⟨ih, by simp, fun x hx y hy e => ?_⟩
    obtain ⟨t, ht, rfl⟩ := List.mem_map.mp hx
    rw [List.map_singleton, List.mem_singleton] at hy
    have hpq : p ≠ q := fun z => hp (z ▸ hq)
    obtain ⟨h1, h2, _⟩ := tieOf_lt (c := c) hpq
    obtain ⟨i1, i2, _⟩ := g.in t ht
    rw [hy] at e
    injection e with e1 e2
    rcases h2 with ⟨a, b⟩ | ⟨a, b⟩
    · rw [e1, a] at i1; exact hp i1
    · rw [e2, b] at i2; exact hp i2
theorem tree_pairs {t : Tr} (h : TreeOk t) : (t.2.map fun x => (x.a, x.b)).Nodup := by
  obtain ⟨o, ts, g, _, e⟩ := h.ex
  rw [e]
  exact ((sortT_perm ts).map _).nodup_iff.mpr (grown_pairs g)
theorem lengths_ok (t : Tr) (ht : TreeOk t) (hn : t.1.length ≤ 1000000) : m_lengths_of t = .ok (lenOf t.2) := by
  have hlen := ht.len
  have nd := tree_pairs ht
  obtain ⟨st, e1, e2⟩ := loopN_run (f := fun (y19 : (T3 Int Int Int)) (st30 : (List ((Int × Int) × Int))) =>
    putD st30 ((y19.a, y19.b).1, (y19.a, y19.b).2) y19.c >>= fun z64 =>
    putD z64 ((y19.b, y19.a).1, (y19.b, y19.a).2) y19.c >>= fun z82 =>
    (.ok z82 : M _)) (all := t.2) (x := []) (fun pre st => st = lenOf pre) rfl fun pre y post st ea es => by
      subst es
      have hm : ∀ x ∈ pre, x ∈ t.2 := fun x hx => by rw [ea]; exact List.mem_append_left _ hx
      have hy := ht.tie y (by rw [ea]; simp)
      have hlp : (lenOf pre).length = 2 * pre.length := lenOf_len pre
      have hpl : pre.length + 1 ≤ t.2.length := by
        rw [ea, List.length_append, List.length_cons]
        omega
      have n1 : ∀ x ∈ pre, ¬ (x.a = y.a ∧ x.b = y.b) := fun x hx ⟨z1, z2⟩ => by
        rw [ea, List.map_append, List.map_cons, List.nodup_append] at nd
        exact nd.2.2 (x.a, x.b) (List.mem_map.mpr ⟨x, hx, rfl⟩) (y.a, y.b) List.mem_cons_self (by rw [z1, z2])
      have k1 : ∀ p ∈ lenOf pre, p.1 ≠ (y.a, y.b) := fun p hp e => by
        obtain ⟨x, hx, h | h⟩ := lenOf_mem.mp hp
        · rw [h] at e; injection e with z1 z2; exact n1 x hx ⟨z1, z2⟩
        · rw [h] at e
          injection e with z1 z2
          have := ht.tie x (hm x hx)
          have z1 : x.b = y.a := z1
          have z2 : x.a = y.b := z2
          omega
      have k2 : ∀ p ∈ lenOf pre ++ [((y.a, y.b), y.c)], p.1 ≠ (y.b, y.a) := fun p hp e => by
        rcases List.mem_append.mp hp with hp | hp
        · obtain ⟨x, hx, h | h⟩ := lenOf_mem.mp hp
          · rw [h] at e
            injection e with z1 z2
            have := ht.tie x (hm x hx)
            have z1 : x.a = y.b := z1
            have z2 : x.b = y.a := z2
            omega
          · rw [h] at e; injection e with z1 z2; exact n1 x hx ⟨z2, z1⟩
        · rw [List.mem_singleton.mp hp] at e
          injection e with z1 z2
          have z1 : y.a = y.b := z1
          omega
      refine ⟨_, ?_, rfl⟩
      show (putD (lenOf pre) (y.a, y.b) y.c >>= fun z64 => putD z64 (y.b, y.a) y.c >>= fun z82 => _) = _
      rw [bind_ok (show putD (lenOf pre) (y.a, y.b) y.c = .ok (lenOf pre ++ [((y.a, y.b), y.c)]) by unfold putD; rw [if_pos (by omega), dPut_new k1])]
      rw [bind_ok (show putD (lenOf pre ++ [((y.a, y.b), y.c)]) (y.b, y.a) y.c = .ok ((lenOf pre ++ [((y.a, y.b), y.c)]) ++ [((y.b, y.a), y.c)]) by unfold putD; rw [if_pos (by rw [List.length_append, List.length_singleton]; omega), dPut_new k2])]
      unfold lenOf
      rw [List.flatMap_append, List.append_assoc]
      rfl
  unfold m_lengths_of
  rw [bind_ok e1, e2]
theorem keys_perm : ∀ ts : List Tie, ((lenOf ts).map (·.1)).Perm (ts.map (fun t => (t.a, t.b)) ++ ts.map (fun t => (t.b, t.a)))
  | [] => .nil
  | t :: ts => by
    show ((t.a, t.b) :: (t.b, t.a) :: (lenOf ts).map (·.1)).Perm ((t.a, t.b) :: (ts.map (fun t => (t.a, t.b)) ++ (t.b, t.a) :: ts.map (fun t => (t.b, t.a))))
    refine .cons _ (((keys_perm ts).cons _).trans List.perm_middle.symm)

/-! ### neighbours -/
def other (p : Int) (t : Tie) : Option Int := if t.a = p then some t.b else if t.b = p then some t.a else none
/-- the neighbours of a place, rising -/
def nearOf (ties : List Tie) (p : Int) : List Int := sortT (ties.filterMap (other p))
def nearAll (n : Nat) (ties : List Tie) : List (List Int) := (List.range n).map fun (i : Nat) => nearOf ties (i : Int)
theorem addAt_ok {fs : List (List Int)} {x y : Int} {l : List Int} (h0 : 0 ≤ x) (h : fs[x.toNat]? = some l) (hl : l.length < 16777216) : addAt fs x y = .ok (fs.set x.toNat (l ++ [y])) := by
  have h1 := (List.getElem?_eq_some_iff.mp h).1
  unfold addAt
  rw [ixN_nat h0 (by omega)]
  show (match fs[x.toNat]? with
    | some x_1 => appL x_1 y >>= fun y => .ok (fs.set x.toNat y)
    | none => bad) = _
  rw [h]
  show (appL l y >>= fun y => (.ok (fs.set x.toNat y) : M _)) = _
  rw [bind_ok (appL_ok hl)]
theorem tied_places_ok (n : Int) (ties : List Tie) (h0 : 0 ≤ n) (h1 : n ≤ 1000000) (hl : ties.length < 16777216) (hv : ∀ t ∈ ties, 0 ≤ t.a ∧ t.a < t.b ∧ t.b < n) : m_tied_places n ties = .ok (nearAll n.toNat ties) := by
  unfold m_tied_places
  rw [chk_b (show okR n from ⟨by omega, h1⟩)]
  obtain ⟨fs, e, h⟩ := loopN_run (f := fun (t : T3 Int Int Int) (fs : List (List Int)) => addAt fs t.a t.b >>= fun f1 => addAt f1 t.b t.a) (all := sortT ties) (x := List.replicate n.toNat [])
    (fun pre fs => fs = (List.range n.toNat).map fun (i : Nat) => pre.filterMap (other (i : Int))) (by
      refine List.ext_getElem? fun i => ?_
      rw [List.getElem?_replicate, List.getElem?_map]
      by_cases hi : i < n.toNat
      · rw [if_pos hi, List.getElem?_range hi]; rfl
      · rw [if_neg hi, List.getElem?_eq_none (by simpa using hi)]; rfl) fun pre t post fs ea hf => by
      subst hf
      have mt : t ∈ ties := sortT_mem.mp (by rw [ea]; simp)
      obtain ⟨a0, ab, bn⟩ := hv t mt
      have plen : pre.length < 16777216 := by
        have := congrArg List.length ea
        rw [sortT_len, List.length_append, List.length_cons] at this
        omega
      have g1 : ((List.range n.toNat).map fun (i : Nat) => pre.filterMap (other (i : Int)))[t.a.toNat]? = some (pre.filterMap (other t.a)) := by
        rw [List.getElem?_map, List.getElem?_range (by omega)]
        show some (pre.filterMap (other ((t.a.toNat : Nat) : Int))) = _
        rw [Int.toNat_of_nonneg a0]
      have l1 : (pre.filterMap (other t.a)).length < 16777216 := Nat.lt_of_le_of_lt (List.length_filterMap_le _ _) plen
      have g2 : (((List.range n.toNat).map fun (i : Nat) => pre.filterMap (other (i : Int))).set t.a.toNat (pre.filterMap (other t.a) ++ [t.b]))[t.b.toNat]? = some (pre.filterMap (other t.b)) := by
        rw [List.getElem?_set_ne (by omega), List.getElem?_map, List.getElem?_range (by omega)]
        show some (pre.filterMap (other ((t.b.toNat : Nat) : Int))) = _
        rw [Int.toNat_of_nonneg (by omega)]
      have l2 : (pre.filterMap (other t.b)).length < 16777216 := Nat.lt_of_le_of_lt (List.length_filterMap_le _ _) plen
      refine ⟨_, by rw [bind_ok (addAt_ok a0 g1 l1)]; exact addAt_ok (by omega) g2 l2, ?_⟩
      refine List.ext_getElem? fun i => ?_
      rw [List.getElem?_map]
      by_cases hi : i < n.toNat
      · rw [List.getElem?_range hi]
        show _ = some ((pre ++ [t]).filterMap (other (i : Int)))
        rw [List.filterMap_append]
        by_cases hb : t.b.toNat = i
        · subst hb
          rw [List.getElem?_set_self (by simpa using hi)]
          have e1 : other ((t.b.toNat : Nat) : Int) t = some t.a := by
            unfold other
            rw [if_neg (by omega), if_pos (by omega)]
          have e2 : ((t.b.toNat : Nat) : Int) = t.b := Int.toNat_of_nonneg (by omega)
          rw [List.filterMap_cons, e1, List.filterMap_nil, e2]
        · rw [List.getElem?_set_ne hb]
          by_cases ha : t.a.toNat = i
          · subst ha
            rw [List.getElem?_set_self (by simpa using hi)]
            have e1 : other ((t.a.toNat : Nat) : Int) t = some t.b := by
              unfold other
              rw [if_pos (by omega)]
            have e2 : ((t.a.toNat : Nat) : Int) = t.a := Int.toNat_of_nonneg a0
            rw [List.filterMap_cons, e1, List.filterMap_nil, e2]
          · rw [List.getElem?_set_ne ha, List.getElem?_map, List.getElem?_range hi]
            have e1 : other (i : Int) t = none := by
              unfold other
              rw [if_neg (by omega), if_neg (by omega)]
            rw [List.filterMap_cons, e1, List.filterMap_nil, List.append_nil]
            rfl
      · have z : (List.range n.toNat)[i]? = none := List.getElem?_eq_none (by simpa using hi)
        rw [z]
        show _ = none
        refine List.getElem?_eq_none ?_
        rw [List.length_set, List.length_set, List.length_map, List.length_range]
        omega
  rw [bind_ok e, h]
  refine congrArg Except.ok ?_
  unfold nearAll
  rw [List.map_map]
  refine List.map_congr_left fun i _ => ?_
  show sortT ((sortT ties).filterMap (other (i : Int))) = nearOf ties (i : Int)
  exact sortT_eq ((sortT_perm ties).filterMap _)
theorem nearAll_at {n : Nat} {ties : List Tie} {p : Int} (h0 : 0 ≤ p) (h : p < n) : L2.atI (nearAll n ties) p = some (nearOf ties p) := by
  refine atI_of h0 ?_
  unfold nearAll
  rw [List.getElem?_map, List.getElem?_range (by omega)]
  show some (nearOf ties ((p.toNat : Nat) : Int)) = _
  rw [Int.toNat_of_nonneg h0]

theorem whL_run {s r : Type} {b : s → M (Ws s r)} (P : s → Prop) (μ : s → Nat) (Qf : s → Prop) (step : ∀ x, P x → (∃ x', b x = .ok (.go x') ∧ P x' ∧ μ x' < μ x) ∨ (∃ x', b x = .ok (.stop x') ∧ Qf x')) : ∀ (n : Nat) (x : s), P x → μ x < n → ∃ x', whL b n x = .ok (.nx x') ∧ Qf x'
  | 0, x, _, h => absurd h (Nat.not_lt_zero _)
  | n + 1, x, p, h => by
    rcases step x p with ⟨x', e, p', l⟩ | ⟨x', e, q⟩
    · obtain ⟨x2, e2, q2⟩ := whL_run P μ Qf step n x' p' (by omega)
      refine ⟨x2, ?_, q2⟩
      show (b x >>= _) = _
      rw [bind_ok e]
      exact e2
    · refine ⟨x', ?_, q⟩
      show (b x >>= _) = _
      rw [bind_ok e]
theorem nd_sub_len {a : Type} [DecidableEq a] : ∀ {l m : List a}, l.Nodup → (∀ x ∈ l, x ∈ m) → l.length ≤ m.length
  | [], _, _, _ => Nat.zero_le _
  | x :: l, m, nd, h => by
    have hx := h x List.mem_cons_self
    obtain ⟨n1, n2⟩ := List.nodup_cons.mp nd
    have := nd_sub_len (l := l) (m := m.erase x) n2 fun y hy => (List.mem_erase_of_ne fun e => n1 (by rw [← e]; exact hy)).mpr (h y (List.mem_cons_of_mem _ hy))
    rw [List.length_erase_of_mem hx] at this
    have hp := List.length_pos_of_mem hx
    rw [List.length_cons]
    omega
theorem nearOf_mem {ts : List Tie} {x y : Int} (h : ∀ t ∈ ts, t.a < t.b) : y ∈ nearOf ts x ↔ ∃ t ∈ ts, (t.a = x ∧ t.b = y) ∨ (t.b = x ∧ t.a = y) := by
  unfold nearOf
  rw [sortT_mem, List.mem_filterMap]
  constructor
  · rintro ⟨t, ht, e⟩
    unfold other at e
    by_cases ha : t.a = x
    · rw [if_pos ha] at e
      exact ⟨t, ht, .inl ⟨ha, Option.some.inj e⟩⟩
    · rw [if_neg ha] at e
      by_cases hb : t.b = x
      · rw [if_pos hb] at e
        exact ⟨t, ht, .inr ⟨hb, Option.some.inj e⟩⟩
      · rw [if_neg hb] at e; cases e
  · rintro ⟨t, ht, ⟨ha, hb⟩ | ⟨hb, ha⟩⟩
    · refine ⟨t, ht, ?_⟩
      unfold other
      rw [if_pos ha, hb]
    · refine ⟨t, ht, ?_⟩
      have := h t ht
      unfold other
      rw [if_neg (by omega), if_pos hb, ha]
/-- what holds of one place and goes over ties holds of all -/
theorem grown_all {ps : List Int} {ts : List Tie} (g : Grown ps ts) (S : Int → Prop) (hS : ∀ t ∈ ts, S t.a ↔ S t.b) : (∃ x ∈ ps, S x) → ∀ x ∈ ps, S x := by
  induction g with
  | one p =>
    rintro ⟨x, hx, h⟩ y hy
    rw [List.mem_singleton.mp hx] at h
    rw [List.mem_singleton.mp hy]
    exact h
  | @more ps ts q p c g hq hp ih =>
    have ih := ih fun t ht => hS t (List.mem_append_left _ ht)
    have hpq : p ≠ q := fun z => hp (z ▸ hq)
    have hl := hS (tieOf p q c) (by simp)
    obtain ⟨_, h2, _⟩ := tieOf_lt (c := c) hpq
    have hpq2 : S p ↔ S q := by
      rcases h2 with ⟨a, b⟩ | ⟨a, b⟩
      · rw [a, b] at hl; exact hl
      · rw [a, b] at hl; exact hl.symm
    rintro ⟨x, hx, h⟩
    have hall : ∀ y ∈ ps, S y := by
      rcases List.mem_append.mp hx with hx | hx
      · exact ih ⟨x, hx, h⟩
      · rw [List.mem_singleton.mp hx] at h
        exact ih ⟨q, hq, hpq2.mp h⟩
    intro y hy
    rcases List.mem_append.mp hy with hy | hy
    · exact hall y hy
    · rw [List.mem_singleton.mp hy]
      exact hpq2.mpr (hall q hq)
theorem tree_all {t : Tr} (ht : TreeOk t) (S : Int → Prop) (hS : ∀ x ∈ t.2, S x.a ↔ S x.b) (x : Int) (x0 : 0 ≤ x) (x1 : x < (t.1.length : Int)) (h : S x) : ∀ y, 0 ≤ y → y < (t.1.length : Int) → S y := by
  obtain ⟨ps, ts, g, p, e⟩ := ht.ex
  rw [e] at hS
  intro y y0 y1
  exact grown_all g S (fun t ht => hS t (sortT_mem.mpr ht)) ⟨x, p.mem_iff.mpr (rangeL_mem.mpr ⟨x0, x1⟩), h⟩ y (p.mem_iff.mpr (rangeL_mem.mpr ⟨y0, y1⟩))
theorem nearAll_len (n : Nat) (ts : List Tie) : (nearAll n ts).length = n := by unfold nearAll; simp

/-! ### which places lie in a branch: m a b x is 1 where x hangs at b seen from a -/
def nbr (ts : List Tie) (b : Int) : List Int := ts.filterMap (other b)
theorem other_tie {p q c b : Int} (h : p ≠ q) : other b (tieOf p q c) = if b = p then some q else if b = q then some p else none := by
  unfold other tieOf
  by_cases hl : p ≤ q
  · rw [if_pos hl]
    show (if p = b then some q else if q = b then some p else none) = _
    by_cases h1 : b = p
    · rw [if_pos h1.symm, if_pos h1]
    · rw [if_neg (fun z => h1 z.symm), if_neg h1]
      by_cases h2 : b = q
      · rw [if_pos h2.symm, if_pos h2]
      · rw [if_neg (fun z => h2 z.symm), if_neg h2]
  · rw [if_neg hl]
    show (if q = b then some p else if p = b then some q else none) = _
    by_cases h1 : b = p
    · rw [if_neg (by omega), if_pos h1.symm, if_pos h1]
    · rw [if_neg h1]
      by_cases h2 : b = q
      · rw [if_pos h2.symm, if_pos h2]
      · rw [if_neg (fun z => h2 z.symm), if_neg (fun z => h1 z.symm), if_neg h2]
theorem nbr_snoc (ts : List Tie) {p q c b : Int} (h : p ≠ q) : nbr (ts ++ [tieOf p q c]) b = nbr ts b ++ (if b = p then [q] else if b = q then [p] else []) := by
  unfold nbr
  rw [List.filterMap_append, List.filterMap_cons, other_tie h, List.filterMap_nil]
  by_cases h1 : b = p
  · rw [if_pos h1, if_pos h1]
  · rw [if_neg h1, if_neg h1]
    by_cases h2 : b = q
    · rw [if_pos h2, if_pos h2]
    · rw [if_neg h2, if_neg h2]
theorem nbr_in {ps : List Int} {ts : List Tie} (g : Grown ps ts) {a b : Int} (h : a ∈ nbr ts b) : a ∈ ps ∧ b ∈ ps ∧ a ≠ b := by
  unfold nbr at h
  obtain ⟨t, ht, e⟩ := List.mem_filterMap.mp h
  obtain ⟨h1, h2, h3⟩ := g.in t ht
  unfold other at e
  by_cases ha : t.a = b
  · rw [if_pos ha] at e
    have e := Option.some.inj e
    rw [← e, ← ha]
    exact ⟨h2, h1, by omega⟩
  · rw [if_neg ha] at e
    by_cases hb : t.b = b
    · rw [if_pos hb] at e
      have e := Option.some.inj e
      rw [← e, ← hb]
      exact ⟨h1, h2, by omega⟩
    · rw [if_neg hb] at e; cases e
def sumF (l : List Int) (f : Int → Nat) : Nat := (l.map f).sum
theorem sumF_app (l m : List Int) (f : Int → Nat) : sumF (l ++ m) f = sumF l f + sumF m f := by unfold sumF; rw [List.map_append, List.sum_append]
theorem sumF_congr {l : List Int} {f g : Int → Nat} (h : ∀ x ∈ l, f x = g x) : sumF l f = sumF l g := by unfold sumF; rw [List.map_congr_left h]
theorem sumF_one (x : Int) (f : Int → Nat) : sumF [x] f = f x := by unfold sumF; simp
theorem sumF_nil (f : Int → Nat) : sumF [] f = 0 := rfl
def ind (x y : Int) : Nat := if x = y then 1 else 0
structure Wt (ps : List Int) (ts : List Tie) (m : Int → Int → Int → Nat) : Prop where
  one : ∀ a b x, a ∈ nbr ts b → x ∈ ps → m a b x = ind x b + sumF ((nbr ts b).filter fun c => decide (c ≠ a)) (fun c => m b c x)
  all : ∀ q x, q ∈ ps → x ∈ ps → ind x q + sumF (nbr ts q) (fun c => m q c x) = 1
def stepM (m : Int → Int → Int → Nat) (p q : Int) (a b x : Int) : Nat :=
  if a = q ∧ b = p then (if x = p then 1 else 0) else if a = p ∧ b = q then (if x = p then 0 else 1) else if x = p then m a b q else m a b x
theorem stepM_old {m : Int → Int → Int → Nat} {p q a b x : Int} (h1 : ¬ (a = q ∧ b = p)) (h2 : ¬ (a = p ∧ b = q)) : stepM m p q a b x = m a b (if x = p then q else x) := by
  unfold stepM
  rw [if_neg h1, if_neg h2]
  split <;> rfl
theorem weights {ps : List Int} {ts : List Tie} (g : Grown ps ts) : ∃ m, Wt ps ts m := by
  induction g with
  | one p =>
    refine ⟨fun _ _ _ => 0, ⟨fun a b x h => (nomatch (show a ∈ ([] : List Int) from h)), fun q x hq hx => ?_⟩⟩
    rw [List.mem_singleton.mp hq, List.mem_singleton.mp hx]
    show ind p p + 0 = 1
    unfold ind
    rw [if_pos rfl]
  | @more ps ts q p c g hq hp ih =>
    obtain ⟨m, M⟩ := ih
    have hpq : p ≠ q := fun z => hp (z ▸ hq)
    have nin : ∀ {a b}, a ∈ nbr ts b → a ≠ p ∧ b ≠ p := fun {a b} h => by
      obtain ⟨h1, h2, _⟩ := nbr_in g h
      exact ⟨fun z => hp (z ▸ h1), fun z => hp (z ▸ h2)⟩
    have np : nbr ts p = [] := List.eq_nil_iff_forall_not_mem.mpr fun a h => (nin h).2 rfl
    -- where x stands: the new place stands where its neighbour stands
    have back : ∀ x, x ∈ ps ++ [p] → (if x = p then q else x) ∈ ps := fun x hx => by
      by_cases hxp : x = p
      · rw [if_pos hxp]; exact hq
      · rw [if_neg hxp]
        rcases List.mem_append.mp hx with z | z
        · exact z
        · exact (hxp (List.mem_singleton.mp z)).elim
    have oldS : ∀ (l : List Int) (b x : Int), b ≠ p → (∀ c ∈ l, c ≠ p) → sumF l (fun c => stepM m p q b c x) = sumF l (fun c => m b c (if x = p then q else x)) := fun l b x hb hl =>
      sumF_congr fun c hc => stepM_old (fun z => hl c hc z.2) (fun z => hb z.1)
    have indx : ∀ x b : Int, b ≠ p → b ≠ q → ind x b = ind (if x = p then q else x) b := fun x b hb hbq => by
      by_cases hxp : x = p
      · rw [if_pos hxp, hxp]
        unfold ind
        rw [if_neg (fun z => hb z.symm), if_neg (fun z => hbq z.symm)]
      · rw [if_neg hxp]
    have memf : ∀ (l : List Int) (a : Int), (∀ c ∈ l, c ≠ p) → ∀ c ∈ l.filter (fun c => decide (c ≠ a)), c ≠ p := fun l a hl c hc => hl c (List.mem_filter.mp hc).1
    have lp : ∀ b, ∀ c ∈ nbr ts b, c ≠ p := fun b c hc => (nin hc).1
    refine ⟨stepM m p q, ⟨fun a b x ha hx => ?_, fun q0 x hq0 hx => ?_⟩⟩
    · rw [nbr_snoc ts hpq] at ha ⊢
      have hb' := back x hx
      by_cases hbp : b = p
      · subst hbp
        rw [np, if_pos rfl] at ha ⊢
        have ha : a = q := List.mem_singleton.mp ha
        subst ha
        have : ([a].filter fun c => decide (c ≠ a)) = [] := by simp
        show stepM m b a a b x = ind x b + sumF (([] ++ [a]).filter fun c => decide (c ≠ a)) _
        rw [List.nil_append, this, sumF_nil]
        unfold stepM ind
        rw [if_pos ⟨rfl, rfl⟩]
        rfl
      · rw [if_neg hbp] at ha ⊢
        by_cases hbq : b = q
        · subst hbq
          rw [if_pos rfl] at ha ⊢
          rw [List.filter_append, sumF_app]
          by_cases hap : a = p
          · subst hap
            have f1 : ((nbr ts b).filter fun c => decide (c ≠ a)) = nbr ts b := List.filter_eq_self.mpr fun c hc => decide_eq_true (lp b c hc)
            have f2 : ([a].filter fun c => decide (c ≠ a)) = [] := by simp
            rw [f1, f2, sumF_nil, oldS _ _ _ hbp (lp b)]
            have al := M.all b _ hq hb'
            unfold stepM
            rw [if_neg (fun z => hbp z.2), if_pos ⟨rfl, rfl⟩]
            by_cases hxp : x = a
            · rw [if_pos hxp] at al ⊢
              rw [if_pos hxp]
              have i1 : ind b b = 1 := if_pos rfl
              have i2 : ind x b = 0 := if_neg (fun z => hbp (by rw [← z, hxp]))
              rw [i1] at al
              rw [i2]
              omega
            · rw [if_neg hxp] at al ⊢
              rw [if_neg hxp]
              omega
          · have ha' : a ∈ nbr ts b := by
              rcases List.mem_append.mp ha with z | z
              · exact z
              · exact (hap (List.mem_singleton.mp z)).elim
            have f2 : ([p].filter fun c => decide (c ≠ a)) = [p] := List.filter_eq_self.mpr fun c hc => by rw [List.mem_singleton.mp hc]; exact decide_eq_true (fun z => hap z.symm)
            rw [f2, sumF_one, oldS _ _ _ hbp (memf _ _ (lp b)), stepM_old (fun z => hbp z.2) (fun z => hap z.1)]
            have on := M.one a b _ ha' hb'
            have sp : stepM m p b b p x = if x = p then 1 else 0 := if_pos ⟨rfl, rfl⟩
            rw [sp, on]
            by_cases hxp : x = p
            · rw [if_pos hxp, if_pos hxp]
              have i1 : ind b b = 1 := if_pos rfl
              have i2 : ind x b = 0 := if_neg (fun z => hbp (by rw [← z, hxp]))
              rw [i1, i2]
              omega
            · rw [if_neg hxp, if_neg hxp]
              omega
        · rw [if_neg hbq, List.append_nil] at ha ⊢
          have hap := (nin ha).1
          rw [oldS _ _ _ hbp (memf _ _ (lp b)), stepM_old (fun z => hbp z.2) (fun z => hap z.1), indx x b hbp hbq]
          exact M.one a b _ ha hb'
    · rw [nbr_snoc ts hpq]
      have hb' := back x hx
      by_cases hbp : q0 = p
      · subst hbp
        rw [np, if_pos rfl, List.nil_append, sumF_one]
        have sp : stepM m q0 q q0 q x = if x = q0 then 0 else 1 := by
          unfold stepM
          rw [if_neg (fun z => hpq z.1), if_pos ⟨rfl, rfl⟩]
        rw [sp]
        unfold ind
        split <;> rfl
      · rw [if_neg hbp]
        have hq0' : q0 ∈ ps := by
          rcases List.mem_append.mp hq0 with z | z
          · exact z
          · exact (hbp (List.mem_singleton.mp z)).elim
        have al := M.all q0 _ hq0' hb'
        rw [sumF_app, oldS _ _ _ hbp (lp q0)]
        by_cases hbq : q0 = q
        · subst hbq
          rw [if_pos rfl, sumF_one]
          have sp : stepM m p q0 q0 p x = if x = p then 1 else 0 := if_pos ⟨rfl, rfl⟩
          rw [sp]
          by_cases hxp : x = p
          · rw [if_pos hxp] at al ⊢
            rw [if_pos hxp]
            have i1 : ind q0 q0 = 1 := if_pos rfl
            have i2 : ind x q0 = 0 := if_neg (fun z => hbp (by rw [← z, hxp]))
            rw [i1] at al
            rw [i2]
            omega
          · rw [if_neg hxp] at al ⊢
            rw [if_neg hxp]
            omega
        · rw [if_neg hbq, sumF_nil, indx x q0 hbp hbq]
          omega

theorem sumF_add (l : List Int) (f g : Int → Nat) : sumF l (fun x => f x + g x) = sumF l f + sumF l g := by
  induction l with
  | nil => rfl
  | cons x l ih =>
    show (f x + g x) + sumF l _ = (f x + sumF l f) + (g x + sumF l g)
    rw [ih]
    omega
theorem sumF_zero (l : List Int) : sumF l (fun _ => 0) = 0 := by
  induction l with
  | nil => rfl
  | cons x l ih => show 0 + sumF l _ = 0; rw [ih]
theorem sumF_swap (l k : List Int) (f : Int → Int → Nat) : sumF l (fun x => sumF k (fun c => f c x)) = sumF k (fun c => sumF l (fun x => f c x)) := by
  induction k with
  | nil => exact sumF_zero l
  | cons c k ih =>
    show sumF l (fun x => f c x + sumF k (fun c => f c x)) = sumF l (fun x => f c x) + sumF k (fun c => sumF l (fun x => f c x))
    rw [sumF_add, ih]
theorem sumF_ind {l : List Int} (nd : l.Nodup) {b : Int} (h : b ∈ l) : sumF l (fun x => ind x b) = 1 := by
  induction l with
  | nil => cases h
  | cons x l ih =>
    obtain ⟨n1, n2⟩ := List.nodup_cons.mp nd
    show ind x b + sumF l (fun x => ind x b) = 1
    by_cases e : x = b
    · have : sumF l (fun x => ind x b) = sumF l (fun _ => 0) := sumF_congr fun y hy => if_neg (fun z => n1 (by rw [e, ← z]; exact hy))
      rw [this, sumF_zero]
      unfold ind
      rw [if_pos e]
    · have hb : b ∈ l := by
        rcases List.mem_cons.mp h with z | z
        · exact (e z.symm).elim
        · exact z
      rw [ih n2 hb]
      unfold ind
      rw [if_neg e]
theorem sumF_le {l : List Int} {f : Int → Nat} (h : ∀ x ∈ l, f x ≤ 1) : sumF l f ≤ l.length := by
  induction l with
  | nil => exact Nat.le_refl _
  | cons x l ih =>
    show f x + sumF l f ≤ l.length + 1
    have := h x List.mem_cons_self
    have := ih fun y hy => h y (List.mem_cons_of_mem _ hy)
    omega
theorem sumF_mem {l : List Int} {f : Int → Nat} {x : Int} (h : x ∈ l) : f x ≤ sumF l f := by
  induction l with
  | nil => cases h
  | cons y l ih =>
    show f x ≤ f y + sumF l f
    rcases List.mem_cons.mp h with z | z
    · rw [z]; omega
    · have := ih z
      omega
theorem sumF_perm {l k : List Int} (h : l.Perm k) (f : Int → Nat) : sumF l f = sumF k f := by
  unfold sumF
  exact (h.map f).sum_nat
theorem nbr_sym {ts : List Tie} {a b : Int} (hv : ∀ t ∈ ts, t.a < t.b) (h : a ∈ nbr ts b) : b ∈ nbr ts a := by
  unfold nbr at h ⊢
  obtain ⟨t, ht, e⟩ := List.mem_filterMap.mp h
  refine List.mem_filterMap.mpr ⟨t, ht, ?_⟩
  have := hv t ht
  unfold other at e ⊢
  by_cases ha : t.a = b
  · rw [if_pos ha] at e
    have e := Option.some.inj e
    rw [if_neg (by omega), if_pos e, ha]
  · rw [if_neg ha] at e
    by_cases hb : t.b = b
    · rw [if_pos hb] at e
      have e := Option.some.inj e
      rw [if_pos e, hb]
    · rw [if_neg hb] at e; cases e
/-- how many places hang at b seen from a -/
theorem weight_tree {t : Tr} (ht : TreeOk t) : ∃ w : Int → Int → Nat, ∀ a b, a ∈ nearOf t.2 b → w a b = 1 + sumF ((nearOf t.2 b).filter fun c => decide (c ≠ a)) (w b) ∧ w a b ≤ t.1.length := by
  obtain ⟨ps, ts, g, hp, e⟩ := ht.ex
  obtain ⟨m, M⟩ := weights g
  have nd := g.nd
  have hpl := hp.length_eq
  rw [rangeL_length] at hpl
  have hn : ps.length = t.1.length := by omega
  have hv : ∀ x ∈ ts, x.a < x.b := fun x hx => (g.in x hx).2.2
  have perm : ∀ b, (nearOf t.2 b).Perm (nbr ts b) := fun b => by
    unfold nearOf nbr
    rw [e]
    exact (sortT_perm _).trans ((sortT_perm ts).filterMap _)
  refine ⟨fun a b => sumF ps (fun x => m a b x), fun a b ha => ?_⟩
  have ha' : a ∈ nbr ts b := (perm b).mem_iff.mp ha
  obtain ⟨h1, h2, h3⟩ := nbr_in g ha'
  constructor
  · have e1 : sumF ps (fun x => m a b x) = sumF ps (fun x => ind x b + sumF ((nbr ts b).filter fun c => decide (c ≠ a)) (fun c => m b c x)) := sumF_congr fun x hx => M.one a b x ha' hx
    show sumF ps (fun x => m a b x) = _
    rw [e1, sumF_add, sumF_ind nd h2, sumF_swap]
    rw [sumF_perm ((perm b).filter _)]
  · rw [← hn]
    refine sumF_le fun x hx => ?_
    have := M.all a x h1 hx
    have hb := nbr_sym hv ha'
    have := sumF_mem (f := fun c => m a c x) hb
    omega

/-- how many places hang at b seen from a -/
theorem weight_tree2 {t : Tr} (ht : TreeOk t) : ∃ w : Int → Int → Nat, (∀ q, 0 ≤ q → q < (t.1.length : Int) → sumF (nearOf t.2 q) (w q) ≤ t.1.length) ∧ ∀ a b, a ∈ nearOf t.2 b → w a b = 1 + sumF ((nearOf t.2 b).filter fun c => decide (c ≠ a)) (w b) ∧ w a b ≤ t.1.length := by
  obtain ⟨ps, ts, g, hp, e⟩ := ht.ex
  obtain ⟨m, M⟩ := weights g
  have nd := g.nd
  have hpl := hp.length_eq
  rw [rangeL_length] at hpl
  have hn : ps.length = t.1.length := by omega
  have hv : ∀ x ∈ ts, x.a < x.b := fun x hx => (g.in x hx).2.2
  have perm : ∀ b, (nearOf t.2 b).Perm (nbr ts b) := fun b => by
    unfold nearOf nbr
    rw [e]
    exact (sortT_perm _).trans ((sortT_perm ts).filterMap _)
  refine ⟨fun a b => sumF ps (fun x => m a b x), fun q q0 q1 => ?_, fun a b ha => ?_⟩
  · have hq : q ∈ ps := hp.mem_iff.mpr (rangeL_mem.mpr ⟨q0, q1⟩)
    show sumF (nearOf t.2 q) (fun c => sumF ps (fun x => m q c x)) ≤ _
    rw [← sumF_swap, ← hn]
    refine sumF_le fun x hx => ?_
    rw [sumF_perm (perm q)]
    have := M.all q x hq hx
    omega
  have ha' : a ∈ nbr ts b := (perm b).mem_iff.mp ha
  obtain ⟨h1, h2, h3⟩ := nbr_in g ha'
  constructor
  · have e1 : sumF ps (fun x => m a b x) = sumF ps (fun x => ind x b + sumF ((nbr ts b).filter fun c => decide (c ≠ a)) (fun c => m b c x)) := sumF_congr fun x hx => M.one a b x ha' hx
    show sumF ps (fun x => m a b x) = _
    rw [e1, sumF_add, sumF_ind nd h2, sumF_swap]
    rw [sumF_perm ((perm b).filter _)]
  · rw [← hn]
    refine sumF_le fun x hx => ?_
    have := M.all a x h1 hx
    have hb := nbr_sym hv ha'
    have := sumF_mem (f := fun c => m a c x) hb
    omega

/-! ### ways -/
def Step (t : Tr) (x y c : Int) : Prop := ∃ z ∈ t.2, ((z.a = x ∧ z.b = y) ∨ (z.a = y ∧ z.b = x)) ∧ z.c = c
theorem whL_runN {s r : Type} {b : s → M (Ws s r)} (P : Nat → s → Prop) (Qf : s → Prop) (step : ∀ m x, P m x → (∃ x' m', m' < m ∧ b x = .ok (.go x') ∧ P m' x') ∨ (∃ x', b x = .ok (.stop x') ∧ Qf x')) : ∀ (n m : Nat) (x : s), P m x → m < n → ∃ x', whL b n x = .ok (.nx x') ∧ Qf x'
  | 0, m, x, _, h => absurd h (Nat.not_lt_zero _)
  | n + 1, m, x, p, h => by
    rcases step m x p with ⟨x', m', l, e, p'⟩ | ⟨x', e, q⟩
    · obtain ⟨x2, e2, q2⟩ := whL_runN P Qf step n m' x' p' (by omega)
      refine ⟨x2, ?_, q2⟩
      show (b x >>= _) = _
      rw [bind_ok e]
      exact e2
    · refine ⟨x', ?_, q⟩
      show (b x >>= _) = _
      rw [bind_ok e]
theorem dGet_mem {κ β : Type} [DecidableEq κ] [Py β] : ∀ {xs : List (κ × β)} {k : κ} {v : β}, (xs.map (·.1)).Nodup → (k, v) ∈ xs → dGet xs k = some v
  | [], _, _, _, h => by cases h
  | p :: xs, k, v, nd, h => by
    rw [List.map_cons, List.nodup_cons] at nd
    rcases List.mem_cons.mp h with e | h
    · rw [← e]; exact dGet_pos rfl
    · rw [dGet_neg (fun e => nd.1 (List.mem_map.mpr ⟨(k, v), h, e.symm⟩))]
      exact dGet_mem nd.2 h
theorem dHas_iff {κ β : Type} [DecidableEq κ] [Py β] : ∀ {xs : List (κ × β)} {k : κ}, dHas xs k = true ↔ k ∈ xs.map (·.1)
  | [], k => by simp [dHas, dGet]
  | p :: xs, k => by
    rw [List.map_cons, List.mem_cons]
    unfold dHas
    by_cases e : p.1 = k
    · rw [dGet_pos e]; simp [e]
    · rw [dGet_neg e]
      have := dHas_iff (xs := xs) (k := k)
      unfold dHas at this
      rw [this]
      constructor
      · exact .inr
      · rintro (z | z)
        · exact (e z.symm).elim
        · exact z
theorem lenOf_nd {t : Tr} (ht : TreeOk t) : ((lenOf t.2).map (·.1)).Nodup := by
  refine (keys_perm t.2).nodup_iff.mpr (List.nodup_append.mpr ⟨tree_pairs ht, ?_, ?_⟩)
  · have h : (t.2.map fun x => (x.b, x.a)) = (t.2.map fun x => (x.a, x.b)).map fun p => (p.2, p.1) := by rw [List.map_map]; rfl
    rw [h]
    refine List.Pairwise.map _ ?_ (tree_pairs ht)
    intro a b hab e
    injection e with e1 e2
    exact hab (Prod.ext e2 e1)
  · rintro p hp q hq e
    subst e
    obtain ⟨x, hx, e1⟩ := List.mem_map.mp hp
    obtain ⟨y, hy, e2⟩ := List.mem_map.mp hq
    have h1 := ht.tie x hx
    have h2 := ht.tie y hy
    rw [← e2] at e1
    injection e1 with a1 a2
    omega
theorem step_len {t : Tr} (ht : TreeOk t) {x y c : Int} (h : Step t x y c) : dGet (lenOf t.2) (x, y) = some c := by
  obtain ⟨z, hz, ⟨a, b⟩ | ⟨a, b⟩, e⟩ := h
  · exact dGet_mem (lenOf_nd ht) (lenOf_mem.mpr ⟨z, hz, .inl (by rw [a, b, e])⟩)
  · exact dGet_mem (lenOf_nd ht) (lenOf_mem.mpr ⟨z, hz, .inr (by rw [a, b, e])⟩)
theorem step_rg {t : Tr} (ht : TreeOk t) {x y c : Int} (h : Step t x y c) : (0 ≤ x ∧ x < (t.1.length : Int)) ∧ (0 ≤ y ∧ y < (t.1.length : Int)) ∧ x ≠ y := by
  obtain ⟨z, hz, h, e⟩ := h
  have := ht.tie z hz
  omega
theorem near_step {t : Tr} (ht : TreeOk t) {x y : Int} : y ∈ nearOf t.2 x ↔ ∃ c, Step t x y c := by
  rw [nearOf_mem fun z hz => (ht.tie z hz).2.1]
  constructor
  · rintro ⟨z, hz, h⟩
    exact ⟨z.c, z, hz, by omega, rfl⟩
  · rintro ⟨c, z, hz, h, e⟩
    exact ⟨z, hz, by omega⟩

def m_row_down : Nat → ((List Int) × (List (T3 Int Int Int))) → (T4 (List Sm) (List Sm) (List Sm) Sm) → (List (List Int)) → (List ((Int × Int) × Int)) → (Int × Int) → M ((List Int))
  | 0, _, _, _, _, _ => bad
  | k_ + 1, x_tree, x_rule, x_near, x_lengths, x_branch =>
    opt (atI x_near x_branch.2) >>= fun y13 =>
    compS (fun (y23 : Int) (st40 : Unit) =>
    if y23 ≠ x_branch.1 then (
    m_row_down k_ x_tree x_rule x_near x_lengths (x_branch.2, y23) >>= fun r54 =>
    .ok (some r54, ()))
    else (
    .ok (none, ()))) y13 () >>= fun q84 =>
    m_row_with x_tree x_rule x_branch.2 q84.1 >>= fun r91 =>
    opt (atI x_tree.1 x_branch.2) >>= fun y111 =>
    opt (dGet x_lengths x_branch) >>= fun y121 =>
    m_over_tie x_rule r91 y111 y121 >>= fun r126 =>
    .ok r126

/-! ### a branch's row, by the program and by the law -/
theorem merge1 (own : Int) : mergeDS [(("own" : Str), (IL.i own))] = [(("own" : Str), (IL.i own))] := rfl
theorem merge3 (k1 k2 k3 : Str) (a b c : IL) (nd : [k1, k2, k3].Nodup) : mergeDS [(k1, a), (k2, b), (k3, c)] = [(k1, a), (k2, b), (k3, c)] := by
  unfold mergeDS
  rw [merge_newS (by exact nd)]
  rfl
theorem evB {many own : Int} (ho : own.natAbs < 2 ^ 100) : Ev wsB many own 0 [] [] (mergeDS [(("own" : Str), (IL.i own))]) 1 1 where
  ho := ho
  ht := by decide
  hs := fun h => absurd h (by decide +kernel)
  hm := fun h => absurd h (by decide +kernel)
  ko := fun _ => by rw [merge1]; exact dGet_pos rfl
  kt := fun h => absurd h (by decide +kernel)
  ks := fun h => absurd h (by decide +kernel)
  km := fun h => absurd h (by decide +kernel)
  S1 := by decide
  M1 := by decide
  SM := by decide
theorem evJ {many own : Int} {so more : List Int} {S M : Nat} (ho : own.natAbs < 2 ^ 100) (hs : (so.length : Int) = many) (hs2 : ∀ y ∈ so, y.natAbs < 2 ^ S) (hm : (more.length : Int) = many) (hm2 : ∀ y ∈ more, y.natAbs < 2 ^ M) (S1 : 1 ≤ S) (M1 : 1 ≤ M) (SM : S + M ≤ 900000) :
    Ev wsJ many own 0 so more (mergeDS [(("own" : Str), (IL.i own)), (("so" : Str), (IL.l so)), (("more" : Str), (IL.l more))]) S M where
  ho := ho
  ht := by decide
  hs := fun _ => ⟨hs, hs2⟩
  hm := fun _ => ⟨hm, hm2⟩
  ko := fun _ => by rw [merge3 _ _ _ _ _ _ (by decide +kernel)]; exact dGet_pos rfl
  kt := fun h => absurd h (by decide +kernel)
  ks := fun _ => by rw [merge3 _ _ _ _ _ _ (by decide +kernel), dGet_neg (fun e => s_so e.symm)]; exact dGet_pos rfl
  km := fun _ => by rw [merge3 _ _ _ _ _ _ (by decide +kernel), dGet_neg (fun e => s_mo e.symm), dGet_neg (fun e => s_ms e.symm)]; exact dGet_pos rfl
  S1 := S1
  M1 := M1
  SM := SM
theorem evO {many own tie : Int} {more : List Int} {M : Nat} (ho : own.natAbs < 2 ^ 100) (ht : tie.natAbs < 2 ^ 100) (hm : (more.length : Int) = many) (hm2 : ∀ y ∈ more, y.natAbs < 2 ^ M) (M1 : 1 ≤ M) (SM : 1 + M ≤ 900000) :
    Ev wsO many own tie [] more (mergeDS [(("own" : Str), (IL.i own)), (("tie" : Str), (IL.i tie)), (("more" : Str), (IL.l more))]) 1 M where
  ho := ho
  ht := ht
  hs := fun h => absurd h (by decide +kernel)
  hm := fun _ => ⟨hm, hm2⟩
  ko := fun _ => by rw [merge3 _ _ _ _ _ _ (by decide +kernel)]; exact dGet_pos rfl
  kt := fun _ => by rw [merge3 _ _ _ _ _ _ (by decide +kernel), dGet_neg (fun e => s_to e.symm)]; exact dGet_pos rfl
  ks := fun h => absurd h (by decide +kernel)
  km := fun _ => by rw [merge3 _ _ _ _ _ _ (by decide +kernel), dGet_neg (fun e => s_mo e.symm), dGet_neg (fun e => s_mt e.symm)]; exact dGet_pos rfl
  S1 := by decide
  M1 := M1
  SM := SM
def lnOf (t : Tr) (b c : Int) : Int := (dGet (lenOf t.2) (b, c)).getD 0
theorem step_ln {t : Tr} (ht : TreeOk t) {b c l : Int} (h : Step t b c l) : lnOf t b c = l := by unfold lnOf; rw [step_len ht h]; rfl
theorem sort_map {t : Tr} (b : Int) (l : List Int) : sortT (l.map fun c => (c, lnOf t b c)) = (sortT l).map fun c => (c, lnOf t b c) := by
  refine perm_sorted_eq (le := leT) LeOk.anti ((sortT_perm _).trans ((sortT_perm l).map _).symm) (sortT_sorted _) ?_
  rw [List.pairwise_map]
  refine List.Pairwise.imp ?_ (sortT_sorted l)
  intro x y h
  rw [leT_int] at h
  have h := of_decide_eq_true h
  rw [leT_p]
  refine decide_eq_true ?_
  by_cases e : x = y
  · exact .inr ⟨e, by rw [e]; exact Int.le_refl _⟩
  · exact .inl (by show x < y; omega)
theorem near_ok (t : Tr) (ht : TreeOk t) (hn : t.1.length ≤ 100000) (b : Int) : m_law_near t b = .ok ((nearOf t.2 b).map fun c => (c, lnOf t b c)) := by
  have hlen := ht.len
  unfold m_law_near
  rw [bind_ok (compS_pure (fun y => if b ∈ ([(y.a, y.b).1, (y.a, y.b).2] : List Int) then some ((y.a + y.b) - b, y.c) else none) (by omega) fun y _ => by
    by_cases z : b ∈ ([(y.a, y.b).1, (y.a, y.b).2] : List Int)
    · rw [if_pos z, if_pos z]
    · rw [if_neg z, if_neg z])]
  have e : (t.2.filterMap fun y => if b ∈ ([(y.a, y.b).1, (y.a, y.b).2] : List Int) then some ((y.a + y.b) - b, y.c) else none) = (t.2.filterMap (other b)).map fun c => (c, lnOf t b c) := by
    rw [List.map_filterMap]
    refine fm_congr fun y hy => ?_
    have hv := ht.tie y hy
    unfold other
    by_cases ha : y.a = b
    · rw [if_pos (by simp [ha]), if_pos ha]
      show some _ = some (y.b, lnOf t b y.b)
      rw [step_ln ht (show Step t b y.b y.c from ⟨y, hy, .inl ⟨ha, rfl⟩, rfl⟩)]
      exact congrArg some (Prod.ext (by show y.a + y.b - b = y.b; omega) rfl)
    · rw [if_neg ha]
      by_cases hb : y.b = b
      · rw [if_pos (by simp [hb]), if_pos hb]
        show some _ = some (y.a, lnOf t b y.a)
        rw [step_ln ht (show Step t b y.a y.c from ⟨y, hy, .inr ⟨rfl, hb⟩, rfl⟩)]
        exact congrArg some (Prod.ext (by show y.a + y.b - b = y.a; omega) rfl)
      · rw [if_neg hb, if_neg]
        · rfl
        · simp only [List.mem_cons, List.not_mem_nil, or_false]
          rintro (z | z)
          · exact ha z.symm
          · exact hb z.symm
  rw [e]
  show Except.ok (sortT _) = _
  rw [sort_map]
  rfl
theorem sumF_mul (l : List Int) (f : Int → Nat) (k : Nat) : sumF l (fun c => k * f c) = k * sumF l f := by
  induction l with
  | nil => rfl
  | cons x l ih => show k * f x + sumF l _ = k * (f x + sumF l f); rw [ih, Nat.mul_add]
theorem fold_ok {r : Rule} {many : Int} (R : RuleOk r many) {own : Int} (ho : own.natAbs < 2 ^ 100) (a : Option Int) (t : Tr) (b : Int) (f : Int → List Int) (w : Int → Nat) (br : Int × Int → M (List Int)) : ∀ (L : List Int) (so : List Int) (B : Nat),
    (∀ c ∈ L, some c ≠ a → br (c, lnOf t b c) = .ok (f c) ∧ ((f c).length : Int) = many ∧ 1 ≤ w c ∧ ∀ v ∈ f c, v.natAbs < 2 ^ (700 * w c - 220)) → (so.length : Int) = many → (∀ v ∈ so, v.natAbs < 2 ^ B) → 1 ≤ B → B + 700 * sumF (L.filter fun c => decide (some c ≠ a)) w ≤ 800000 →
    ∃ so', loopN (fun (y42 : (List Int)) (st53 : (List Int)) => m_joined r st53 y42 own >>= fun r61 => (.ok r61 : M _)) ((L.filter fun c => decide (some c ≠ a)).map f) so = .ok so' ∧
      loopN (fun (y116 : (Int × Int)) (st127 : (List Int)) =>
        if some y116.1 ≠ a then (
        br y116 >>= fun r145 =>
        compS (fun (y158 : Sm) (st175 : Unit) =>
        m_law_value 12 y158 (mergeDS [(("own" : Str), (IL.i own)), (("so" : Str), (IL.l st127)), (("more" : Str), (IL.l r145))]) >>= fun r192 =>
        .ok (some r192, ())) r.c () >>= fun q210 =>
        .ok q210.1)
        else (
        (.ok st127 : M _))) (L.map fun c => (c, lnOf t b c)) so = .ok so' ∧ (so'.length : Int) = many ∧ ∀ v ∈ so', v.natAbs < 2 ^ (B + 700 * sumF (L.filter fun c => decide (some c ≠ a)) w)
  | [], so, B, _, h1, h2, _, _ => ⟨so, rfl, rfl, h1, h2⟩
  | c :: L, so, B, hc, h1, h2, hB, hT => by
    by_cases e : some c = a
    · have ef : ((c :: L).filter fun c => decide (some c ≠ a)) = L.filter fun c => decide (some c ≠ a) := by
        rw [List.filter_cons, if_neg (by simp [e])]
      rw [ef] at hT ⊢
      obtain ⟨so', i1, i2, i3⟩ := fold_ok R ho a t b f w br L so B (fun z hz => hc z (List.mem_cons_of_mem _ hz)) h1 h2 hB hT
      refine ⟨so', i1, ?_, i3⟩
      rw [List.map_cons]
      show ((if some c ≠ a then _ else _) >>= _) = _
      rw [if_neg (fun z => z e)]
      exact i2
    · have ef : ((c :: L).filter fun c => decide (some c ≠ a)) = c :: L.filter fun c => decide (some c ≠ a) := by
        rw [List.filter_cons, if_pos (by simp [e])]
      rw [ef] at hT ⊢
      have hs : sumF (c :: L.filter fun c => decide (some c ≠ a)) w = w c + sumF (L.filter fun c => decide (some c ≠ a)) w := rfl
      rw [hs] at hT ⊢
      obtain ⟨g1, g2, g3, g4⟩ := hc c List.mem_cons_self e
      have R1 := R.m2
      have Rc := R.lc
      obtain ⟨so1, j1, j2, j3, j4⟩ := evalL (evJ ho h1 h2 g2 g4 hB (by omega) (by omega)) R.gc (by omega)
      obtain ⟨so', i1, i2, i3, i4⟩ := fold_ok R ho a t b f w br L so1 (B + (700 * w c - 220) + 203) (fun z hz => hc z (List.mem_cons_of_mem _ hz)) (by omega) j4 (by omega) (by omega)
      refine ⟨so', ?_, ?_, i3, fun v hv => pow_lt (i4 v hv) (by omega)⟩
      · rw [List.map_cons]
        show ((m_joined r so (f c) own >>= fun r61 => (.ok r61 : M _)) >>= _) = _
        rw [bind_ok (show (m_joined r so (f c) own >>= fun r61 => (.ok r61 : M _)) = .ok so1 by
          unfold m_joined
          rw [j1 _ fun y v hv => by rw [bind_ok hv]]
          rfl)]
        exact i1
      · rw [List.map_cons]
        show ((if some c ≠ a then _ else _) >>= _) = _
        rw [if_pos e]
        rw [bind_ok (show (br (c, lnOf t b c) >>= _) = .ok so1 by
          rw [bind_ok g1, bind_ok (j2 _ fun y v hv => by rw [bind_ok hv])])]
        exact i2
theorem rows_ok (t : Tr) (ht : TreeOk t) (hn : t.1.length ≤ 40) {r : Rule} {many : Int} (R : RuleOk r many) (hw1 : ∀ x ∈ t.1, x.natAbs < 2 ^ 100) (hw2 : ∀ x ∈ t.2, x.c.natAbs < 2 ^ 100) (w : Int → Int → Nat)
    (hw : ∀ a b, a ∈ nearOf t.2 b → w a b = 1 + sumF ((nearOf t.2 b).filter fun c => decide (c ≠ a)) (w b) ∧ w a b ≤ t.1.length) :
    ∀ (N : Nat) (a b l : Int), Step t a b l → w a b ≤ N → ∃ row, (∀ k, N ≤ k → m_row_down k t r (nearAll t.1.length t.2) (lenOf t.2) (a, b) = .ok row) ∧ (∀ k, 2 * N ≤ k → m_law_branch k t r a b l = .ok row) ∧ (row.length : Int) = many ∧ 1 ≤ w a b ∧ ∀ v ∈ row, v.natAbs < 2 ^ (700 * w a b - 220)
  | 0, a, b, l, hs, hN => by
    have hs' : Step t b a l := by
      obtain ⟨z, hz, h, e⟩ := hs
      exact ⟨z, hz, by omega, e⟩
    have := (hw a b ((near_step ht).mpr ⟨l, hs'⟩)).1
    omega
  | N + 1, a, b, l, hs, hN => by
    have hs' : Step t b a l := by
      obtain ⟨z, hz, h, e⟩ := hs
      exact ⟨z, hz, by omega, e⟩
    have hlen := ht.len
    obtain ⟨hw3, hw4⟩ := hw a b ((near_step ht).mpr ⟨l, hs'⟩)
    have hrg := (step_rg ht hs).2.1
    have hl100 : l.natAbs < 2 ^ 100 := by
      obtain ⟨z, hz, _, e⟩ := hs
      rw [← e]; exact hw2 z hz
    obtain ⟨own, o1, o2⟩ := atI_some (xs := t.1) (j := b) hrg.1 hrg.2
    have ho := hw1 own (List.mem_of_getElem? o2)
    have sub : ∀ c, c ∈ nearOf t.2 b → c ≠ a → w b c ≤ sumF ((nearOf t.2 b).filter fun c => decide (c ≠ a)) (w b) := fun c hc hca => sumF_mem (List.mem_filter.mpr ⟨hc, decide_eq_true hca⟩)
    have ex : ∀ c, ∃ row : List Int, c ∈ nearOf t.2 b → c ≠ a → (∀ k, N ≤ k → m_row_down k t r (nearAll t.1.length t.2) (lenOf t.2) (b, c) = .ok row) ∧ (∀ k, 2 * N ≤ k → m_law_branch k t r b c (lnOf t b c) = .ok row) ∧ (row.length : Int) = many ∧ 1 ≤ w b c ∧ ∀ v ∈ row, v.natAbs < 2 ^ (700 * w b c - 220) := fun c => by
      by_cases hc : c ∈ nearOf t.2 b ∧ c ≠ a
      · obtain ⟨lc, hsc⟩ := (near_step ht).mp hc.1
        have := sub c hc.1 hc.2
        obtain ⟨row, hr⟩ := rows_ok t ht hn R hw1 hw2 w hw N b c lc hsc (by omega)
        rw [← step_ln ht hsc] at hr
        exact ⟨row, fun _ _ => hr⟩
      · exact ⟨[], fun h1 h2 => (hc ⟨h1, h2⟩).elim⟩
    obtain ⟨f, hf⟩ := Classical.skolem.mp ex
    have R1 := R.m2
    have Ra := R.la
    have Rb := R.lb
    obtain ⟨so0, j1, j2, j3, j4⟩ := evalL (evB (many := many) ho) R.ga (by omega)
    have hnl : (nearOf t.2 b).length ≤ t.2.length := by
      unfold nearOf
      rw [sortT_len]
      exact List.length_filterMap_le _ _
    have near_at := nearAll_at (n := t.1.length) (ties := t.2) (p := b) hrg.1 (by omega)
    -- the two ways, with a fuel for what is below
    have feq : ((nearOf t.2 b).filter fun c => decide (some c ≠ some a)) = (nearOf t.2 b).filter fun c => decide (c ≠ a) := by
      congr 1
      funext c
      simp
    have fold := fun (br : Int × Int → M (List Int)) (hbr : ∀ c ∈ nearOf t.2 b, c ≠ a → br (c, lnOf t b c) = .ok (f c)) => by
      have z := fold_ok R ho (some a) t b f (w b) br (nearOf t.2 b) so0 205 (fun c hc hca => ⟨hbr c hc (fun e => hca (congrArg some e)), (hf c hc (fun e => hca (congrArg some e))).2.2⟩) (by omega) j4 (by decide) (by rw [feq]; omega)
      rw [feq] at z
      exact z
    obtain ⟨so', i1, _, i3, i4⟩ := fold (fun y => .ok (f y.1)) (fun _ _ _ => rfl)
    obtain ⟨row, k1, k2, k3, k4⟩ := evalL (evO (many := many) (own := own) (tie := l) ho hl100 i3 i4 (by omega) (by omega)) R.gb (by omega)
    refine ⟨row, fun k hk => ?_, fun k hk => ?_, by omega, by omega, fun v hv => pow_lt (k4 v hv) (by omega)⟩
    · obtain ⟨k', rfl⟩ : ∃ k', k = k' + 1 := ⟨k - 1, by omega⟩
      unfold m_row_down
      rw [opt_b (show L2.atI (nearAll t.1.length t.2) b = some (nearOf t.2 b) from near_at)]
      rw [bind_ok (compS_pure (fun c => if c ≠ a then some (f c) else none) (by omega) fun c hc => by
        show (if c ≠ a then _ else _) = _
        by_cases e : c ≠ a
        · rw [if_pos e, if_pos e]
          show (m_row_down k' t r (nearAll t.1.length t.2) (lenOf t.2) (b, c) >>= _) = _
          rw [bind_ok ((hf c hc e).1 k' (by omega))]
        · rw [if_neg e, if_neg e])]
      have ef : (nearOf t.2 b).filterMap (fun c => if c ≠ a then some (f c) else none) = ((nearOf t.2 b).filter fun c => decide (c ≠ a)).map f := by
        rw [← List.filterMap_eq_map', List.filterMap_filter]
        refine fm_congr fun c _ => ?_
        by_cases e : c ≠ a
        · rw [if_pos e, if_pos (decide_eq_true e)]
        · rw [if_neg e, if_neg (by simpa using e)]
      rw [ef]
      rw [bind_ok (show m_row_with t r b (((nearOf t.2 b).filter fun c => decide (c ≠ a)).map f) = .ok so' by
        unfold m_row_with
        rw [opt_b o1, bind_ok (show m_begun r own = .ok so0 by
          unfold m_begun
          rw [bind_ok (j1 _ fun y v hv => by rw [bind_ok hv])]), bind_ok i1])]
      rw [opt_b (show L2.atI t.1 b = some own from o1), opt_b (show dGet (lenOf t.2) (a, b) = some l from step_len ht hs)]
      rw [bind_ok (show m_over_tie r so' own l = .ok row by
        unfold m_over_tie
        rw [bind_ok (k1 _ fun y v hv => by rw [bind_ok hv])])]
    · obtain ⟨k', rfl⟩ : ∃ k', k = k' + 1 + 1 := ⟨k - 2, by omega⟩
      obtain ⟨so2, i1', i2', _, _⟩ := fold (fun y => m_law_branch k' t r b y.1 y.2) (fun c hc hca => (hf c hc hca).2.1 k' (by omega))
      have es : so2 = so' := by rw [i1] at i1'; exact (Except.ok.inj i1').symm
      subst es
      unfold m_law_branch
      rw [bind_ok (show m_law_row (k' + 1) t r b (some a) = .ok so2 by
        unfold m_law_row
        rw [opt_b o1, bind_ok (j2 _ fun y v hv => by rw [bind_ok hv]), bind_ok (near_ok t ht (by omega) b), bind_ok i2'])]
      rw [bind_ok (k2 _ fun y v hv => by rw [opt_b o1, bind_ok hv])]

theorem case_ok (d most : Int) (m1 : 1 ≤ most) (m2 : most ≤ 40) : ∃ t r many d', m_law_case [d] most = .ok ((t, r), [d']) ∧ TreeOk t ∧ (t.1.length : Int) ≤ most ∧ RuleOk r many ∧ (∀ x ∈ t.1, x.natAbs < 2 ^ 100) ∧ ∀ x ∈ t.2, x.c.natAbs < 2 ^ 100 := by
  obtain ⟨k, d1, e1, k0, k2⟩ := take_small d 2 (by decide) (by decide)
  obtain ⟨r, d2, many, e2, R⟩ := rule_ok d1 (decide (k = (0 : Int)))
  obtain ⟨j, d3, e3, j0, j3⟩ := take_small d2 3 (by decide) (by decide)
  obtain ⟨fs, f1, f2⟩ : ∃ fs : List Int, L2.atI ([[(4 : Int), (1000 : Int), farB], [(4 : Int), (1000 : Int), 1000000]]) (if (decide (k = (0 : Int))) = true then (1 : Int) else 0) = some fs ∧ fs.length = 3 ∧ ∀ x ∈ fs, 0 ≤ x ∧ x ≤ farB := by
    by_cases hk : k = 0
    · refine ⟨[(4 : Int), 1000, 1000000], ?_, rfl, by decide +kernel⟩
      rw [if_pos (decide_eq_true hk)]
      rfl
    · refine ⟨[(4 : Int), 1000, farB], ?_, rfl, by decide +kernel⟩
      rw [if_neg (by simpa using hk)]
      rfl
  obtain ⟨far, g1, g2⟩ := atI_some (xs := fs) (j := j) j0 (by omega)
  have hf := f2.2 far (List.mem_of_getElem? g2)
  obtain ⟨t, d4, e4, ht, hl, hw, hc⟩ := tree_ok d3 most far m1 (by omega) hf.1 hf.2
  have b100 : ∀ x : Int, -far ≤ x ∧ x ≤ far → x.natAbs < 2 ^ 100 := fun x hx => by
    have h2 := hf.2
    unfold farB at h2
    omega
  refine ⟨t, r, many, d4, ?_, ht, hl, R, fun x hx => b100 x (hw x hx), fun x hx => b100 _ (hc x hx)⟩
  unfold m_law_case
  rw [bind_ok e1]
  show (m_law_rule [d1] (decide (k = (0 : Int))) >>= _) = _
  rw [bind_ok e2]
  show (opt (atI ([[(4 : Int), (1000 : Int), (10 : Int) ^ Int.toNat 29], [(4 : Int), (1000 : Int), (10 : Int) ^ Int.toNat 6]]) (if (decide (k = (0 : Int))) = true then (1 : Int) else 0)) >>= _) = _
  rw [show (10 : Int) ^ Int.toNat 29 = farB by decide, show (10 : Int) ^ Int.toNat 6 = 1000000 by decide, opt_b f1]
  show (m_law_take [d2] 3 >>= _) = _
  rw [bind_ok e3, opt_b g1]
  show (m_law_tree [d3] most far >>= _) = _
  rw [bind_ok e4]

theorem merge2 (k1 k2 : Str) (a b : IL) (nd : [k1, k2].Nodup) : mergeDS [(k1, a), (k2, b)] = [(k1, a), (k2, b)] := by
  unfold mergeDS
  rw [merge_newS (by exact nd)]
  rfl
theorem evT {many own : Int} {so : List Int} {S : Nat} (ho : own.natAbs < 2 ^ 100) (hs : (so.length : Int) = many) (hs2 : ∀ y ∈ so, y.natAbs < 2 ^ S) (S1 : 1 ≤ S) (SM : S + 1 ≤ 900000) :
    Ev wsT many own 0 so [] (mergeDS [(("own" : Str), (IL.i own)), (("so" : Str), (IL.l so))]) S 1 where
  ho := ho
  ht := by decide
  hs := fun _ => ⟨hs, hs2⟩
  hm := fun h => absurd h (by decide +kernel)
  ko := fun _ => by rw [merge2 _ _ _ _ (by decide +kernel)]; exact dGet_pos rfl
  kt := fun h => absurd h (by decide +kernel)
  ks := fun _ => by rw [merge2 _ _ _ _ (by decide +kernel), dGet_neg (fun e => s_so e.symm)]; exact dGet_pos rfl
  km := fun h => absurd h (by decide +kernel)
  S1 := S1
  M1 := by decide
  SM := SM

theorem leaf_dep {ws : List Str} {many : Int} {x : Sm} (h : LeafIn ws many x) : x.d.depth ≤ 1 := by
  rcases h with ⟨n, e, _⟩ | ⟨e, h⟩ | ⟨e, h⟩ | ⟨k, e, hk, h⟩ | ⟨k, e, hk, h⟩ <;> subst e <;> simp [Sm.d, PyData.depth, PyData.depthAll]
theorem good_dep {ws : List Str} {many : Int} : ∀ {d : Nat} {x : Sm}, Good2 ws many d x → x.d.depth ≤ d + 1
  | 0, _, h => h.elim
  | d + 1, x, h => by
    rcases h with h | ⟨a, b, e, ha, hb, _⟩ | ⟨w, a, b, e, hw, ha, hb⟩
    · have := leaf_dep h
      omega
    · subst e
      have h1 := leaf_dep ha
      have h2 := leaf_dep hb
      simp only [Sm.d, PyData.depth, PyData.depthAll]
      omega
    · subst e
      have h1 := good_dep ha
      have h2 := good_dep hb
      simp only [Sm.d, PyData.depth, PyData.depthAll]
      omega
theorem list_dep {ws : List Str} {many : Int} : ∀ {xs : List Sm}, (∀ x ∈ xs, Good2 ws many 3 x) → PyData.depthAll (xs.map Py.toD) ≤ 4
  | [], _ => Nat.zero_le _
  | x :: xs, h => by
    rw [List.map_cons, PyData.depthAll]
    exact Nat.max_le.mpr ⟨good_dep (h x List.mem_cons_self), list_dep fun y hy => h y (List.mem_cons_of_mem _ hy)⟩
theorem rule_dep {r : Rule} {many : Int} (R : RuleOk r many) : dep r ≤ 60 := by
  have h1 := list_dep R.ga
  have h2 := list_dep R.gb
  have h3 := list_dep R.gc
  have h4 := good_dep R.gd
  show PyData.depth (.tuple [.list (r.a.map Py.toD), .list (r.b.map Py.toD), .list (r.c.map Py.toD), r.d.d]) ≤ 60
  simp only [PyData.depth, PyData.depthAll]
  omega

/-! ### the order of the branches -/
theorem nr_nd {t : Tr} (ht : TreeOk t) (x : Int) : (nearOf t.2 x).Nodup := by
  unfold nearOf
  refine (sortT_perm _).nodup_iff.mpr ?_
  refine List.pairwise_filterMap.mpr ?_
  have h := List.pairwise_map.mp (tree_pairs ht)
  refine List.Pairwise.imp_of_mem ?_ h
  intro s u hs hu ne b eb b' eb' ebb
  have v1 := ht.tie s hs
  have v2 := ht.tie u hu
  subst ebb
  refine ne ?_
  unfold other at eb eb'
  by_cases a1 : s.a = x
  · rw [if_pos a1] at eb
    have eb := Option.some.inj eb
    by_cases a2 : u.a = x
    · rw [if_pos a2] at eb'
      have eb' := Option.some.inj eb'
      rw [a1, a2, eb, eb']
    · rw [if_neg a2] at eb'
      by_cases a3 : u.b = x
      · rw [if_pos a3] at eb'
        have eb' := Option.some.inj eb'
        omega
      · rw [if_neg a3] at eb'; cases eb'
  · rw [if_neg a1] at eb
    by_cases a3 : s.b = x
    · rw [if_pos a3] at eb
      have eb := Option.some.inj eb
      by_cases a2 : u.a = x
      · rw [if_pos a2] at eb'
        have eb' := Option.some.inj eb'
        omega
      · rw [if_neg a2] at eb'
        by_cases a4 : u.b = x
        · rw [if_pos a4] at eb'
          have eb' := Option.some.inj eb'
          rw [a3, a4, eb, eb']
        · rw [if_neg a4] at eb'; cases eb'
    · rw [if_neg a3] at eb; cases eb
theorem nr_sym {t : Tr} (ht : TreeOk t) {x y : Int} : y ∈ nearOf t.2 x ↔ x ∈ nearOf t.2 y := by
  rw [nearOf_mem fun z hz => (ht.tie z hz).2.1, nearOf_mem fun z hz => (ht.tie z hz).2.1]
  constructor
  · rintro ⟨z, hz, h⟩; exact ⟨z, hz, by omega⟩
  · rintro ⟨z, hz, h⟩; exact ⟨z, hz, by omega⟩
def brs (t : Tr) : List (Int × Int) := sortT ((lenOf t.2).map (·.1))
theorem brs_mem {t : Tr} (ht : TreeOk t) {p : Int × Int} : p ∈ brs t ↔ p.2 ∈ nearOf t.2 p.1 := by
  unfold brs
  rw [sortT_mem, nearOf_mem fun z hz => (ht.tie z hz).2.1]
  constructor
  · intro h
    obtain ⟨q, hq, e⟩ := List.mem_map.mp h
    obtain ⟨z, hz, h | h⟩ := lenOf_mem.mp hq
    · rw [h] at e; subst e; exact ⟨z, hz, .inl ⟨rfl, rfl⟩⟩
    · rw [h] at e; subst e; exact ⟨z, hz, .inr ⟨rfl, rfl⟩⟩
  · rintro ⟨z, hz, ⟨a, b⟩ | ⟨a, b⟩⟩
    · exact List.mem_map.mpr ⟨((z.a, z.b), z.c), lenOf_mem.mpr ⟨z, hz, .inl rfl⟩, Prod.ext a b⟩
    · exact List.mem_map.mpr ⟨((z.b, z.a), z.c), lenOf_mem.mpr ⟨z, hz, .inr rfl⟩, Prod.ext a b⟩
theorem brs_nd {t : Tr} (ht : TreeOk t) : (brs t).Nodup := (sortT_perm _).nodup_iff.mpr (lenOf_nd ht)
theorem brs_len {t : Tr} : (brs t).length = 2 * t.2.length := by unfold brs; rw [sortT_len, List.length_map, lenOf_len]
theorem merge_newT {β : Type} : ∀ {xs m : List ((Int × Int) × β)}, ((m ++ xs).map (·.1)).Nodup → xs.foldl (fun m p => dPut m p.1 p.2) m = m ++ xs
  | [], m, _ => by simp
  | x :: xs, m, h => by
    rw [List.foldl_cons]
    have hn : ∀ p ∈ m, p.1 ≠ x.1 := fun p hp e => by
      rw [List.map_append, List.map_cons, List.nodup_append] at h
      exact h.2.2 p.1 (List.mem_map.mpr ⟨p, hp, rfl⟩) x.1 List.mem_cons_self e
    rw [dPut_new hn, merge_newT (by rw [List.append_assoc]; exact h), List.append_assoc]
    rfl
theorem dPut_keys {β : Type} {xs : List ((Int × Int) × β)} {k : Int × Int} {y : β} (h : k ∈ xs.map (·.1)) : (dPut xs k y).map (·.1) = xs.map (·.1) := by
  unfold dPut
  obtain ⟨p, hp, e⟩ := List.mem_map.mp h
  rw [if_pos (List.any_eq_true.mpr ⟨p, hp, decide_eq_true e⟩), List.map_map]
  refine List.map_congr_left fun q _ => ?_
  show (if q.1 = k then (q.1, y) else q).1 = q.1
  by_cases z : q.1 = k
  · rw [if_pos z]
  · rw [if_neg z]
theorem dGet_map {β : Type} [Py β] {k j : Int × Int} {y : β} : ∀ xs : List ((Int × Int) × β), dGet (xs.map fun p => if p.1 = k then (p.1, y) else p) j = if j = k then (dGet xs j).map (fun _ => y) else dGet xs j
  | [] => by by_cases e : j = k <;> simp [dGet, e]
  | p :: xs => by
    rw [List.map_cons]
    by_cases e : p.1 = k
    · rw [if_pos e]
      by_cases e2 : p.1 = j
      · rw [dGet_pos (p := (p.1, y)) e2, dGet_pos e2, if_pos (e2.symm.trans e)]; rfl
      · rw [dGet_neg (p := (p.1, y)) e2, dGet_neg e2, dGet_map xs]
    · rw [if_neg e]
      by_cases e2 : p.1 = j
      · rw [dGet_pos e2, dGet_pos e2, if_neg (fun z => e (e2.trans z))]
      · rw [dGet_neg e2, dGet_neg e2, dGet_map xs]
theorem dGet_none {β : Type} [Py β] {xs : List ((Int × Int) × β)} {k : Int × Int} (h : ∀ p ∈ xs, p.1 ≠ k) : dGet xs k = none := by
  induction xs with
  | nil => rfl
  | cons p xs ih => rw [dGet_neg (h p List.mem_cons_self), ih fun q hq => h q (List.mem_cons_of_mem _ hq)]
theorem dGet_snoc {β : Type} [Py β] {k j : Int × Int} {y : β} : ∀ {xs : List ((Int × Int) × β)}, (∀ p ∈ xs, p.1 ≠ k) → dGet (xs ++ [(k, y)]) j = if j = k then some y else dGet xs j
  | [], _ => by
    by_cases e : j = k
    · rw [if_pos e, List.nil_append, dGet_pos (p := (k, y)) e.symm]
    · rw [if_neg e, List.nil_append, dGet_neg (p := (k, y)) (fun z => e z.symm)]
  | p :: xs, h => by
    rw [List.cons_append]
    by_cases e2 : p.1 = j
    · rw [dGet_pos e2, dGet_pos e2, if_neg (fun z => h p List.mem_cons_self (e2.trans z))]
    · rw [dGet_neg e2, dGet_neg e2, dGet_snoc fun q hq => h q (List.mem_cons_of_mem _ hq)]
theorem dGet_put {β : Type} [Py β] {xs : List ((Int × Int) × β)} {k j : Int × Int} {y : β} : dGet (dPut xs k y) j = if j = k then some y else dGet xs j := by
  unfold dPut
  by_cases h : (xs.any fun p => decide (p.1 = k)) = true
  · rw [if_pos h, dGet_map]
    by_cases e : j = k
    · rw [if_pos e, if_pos e]
      obtain ⟨p, hp, e2⟩ := List.any_eq_true.mp h
      have e2 := of_decide_eq_true e2
      have : dGet xs j ≠ none := by
        unfold dGet
        rw [ne_eq, Option.map_eq_none_iff, List.find?_eq_none]
        intro z
        exact z p hp (decide_eq_true (e2.trans e.symm))
      cases hh : dGet xs j with
      | none => exact (this hh).elim
      | some v => rfl
    · rw [if_neg e, if_neg e]
  · rw [if_neg h]
    refine dGet_snoc fun p hp e => h (List.any_eq_true.mpr ⟨p, hp, decide_eq_true e⟩)
/-- how many of the branches in (x, y) are still wanted, those of D being there -/
def need (t : Tr) (D : List (Int × Int)) (x y : Int) : Nat := ((nearOf t.2 y).filter fun c => decide (c ≠ x ∧ (y, c) ∉ D)).length
theorem need_zero {t : Tr} {D : List (Int × Int)} {x y : Int} : need t D x y = 0 ↔ ∀ c ∈ nearOf t.2 y, c ≠ x → (y, c) ∈ D := by
  unfold need
  rw [List.length_eq_zero_iff, List.filter_eq_nil_iff]
  constructor
  · intro h c hc hx
    exact Classical.byContradiction fun z => h c hc (decide_eq_true ⟨hx, z⟩)
  · intro h c hc z
    have z := of_decide_eq_true z
    exact z.2 (h c hc z.1)
theorem need_nil {t : Tr} (ht : TreeOk t) {x y : Int} (h : x ∈ nearOf t.2 y) : ((need t [] x y : Nat) : Int) = ((nearOf t.2 y).length : Int) - 1 := by
  have e : need t [] x y = ((nearOf t.2 y).erase x).length := by
    unfold need
    rw [(nr_nd ht y).erase_eq_filter]
    congr 2
    funext c
    simp [bne]
    by_cases z : c = x <;> simp [z]
  rw [e, List.length_erase_of_mem h]
  have := List.length_pos_of_mem h
  omega
theorem need_same {t : Tr} {D : List (Int × Int)} {a b x y : Int} (h : y ≠ a ∨ x = b) : need t (D ++ [(a, b)]) x y = need t D x y := by
  unfold need
  congr 1
  refine List.filter_congr fun c _ => ?_
  refine decide_eq_decide.mpr ?_
  rw [List.mem_append, List.mem_singleton]
  constructor
  · rintro ⟨h1, h2⟩; exact ⟨h1, fun z => h2 (.inl z)⟩
  · rintro ⟨h1, h2⟩
    refine ⟨h1, fun z => z.elim h2 fun z => ?_⟩
    injection z with z1 z2
    rcases h with h | h
    · exact h z1
    · exact h1 (z2.trans h.symm)
theorem filt_one {l : List Int} (nd : l.Nodup) {b : Int} (hb : b ∈ l) {p q : Int → Bool} (h1 : p b = true) (h2 : q b = false) (h : ∀ c ∈ l, c ≠ b → p c = q c) : (l.filter p).length = (l.filter q).length + 1 := by
  induction l with
  | nil => exact nomatch hb
  | cons x l ih =>
    obtain ⟨n1, n2⟩ := List.nodup_cons.mp nd
    by_cases e : x = b
    · subst e
      rw [List.filter_cons_of_pos h1, List.filter_cons_of_neg (by rw [h2]; decide), List.length_cons]
      rw [List.filter_congr (l := l) fun c hc => h c (List.mem_cons_of_mem _ hc) fun z => n1 (z ▸ hc)]
    · have hb' : b ∈ l := (List.mem_cons.mp hb).resolve_left fun z => e z.symm
      have i := ih n2 hb' fun c hc => h c (List.mem_cons_of_mem _ hc)
      have hx := h x List.mem_cons_self e
      by_cases px : p x = true
      · rw [List.filter_cons_of_pos px, List.filter_cons_of_pos (hx ▸ px), List.length_cons, List.length_cons, i]
      · rw [List.filter_cons_of_neg px, List.filter_cons_of_neg (hx ▸ px), i]
theorem need_less {t : Tr} (ht : TreeOk t) {D : List (Int × Int)} {a b x : Int} (hb : b ∈ nearOf t.2 a) (hx : x ≠ b) (hD : (a, b) ∉ D) : need t D x a = need t (D ++ [(a, b)]) x a + 1 := by
  unfold need
  refine filt_one (nr_nd ht a) hb (decide_eq_true ⟨fun z => hx z.symm, hD⟩) (decide_eq_false fun z => z.2 (by simp)) fun c _ hc => ?_
  refine decide_eq_decide.mpr ?_
  rw [List.mem_append, List.mem_singleton]
  constructor
  · rintro ⟨h1, h2⟩
    refine ⟨h1, fun z => z.elim h2 fun z => ?_⟩
    injection z with z1 z2
    exact hc z2
  · rintro ⟨h1, h2⟩; exact ⟨h1, fun z => h2 (.inl z)⟩
theorem take_app {a : Type} {l : List a} {n : Nat} (m : List a) (h : n ≤ l.length) : (l ++ m).take n = l.take n := by
  rw [List.take_append_of_le_length h]
/-- each branch stands behind those in it -/
def Behind (t : Tr) (found : List (Int × Int)) : Prop := ∀ (j : Nat) (p : Int × Int), found[j]? = some p → ∀ c ∈ nearOf t.2 p.2, c ≠ p.1 → (p.2, c) ∈ found.take j
theorem Behind.snoc {t : Tr} {found : List (Int × Int)} {q : Int × Int} {n : Nat} (h : Behind t found) (hn : n ≤ found.length) (hq : need t (found.take n) q.1 q.2 = 0) : Behind t (found ++ [q]) := by
  intro j p e c hc hx
  by_cases hj : j < found.length
  · rw [List.getElem?_append_left hj] at e
    rw [take_app _ (Nat.le_of_lt hj)]
    exact h j p e c hc hx
  · rw [List.getElem?_append_right (by omega)] at e
    have hj2 : j - found.length = 0 := by
      have := (List.getElem?_eq_some_iff.mp e).1
      simp at this
      omega
    rw [hj2] at e
    cases e
    have hj3 : j = found.length := by omega
    subst hj3
    rw [take_app _ (Nat.le_refl _), List.take_length]
    exact List.mem_of_mem_take (need_zero.mp hq c hc hx)
structure Ord (t : Tr) (D : List (Int × Int)) (left : List ((Int × Int) × Int)) (found : List (Int × Int)) (cnt : Int × Int → Nat) : Prop where
  nd : found.Nodup
  sub : ∀ p ∈ found, p ∈ brs t
  keys : left.map (·.1) = brs t
  get : ∀ p ∈ brs t, dGet left p = some ((cnt p : Nat) : Int)
  iff : ∀ p ∈ brs t, (p ∈ found ↔ cnt p = 0)
  bh : Behind t found

def turnO (a b : Int) : Int → (List ((Int × Int) × Int)) × (List (Int × Int)) → M ((List ((Int × Int) × Int)) × (List (Int × Int))) := fun (y201 : Int) (st212 : (List ((Int × Int) × Int)) × (List (Int × Int))) =>
  if y201 ≠ b then (
  opt (dGet st212.1 ((y201, a).1, (y201, a).2)) >>= fun y230 =>
  putD st212.1 ((y201, a).1, (y201, a).2) (y230 - (1 : Int)) >>= fun z243 =>
  opt (dGet z243 (y201, a)) >>= fun y253 =>
  if y253 = (0 : Int) then (
  appL st212.2 (y201, a) >>= fun _ =>
  .ok (z243, (st212.2 ++ [(y201, a)])))
  else (
  .ok (z243, st212.2)))
  else (
  .ok (st212.1, st212.2))
theorem putD_ok {β : Type} {xs : List ((Int × Int) × β)} {k : Int × Int} {y : β} (h : xs.length < 16777216) : putD xs k y = .ok (dPut xs k y) := by
  unfold putD
  rw [if_pos h]
theorem inner_ok {t : Tr} (ht : TreeOk t) (hn : t.1.length ≤ 100000) {a b : Int} (hb : b ∈ nearOf t.2 a) {n : Nat} {left : List ((Int × Int) × Int)} {found : List (Int × Int)} (hat : found[n]? = some (a, b))
    (I : Ord t (found.take n) left found fun p => need t (found.take n) p.1 p.2) :
    ∃ left' found', loopN (turnO a b) (nearOf t.2 a) (left, found) = .ok (left', found') ∧ found <+: found' ∧ Ord t (found'.take (n + 1)) left' found' fun p => need t (found'.take (n + 1)) p.1 p.2 := by
  have hlen := ht.len
  have hn1 : n < found.length := (List.getElem?_eq_some_iff.mp hat).1
  have hD' : found.take (n + 1) = found.take n ++ [(a, b)] := by
    rw [List.take_add_one, hat]; rfl
  have hnot : (a, b) ∉ found.take n := fun z => by
    obtain ⟨m, hm, e⟩ := List.getElem_of_mem z
    rw [List.length_take] at hm
    have e2 : found[m]? = some (a, b) := by rw [← List.getElem?_take_of_lt (show m < n by omega), List.getElem?_eq_getElem (by rw [List.length_take]; exact hm), e]
    have := (List.getElem?_inj (by omega) I.nd).mp (e2.trans hat.symm)
    omega
  have bl := brs_len (t := t)
  obtain ⟨st, e, hP⟩ := loopN_run (f := turnO a b) (all := nearOf t.2 a) (x := (left, found))
    (fun pre st => found <+: st.2 ∧ Ord t (found.take n) st.1 st.2 fun p => if p.2 = a ∧ p.1 ∈ pre then need t (found.take n ++ [(a, b)]) p.1 p.2 else need t (found.take n) p.1 p.2)
    ⟨List.prefix_refl _, { I with
      get := fun p hp => by rw [if_neg fun z => nomatch z.2]; exact I.get p hp
      iff := fun p hp => by rw [if_neg fun z => nomatch z.2]; exact I.iff p hp }⟩ fun pre c post st ea ⟨hpre, J⟩ => by
      obtain ⟨lf, fd⟩ := st
      have hc : c ∈ nearOf t.2 a := by rw [ea]; simp
      have hcp : c ∉ pre := fun z => by
        have nd := nr_nd ht a
        rw [ea, List.nodup_append] at nd
        exact nd.2.2 c z c List.mem_cons_self rfl
      have hbr : (c, a) ∈ brs t := (brs_mem ht).mpr ((nr_sym ht).mpr hc)
      have other : ∀ p : Int × Int, p ≠ (c, a) → (if p.2 = a ∧ p.1 ∈ pre ++ [c] then need t (found.take n ++ [(a, b)]) p.1 p.2 else need t (found.take n) p.1 p.2) = (if p.2 = a ∧ p.1 ∈ pre then need t (found.take n ++ [(a, b)]) p.1 p.2 else need t (found.take n) p.1 p.2) := fun p hp => by
        by_cases z : p.2 = a ∧ p.1 ∈ pre
        · rw [if_pos z, if_pos ⟨z.1, List.mem_append_left _ z.2⟩]
        · rw [if_neg z, if_neg]
          rintro ⟨z1, z2⟩
          rcases List.mem_append.mp z2 with z2 | z2
          · exact z ⟨z1, z2⟩
          · exact hp (Prod.ext (List.mem_singleton.mp z2) z1)
      have mine : (if ((c, a) : Int × Int).2 = a ∧ ((c, a) : Int × Int).1 ∈ pre ++ [c] then need t (found.take n ++ [(a, b)]) c a else need t (found.take n) c a) = need t (found.take n ++ [(a, b)]) c a := if_pos ⟨rfl, by simp⟩
      have mine0 : (if ((c, a) : Int × Int).2 = a ∧ ((c, a) : Int × Int).1 ∈ pre then need t (found.take n ++ [(a, b)]) c a else need t (found.take n) c a) = need t (found.take n) c a := if_neg fun z => hcp z.2
      by_cases hcb : c = b
      · refine ⟨(lf, fd), by unfold turnO; rw [if_neg fun z => z hcb], hpre, { J with get := fun p hp => ?_, iff := fun p hp => ?_ }⟩
        · by_cases z : p = (c, a)
          · subst z
            rw [mine, need_same (.inr hcb), ← mine0]
            exact J.get _ hp
          · rw [other p z]; exact J.get p hp
        · by_cases z : p = (c, a)
          · subst z
            rw [mine, need_same (.inr hcb), ← mine0]
            exact J.iff _ hp
          · rw [other p z]; exact J.iff p hp
      · have g0 : dGet lf (c, a) = some ((need t (found.take n) c a : Nat) : Int) := by rw [← mine0]; exact J.get _ hbr
        have hl := need_less ht hb hcb hnot
        have hz : ((need t (found.take n) c a : Nat) : Int) - 1 = ((need t (found.take n ++ [(a, b)]) c a : Nat) : Int) := by omega
        have hlf : lf.length = (brs t).length := by rw [← J.keys, List.length_map]
        have hni : (c, a) ∉ fd := fun z => by
          have := (J.iff _ hbr).mp z
          rw [mine0] at this
          omega
        have g1 : ∀ p, dGet (dPut lf (c, a) ((need t (found.take n ++ [(a, b)]) c a : Nat) : Int)) p = if p = (c, a) then some ((need t (found.take n ++ [(a, b)]) c a : Nat) : Int) else dGet lf p := fun p => dGet_put
        have k1 : (dPut lf (c, a) ((need t (found.take n ++ [(a, b)]) c a : Nat) : Int)).map (·.1) = brs t := by rw [dPut_keys (by rw [J.keys]; exact hbr), J.keys]
        have get : ∀ p ∈ brs t, dGet (dPut lf (c, a) ((need t (found.take n ++ [(a, b)]) c a : Nat) : Int)) p = some (((if p.2 = a ∧ p.1 ∈ pre ++ [c] then need t (found.take n ++ [(a, b)]) p.1 p.2 else need t (found.take n) p.1 p.2) : Nat) : Int) := fun p hp => by
          rw [g1]
          by_cases z : p = (c, a)
          · subst z; rw [if_pos rfl, mine]
          · rw [if_neg z, other p z]; exact J.get p hp
        have fl : fd.length ≤ (brs t).length := nd_sub_len J.nd J.sub
        have step : turnO a b c (lf, fd) = if ((need t (found.take n ++ [(a, b)]) c a : Nat) : Int) = 0 then .ok (dPut lf (c, a) ((need t (found.take n ++ [(a, b)]) c a : Nat) : Int), fd ++ [(c, a)]) else .ok (dPut lf (c, a) ((need t (found.take n ++ [(a, b)]) c a : Nat) : Int), fd) := by
          unfold turnO
          rw [if_pos hcb, opt_b (show dGet (lf, fd).1 (((c, a) : Int × Int).1, ((c, a) : Int × Int).2) = _ from g0), hz, bind_ok (putD_ok (show (lf, fd).1.length < 16777216 by show lf.length < _; omega)), opt_b (show dGet (dPut (lf, fd).1 (((c, a) : Int × Int).1, ((c, a) : Int × Int).2) _) (c, a) = _ from (g1 _).trans (if_pos rfl))]
          by_cases z : ((need t (found.take n ++ [(a, b)]) c a : Nat) : Int) = 0
          · rw [if_pos z, if_pos z, bind_ok (appL_ok (show (lf, fd).2.length < 16777216 by show fd.length < _; omega))]
          · rw [if_neg z, if_neg z]
        by_cases z : ((need t (found.take n ++ [(a, b)]) c a : Nat) : Int) = 0
        · refine ⟨(_, fd ++ [(c, a)]), step.trans (if_pos z), hpre.trans (List.prefix_append _ _), ?_⟩
          have z' : need t (found.take n ++ [(a, b)]) c a = 0 := by omega
          have hfl : found.length ≤ fd.length := hpre.length_le
          have htk : fd.take (n + 1) = found.take n ++ [(a, b)] := by
            rw [← hD']
            obtain ⟨r, rfl⟩ := hpre
            rw [take_app _ (by omega)]
          exact {
            nd := List.nodup_append.mpr ⟨J.nd, by simp, fun x hx y hy e => hni (by rw [List.mem_singleton] at hy; rw [← hy, ← e]; exact hx)⟩
            sub := fun p hp => by
              rcases List.mem_append.mp hp with hp | hp
              · exact J.sub p hp
              · rw [List.mem_singleton.mp hp]; exact hbr
            keys := k1
            get := get
            iff := fun p hp => by
              by_cases q : p = (c, a)
              · subst q; rw [mine]; exact ⟨fun _ => z', fun _ => by simp⟩
              · rw [other p q]
                exact ⟨fun h => (J.iff p hp).mp ((List.mem_append.mp h).resolve_right fun h => q (List.mem_singleton.mp h)), fun h => List.mem_append_left _ ((J.iff p hp).mpr h)⟩
            bh := J.bh.snoc (n := n + 1) (by omega) (by rw [htk]; exact z') }
        · refine ⟨(_, fd), step.trans (if_neg z), hpre, ?_⟩
          exact { J with
            keys := k1
            get := get
            iff := fun p hp => by
              by_cases q : p = (c, a)
              · subst q; rw [mine]
                exact ⟨fun h => (hni h).elim, fun h => (z (by omega)).elim⟩
              · rw [other p q]; exact J.iff p hp }
  obtain ⟨left', found'⟩ := st
  obtain ⟨hpre, J⟩ := hP
  have htk : found'.take (n + 1) = found.take n ++ [(a, b)] := by
    rw [← hD']
    obtain ⟨r, rfl⟩ := hpre
    rw [take_app _ (by omega)]
  have cn : ∀ p ∈ brs t, (if p.2 = a ∧ p.1 ∈ nearOf t.2 a then need t (found.take n ++ [(a, b)]) p.1 p.2 else need t (found.take n) p.1 p.2) = need t (found'.take (n + 1)) p.1 p.2 := fun p hp => by
    rw [htk]
    by_cases z : p.2 = a
    · rw [if_pos ⟨z, by rw [← z]; exact (nr_sym ht).mp ((brs_mem ht).mp hp)⟩]
    · rw [if_neg fun q => z q.1, need_same (.inl z)]
  exact ⟨left', found', e, hpre, { J with get := fun p hp => by rw [← cn p hp]; exact J.get p hp, iff := fun p hp => by rw [← cn p hp]; exact J.iff p hp }⟩
theorem orders_ok (t : Tr) (ht : TreeOk t) (hn : t.1.length ≤ 100000) : ∃ od, m_order_of (nearAll t.1.length t.2) (brs t) = .ok od ∧ od.Nodup ∧ (∀ p, p ∈ od ↔ p ∈ brs t) ∧ Behind t od := by
  have hlen := ht.len
  have bl := brs_len (t := t)
  obtain ⟨w, hw⟩ := weight_tree ht
  have rg : ∀ p ∈ brs t, (0 ≤ p.1 ∧ p.1 < (t.1.length : Int)) ∧ (0 ≤ p.2 ∧ p.2 < (t.1.length : Int)) := fun p hp => by
    obtain ⟨c, hc⟩ := (near_step ht).mp ((brs_mem ht).mp hp)
    have := step_rg ht hc
    exact ⟨this.1, this.2.1⟩
  have near_at : ∀ x : Int, 0 ≤ x → x < (t.1.length : Int) → L2.atI (nearAll t.1.length t.2) x = some (nearOf t.2 x) := fun x h0 h1 => nearAll_at h0 (by omega)
  unfold m_order_of
  rw [bind_ok (compS_pure (fun p => some ((p.1, p.2), (((nearOf t.2 p.2).length : Int) - (1 : Int)))) (by omega) fun p hp => by
    rw [opt_b (near_at p.2 (rg p hp).2.1 (rg p hp).2.2)])]
  rw [List.filterMap_eq_map']
  have e0 : mergeDT ((brs t).map fun p => ((p.1, p.2), (((nearOf t.2 p.2).length : Int) - (1 : Int)))) = (brs t).map fun p => ((p.1, p.2), (((nearOf t.2 p.2).length : Int) - (1 : Int))) := by
    unfold mergeDT
    rw [merge_newT (by rw [List.nil_append, List.map_map]; exact (List.map_id (brs t)).symm ▸ brs_nd ht)]
    rfl
  have k0 : ((brs t).map fun p => ((p.1, p.2), (((nearOf t.2 p.2).length : Int) - (1 : Int)))).map (·.1) = brs t := by rw [List.map_map]; exact List.map_id (brs t)
  have g0 : ∀ p ∈ brs t, dGet ((brs t).map fun p => ((p.1, p.2), (((nearOf t.2 p.2).length : Int) - (1 : Int)))) p = some ((need t [] p.1 p.2 : Nat) : Int) := fun p hp => by
    rw [need_nil ht ((nr_sym ht).mp ((brs_mem ht).mp hp))]
    exact dGet_mem (by rw [k0]; exact brs_nd ht) (List.mem_map.mpr ⟨p, hp, rfl⟩)
  rw [e0]
  rw [bind_ok (compS_pure (fun p => if need t [] p.1 p.2 = 0 then some p else none) (by omega) fun p hp => by
    show (opt (dGet ((brs t).map fun p => ((p.1, p.2), (((nearOf t.2 p.2).length : Int) - (1 : Int)))) p) >>= _) = _
    rw [opt_b (g0 p hp)]
    by_cases z : need t [] p.1 p.2 = 0
    · rw [if_pos z, if_pos (by omega)]
    · rw [if_neg z, if_neg (by omega)])]
  have ef : (brs t).filterMap (fun p => if need t [] p.1 p.2 = 0 then some p else none) = (brs t).filter fun p => decide (need t [] p.1 p.2 = 0) := by
    rw [← List.filterMap_eq_filter]
    refine fm_congr fun p _ => ?_
    by_cases z : need t [] p.1 p.2 = 0 <;> simp [z, Option.guard]
  rw [ef]
  have I0 : Ord t [] ((brs t).map fun p => ((p.1, p.2), (((nearOf t.2 p.2).length : Int) - (1 : Int)))) ((brs t).filter fun p => decide (need t [] p.1 p.2 = 0)) fun p => need t [] p.1 p.2 := {
    nd := (brs_nd ht).filter _
    sub := fun p hp => (List.mem_filter.mp hp).1
    keys := k0
    get := g0
    iff := fun p hp => by rw [List.mem_filter]; exact ⟨fun h => of_decide_eq_true h.2, fun h => ⟨hp, decide_eq_true h⟩⟩
    bh := fun j p e c hc hx => by
      have h := of_decide_eq_true (List.mem_filter.mp (List.mem_of_getElem? e)).2
      exact nomatch need_zero.mp h c hc hx }
  obtain ⟨st, e, hQ⟩ := whL_run (r := Unit) (b := fun (st162 : Int × (List ((Int × Int) × Int)) × (List (Int × Int))) =>
    if st162.1 < (st162.2.2.length : Int) then (
    opt (atI st162.2.2 st162.1) >>= fun y174 =>
    opt (atI (nearAll t.1.length t.2) y174.1) >>= fun y191 =>
    loopN (turnO y174.1 y174.2) y191 (st162.2.1, st162.2.2) >>= fun st280 =>
    .ok (.go ((st162.1 + (1 : Int)), st280.1, st280.2)))
    else (
    .ok (.stop (st162.1, st162.2.1, st162.2.2))))
    (fun st => ∃ n : Nat, st.1 = (n : Int) ∧ n ≤ st.2.2.length ∧ Ord t (st.2.2.take n) st.2.1 st.2.2 fun p => need t (st.2.2.take n) p.1 p.2)
    (fun st => (brs t).length - st.1.toNat)
    (fun st => Ord t st.2.2 st.2.1 st.2.2 fun p => need t st.2.2 p.1 p.2) (fun st hst => by
      obtain ⟨at_, left, found⟩ := st
      obtain ⟨n, h1, h2, I⟩ := hst
      have h1 : at_ = (n : Int) := h1
      have h2 : n ≤ found.length := h2
      have I : Ord t (found.take n) left found fun p => need t (found.take n) p.1 p.2 := I
      subst h1
      have fl : found.length ≤ (brs t).length := nd_sub_len I.nd I.sub
      by_cases z : n < found.length
      · left
        obtain ⟨⟨a, b⟩, hab⟩ : ∃ p, found[n]? = some p := ⟨found[n], List.getElem?_eq_getElem z⟩
        have hbr := I.sub _ (List.mem_of_getElem? hab)
        have hb := (brs_mem ht).mp hbr
        obtain ⟨left', found', e, hpre, J⟩ := inner_ok ht hn hb hab I
        have hfl := hpre.length_le
        refine ⟨((n : Int) + 1, left', found'), ?_, ⟨n + 1, rfl, (show n + 1 ≤ found'.length by omega), J⟩, show (brs t).length - ((n : Int) + 1).toNat < (brs t).length - ((n : Nat) : Int).toNat by omega⟩
        show (if ((n : Nat) : Int) < (found.length : Int) then _ else _) = _
        rw [if_pos (by omega), opt_b (show L2.atI found ((n : Nat) : Int) = some (a, b) by rw [atI_nat]; exact hab)]
        show (opt (atI (nearAll t.1.length t.2) a) >>= _) = _
        rw [opt_b (near_at a (rg _ hbr).1.1 (rg _ hbr).1.2)]
        show (loopN (turnO a b) (nearOf t.2 a) (left, found) >>= _) = _
        rw [bind_ok e]
      · right
        refine ⟨_, by show (if ((n : Nat) : Int) < (found.length : Int) then _ else _) = _; rw [if_neg (by omega)], ?_⟩
        have hn2 : n = found.length := by omega
        rw [hn2, List.take_length] at I
        exact I) 1000000 (0, (brs t).map (fun (p : Int × Int) => ((p.1, p.2), (((nearOf t.2 p.2).length : Int) - (1 : Int)))), (brs t).filter fun p => decide (need t [] p.1 p.2 = 0)) ⟨0, rfl, Nat.zero_le _, I0⟩ (show (brs t).length - (0 : Int).toNat < 1000000 by omega)
  obtain ⟨at_, left, found⟩ := st
  have J : Ord t found left found fun p => need t found p.1 p.2 := hQ
  refine ⟨found, ?_, J.nd, fun p => ⟨J.sub p, fun hp => ?_⟩, J.bh⟩
  · exact bind_ok e _
  · have all : ∀ (N : Nat) (p : Int × Int), p ∈ brs t → w p.1 p.2 ≤ N → p ∈ found := fun N => by
      induction N with
      | zero =>
        intro p hp hN
        have := (hw p.1 p.2 ((nr_sym ht).mp ((brs_mem ht).mp hp))).1
        omega
      | succ N ih =>
        intro p hp hN
        refine (J.iff p hp).mpr (need_zero.mpr fun c hc hx => ih (p.2, c) ((brs_mem ht).mpr hc) ?_)
        have h1 := (hw p.1 p.2 ((nr_sym ht).mp ((brs_mem ht).mp hp))).1
        have h2 := sumF_mem (f := w p.2) (List.mem_filter.mpr ⟨hc, decide_eq_true hx⟩ : c ∈ (nearOf t.2 p.2).filter fun c => decide (c ≠ p.1))
        show w p.2 c ≤ N
        omega
    exact all _ p hp (Nat.le_refl _)

/-! ### all rows at once -/
theorem bind_inv {a b : Type} {m : M a} {k : a → M b} {y : b} (h : (m >>= k) = .ok y) : ∃ x, m = .ok x ∧ k x = .ok y := by
  cases m with
  | ok x => exact ⟨x, rfl, h⟩
  | error e => exact nomatch h
theorem opt_inv {a b : Type} {o : Option a} {k : a → M b} {y : b} (h : (opt o >>= k) = .ok y) : ∃ x, o = some x ∧ k x = .ok y := by
  obtain ⟨x, h1, h2⟩ := bind_inv h
  cases o with
  | some z => exact ⟨z, rfl, by cases h1; exact h2⟩
  | none => exact nomatch h1
def subs (t : Tr) (a b : Int) : List Int := (nearOf t.2 b).filter fun c => decide (c ≠ a)
/-- f tells the rows -/
structure RowsF (t : Tr) (r : Rule) (many : Int) (w : Int → Int → Nat) (f : Int → Int → List Int) : Prop where
  sum : ∀ q, 0 ≤ q → q < (t.1.length : Int) → sumF (nearOf t.2 q) (w q) ≤ t.1.length
  law : ∀ a b l, Step t a b l → ∀ k, 80 ≤ k → m_law_branch k t r a b l = .ok (f a b)
  down : ∀ a b l, Step t a b l → ∀ k, 40 ≤ k → m_row_down k t r (nearAll t.1.length t.2) (lenOf t.2) (a, b) = .ok (f a b)
  len : ∀ a b l, Step t a b l → ((f a b).length : Int) = many
  pos : ∀ a b l, Step t a b l → 1 ≤ w a b
  bnd : ∀ a b l, Step t a b l → ∀ v ∈ f a b, v.natAbs < 2 ^ (700 * w a b - 220)
  prog : ∀ a b l, Step t a b l → ∃ so own, m_row_with t r b ((subs t a b).map (f b)) = .ok so ∧ atI t.1 b = some own ∧ m_over_tie r so own l = .ok (f a b)
theorem step_sym {t : Tr} {a b l : Int} (h : Step t a b l) : Step t b a l := by
  obtain ⟨z, hz, h, e⟩ := h
  exact ⟨z, hz, by omega, e⟩
theorem rowsF (t : Tr) (ht : TreeOk t) (hn : t.1.length ≤ 40) {r : Rule} {many : Int} (R : RuleOk r many) (hw1 : ∀ x ∈ t.1, x.natAbs < 2 ^ 100) (hw2 : ∀ x ∈ t.2, x.c.natAbs < 2 ^ 100) : ∃ w f, RowsF t r many w f := by
  obtain ⟨w, hq, hw⟩ := weight_tree2 ht
  have hlen := ht.len
  have ex : ∀ p : Int × Int, ∃ row : List Int, ∀ l, Step t p.1 p.2 l → (∀ k, 40 ≤ k → m_row_down k t r (nearAll t.1.length t.2) (lenOf t.2) (p.1, p.2) = .ok row) ∧ (∀ k, 80 ≤ k → m_law_branch k t r p.1 p.2 l = .ok row) ∧ (row.length : Int) = many ∧ 1 ≤ w p.1 p.2 ∧ ∀ v ∈ row, v.natAbs < 2 ^ (700 * w p.1 p.2 - 220) := fun p => by
    by_cases h : ∃ l, Step t p.1 p.2 l
    · obtain ⟨l, hs⟩ := h
      have hl := (hw p.1 p.2 ((near_step ht).mpr ⟨l, step_sym hs⟩)).2
      obtain ⟨row, h1, h2, h3⟩ := rows_ok t ht hn R hw1 hw2 w hw 40 p.1 p.2 l hs (by omega)
      refine ⟨row, fun l' hs' => ?_⟩
      have : l' = l := (step_ln ht hs').symm.trans (step_ln ht hs)
      subst this
      exact ⟨h1, h2, h3⟩
    · exact ⟨[], fun l hs => (h ⟨l, hs⟩).elim⟩
  obtain ⟨g, hg⟩ := Classical.skolem.mp ex
  refine ⟨w, fun a b => g (a, b), { sum := hq, law := fun a b l h => (hg (a, b) l h).2.1, down := fun a b l h => (hg (a, b) l h).1, len := fun a b l h => (hg (a, b) l h).2.2.1, pos := fun a b l h => (hg (a, b) l h).2.2.2.1, bnd := fun a b l h => (hg (a, b) l h).2.2.2.2, prog := fun a b l h => ?_ }⟩
  have rg := (step_rg ht h).2.1
  have e := (hg (a, b) l h).1 41 (by decide)
  have hnl : (nearOf t.2 b).length ≤ t.2.length := by
    unfold nearOf
    rw [sortT_len]
    exact List.length_filterMap_le _ _
  change m_row_down (40 + 1) t r (nearAll t.1.length t.2) (lenOf t.2) (a, b) = _ at e
  unfold m_row_down at e
  rw [opt_b (show L2.atI (nearAll t.1.length t.2) b = some (nearOf t.2 b) from nearAll_at rg.1 (by omega))] at e
  rw [bind_ok (compS_pure (fun c => if c ≠ a then some (g (b, c)) else none) (by omega) fun c hc => by
    show (if c ≠ a then _ else _) = _
    by_cases z : c ≠ a
    · rw [if_pos z, if_pos z]
      obtain ⟨lc, hsc⟩ := (near_step ht).mp hc
      show (m_row_down 40 t r (nearAll t.1.length t.2) (lenOf t.2) (b, c) >>= _) = _
      rw [bind_ok ((hg (b, c) lc hsc).1 40 (Nat.le_refl _))]
    · rw [if_neg z, if_neg z])] at e
  have ef : (nearOf t.2 b).filterMap (fun c => if c ≠ a then some (g (b, c)) else none) = (subs t a b).map fun c => g (b, c) := by
    unfold subs
    rw [← List.filterMap_eq_map', List.filterMap_filter]
    refine fm_congr fun c _ => ?_
    by_cases z : c ≠ a
    · rw [if_pos z, if_pos (decide_eq_true z)]
    · rw [if_neg z, if_neg (by simpa using z)]
  rw [ef] at e
  obtain ⟨so, e1, e⟩ := bind_inv e
  obtain ⟨own, e2, e⟩ := opt_inv e
  obtain ⟨l', e3, e⟩ := opt_inv e
  obtain ⟨row, e4, e⟩ := bind_inv e
  cases e
  have : l' = l := Option.some.inj (e3.symm.trans (step_len ht h))
  subst this
  exact ⟨so, own, e1, e2, e4⟩
theorem rows_known_ok (t : Tr) (ht : TreeOk t) (hn : t.1.length ≤ 100000) {r : Rule} {many : Int} {w : Int → Int → Nat} {f : Int → Int → List Int} (RF : RowsF t r many w f) :
    ∃ rows, m_rows_known t r = .ok rows ∧ ∀ a b l, Step t a b l → dGet rows (a, b) = some (f a b) := by
  have hlen := ht.len
  have bl := brs_len (t := t)
  obtain ⟨od, o1, o2, o3, o4⟩ := orders_ok t ht hn
  have odl : od.length ≤ (brs t).length := nd_sub_len o2 fun p hp => (o3 p).mp hp
  unfold m_rows_known
  rw [bind_ok (tied_places_ok (t.1.length : Int) t.2 (by omega) (by omega) (by omega) ht.tie)]
  rw [show ((t.1.length : Int)).toNat = t.1.length from rfl]
  rw [bind_ok (lengths_ok t ht (by omega)), bind_ok (show m_every_branch t = .ok (brs t) by unfold m_every_branch; rw [bind_ok (lengths_ok t ht (by omega))]; rfl), bind_ok o1]
  obtain ⟨rows, e, h1, h2⟩ := loopN_run (f := fun (y89 : (Int × Int)) (st100 : (List ((Int × Int) × (List Int)))) =>
    opt (atI (nearAll t.1.length t.2) y89.2) >>= fun y122 =>
    compS (fun (y132 : Int) (st149 : Unit) =>
    if y132 ≠ y89.1 then (
    opt (dGet st100 (y89.2, y132)) >>= fun y163 =>
    .ok (some y163, ()))
    else (
    .ok (none, ()))) y122 () >>= fun q186 =>
    m_row_with t r y89.2 q186.1 >>= fun r192 =>
    opt (atI t.1 y89.2) >>= fun y205 =>
    opt (dGet (lenOf t.2) (y89.1, y89.2)) >>= fun y222 =>
    m_over_tie r r192 y205 y222 >>= fun r234 =>
    putD st100 ((y89.1, y89.2).1, (y89.1, y89.2).2) r234 >>= fun z268 =>
    .ok z268) (all := od) (x := []) (fun pre st => (∀ p ∈ pre, dGet st p = some (f p.1 p.2)) ∧ st.length ≤ pre.length) ⟨(fun _ h => nomatch h), Nat.le_refl _⟩ fun pre y post st ea ⟨h1, h2⟩ => by
      obtain ⟨a, b⟩ := y
      have hbr : (a, b) ∈ brs t := (o3 _).mp (by rw [ea]; simp)
      obtain ⟨l, hs⟩ := (near_step ht).mp ((brs_mem ht).mp hbr)
      have rg := (step_rg ht hs).2.1
      have hnl : (nearOf t.2 b).length ≤ t.2.length := by
        unfold nearOf
        rw [sortT_len]
        exact List.length_filterMap_le _ _
      have hod : od[pre.length]? = some (a, b) := by rw [ea, List.getElem?_append_right (Nat.le_refl _), Nat.sub_self]; rfl
      have htk : od.take pre.length = pre := by rw [ea]; simp
      have hb := o4 _ _ hod
      rw [htk] at hb
      obtain ⟨so, own, p1, p2, p3⟩ := RF.prog a b l hs
      have hpl : pre.length < od.length := (List.getElem?_eq_some_iff.mp hod).1
      refine ⟨dPut st (a, b) (f a b), ?_, fun p hp => ?_, ?_⟩
      · show (opt (atI (nearAll t.1.length t.2) b) >>= _) = _
        rw [opt_b (show L2.atI (nearAll t.1.length t.2) b = some (nearOf t.2 b) from nearAll_at rg.1 (by omega))]
        rw [bind_ok (compS_pure (fun c => if c ≠ a then some (f b c) else none) (by omega) fun c hc => by
          show (if c ≠ a then _ else _) = _
          by_cases z : c ≠ a
          · rw [if_pos z, if_pos z]
            show (opt (dGet st (b, c)) >>= _) = _
            rw [opt_b (h1 _ (hb c hc z))]
          · rw [if_neg z, if_neg z])]
        have ef : (nearOf t.2 b).filterMap (fun c => if c ≠ a then some (f b c) else none) = (subs t a b).map (f b) := by
          unfold subs
          rw [← List.filterMap_eq_map', List.filterMap_filter]
          refine fm_congr fun c _ => ?_
          by_cases z : c ≠ a
          · rw [if_pos z, if_pos (decide_eq_true z)]
          · rw [if_neg z, if_neg (by simpa using z)]
        rw [ef]
        show (m_row_with t r b _ >>= _) = _
        rw [bind_ok p1]
        show (opt (atI t.1 b) >>= _) = _
        rw [opt_b p2]
        show (opt (dGet (lenOf t.2) (a, b)) >>= _) = _
        rw [opt_b (step_len ht hs), bind_ok p3]
        show (putD st (a, b) (f a b) >>= _) = _
        rw [bind_ok (putD_ok (by omega))]
      · rw [dGet_put]
        rcases List.mem_append.mp hp with hp | hp
        · by_cases z : p = (a, b)
          · subst z; rw [if_pos rfl]
          · rw [if_neg z]; exact h1 p hp
        · rw [List.mem_singleton.mp hp, if_pos rfl]
      · rw [List.length_append, List.length_singleton]
        unfold dPut
        split
        · rw [List.length_map]; omega
        · rw [List.length_append, List.length_singleton]; omega
  refine ⟨rows, (bind_ok e _).trans rfl, fun a b l hs => h1 (a, b) ((o3 _).mpr ((brs_mem ht).mpr ((near_step ht).mpr ⟨l, hs⟩)))⟩
/-- a seat by f, by the program and by the law -/
theorem seatF (t : Tr) (ht : TreeOk t) (hn : t.1.length ≤ 40) {r : Rule} {many : Int} (R : RuleOk r many) (hw1 : ∀ x ∈ t.1, x.natAbs < 2 ^ 100) {w : Int → Int → Nat} {f : Int → Int → List Int} (RF : RowsF t r many w f) (p : Int) (p0 : 0 ≤ p) (p1 : p < (t.1.length : Int)) :
    ∃ so own v, atI t.1 p = some own ∧ m_row_with t r p ((nearOf t.2 p).map (f p)) = .ok so ∧ m_told_by r so own = .ok v ∧ m_law_seat t r p = .ok v := by
  have hlen := ht.len
  obtain ⟨own, o1, o2⟩ := atI_some (xs := t.1) (j := p) p0 p1
  have ho := hw1 own (List.mem_of_getElem? o2)
  have R1 := R.m2
  have Ra := R.la
  obtain ⟨so0, j1, j2, j3, j4⟩ := evalL (evB (many := many) ho) R.ga (by omega)
  have fall : ((nearOf t.2 p).filter fun c => decide (some c ≠ (none : Option Int))) = nearOf t.2 p := List.filter_eq_self.mpr fun c _ => by simp
  have hs := RF.sum p p0 p1
  have z := fold_ok R ho none t p (f p) (w p) (fun y => m_law_branch 99 t r p y.1 y.2) (nearOf t.2 p) so0 205 (fun c hc _ => by
    obtain ⟨lc, hsc⟩ := (near_step ht).mp hc
    rw [step_ln ht hsc]
    exact ⟨RF.law p c lc hsc 99 (by decide), RF.len p c lc hsc, RF.pos p c lc hsc, RF.bnd p c lc hsc⟩) (by omega) j4 (by decide) (by rw [fall]; omega)
  rw [fall] at z
  obtain ⟨so', i1, i2, i3, i4⟩ := z
  obtain ⟨v, v1, v2, _⟩ := eval2 (evT (many := many) ho i3 i4 (by omega) (by omega)) 12 3 r.d (by decide) (by decide) R.gd
  refine ⟨so', own, v, o1, ?_, ?_, ?_⟩
  · unfold m_row_with
    rw [opt_b o1, bind_ok (show m_begun r own = .ok so0 by
      unfold m_begun
      rw [bind_ok (j1 _ fun y v hv => by rw [bind_ok hv])]), bind_ok i1]
  · unfold m_told_by
    rw [bind_ok v1]
  · unfold m_law_seat
    rw [opt_b o1]
    rw [bind_ok (show m_law_row 100 t r p none = .ok so' by
      show m_law_row (99 + 1) t r p none = .ok so'
      unfold m_law_row
      rw [opt_b o1, bind_ok (j2 _ fun y v hv => by rw [bind_ok hv]), bind_ok (near_ok t ht (by omega) p), bind_ok i2])]
    rw [bind_ok v2]

/-! ### runs, what follows told of -/
theorem loopN_runB {i s b : Type} {f : i → s → M s} {all : List i} {x : s} {k : s → M b} {Q : b → Prop} (P : List i → s → Prop) (h : P [] x) (hs : ∀ pre y post x, all = pre ++ y :: post → P pre x → ∃ x', f y x = .ok x' ∧ P (pre ++ [y]) x') (hk : ∀ x', P all x' → ∃ r, k x' = .ok r ∧ Q r) : ∃ r, (loopN f all x >>= k) = .ok r ∧ Q r := by
  obtain ⟨st, e, g⟩ := loopN_run P h hs
  obtain ⟨r, e2, q⟩ := hk st g
  exact ⟨r, by rw [bind_ok e]; exact e2, q⟩
theorem compS_runB {i s b c : Type} {f : i → s → M (Option c × s)} {all : List i} {x : s} {k : List c × s → M b} {Q : b → Prop} (hl : all.length < 16777216) (P : List i → List c → s → Prop) (h : P [] [] x)
    (hs : ∀ pre y post acc x, all = pre ++ y :: post → P pre acc x → ∃ o x', f y x = .ok (o, x') ∧ P (pre ++ [y]) (match o with
      | some z => acc ++ [z]
      | none => acc) x') (hk : ∀ acc x', P all acc x' → ∃ r, k (acc, x') = .ok r ∧ Q r) : ∃ r, (compS f all x >>= k) = .ok r ∧ Q r := by
  obtain ⟨acc, st, e, g⟩ := compS_run hl P h hs
  obtain ⟨r, e2, q⟩ := hk acc st g
  exact ⟨r, by rw [bind_ok e]; exact e2, q⟩
theorem compS_pureB {i b c : Type} {f : i → Unit → M (Option c × Unit)} {all : List i} {k : List c × Unit → M b} {R : M b} (g : i → Option c) (hl : all.length < 16777216) (hs : ∀ y ∈ all, f y () = .ok (g y, ())) (hk : k (all.filterMap g, ()) = R) : (compS f all () >>= k) = R := by
  rw [bind_ok (compS_pure g hl hs)]
  exact hk
theorem compS_mapB {i b c : Type} {f : i → Unit → M (Option c × Unit)} {all : List i} {k : List c × Unit → M b} {R : M b} (g : i → c) (hl : all.length < 16777216) (hs : ∀ y ∈ all, f y () = .ok (some (g y), ())) (hk : k (all.map g, ()) = R) : (compS f all () >>= k) = R := by
  rw [bind_ok (compS_pure (fun y => some (g y)) hl hs), List.filterMap_eq_map']
  exact hk
theorem loopM_allB {i r b : Type} {f : i → Unit → M (Fl Unit r)} {all : List i} {k : Fl Unit r → M b} {R : M b} (hs : ∀ y ∈ all, f y () = .ok (.nx ())) (hk : k (.nx ()) = R) : (loopM f all () >>= k) = R := by
  rw [bind_ok (loopM_all hs)]
  exact hk
theorem loopM_hit {i r : Type} {f : i → Unit → M (Fl Unit r)} {z : r} {y : i} {post : List i} : ∀ {pre : List i}, (∀ x ∈ pre, f x () = .ok (.nx ())) → f y () = .ok (.rt z) → loopM f (pre ++ y :: post) () = .ok (.rt z)
  | [], _, h => by
    show (f y () >>= _) = _
    rw [bind_ok h]
  | x :: pre, hp, h => by
    show (f x () >>= _) = _
    rw [bind_ok (hp x List.mem_cons_self)]
    exact loopM_hit (fun w hw => hp w (List.mem_cons_of_mem _ hw)) h
theorem ok_of {b : Type} {m : M b} {v : b} (h : ∃ r, m = .ok r ∧ r = v) : m = .ok v := by
  obtain ⟨r, e, q⟩ := h
  rw [e, q]
theorem ex_imp {b : Type} {m : M b} {Q Q2 : b → Prop} (h : ∃ r, m = .ok r ∧ Q2 r) (i : ∀ r, Q2 r → Q r) : ∃ r, m = .ok r ∧ Q r := by
  obtain ⟨r, e, q⟩ := h
  exact ⟨r, e, i r q⟩

/-! ### orders of pairs and of lists -/
class LtOk (a : Type) [DecidableEq a] [DatumOrd a] : Prop where
  irr : ∀ x : a, ¬ DatumOrd.lt x x = true
  tr : ∀ x y z : a, DatumOrd.lt x y = true → DatumOrd.lt y z = true → DatumOrd.lt x z = true
  tri : ∀ x y : a, DatumOrd.lt x y = true ∨ x = y ∨ DatumOrd.lt y x = true
theorem LtOk.le {a : Type} [DecidableEq a] [DatumOrd a] [LtOk a] : LeOk a where
  tr x y z h1 h2 := by
    have h1 : ¬ DatumOrd.lt y x = true := fun q => by
      have : (!DatumOrd.lt y x) = true := h1
      rw [q] at this
      exact nomatch this
    have h2 : ¬ DatumOrd.lt z y = true := fun q => by
      have : (!DatumOrd.lt z y) = true := h2
      rw [q] at this
      exact nomatch this
    show (!DatumOrd.lt z x) = true
    have h3 : ¬ DatumOrd.lt z x = true := fun q => by
      rcases LtOk.tri x y with a | a | a
      · exact h2 (LtOk.tr z x y q a)
      · rw [← a] at h2; exact h2 q
      · exact h1 a
    rw [Bool.eq_false_iff.mpr h3]
    rfl
  tot x y := by
    show (!DatumOrd.lt y x || !DatumOrd.lt x y) = true
    by_cases q : DatumOrd.lt y x = true
    · have : ¬ DatumOrd.lt x y = true := fun p => LtOk.irr x (LtOk.tr x y x p q)
      rw [Bool.eq_false_iff.mpr this]
      simp
    · rw [Bool.eq_false_iff.mpr q]
      rfl
  anti x y h1 h2 := by
    have h1 : (!DatumOrd.lt y x) = true := h1
    have h2 : (!DatumOrd.lt x y) = true := h2
    rcases LtOk.tri x y with a | a | a
    · rw [a] at h2; exact nomatch h2
    · exact a
    · rw [a] at h1; exact nomatch h1
instance : LtOk Int where
  irr x h := by have := of_decide_eq_true (show decide (x < x) = true from h); omega
  tr x y z h1 h2 := decide_eq_true (by
    have h1 := of_decide_eq_true (show decide (x < y) = true from h1)
    have h2 := of_decide_eq_true (show decide (y < z) = true from h2)
    omega)
  tri x y := by
    rcases (show x < y ∨ x = y ∨ y < x by omega) with h | h | h
    · exact .inl (decide_eq_true h)
    · exact .inr (.inl h)
    · exact .inr (.inr (decide_eq_true h))
section
variable {a b : Type} [DecidableEq a] [DatumOrd a] [LtOk a] [DecidableEq b] [DatumOrd b] [LtOk b]
theorem lt_p {x y : a × b} : DatumOrd.lt x y = true ↔ (x.1 = y.1 ∧ DatumOrd.lt x.2 y.2 = true) ∨ (x.1 ≠ y.1 ∧ DatumOrd.lt x.1 y.1 = true) := by
  show (if x.1 = y.1 then DatumOrd.lt x.2 y.2 else DatumOrd.lt x.1 y.1) = true ↔ _
  by_cases h : x.1 = y.1
  · rw [if_pos h]
    exact ⟨fun q => .inl ⟨h, q⟩, fun q => q.elim (fun q => q.2) fun q => (q.1 h).elim⟩
  · rw [if_neg h]
    exact ⟨fun q => .inr ⟨h, q⟩, fun q => q.elim (fun q => (h q.1).elim) fun q => q.2⟩
theorem lt_ne {x y : a} (h : DatumOrd.lt x y = true) : x ≠ y := fun e => by rw [e] at h; exact LtOk.irr y h
instance : LtOk (a × b) where
  irr x h := by
    rcases lt_p.mp h with ⟨_, q⟩ | ⟨q, _⟩
    · exact LtOk.irr _ q
    · exact q rfl
  tr x y z h1 h2 := by
    refine lt_p.mpr ?_
    rcases lt_p.mp h1 with ⟨e1, q1⟩ | ⟨_, q1⟩ <;> rcases lt_p.mp h2 with ⟨e2, q2⟩ | ⟨_, q2⟩
    · exact .inl ⟨e1.trans e2, LtOk.tr _ _ _ q1 q2⟩
    · rw [← e1] at q2; exact .inr ⟨lt_ne q2, q2⟩
    · rw [e2] at q1; exact .inr ⟨lt_ne q1, q1⟩
    · have := LtOk.tr _ _ _ q1 q2; exact .inr ⟨lt_ne this, this⟩
  tri x y := by
    rcases LtOk.tri x.1 y.1 with h | h | h
    · exact .inl (lt_p.mpr (.inr ⟨lt_ne h, h⟩))
    · rcases LtOk.tri x.2 y.2 with q | q | q
      · exact .inl (lt_p.mpr (.inl ⟨h, q⟩))
      · exact .inr (.inl (Prod.ext h q))
      · exact .inr (.inr (lt_p.mpr (.inl ⟨h.symm, q⟩)))
    · exact .inr (.inr (lt_p.mpr (.inr ⟨lt_ne h, h⟩)))
theorem lt_l {x y : a} {xs ys : List a} : DatumOrd.lt (x :: xs) (y :: ys) = true ↔ (x = y ∧ DatumOrd.lt xs ys = true) ∨ (x ≠ y ∧ DatumOrd.lt x y = true) := by
  show (if x = y then DatumOrd.lt xs ys else DatumOrd.lt x y) = true ↔ _
  by_cases h : x = y
  · rw [if_pos h]
    exact ⟨fun q => .inl ⟨h, q⟩, fun q => q.elim (fun q => q.2) fun q => (q.1 h).elim⟩
  · rw [if_neg h]
    exact ⟨fun q => .inr ⟨h, q⟩, fun q => q.elim (fun q => (h q.1).elim) fun q => q.2⟩
theorem l_irr : ∀ x : List a, ¬ DatumOrd.lt x x = true
  | [], h => nomatch (show false = true from h)
  | x :: xs, h => by
    rcases lt_l.mp h with ⟨_, q⟩ | ⟨q, _⟩
    · exact l_irr xs q
    · exact q rfl
theorem l_tr : ∀ x y z : List a, DatumOrd.lt x y = true → DatumOrd.lt y z = true → DatumOrd.lt x z = true
  | [], [], _, h, _ => nomatch (show false = true from h)
  | [], y :: ys, [], _, h => nomatch (show false = true from h)
  | [], y :: ys, z :: zs, _, _ => rfl
  | x :: xs, [], _, h, _ => nomatch (show false = true from h)
  | x :: xs, y :: ys, [], _, h => nomatch (show false = true from h)
  | x :: xs, y :: ys, z :: zs, h1, h2 => by
    refine lt_l.mpr ?_
    rcases lt_l.mp h1 with ⟨e1, q1⟩ | ⟨_, q1⟩ <;> rcases lt_l.mp h2 with ⟨e2, q2⟩ | ⟨_, q2⟩
    · exact .inl ⟨e1.trans e2, l_tr _ _ _ q1 q2⟩
    · rw [← e1] at q2; exact .inr ⟨lt_ne q2, q2⟩
    · rw [e2] at q1; exact .inr ⟨lt_ne q1, q1⟩
    · have := LtOk.tr _ _ _ q1 q2; exact .inr ⟨lt_ne this, this⟩
theorem l_tri : ∀ x y : List a, DatumOrd.lt x y = true ∨ x = y ∨ DatumOrd.lt y x = true
  | [], [] => .inr (.inl rfl)
  | [], _ :: _ => .inl rfl
  | _ :: _, [] => .inr (.inr rfl)
  | x :: xs, y :: ys => by
    rcases LtOk.tri x y with h | h | h
    · exact .inl (lt_l.mpr (.inr ⟨lt_ne h, h⟩))
    · rcases l_tri xs ys with q | q | q
      · exact .inl (lt_l.mpr (.inl ⟨h, q⟩))
      · exact .inr (.inl (by rw [h, q]))
      · exact .inr (.inr (lt_l.mpr (.inl ⟨h.symm, q⟩)))
    · exact .inr (.inr (lt_l.mpr (.inr ⟨lt_ne h, h⟩)))
instance : LtOk (List a) where
  irr := l_irr
  tr := l_tr
  tri := l_tri
end
instance : LeOk ((Int × Int) × List Int) := LtOk.le

theorem all_rows_ok (t : Tr) (ht : TreeOk t) (hn : t.1.length ≤ 100000) {r : Rule} {many : Int} (R : RuleOk r many) {w : Int → Int → Nat} {f : Int → Int → List Int} (RF : RowsF t r many w f) :
    m_all_rows t r = .ok ((brs t).map fun p => (p, f p.1 p.2)) := by
  obtain ⟨rows, h1, h2⟩ := rows_known_ok t ht hn RF
  have hlen := ht.len
  have bl := brs_len (t := t)
  unfold m_all_rows
  rw [bind_ok (show m_need_rule r = .ok () by unfold m_need_rule; rw [bind_ok (is_rule_ok R), if_pos rfl])]
  rw [bind_ok h1, bind_ok (show m_every_branch t = .ok (brs t) by unfold m_every_branch; rw [bind_ok (lengths_ok t ht (by omega))]; rfl)]
  rw [bind_ok (compS_pure (fun p => some (p, f p.1 p.2)) (by omega) fun p hp => by
    obtain ⟨l, hs⟩ := (near_step ht).mp ((brs_mem ht).mp hp)
    rw [opt_b (h2 p.1 p.2 l hs)])]
  rw [List.filterMap_eq_map']
theorem told_get {t : Tr} (ht : TreeOk t) {f : Int → Int → List Int} {a b l : Int} (h : Step t a b l) : dGet (mergeDT ((brs t).map fun p => (p, f p.1 p.2))) (a, b) = some (f a b) := by
  have k0 : ((brs t).map fun p => (p, f p.1 p.2)).map (·.1) = brs t := by rw [List.map_map]; exact List.map_id (brs t)
  have e0 : mergeDT ((brs t).map fun p => (p, f p.1 p.2)) = (brs t).map fun p => (p, f p.1 p.2) := by
    unfold mergeDT
    rw [merge_newT (by rw [List.nil_append, k0]; exact brs_nd ht)]
    rfl
  rw [e0]
  exact dGet_mem (by rw [k0]; exact brs_nd ht) (List.mem_map.mpr ⟨(a, b), (brs_mem ht).mpr ((near_step ht).mpr ⟨l, h⟩), rfl⟩)

/-! ### the rows that are due -/
theorem rowsF_sorted {t : Tr} (ht : TreeOk t) (f : Int → Int → List Int) : sortT ((brs t).map fun p => (p, f p.1 p.2)) = (brs t).map fun p => (p, f p.1 p.2) := by
  refine sortT_id ?_
  refine List.pairwise_map.mpr ?_
  have h1 : (brs t).Pairwise fun x y => leT x y = true := sortT_sorted _
  have h2 : (brs t).Pairwise fun x y => x ≠ y := brs_nd ht
  refine (h1.and h2).imp fun {p q} ⟨a, b⟩ => ?_
  show (!DatumOrd.lt ((q, f q.1 q.2) : (Int × Int) × List Int) (p, f p.1 p.2)) = true
  have : ¬ DatumOrd.lt ((q, f q.1 q.2) : (Int × Int) × List Int) (p, f p.1 p.2) = true := fun z => by
    rcases lt_p.mp z with ⟨e, _⟩ | ⟨_, e⟩
    · exact b e.symm
    · have a : (!DatumOrd.lt q p) = true := a
      have e : DatumOrd.lt q p = true := e
      rw [e] at a
      exact nomatch a
  rw [Bool.eq_false_iff.mpr this]
  rfl
def dueL (f : Int → Int → List Int) (ts : List Tie) : List ((Int × Int) × List Int) := ts.flatMap fun z => [((z.a, z.b), f z.a z.b), ((z.b, z.a), f z.b z.a)]
theorem dueL_map (f : Int → Int → List Int) : ∀ ts : List Tie, dueL f ts = ((lenOf ts).map (·.1)).map fun p => (p, f p.1 p.2)
  | [] => rfl
  | z :: ts => by
    show ((z.a, z.b), f z.a z.b) :: ((z.b, z.a), f z.b z.a) :: dueL f ts = _
    rw [dueL_map f ts]
    rfl
theorem due_ok {t : Tr} (ht : TreeOk t) (hn : t.1.length ≤ 100000) {r : Rule} {many : Int} {w : Int → Int → Nat} {f : Int → Int → List Int} (RF : RowsF t r many w f) :
    m_law_due t r = .ok ((brs t).map fun p => (p, f p.1 p.2)) := by
  have hlen := ht.len
  unfold m_law_due
  refine ok_of (loopN_runB (fun pre (st : List ((Int × Int) × List Int)) => st = dueL f pre) rfl ?_ ?_)
  · intro pre z post st ea es
    subst es
    have hz : z ∈ t.2 := by rw [ea]; simp
    have hpl : pre.length ≤ t.2.length := by rw [ea, List.length_append]; omega
    have hdl : (dueL f pre).length ≤ 2 * pre.length := by rw [dueL_map, List.length_map, List.length_map, lenOf_len]; omega
    have s1 : Step t z.a z.b z.c := ⟨z, hz, .inl ⟨rfl, rfl⟩, rfl⟩
    refine ⟨(dueL f pre ++ [((z.a, z.b), f z.a z.b)]) ++ [((z.b, z.a), f z.b z.a)], ?_, ?_⟩
    · rw [bind_ok (RF.law z.a z.b z.c s1 100 (by decide)), bind_ok (appL_ok (by omega)), bind_ok (RF.law z.b z.a z.c (step_sym s1) 100 (by decide)), bind_ok (appL_ok (by rw [List.length_append, List.length_singleton]; omega))]
    · show (dueL f pre ++ [((z.a, z.b), f z.a z.b)]) ++ [((z.b, z.a), f z.b z.a)] = dueL f (pre ++ [z])
      unfold dueL
      rw [List.flatMap_append, List.append_assoc]
      rfl
  · intro st es
    subst es
    refine ⟨_, rfl, ?_⟩
    rw [dueL_map, ← rowsF_sorted ht f]
    exact sortT_eq ((sortT_perm _).symm.map _)
theorem law_true (ns : List Int) (h : ns.length ≤ 63) : m_law ns = .ok true := by
  unfold m_law
  have hc := cut10 ns 2
  have hc : (cutL ns none (some (2 : Int))).length ≤ ns.length := hc
  rw [chk_b (show ([((10 : Int) ^ Int.toNat (18 : Int))]).length + (cutL ns none (some (2 : Int))).length < 16777216 by simp only [List.length_singleton]; omega)]
  rw [bind_ok (loopM_all fun c _ => ?_)]
  obtain ⟨d, e1⟩ := deck_ok c
  rw [bind_ok e1]
  obtain ⟨k, d1, e2, k0, k4⟩ := take_small d 4 (by decide) (by decide)
  rw [bind_ok e2]
  obtain ⟨m, e3, e3'⟩ := atI_some (xs := [(8 : Int), 8, 8, 40]) (j := k) k0 (by simpa using k4)
  have hm : m = 8 ∨ m = 40 := by
    have hm := List.mem_of_getElem? e3'
    simp only [List.mem_cons, List.not_mem_nil, or_false] at hm
    omega
  show (opt (atI [(8 : Int), 8, 8, 40] k) >>= _) = _
  rw [opt_b e3]
  obtain ⟨t, r, many, d2, e4, ht, hl, R, w1, w2⟩ := case_ok d1 m (by omega) (by omega)
  show (m_law_case [d1] m >>= _) = _
  rw [bind_ok e4]
  have hlen := ht.len
  have hpos := ht.pos
  have hn : t.1.length ≤ 40 := by omega
  have hdep := rule_dep R
  obtain ⟨w, f, RF⟩ := rowsF t ht hn R w1 w2
  obtain ⟨rows, erows⟩ : ∃ z, z = (brs t).map fun p => (p, f p.1 p.2) := ⟨_, rfl⟩
  have hrl : rows.length = 2 * t.2.length := by rw [erows, List.length_map, brs_len]
  have hlr : ∀ e ∈ rows, (e.2.length : Int) = many := fun e he => by
    rw [erows] at he
    obtain ⟨p, hp, rfl⟩ := List.mem_map.mp he
    obtain ⟨l, hs⟩ := (near_step ht).mp ((brs_mem ht).mp hp)
    exact RF.len _ _ l hs
  have hm3 : many ≤ 3 := R.m2
  have hra : (r.a.length : Int) = many := R.la
  show (m_law_due t r >>= _) = _
  rw [bind_ok (due_ok ht (by omega) RF), ← erows]
  show (m_law_copied t >>= _) = _
  rw [bind_ok (show m_law_copied t = .ok t from rfl)]
  rw [chk_b (show okR 2 by decide)]
  refine loopM_allB (fun q _ => ?_) rfl
  show (m_all_rows t r >>= _) = _
  rw [bind_ok (all_rows_ok t ht (by omega) R RF), ← erows, if_neg (fun z => z rfl)]
  show (if t ≠ t then _ else _) = _
  rw [if_neg (fun z => z rfl)]
  show (chk (min (dep r) (dep r) ≤ 60) >>= _) = _
  rw [chk_b (show min (dep r) (dep r) ≤ 60 by rw [Nat.min_self]; exact hdep)]
  show (if r ≠ r then _ else _) = _
  rw [if_neg (fun z => z rfl)]
  rw [chk_b (show (List.map (fun (x : (Int × Int) × List Int) => x.1) rows).Nodup by rw [erows, List.map_map]; exact (List.map_id (brs t)).symm ▸ brs_nd ht)]
  refine loopM_allB (fun e he => ?_) ?_
  · have := hlr e he
    rw [bind_ok (are_whole_ok e.2 (by omega)), if_pos rfl, bind_ok (appL_ok (by omega))]
  show (compS _ (List.map (pushR (0 : Int)) rows) () >>= _) = _
  refine compS_mapB (fun e => (e.2.length : Int)) (by rw [List.length_map]; omega) (fun e _ => rfl) ?_
  rw [chk_b (show CRep ([((r.a.length : Int) + (1 : Int))]).length (rows.length : Int) by refine ⟨?_, ?_, ?_⟩ <;> first | (simp only [List.length_singleton]; omega) | omega)]
  have e : (rows.map (pushR (0 : Int))).map (fun e => (e.2.length : Int)) = repL (rows.length : Int) ([((r.a.length : Int) + (1 : Int))]) := by
    rw [List.map_map]
    refine List.ext_getElem? fun n => ?_
    unfold repL
    rw [show (List.replicate (rows.length : Int).toNat [((r.a.length : Int) + (1 : Int))]).flatten = List.replicate rows.length ((r.a.length : Int) + (1 : Int)) by
      rw [show (rows.length : Int).toNat = rows.length by omega]
      induction rows.length with
      | zero => rfl
      | succ n ih => rw [List.replicate_succ, List.flatten_cons, ih]; rfl]
    rw [List.getElem?_map]
    cases q : rows[n]? with
    | none =>
      have := List.getElem?_eq_none_iff.mp q
      rw [List.getElem?_replicate, if_neg (by omega)]
      rfl
    | some e =>
      have h1 := (List.getElem?_eq_some_iff.mp q).1
      have h2 := hlr e (List.mem_of_getElem? q)
      rw [List.getElem?_replicate, if_pos h1]
      show some (((e.2 ++ [(0 : Int)]).length : Nat) : Int) = _
      rw [List.length_append, List.length_singleton]
      congr 1
      omega
  show (if (rows.map (pushR (0 : Int))).map (fun e => (e.2.length : Int)) ≠ repL (rows.length : Int) ([((r.a.length : Int) + (1 : Int))]) then _ else _) = _
  rw [e, if_neg (fun z => z rfl)]
  rw [bind_ok (appL_ok (by rw [List.length_map]; omega))]

theorem all_mk {P : Program} {w : World} {K : PySem.W.Frag} {h : Heap} {mg : Str → Option Value} {fa f1 f2 f3 f4 f5 f6 f7 f8 f9 f10 f11 f12 f13 f14 f15 f16 f17 f18 f19 f20 f21 f22 f23 f24 f25 f26 f27 f28 f29 f30 f31 f32 f33 C_NoRule : Addr} {od1 an1 od2 an2 od3 an3 od4 an4 od5 an5 od6 an6 od7 an7 od8 an8 od9 an9 od10 an10 od11 an11 od12 an12 od13 an13 od14 an14 od15 an15 od16 an16 od17 an17 od18 an18 od19 an19 od20 an20 od21 an21 od22 an22 od23 an23 od24 an24 od25 an25 od26 an26 od27 an27 od28 an28 od29 an29 od30 an30 od31 an31 od32 an32 od33 an33 : Option Addr} {sl1 sl2 sl3 sl4 sl5 sl6 sl7 sl8 sl9 sl10 sl11 sl12 sl13 sl14 sl15 sl16 sl17 sl18 sl19 sl20 sl21 sl22 sl23 sl24 sl25 sl26 sl27 sl28 sl29 sl30 sl31 sl32 sl33 : Array (Option Value)} {oc1 kV1 dc1 pm1 cd1 ct1 oc2 kV2 dc2 pm2 cd2 ct2 oc3 kV3 dc3 pm3 cd3 ct3 oc4 kV4 dc4 pm4 cd4 ct4 oc5 kV5 dc5 pm5 cd5 ct5 oc6 kV6 dc6 pm6 cd6 ct6 oc7 kV7 dc7 pm7 cd7 ct7 oc8 kV8 dc8 pm8 cd8 ct8 oc9 kV9 dc9 pm9 cd9 ct9 oc10 kV10 dc10 pm10 cd10 ct10 oc11 kV11 dc11 pm11 cd11 ct11 oc12 kV12 dc12 pm12 cd12 ct12 oc13 kV13 dc13 pm13 cd13 ct13 oc14 kV14 dc14 pm14 cd14 ct14 oc15 kV15 dc15 pm15 cd15 ct15 oc16 kV16 dc16 pm16 cd16 ct16 oc17 kV17 dc17 pm17 cd17 ct17 oc18 kV18 dc18 pm18 cd18 ct18 oc19 kV19 dc19 pm19 cd19 ct19 oc20 kV20 dc20 pm20 cd20 ct20 oc21 kV21 dc21 pm21 cd21 ct21 oc22 kV22 dc22 pm22 cd22 ct22 oc23 kV23 dc23 pm23 cd23 ct23 oc24 kV24 dc24 pm24 cd24 ct24 oc25 kV25 dc25 pm25 cd25 ct25 oc26 kV26 dc26 pm26 cd26 ct26 oc27 kV27 dc27 pm27 cd27 ct27 oc28 kV28 dc28 pm28 cd28 ct28 oc29 kV29 dc29 pm29 cd29 ct29 oc30 kV30 dc30 pm30 cd30 ct30 oc31 kV31 dc31 pm31 cd31 ct31 oc32 kV32 dc32 pm32 cd32 ct32 oc33 kV33 dc33 pm33 cd33 ct33 : Value} {tk_MOST : Tok} (X : K.In h) (G : h.Ns mainGlobals mg) (hfa : mg "law" = some (.ref fa))
    (a1 : PySem.W.nsIn K mainGlobals "may_stand" = some (some (.ref f1))) (l1 : K.lookup f1 = some ⟨oc1, od1, .func (PySem.W.fnOf "may_stand" "may_stand" (defArgs s_may_stand) (defBody s_may_stand) (defScope s_may_stand) .none kV1 dc1 pm1 an1 cd1 ct1), sl1⟩) (c1 : PySem.W.codeIn K cd1 "may_stand" = true) (k1 : PySem.W.keepIn K (.ref f1) = true)
    (a2 : PySem.W.nsIn K mainGlobals "is_rule" = some (some (.ref f2))) (l2 : K.lookup f2 = some ⟨oc2, od2, .func (PySem.W.fnOf "is_rule" "is_rule" (defArgs s_is_rule) (defBody s_is_rule) (defScope s_is_rule) .none kV2 dc2 pm2 an2 cd2 ct2), sl2⟩) (c2 : PySem.W.codeIn K cd2 "is_rule" = true) (k2 : PySem.W.keepIn K (.ref f2) = true)
    (a3 : PySem.W.nsIn K mainGlobals "need_rule" = some (some (.ref f3))) (l3 : K.lookup f3 = some ⟨oc3, od3, .func (PySem.W.fnOf "need_rule" "need_rule" (defArgs s_need_rule) (defBody s_need_rule) (defScope s_need_rule) .none kV3 dc3 pm3 an3 cd3 ct3), sl3⟩) (c3 : PySem.W.codeIn K cd3 "need_rule" = true) (k3 : PySem.W.keepIn K (.ref f3) = true)
    (a4 : PySem.W.nsIn K mainGlobals "sum_at" = some (some (.ref f4))) (l4 : K.lookup f4 = some ⟨oc4, od4, .func (PySem.W.fnOf "sum_at" "sum_at" (defArgs s_sum_at) (defBody s_sum_at) (defScope s_sum_at) .none kV4 dc4 pm4 an4 cd4 ct4), sl4⟩) (c4 : PySem.W.codeIn K cd4 "sum_at" = true) (k4 : PySem.W.keepIn K (.ref f4) = true)
    (a5 : PySem.W.nsIn K mainGlobals "begun" = some (some (.ref f5))) (l5 : K.lookup f5 = some ⟨oc5, od5, .func (PySem.W.fnOf "begun" "begun" (defArgs s_begun) (defBody s_begun) (defScope s_begun) .none kV5 dc5 pm5 an5 cd5 ct5), sl5⟩) (c5 : PySem.W.codeIn K cd5 "begun" = true) (k5 : PySem.W.keepIn K (.ref f5) = true)
    (a6 : PySem.W.nsIn K mainGlobals "joined" = some (some (.ref f6))) (l6 : K.lookup f6 = some ⟨oc6, od6, .func (PySem.W.fnOf "joined" "joined" (defArgs s_joined) (defBody s_joined) (defScope s_joined) .none kV6 dc6 pm6 an6 cd6 ct6), sl6⟩) (c6 : PySem.W.codeIn K cd6 "joined" = true) (k6 : PySem.W.keepIn K (.ref f6) = true)
    (a7 : PySem.W.nsIn K mainGlobals "over_tie" = some (some (.ref f7))) (l7 : K.lookup f7 = some ⟨oc7, od7, .func (PySem.W.fnOf "over_tie" "over_tie" (defArgs s_over_tie) (defBody s_over_tie) (defScope s_over_tie) .none kV7 dc7 pm7 an7 cd7 ct7), sl7⟩) (c7 : PySem.W.codeIn K cd7 "over_tie" = true) (k7 : PySem.W.keepIn K (.ref f7) = true)
    (a8 : PySem.W.nsIn K mainGlobals "tied_places" = some (some (.ref f8))) (l8 : K.lookup f8 = some ⟨oc8, od8, .func (PySem.W.fnOf "tied_places" "tied_places" (defArgs s_tied_places) (defBody s_tied_places) (defScope s_tied_places) .none kV8 dc8 pm8 an8 cd8 ct8), sl8⟩) (c8 : PySem.W.codeIn K cd8 "tied_places" = true) (k8 : PySem.W.keepIn K (.ref f8) = true)
    (a9 : PySem.W.nsIn K mainGlobals "lengths_of" = some (some (.ref f9))) (l9 : K.lookup f9 = some ⟨oc9, od9, .func (PySem.W.fnOf "lengths_of" "lengths_of" (defArgs s_lengths_of) (defBody s_lengths_of) (defScope s_lengths_of) .none kV9 dc9 pm9 an9 cd9 ct9), sl9⟩) (c9 : PySem.W.codeIn K cd9 "lengths_of" = true) (k9 : PySem.W.keepIn K (.ref f9) = true)
    (a10 : PySem.W.nsIn K mainGlobals "every_branch" = some (some (.ref f10))) (l10 : K.lookup f10 = some ⟨oc10, od10, .func (PySem.W.fnOf "every_branch" "every_branch" (defArgs s_every_branch) (defBody s_every_branch) (defScope s_every_branch) .none kV10 dc10 pm10 an10 cd10 ct10), sl10⟩) (c10 : PySem.W.codeIn K cd10 "every_branch" = true) (k10 : PySem.W.keepIn K (.ref f10) = true)
    (a11 : PySem.W.nsIn K mainGlobals "row_with" = some (some (.ref f11))) (l11 : K.lookup f11 = some ⟨oc11, od11, .func (PySem.W.fnOf "row_with" "row_with" (defArgs s_row_with) (defBody s_row_with) (defScope s_row_with) .none kV11 dc11 pm11 an11 cd11 ct11), sl11⟩) (c11 : PySem.W.codeIn K cd11 "row_with" = true) (k11 : PySem.W.keepIn K (.ref f11) = true)
    (a12 : PySem.W.nsIn K mainGlobals "order_of" = some (some (.ref f12))) (l12 : K.lookup f12 = some ⟨oc12, od12, .func (PySem.W.fnOf "order_of" "order_of" (defArgs s_order_of) (defBody s_order_of) (defScope s_order_of) .none kV12 dc12 pm12 an12 cd12 ct12), sl12⟩) (c12 : PySem.W.codeIn K cd12 "order_of" = true) (k12 : PySem.W.keepIn K (.ref f12) = true)
    (a13 : PySem.W.nsIn K mainGlobals "rows_known" = some (some (.ref f13))) (l13 : K.lookup f13 = some ⟨oc13, od13, .func (PySem.W.fnOf "rows_known" "rows_known" (defArgs s_rows_known) (defBody s_rows_known) (defScope s_rows_known) .none kV13 dc13 pm13 an13 cd13 ct13), sl13⟩) (c13 : PySem.W.codeIn K cd13 "rows_known" = true) (k13 : PySem.W.keepIn K (.ref f13) = true)
    (a14 : PySem.W.nsIn K mainGlobals "all_rows" = some (some (.ref f14))) (l14 : K.lookup f14 = some ⟨oc14, od14, .func (PySem.W.fnOf "all_rows" "all_rows" (defArgs s_all_rows) (defBody s_all_rows) (defScope s_all_rows) .none kV14 dc14 pm14 an14 cd14 ct14), sl14⟩) (c14 : PySem.W.codeIn K cd14 "all_rows" = true) (k14 : PySem.W.keepIn K (.ref f14) = true)
    (a15 : PySem.W.nsIn K mainGlobals "_law_stir" = some (some (.ref f15))) (l15 : K.lookup f15 = some ⟨oc15, od15, .func (PySem.W.fnOf "_law_stir" "_law_stir" (defArgs s_law_stir) (defBody s_law_stir) (defScope s_law_stir) .none kV15 dc15 pm15 an15 cd15 ct15), sl15⟩) (c15 : PySem.W.codeIn K cd15 "_law_stir" = true) (k15 : PySem.W.keepIn K (.ref f15) = true)
    (a16 : PySem.W.nsIn K mainGlobals "_law_deck" = some (some (.ref f16))) (l16 : K.lookup f16 = some ⟨oc16, od16, .func (PySem.W.fnOf "_law_deck" "_law_deck" (defArgs s_law_deck) (defBody s_law_deck) (defScope s_law_deck) .none kV16 dc16 pm16 an16 cd16 ct16), sl16⟩) (c16 : PySem.W.codeIn K cd16 "_law_deck" = true) (k16 : PySem.W.keepIn K (.ref f16) = true)
    (a17 : PySem.W.nsIn K mainGlobals "_law_take" = some (some (.ref f17))) (l17 : K.lookup f17 = some ⟨oc17, od17, .func (PySem.W.fnOf "_law_take" "_law_take" (defArgs s_law_take) (defBody s_law_take) (defScope s_law_take) .none kV17 dc17 pm17 an17 cd17 ct17), sl17⟩) (c17 : PySem.W.codeIn K cd17 "_law_take" = true) (k17 : PySem.W.keepIn K (.ref f17) = true)
    (a18 : PySem.W.nsIn K mainGlobals "_law_whole" = some (some (.ref f18))) (l18 : K.lookup f18 = some ⟨oc18, od18, .func (PySem.W.fnOf "_law_whole" "_law_whole" (defArgs s_law_whole) (defBody s_law_whole) (defScope s_law_whole) .none kV18 dc18 pm18 an18 cd18 ct18), sl18⟩) (c18 : PySem.W.codeIn K cd18 "_law_whole" = true) (k18 : PySem.W.keepIn K (.ref f18) = true)
    (a19 : PySem.W.nsIn K mainGlobals "_law_are_whole" = some (some (.ref f19))) (l19 : K.lookup f19 = some ⟨oc19, od19, .func (PySem.W.fnOf "_law_are_whole" "_law_are_whole" (defArgs s_law_are_whole) (defBody s_law_are_whole) (defScope s_law_are_whole) .none kV19 dc19 pm19 an19 cd19 ct19), sl19⟩) (c19 : PySem.W.codeIn K cd19 "_law_are_whole" = true) (k19 : PySem.W.keepIn K (.ref f19) = true)
    (a20 : PySem.W.nsIn K mainGlobals "_law_number" = some (some (.ref f20))) (l20 : K.lookup f20 = some ⟨oc20, od20, .func (PySem.W.fnOf "_law_number" "_law_number" (defArgs s_law_number) (defBody s_law_number) (defScope s_law_number) .none kV20 dc20 pm20 an20 cd20 ct20), sl20⟩) (c20 : PySem.W.codeIn K cd20 "_law_number" = true) (k20 : PySem.W.keepIn K (.ref f20) = true)
    (a21 : PySem.W.nsIn K mainGlobals "_law_order" = some (some (.ref f21))) (l21 : K.lookup f21 = some ⟨oc21, od21, .func (PySem.W.fnOf "_law_order" "_law_order" (defArgs s_law_order) (defBody s_law_order) (defScope s_law_order) .none kV21 dc21 pm21 an21 cd21 ct21), sl21⟩) (c21 : PySem.W.codeIn K cd21 "_law_order" = true) (k21 : PySem.W.keepIn K (.ref f21) = true)
    (a22 : PySem.W.nsIn K mainGlobals "_law_tree" = some (some (.ref f22))) (l22 : K.lookup f22 = some ⟨oc22, od22, .func (PySem.W.fnOf "_law_tree" "_law_tree" (defArgs s_law_tree) (defBody s_law_tree) (defScope s_law_tree) .none kV22 dc22 pm22 an22 cd22 ct22), sl22⟩) (c22 : PySem.W.codeIn K cd22 "_law_tree" = true) (k22 : PySem.W.keepIn K (.ref f22) = true)
    (a23 : PySem.W.nsIn K mainGlobals "_law_copied" = some (some (.ref f23))) (l23 : K.lookup f23 = some ⟨oc23, od23, .func (PySem.W.fnOf "_law_copied" "_law_copied" (defArgs s_law_copied) (defBody s_law_copied) (defScope s_law_copied) .none kV23 dc23 pm23 an23 cd23 ct23), sl23⟩) (c23 : PySem.W.codeIn K cd23 "_law_copied" = true) (k23 : PySem.W.keepIn K (.ref f23) = true)
    (a24 : PySem.W.nsIn K mainGlobals "_law_leaf" = some (some (.ref f24))) (l24 : K.lookup f24 = some ⟨oc24, od24, .func (PySem.W.fnOf "_law_leaf" "_law_leaf" (defArgs s_law_leaf) (defBody s_law_leaf) (defScope s_law_leaf) .none kV24 dc24 pm24 an24 cd24 ct24), sl24⟩) (c24 : PySem.W.codeIn K cd24 "_law_leaf" = true) (k24 : PySem.W.keepIn K (.ref f24) = true)
    (a25 : PySem.W.nsIn K mainGlobals "_law_sum" = some (some (.ref f25))) (l25 : K.lookup f25 = some ⟨oc25, od25, .func (PySem.W.fnOf "_law_sum" "_law_sum" (defArgs s_law_sum) (defBody s_law_sum) (defScope s_law_sum) .none kV25 dc25 pm25 an25 cd25 ct25), sl25⟩) (c25 : PySem.W.codeIn K cd25 "_law_sum" = true) (k25 : PySem.W.keepIn K (.ref f25) = true)
    (a26 : PySem.W.nsIn K mainGlobals "_law_rule" = some (some (.ref f26))) (l26 : K.lookup f26 = some ⟨oc26, od26, .func (PySem.W.fnOf "_law_rule" "_law_rule" (defArgs s_law_rule) (defBody s_law_rule) (defScope s_law_rule) .none kV26 dc26 pm26 an26 cd26 ct26), sl26⟩) (c26 : PySem.W.codeIn K cd26 "_law_rule" = true) (k26 : PySem.W.keepIn K (.ref f26) = true)
    (a27 : PySem.W.nsIn K mainGlobals "_law_case" = some (some (.ref f27))) (l27 : K.lookup f27 = some ⟨oc27, od27, .func (PySem.W.fnOf "_law_case" "_law_case" (defArgs s_law_case) (defBody s_law_case) (defScope s_law_case) .none kV27 dc27 pm27 an27 cd27 ct27), sl27⟩) (c27 : PySem.W.codeIn K cd27 "_law_case" = true) (k27 : PySem.W.keepIn K (.ref f27) = true)
    (a28 : PySem.W.nsIn K mainGlobals "_law_value" = some (some (.ref f28))) (l28 : K.lookup f28 = some ⟨oc28, od28, .func (PySem.W.fnOf "_law_value" "_law_value" (defArgs s_law_value) (defBody s_law_value) (defScope s_law_value) .none kV28 dc28 pm28 an28 cd28 ct28), sl28⟩) (c28 : PySem.W.codeIn K cd28 "_law_value" = true) (k28 : PySem.W.keepIn K (.ref f28) = true)
    (a29 : PySem.W.nsIn K mainGlobals "_law_near" = some (some (.ref f29))) (l29 : K.lookup f29 = some ⟨oc29, od29, .func (PySem.W.fnOf "_law_near" "_law_near" (defArgs s_law_near) (defBody s_law_near) (defScope s_law_near) .none kV29 dc29 pm29 an29 cd29 ct29), sl29⟩) (c29 : PySem.W.codeIn K cd29 "_law_near" = true) (k29 : PySem.W.keepIn K (.ref f29) = true)
    (a30 : PySem.W.nsIn K mainGlobals "_law_row" = some (some (.ref f30))) (l30 : K.lookup f30 = some ⟨oc30, od30, .func (PySem.W.fnOf "_law_row" "_law_row" (defArgs s_law_row) (defBody s_law_row) (defScope s_law_row) .none kV30 dc30 pm30 an30 cd30 ct30), sl30⟩) (c30 : PySem.W.codeIn K cd30 "_law_row" = true) (k30 : PySem.W.keepIn K (.ref f30) = true)
    (a31 : PySem.W.nsIn K mainGlobals "_law_branch" = some (some (.ref f31))) (l31 : K.lookup f31 = some ⟨oc31, od31, .func (PySem.W.fnOf "_law_branch" "_law_branch" (defArgs s_law_branch) (defBody s_law_branch) (defScope s_law_branch) .none kV31 dc31 pm31 an31 cd31 ct31), sl31⟩) (c31 : PySem.W.codeIn K cd31 "_law_branch" = true) (k31 : PySem.W.keepIn K (.ref f31) = true)
    (a32 : PySem.W.nsIn K mainGlobals "_law_due" = some (some (.ref f32))) (l32 : K.lookup f32 = some ⟨oc32, od32, .func (PySem.W.fnOf "_law_due" "_law_due" (defArgs s_law_due) (defBody s_law_due) (defScope s_law_due) .none kV32 dc32 pm32 an32 cd32 ct32), sl32⟩) (c32 : PySem.W.codeIn K cd32 "_law_due" = true) (k32 : PySem.W.keepIn K (.ref f32) = true)
    (a33 : PySem.W.nsIn K mainGlobals "law" = some (some (.ref f33))) (l33 : K.lookup f33 = some ⟨oc33, od33, .func (PySem.W.fnOf "law" "law" (defArgs s_law) (defBody s_law) (defScope s_law) .none kV33 dc33 pm33 an33 cd33 ct33), sl33⟩) (c33 : PySem.W.codeIn K cd33 "law" = true) (k33 : PySem.W.keepIn K (.ref f33) = true)
    (ga_NoRule : PySem.W.nsIn K mainGlobals "NoRule" = some (some (.ref C_NoRule))) (gx_NoRule : PySem.W.excIn K C_NoRule [.type "ValueError", .type "Exception", .type "BaseException", .type "object"] "ValueError.__new__" = true) (gk_NoRule : PySem.W.keepIn K (.ref C_NoRule) = true) (gb_NoRule : PySem.W.subIn K (.ref C_NoRule) (.type "BaseException") = some true) (gt_NoRule : PySem.W.typeIn K (.ref C_NoRule) = some (.type "type"))
    (zc_MOST : PySem.W.nsIn K mainGlobals "MOST" = some (some (.int 3 tk_MOST)))
    (z_bool : PySem.W.nsIn K mainGlobals "bool" = some none)
    (z_dict : PySem.W.nsIn K mainGlobals "dict" = some none)
    (z_int : PySem.W.nsIn K mainGlobals "int" = some none)
    (z_isinstance : PySem.W.nsIn K mainGlobals "isinstance" = some none)
    (z_len : PySem.W.nsIn K mainGlobals "len" = some none)
    (z_list : PySem.W.nsIn K mainGlobals "list" = some none)
    (z_max : PySem.W.nsIn K mainGlobals "max" = some none)
    (z_min : PySem.W.nsIn K mainGlobals "min" = some none)
    (z_range : PySem.W.nsIn K mainGlobals "range" = some none)
    (z_sorted : PySem.W.nsIn K mainGlobals "sorted" = some none)
    (z_tuple : PySem.W.nsIn K mainGlobals "tuple" = some none) :
    ∃ fd : FuncData, (∀ (s : Shared) (v : Value), BindsTo s fd ⟨[v], []⟩ [("script", v)]) ∧ ∀ base : Heap, K.In base → base.Ns mainGlobals mg → FnOk P w K mg base (L2.CX P w) 162 fa fd ["script"] (sp_law K) := by
  haveI : KF K := ⟨⟩
  have e := hfa.symm.trans (PySem.W.mg_of X G a33)
  cases e
  have nb : Nb mg := ⟨PySem.W.mg_none_of X G z_bool, PySem.W.mg_none_of X G z_dict, PySem.W.mg_none_of X G z_int, PySem.W.mg_none_of X G z_isinstance, PySem.W.mg_none_of X G z_len, PySem.W.mg_none_of X G z_list, PySem.W.mg_none_of X G z_max, PySem.W.mg_none_of X G z_min, PySem.W.mg_none_of X G z_range, PySem.W.mg_none_of X G z_sorted, PySem.W.mg_none_of X G z_tuple, ⟨_, PySem.W.mg_of X G zc_MOST, ⟨_, rfl⟩⟩⟩
  have E_NoRule : ∃ C, Xc K mg "NoRule" C := ⟨C_NoRule, PySem.W.mg_of X G ga_NoRule, gx_NoRule, gk_NoRule, gb_NoRule, gt_NoRule⟩
  have F1 := fun_mk (x := "may_stand") (st := s_may_stand) l1 c1 k1
  have D_may_stand : Df K mg "may_stand" "may_stand" s_may_stand ["told", "leaves", "many"] := ⟨_, _, F1, PySem.W.mg_of X G a1, F1.binds (ps := ["told", "leaves", "many"]) fun _ _ _ _ _ _ us hl => match us, hl with | [_, _, _], _ => rfl⟩
  have F2 := fun_mk (x := "is_rule") (st := s_is_rule) l2 c2 k2
  have D_is_rule : Df K mg "is_rule" "is_rule" s_is_rule ["thing"] := ⟨_, _, F2, PySem.W.mg_of X G a2, F2.binds (ps := ["thing"]) fun _ _ _ _ _ _ us hl => match us, hl with | [_], _ => rfl⟩
  have F3 := fun_mk (x := "need_rule") (st := s_need_rule) l3 c3 k3
  have D_need_rule : Df K mg "need_rule" "need_rule" s_need_rule ["rule"] := ⟨_, _, F3, PySem.W.mg_of X G a3, F3.binds (ps := ["rule"]) fun _ _ _ _ _ _ us hl => match us, hl with | [_], _ => rfl⟩
  have F4 := fun_mk (x := "sum_at") (st := s_sum_at) l4 c4 k4
  have D_sum_at : Df K mg "sum_at" "sum_at" s_sum_at ["sum_told", "own", "tie", "so", "more"] := ⟨_, _, F4, PySem.W.mg_of X G a4, F4.binds (ps := ["sum_told", "own", "tie", "so", "more"]) fun _ _ _ _ _ _ us hl => match us, hl with | [_, _, _, _, _], _ => rfl⟩
  have F5 := fun_mk (x := "begun") (st := s_begun) l5 c5 k5
  have D_begun : Df K mg "begun" "begun" s_begun ["rule", "own"] := ⟨_, _, F5, PySem.W.mg_of X G a5, F5.binds (ps := ["rule", "own"]) fun _ _ _ _ _ _ us hl => match us, hl with | [_, _], _ => rfl⟩
  have F6 := fun_mk (x := "joined") (st := s_joined) l6 c6 k6
  have D_joined : Df K mg "joined" "joined" s_joined ["rule", "so", "more", "own"] := ⟨_, _, F6, PySem.W.mg_of X G a6, F6.binds (ps := ["rule", "so", "more", "own"]) fun _ _ _ _ _ _ us hl => match us, hl with | [_, _, _, _], _ => rfl⟩
  have F7 := fun_mk (x := "over_tie") (st := s_over_tie) l7 c7 k7
  have D_over_tie : Df K mg "over_tie" "over_tie" s_over_tie ["rule", "more", "own", "tie"] := ⟨_, _, F7, PySem.W.mg_of X G a7, F7.binds (ps := ["rule", "more", "own", "tie"]) fun _ _ _ _ _ _ us hl => match us, hl with | [_, _, _, _], _ => rfl⟩
  have F8 := fun_mk (x := "tied_places") (st := s_tied_places) l8 c8 k8
  have D_tied_places : Df K mg "tied_places" "tied_places" s_tied_places ["many", "ties"] := ⟨_, _, F8, PySem.W.mg_of X G a8, F8.binds (ps := ["many", "ties"]) fun _ _ _ _ _ _ us hl => match us, hl with | [_, _], _ => rfl⟩
  have F9 := fun_mk (x := "lengths_of") (st := s_lengths_of) l9 c9 k9
  have D_lengths_of : Df K mg "lengths_of" "lengths_of" s_lengths_of ["tree"] := ⟨_, _, F9, PySem.W.mg_of X G a9, F9.binds (ps := ["tree"]) fun _ _ _ _ _ _ us hl => match us, hl with | [_], _ => rfl⟩
  have F10 := fun_mk (x := "every_branch") (st := s_every_branch) l10 c10 k10
  have D_every_branch : Df K mg "every_branch" "every_branch" s_every_branch ["tree"] := ⟨_, _, F10, PySem.W.mg_of X G a10, F10.binds (ps := ["tree"]) fun _ _ _ _ _ _ us hl => match us, hl with | [_], _ => rfl⟩
  have F11 := fun_mk (x := "row_with") (st := s_row_with) l11 c11 k11
  have D_row_with : Df K mg "row_with" "row_with" s_row_with ["tree", "rule", "place", "near"] := ⟨_, _, F11, PySem.W.mg_of X G a11, F11.binds (ps := ["tree", "rule", "place", "near"]) fun _ _ _ _ _ _ us hl => match us, hl with | [_, _, _, _], _ => rfl⟩
  have F12 := fun_mk (x := "order_of") (st := s_order_of) l12 c12 k12
  have D_order_of : Df K mg "order_of" "order_of" s_order_of ["near", "branches"] := ⟨_, _, F12, PySem.W.mg_of X G a12, F12.binds (ps := ["near", "branches"]) fun _ _ _ _ _ _ us hl => match us, hl with | [_, _], _ => rfl⟩
  have F13 := fun_mk (x := "rows_known") (st := s_rows_known) l13 c13 k13
  have D_rows_known : Df K mg "rows_known" "rows_known" s_rows_known ["tree", "rule"] := ⟨_, _, F13, PySem.W.mg_of X G a13, F13.binds (ps := ["tree", "rule"]) fun _ _ _ _ _ _ us hl => match us, hl with | [_, _], _ => rfl⟩
  have F14 := fun_mk (x := "all_rows") (st := s_all_rows) l14 c14 k14
  have D_all_rows : Df K mg "all_rows" "all_rows" s_all_rows ["tree", "rule"] := ⟨_, _, F14, PySem.W.mg_of X G a14, F14.binds (ps := ["tree", "rule"]) fun _ _ _ _ _ _ us hl => match us, hl with | [_, _], _ => rfl⟩
  have F15 := fun_mk (x := "_law_stir") (st := s_law_stir) l15 c15 k15
  have D_law_stir : Df K mg "_law_stir" "_law_stir" s_law_stir ["cell", "k"] := ⟨_, _, F15, PySem.W.mg_of X G a15, F15.binds (ps := ["cell", "k"]) fun _ _ _ _ _ _ us hl => match us, hl with | [_, _], _ => rfl⟩
  have F16 := fun_mk (x := "_law_deck") (st := s_law_deck) l16 c16 k16
  have D_law_deck : Df K mg "_law_deck" "_law_deck" s_law_deck ["cell"] := ⟨_, _, F16, PySem.W.mg_of X G a16, F16.binds (ps := ["cell"]) fun _ _ _ _ _ _ us hl => match us, hl with | [_], _ => rfl⟩
  have F17 := fun_mk (x := "_law_take") (st := s_law_take) l17 c17 k17
  have D_law_take : Df K mg "_law_take" "_law_take" s_law_take ["deck", "many"] := ⟨_, _, F17, PySem.W.mg_of X G a17, F17.binds (ps := ["deck", "many"]) fun _ _ _ _ _ _ us hl => match us, hl with | [_, _], _ => rfl⟩
  have F18 := fun_mk (x := "_law_whole") (st := s_law_whole) l18 c18 k18
  have D_law_whole : Df K mg "_law_whole" "_law_whole" s_law_whole ["found"] := ⟨_, _, F18, PySem.W.mg_of X G a18, F18.binds (ps := ["found"]) fun _ _ _ _ _ _ us hl => match us, hl with | [_], _ => rfl⟩
  have F19 := fun_mk (x := "_law_are_whole") (st := s_law_are_whole) l19 c19 k19
  have D_law_are_whole : Df K mg "_law_are_whole" "_law_are_whole" s_law_are_whole ["found"] := ⟨_, _, F19, PySem.W.mg_of X G a19, F19.binds (ps := ["found"]) fun _ _ _ _ _ _ us hl => match us, hl with | [_], _ => rfl⟩
  have F20 := fun_mk (x := "_law_number") (st := s_law_number) l20 c20 k20
  have D_law_number : Df K mg "_law_number" "_law_number" s_law_number ["deck", "far"] := ⟨_, _, F20, PySem.W.mg_of X G a20, F20.binds (ps := ["deck", "far"]) fun _ _ _ _ _ _ us hl => match us, hl with | [_, _], _ => rfl⟩
  have F21 := fun_mk (x := "_law_order") (st := s_law_order) l21 c21 k21
  have D_law_order : Df K mg "_law_order" "_law_order" s_law_order ["deck", "many"] := ⟨_, _, F21, PySem.W.mg_of X G a21, F21.binds (ps := ["deck", "many"]) fun _ _ _ _ _ _ us hl => match us, hl with | [_, _], _ => rfl⟩
  have F22 := fun_mk (x := "_law_tree") (st := s_law_tree) l22 c22 k22
  have D_law_tree : Df K mg "_law_tree" "_law_tree" s_law_tree ["deck", "most", "far"] := ⟨_, _, F22, PySem.W.mg_of X G a22, F22.binds (ps := ["deck", "most", "far"]) fun _ _ _ _ _ _ us hl => match us, hl with | [_, _, _], _ => rfl⟩
  have F23 := fun_mk (x := "_law_copied") (st := s_law_copied) l23 c23 k23
  have D_law_copied : Df K mg "_law_copied" "_law_copied" s_law_copied ["tree"] := ⟨_, _, F23, PySem.W.mg_of X G a23, F23.binds (ps := ["tree"]) fun _ _ _ _ _ _ us hl => match us, hl with | [_], _ => rfl⟩
  have F24 := fun_mk (x := "_law_leaf") (st := s_law_leaf) l24 c24 k24
  have D_law_leaf : Df K mg "_law_leaf" "_law_leaf" s_law_leaf ["deck", "leaves", "many"] := ⟨_, _, F24, PySem.W.mg_of X G a24, F24.binds (ps := ["deck", "leaves", "many"]) fun _ _ _ _ _ _ us hl => match us, hl with | [_, _, _], _ => rfl⟩
  have F25 := fun_mk (x := "_law_sum") (st := s_law_sum) l25 c25 k25
  have D_law_sum : Df K mg "_law_sum" "_law_sum" s_law_sum ["deck", "leaves", "many", "deep", "times"] := ⟨_, _, F25, PySem.W.mg_of X G a25, F25.binds (ps := ["deck", "leaves", "many", "deep", "times"]) fun _ _ _ _ _ _ us hl => match us, hl with | [_, _, _, _, _], _ => rfl⟩
  have F26 := fun_mk (x := "_law_rule") (st := s_law_rule) l26 c26 k26
  have D_law_rule : Df K mg "_law_rule" "_law_rule" s_law_rule ["deck", "times"] := ⟨_, _, F26, PySem.W.mg_of X G a26, F26.binds (ps := ["deck", "times"]) fun _ _ _ _ _ _ us hl => match us, hl with | [_, _], _ => rfl⟩
  have F27 := fun_mk (x := "_law_case") (st := s_law_case) l27 c27 k27
  have D_law_case : Df K mg "_law_case" "_law_case" s_law_case ["deck", "most"] := ⟨_, _, F27, PySem.W.mg_of X G a27, F27.binds (ps := ["deck", "most"]) fun _ _ _ _ _ _ us hl => match us, hl with | [_, _], _ => rfl⟩
  have F28 := fun_mk (x := "_law_value") (st := s_law_value) l28 c28 k28
  have D_law_value : Df K mg "_law_value" "_law_value" s_law_value ["told", "known"] := ⟨_, _, F28, PySem.W.mg_of X G a28, F28.binds (ps := ["told", "known"]) fun _ _ _ _ _ _ us hl => match us, hl with | [_, _], _ => rfl⟩
  have F29 := fun_mk (x := "_law_near") (st := s_law_near) l29 c29 k29
  have D_law_near : Df K mg "_law_near" "_law_near" s_law_near ["tree", "place"] := ⟨_, _, F29, PySem.W.mg_of X G a29, F29.binds (ps := ["tree", "place"]) fun _ _ _ _ _ _ us hl => match us, hl with | [_, _], _ => rfl⟩
  have F30 := fun_mk (x := "_law_row") (st := s_law_row) l30 c30 k30
  have D_law_row : Df K mg "_law_row" "_law_row" s_law_row ["tree", "rule", "place", "without"] := ⟨_, _, F30, PySem.W.mg_of X G a30, F30.binds (ps := ["tree", "rule", "place", "without"]) fun _ _ _ _ _ _ us hl => match us, hl with | [_, _, _, _], _ => rfl⟩
  have F31 := fun_mk (x := "_law_branch") (st := s_law_branch) l31 c31 k31
  have D_law_branch : Df K mg "_law_branch" "_law_branch" s_law_branch ["tree", "rule", "a", "b", "length"] := ⟨_, _, F31, PySem.W.mg_of X G a31, F31.binds (ps := ["tree", "rule", "a", "b", "length"]) fun _ _ _ _ _ _ us hl => match us, hl with | [_, _, _, _, _], _ => rfl⟩
  have F32 := fun_mk (x := "_law_due") (st := s_law_due) l32 c32 k32
  have D_law_due : Df K mg "_law_due" "_law_due" s_law_due ["tree", "rule"] := ⟨_, _, F32, PySem.W.mg_of X G a32, F32.binds (ps := ["tree", "rule"]) fun _ _ _ _ _ _ us hl => match us, hl with | [_, _], _ => rfl⟩
  have F33 := fun_mk (x := "law") (st := s_law) l33 c33 k33
  refine ⟨PySem.W.fnOf "law" "law" (defArgs s_law) (defBody s_law) (defScope s_law) .none kV33 dc33 pm33 an33 cd33 ct33, fun s v => .of_eq rfl, fun base _ _ => ?_⟩
  have C_may_stand : Ca P w K mg base "may_stand" 61 ["told", "leaves", "many"] (sp_may_stand 60 mg) := ok_may_stand nb  D_may_stand 60
  have C_is_rule : Ca P w K mg base "is_rule" 62 ["thing"] (sp_is_rule mg) := ok_is_rule nb C_may_stand  D_is_rule
  have C_need_rule : Ca P w K mg base "need_rule" 63 ["rule"] (sp_need_rule mg) := ok_need_rule nb C_is_rule E_NoRule  D_need_rule
  have C_sum_at : Ca P w K mg base "sum_at" 13 ["sum_told", "own", "tie", "so", "more"] (sp_sum_at 12 mg) := ok_sum_at nb  D_sum_at 12
  have C_begun : Ca P w K mg base "begun" 14 ["rule", "own"] (sp_begun mg) := ok_begun nb C_sum_at  D_begun
  have C_joined : Ca P w K mg base "joined" 14 ["rule", "so", "more", "own"] (sp_joined mg) := ok_joined nb C_sum_at  D_joined
  have C_over_tie : Ca P w K mg base "over_tie" 14 ["rule", "more", "own", "tie"] (sp_over_tie mg) := ok_over_tie nb C_sum_at  D_over_tie
  have C_tied_places := ok_tied_places (P := P) (w := w) (base := base) nb D_tied_places
  have CO_tied_places := ok_tied_places_own (P := P) (w := w) (base := base) nb D_tied_places
  have C_lengths_of : Ca P w K mg base "lengths_of" 1 ["tree"] (sp_lengths_of mg) := ok_lengths_of nb  D_lengths_of
  have C_every_branch : Ca P w K mg base "every_branch" 2 ["tree"] (sp_every_branch mg) := ok_every_branch nb C_lengths_of  D_every_branch
  have C_row_with : Ca P w K mg base "row_with" 15 ["tree", "rule", "place", "near"] (sp_row_with mg) := ok_row_with nb C_begun C_joined  D_row_with
  have C_order_of : Ca P w K mg base "order_of" 1 ["near", "branches"] (sp_order_of mg) := ok_order_of nb  D_order_of
  have C_rows_known : Ca P w K mg base "rows_known" 16 ["tree", "rule"] (sp_rows_known mg) := ok_rows_known nb C_every_branch C_lengths_of C_order_of C_over_tie C_row_with C_tied_places  D_rows_known
  have C_all_rows : Ca P w K mg base "all_rows" 64 ["tree", "rule"] (sp_all_rows mg) := ok_all_rows nb C_every_branch C_need_rule C_rows_known  D_all_rows
  have C_law_stir : Ca P w K mg base "_law_stir" 1 ["cell", "k"] (sp_law_stir mg) := ok_law_stir nb  D_law_stir
  have C_law_deck : Ca P w K mg base "_law_deck" 2 ["cell"] (sp_law_deck mg) := ok_law_deck nb C_law_stir  D_law_deck
  have C_law_take : Ca P w K mg base "_law_take" 1 ["deck", "many"] (sp_law_take mg) := ok_law_take nb  D_law_take
  have C_law_whole : Ca P w K mg base "_law_whole" 1 ["found"] (sp_law_whole mg) := ok_law_whole nb  D_law_whole
  have C_law_are_whole : Ca P w K mg base "_law_are_whole" 2 ["found"] (sp_law_are_whole mg) := ok_law_are_whole nb C_law_whole  D_law_are_whole
  have C_law_number : Ca P w K mg base "_law_number" 2 ["deck", "far"] (sp_law_number mg) := ok_law_number nb C_law_take  D_law_number
  have C_law_order : Ca P w K mg base "_law_order" 2 ["deck", "many"] (sp_law_order mg) := ok_law_order nb C_law_take  D_law_order
  have C_law_tree : Ca P w K mg base "_law_tree" 3 ["deck", "most", "far"] (sp_law_tree mg) := ok_law_tree nb C_law_number C_law_order C_law_take  D_law_tree
  have C_law_copied : Ca P w K mg base "_law_copied" 1 ["tree"] (sp_law_copied mg) := ok_law_copied nb  D_law_copied
  have C_law_leaf : Ca P w K mg base "_law_leaf" 2 ["deck", "leaves", "many"] (sp_law_leaf mg) := ok_law_leaf nb C_law_take  D_law_leaf
  have C_law_sum : Ca P w K mg base "_law_sum" 8 ["deck", "leaves", "many", "deep", "times"] (sp_law_sum 5 mg) := ok_law_sum nb C_law_leaf C_law_take  D_law_sum 5
  have C_law_rule : Ca P w K mg base "_law_rule" 9 ["deck", "times"] (sp_law_rule mg) := ok_law_rule nb C_law_sum C_law_take  D_law_rule
  have C_law_case : Ca P w K mg base "_law_case" 10 ["deck", "most"] (sp_law_case mg) := ok_law_case nb C_law_rule C_law_take C_law_tree  D_law_case
  have C_law_value : Ca P w K mg base "_law_value" 13 ["told", "known"] (sp_law_value 12 mg) := ok_law_value nb  D_law_value 12
  have C_law_near : Ca P w K mg base "_law_near" 1 ["tree", "place"] (sp_law_near mg) := ok_law_near nb  D_law_near
  obtain ⟨C_law_row, C_law_branch⟩ := ok_grp_rows (P := P) (w := w) (base := base) nb C_law_near C_law_value D_law_row D_law_branch 100
  have C_law_due : Ca P w K mg base "_law_due" 161 ["tree", "rule"] (sp_law_due mg) := ok_law_due nb C_law_branch  D_law_due
  exact ok_law nb C_law_are_whole C_law_case C_law_copied C_law_deck C_law_due C_law_take C_all_rows F33
theorem walk {l : PySem.W.OpenLaw} {q : Program} {loose : List Str} {XP : (Str → Option Value) → Heap → Prop} {YP : World → Heap → Prop} {d : DefRec} {K : Params → PySem.W.Frag} (hn : l.most = some 63) (hdf : d.params.defaults = [])
    (hY : ∀ (w : World) (h : Heap), YP w h → (K w.params).In h)
    (F : ∀ (w : World) (mg : Str → Option Value) (fa : Addr) (h : Heap), (K w.params).In h → h.Ns mainGlobals mg → mg d.name = some (.ref fa) →
      ∃ fd : FuncData, (∀ (s : Shared) (u : Value), BindsTo s fd ⟨[u], []⟩ [("script", u)]) ∧ ∀ base : Heap, (K w.params).In base → base.Ns mainGlobals mg → FnOk l.prog w (K w.params) mg base (L2.CX l.prog w) 162 fa fd ["script"] (sp_law (K w.params))) :
    PySem.W.WalkO q loose XP YP l.row.toRowW d [] (fun f vs => PySem.call f vs) :=
  L2.walk_of (n := 63) (k := 162) (x := "script") (CX := fun w => L2.CX l.prog w) (sp := fun w => sp_law (K w.params)) hn (by decide) hdf ⟨rfl, by decide, by decide⟩ hY F
    (fun _ H a ns hl _ hS => ⟨H, a, ns, rfl, ⟨Same.refl _, (fun _ h => nomatch h), (fun _ h => nomatch h), List.nodup_nil, (fun _ h => nomatch h)⟩, hS, by rw [law_true ns hl]; exact fun _ _ _ => rfl⟩)
    fun _ _ _ _ _ z => by
      obtain ⟨_, _, _, _, _, _, _, _, _, _, _, _, z⟩ := z
      exact z.elim
end G
open PySem PySem.W PyProof.Rows
set_option maxRecDepth 100000 in
set_option maxHeartbeats 0 in
theorem PySem.Challenge.cw_everyseat_k15_all_rows_holds : PySem.Challenge.rw_everyseat_k15_all_rows.Holds := by
  w_on; o_law; k_head; (case hw => w_witness2)
  k_fill
  refine G.walk (l := PySem.Challenge.rw_everyseat_k15_all_rows) rfl rfl (fun w h Y => PySem.W.kIn_of Y) ?F
  case F =>
    intro w mg fa h KX GG hmg
    refine' G.all_mk KX GG hmg ?a1 ?l1 ?c1 ?k1 ?a2 ?l2 ?c2 ?k2 ?a3 ?l3 ?c3 ?k3 ?a4 ?l4 ?c4 ?k4 ?a5 ?l5 ?c5 ?k5 ?a6 ?l6 ?c6 ?k6 ?a7 ?l7 ?c7 ?k7 ?a8 ?l8 ?c8 ?k8 ?a9 ?l9 ?c9 ?k9 ?a10 ?l10 ?c10 ?k10 ?a11 ?l11 ?c11 ?k11 ?a12 ?l12 ?c12 ?k12 ?a13 ?l13 ?c13 ?k13 ?a14 ?l14 ?c14 ?k14 ?a15 ?l15 ?c15 ?k15 ?a16 ?l16 ?c16 ?k16 ?a17 ?l17 ?c17 ?k17 ?a18 ?l18 ?c18 ?k18 ?a19 ?l19 ?c19 ?k19 ?a20 ?l20 ?c20 ?k20 ?a21 ?l21 ?c21 ?k21 ?a22 ?l22 ?c22 ?k22 ?a23 ?l23 ?c23 ?k23 ?a24 ?l24 ?c24 ?k24 ?a25 ?l25 ?c25 ?k25 ?a26 ?l26 ?c26 ?k26 ?a27 ?l27 ?c27 ?k27 ?a28 ?l28 ?c28 ?k28 ?a29 ?l29 ?c29 ?k29 ?a30 ?l30 ?c30 ?k30 ?a31 ?l31 ?c31 ?k31 ?a32 ?l32 ?c32 ?k32 ?a33 ?l33 ?c33 ?k33 ?ga_NoRule ?gx_NoRule ?gk_NoRule ?gb_NoRule ?gt_NoRule ?zc_MOST ?z_bool ?z_dict ?z_int ?z_isinstance ?z_len ?z_list ?z_max ?z_min ?z_range ?z_sorted ?z_tuple
    (case a1 => k_is)
    (case l1 => k_is)
    (case c1 => k_is)
    (case k1 => k_is)
    (case a2 => k_is)
    (case l2 => k_is)
    (case c2 => k_is)
    (case k2 => k_is)
    (case a3 => k_is)
    (case l3 => k_is)
    (case c3 => k_is)
    (case k3 => k_is)
    (case a4 => k_is)
    (case l4 => k_is)
    (case c4 => k_is)
    (case k4 => k_is)
    (case a5 => k_is)
    (case l5 => k_is)
    (case c5 => k_is)
    (case k5 => k_is)
    (case a6 => k_is)
    (case l6 => k_is)
    (case c6 => k_is)
    (case k6 => k_is)
    (case a7 => k_is)
    (case l7 => k_is)
    (case c7 => k_is)
    (case k7 => k_is)
    (case a8 => k_is)
    (case l8 => k_is)
    (case c8 => k_is)
    (case k8 => k_is)
    (case a9 => k_is)
    (case l9 => k_is)
    (case c9 => k_is)
    (case k9 => k_is)
    (case a10 => k_is)
    (case l10 => k_is)
    (case c10 => k_is)
    (case k10 => k_is)
    (case a11 => k_is)
    (case l11 => k_is)
    (case c11 => k_is)
    (case k11 => k_is)
    (case a12 => k_is)
    (case l12 => k_is)
    (case c12 => k_is)
    (case k12 => k_is)
    (case a13 => k_is)
    (case l13 => k_is)
    (case c13 => k_is)
    (case k13 => k_is)
    (case a14 => k_is)
    (case l14 => k_is)
    (case c14 => k_is)
    (case k14 => k_is)
    (case a15 => k_is)
    (case l15 => k_is)
    (case c15 => k_is)
    (case k15 => k_is)
    (case a16 => k_is)
    (case l16 => k_is)
    (case c16 => k_is)
    (case k16 => k_is)
    (case a17 => k_is)
    (case l17 => k_is)
    (case c17 => k_is)
    (case k17 => k_is)
    (case a18 => k_is)
    (case l18 => k_is)
    (case c18 => k_is)
    (case k18 => k_is)
    (case a19 => k_is)
    (case l19 => k_is)
    (case c19 => k_is)
    (case k19 => k_is)
    (case a20 => k_is)
    (case l20 => k_is)
    (case c20 => k_is)
    (case k20 => k_is)
    (case a21 => k_is)
    (case l21 => k_is)
    (case c21 => k_is)
    (case k21 => k_is)
    (case a22 => k_is)
    (case l22 => k_is)
    (case c22 => k_is)
    (case k22 => k_is)
    (case a23 => k_is)
    (case l23 => k_is)
    (case c23 => k_is)
    (case k23 => k_is)
    (case a24 => k_is)
    (case l24 => k_is)
    (case c24 => k_is)
    (case k24 => k_is)
    (case a25 => k_is)
    (case l25 => k_is)
    (case c25 => k_is)
    (case k25 => k_is)
    (case a26 => k_is)
    (case l26 => k_is)
    (case c26 => k_is)
    (case k26 => k_is)
    (case a27 => k_is)
    (case l27 => k_is)
    (case c27 => k_is)
    (case k27 => k_is)
    (case a28 => k_is)
    (case l28 => k_is)
    (case c28 => k_is)
    (case k28 => k_is)
    (case a29 => k_is)
    (case l29 => k_is)
    (case c29 => k_is)
    (case k29 => k_is)
    (case a30 => k_is)
    (case l30 => k_is)
    (case c30 => k_is)
    (case k30 => k_is)
    (case a31 => k_is)
    (case l31 => k_is)
    (case c31 => k_is)
    (case k31 => k_is)
    (case a32 => k_is)
    (case l32 => k_is)
    (case c32 => k_is)
    (case k32 => k_is)
    (case a33 => k_is)
    (case l33 => k_is)
    (case c33 => k_is)
    (case k33 => k_is)
    (case ga_NoRule => k_is)
    (case gx_NoRule => k_exc)
    (case gk_NoRule => k_is)
    (case gb_NoRule => k_is)
    (case gt_NoRule => k_is)
    (case zc_MOST => k_is)
    (case z_bool => k_is)
    (case z_dict => k_is)
    (case z_int => k_is)
    (case z_isinstance => k_is)
    (case z_len => k_is)
    (case z_list => k_is)
    (case z_max => k_is)
    (case z_min => k_is)
    (case z_range => k_is)
    (case z_sorted => k_is)
    (case z_tuple => k_is)
#print axioms PySem.Challenge.cw_everyseat_k15_all_rows_holds
