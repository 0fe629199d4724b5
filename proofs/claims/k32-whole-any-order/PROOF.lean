import PyProof.Rows.All
import Wide.All
import OpenK.AllK
import Wide.FinOn
import PySem.Str
import HandS.ForMost
import HandS.TupAny
import HandS.Walk
import KE.GoesMore
import HandS.Style
import HandS.Zip
import HandS.ListItems
import HandS.WordsDict
import KE.DataEq
import HandS.ForExc
import HandS.TryOnly
import HandS.ForSpec
import KE.OsGo
import HandS.Set
import HandS.Conv
import HandS.RevTup
import HandS.TupLen
import KE.KeyNested
import KE.KDictWalk
import HandS.Dict
import HandS.Replace
import PySem.Challenge.RW_shapefree_k32_whole_any_order
section
set_option Elab.async false
set_option linter.all false
/-! Mathematics 1: trees, parts, places, substitution, steps, the big-step relation. Plain Lean. -/
namespace Sf
open PySem (Str)

inductive Hd where
  | num (k : Int) | count (i : Str) | op (s : Str) | name (x : Str) | fixed (c : Str) | input (k : Int)
  | dov (d : Str) | letv (x : Str) | loop (i x : Str) | pick | call (f : Str)
  deriving DecidableEq

inductive T where
  | mk (h : Hd) (ks : List T)

abbrev T.hd : T → Hd | .mk h _ => h
abbrev T.ks : T → List T | .mk _ ks => ks

mutual
theorem T.ind {P : T → Prop} (h : ∀ hd ks, (∀ k ∈ ks, P k) → P (.mk hd ks)) : ∀ t, P t
  | .mk hd ks => h hd ks (T.indL h ks)
theorem T.indL {P : T → Prop} (h : ∀ hd ks, (∀ k ∈ ks, P k) → P (.mk hd ks)) : ∀ ks : List T, ∀ k ∈ ks, P k
  | [], _, hk => nomatch hk
  | t :: r, k, hk =>
    (List.mem_cons.mp hk).elim (fun e => e ▸ T.ind h t) (fun e => T.indL h r k e)
end

/-! ### size, depth -/
mutual
def T.sz : T → Nat
  | .mk _ ks => 1 + szL ks
def szL : List T → Nat
  | [] => 0
  | t :: r => t.sz + szL r
end
mutual
def T.dp : T → Nat
  | .mk _ ks => dpL ks
def dpL : List T → Nat
  | [] => 0
  | t :: r => Nat.max (t.dp + 1) (dpL r)
end
theorem dpL_mem : ∀ {ks : List T} {k : T}, k ∈ ks → k.dp < dpL ks
  | t :: r, k, h => by
    have := Nat.le_max_left (t.dp + 1) (dpL r)
    have := Nat.le_max_right (t.dp + 1) (dpL r)
    show k.dp < Nat.max (t.dp + 1) (dpL r)
    rcases List.mem_cons.mp h with e | e
    · subst e; show _ < max _ _; omega
    · have := dpL_mem e; show _ < max _ _; omega
theorem szL_mem : ∀ {ks : List T} {k : T}, k ∈ ks → k.sz ≤ szL ks
  | t :: r, k, h => by
    show k.sz ≤ t.sz + szL r
    rcases List.mem_cons.mp h with e | e
    · subst e; omega
    · have := szL_mem e; omega
theorem sz_pos : ∀ t : T, 1 ≤ t.sz
  | .mk _ ks => by show 1 ≤ 1 + szL ks; omega
mutual
theorem dp_lt_sz : ∀ t : T, t.dp < t.sz
  | .mk _ ks => by show dpL ks < 1 + szL ks; have := dpL_le ks; omega
theorem dpL_le : ∀ ks : List T, dpL ks ≤ szL ks
  | [] => Nat.le_refl _
  | t :: r => by
    show max (t.dp + 1) (dpL r) ≤ t.sz + szL r
    have := dp_lt_sz t; have := dpL_le r; omega
end
theorem szL_append (a b : List T) : szL (a ++ b) = szL a + szL b := by
  induction a with
  | nil => show szL b = 0 + szL b; omega
  | cons t r ih => show t.sz + szL (r ++ b) = t.sz + szL r + szL b; omega
theorem szL_map_le (f : T → T) (ks : List T) : True := trivial
theorem szL_set : ∀ (ks : List T) (j : Nat) (u v : T), ks[j]? = some u → szL (ks.set j v) + u.sz = szL ks + v.sz
  | [], _, _, _, h => by simp at h
  | t :: r, 0, u, v, h => by
    obtain rfl : t = u := Option.some.inj h
    show v.sz + szL r + t.sz = t.sz + szL r + v.sz; omega
  | t :: r, j + 1, u, v, h => by
    have := szL_set r j u v h
    show t.sz + szL (r.set j v) + u.sz = t.sz + szL r + v.sz; omega

/-! ### parts and places -/
mutual
def pp : T → List (List Nat × T)
  | .mk h ks => ([], .mk h ks) :: ppL 0 ks
def ppL : Nat → List T → List (List Nat × T)
  | _, [] => []
  | j, t :: r => (pp t).map (fun q => (j :: q.1, q.2)) ++ ppL (j + 1) r
end
def T.parts (t : T) : List T := (pp t).map (·.2)
def T.places (t : T) : List (List Nat) := (pp t).map (·.1)
def partsL (ks : List T) : List T := ks.flatMap T.parts
theorem ppL_parts : ∀ (ks : List T) (j : Nat), (ppL j ks).map (·.2) = partsL ks
  | [], _ => rfl
  | t :: r, j => by
    show ((pp t).map (fun q => (j :: q.1, q.2)) ++ ppL (j + 1) r).map (·.2) = t.parts ++ partsL r
    rw [List.map_append, ppL_parts r (j + 1), List.map_map]; rfl
theorem parts_eq (h : Hd) (ks : List T) : (T.mk h ks).parts = .mk h ks :: partsL ks := by
  show .mk h ks :: (ppL 0 ks).map (·.2) = _
  rw [ppL_parts]
def placesL : Nat → List T → List (List Nat)
  | _, [] => []
  | j, t :: r => t.places.map (j :: ·) ++ placesL (j + 1) r
theorem ppL_places : ∀ (ks : List T) (j : Nat), (ppL j ks).map (·.1) = placesL j ks
  | [], _ => rfl
  | t :: r, j => by
    show ((pp t).map (fun q => (j :: q.1, q.2)) ++ ppL (j + 1) r).map (·.1) = t.places.map (j :: ·) ++ placesL (j + 1) r
    rw [List.map_append, ppL_places r (j + 1), List.map_map]
    unfold T.places
    rw [List.map_map]; rfl
theorem places_eq (h : Hd) (ks : List T) : (T.mk h ks).places = [] :: placesL 0 ks := by
  show [] :: (ppL 0 ks).map (·.1) = _
  rw [ppL_places]
mutual
theorem pp_len : ∀ t : T, (pp t).length = t.sz
  | .mk h ks => by show (ppL 0 ks).length + 1 = 1 + szL ks; rw [ppL_len]; omega
theorem ppL_len : ∀ (ks : List T) (j : Nat), (ppL j ks).length = szL ks
  | [], _ => rfl
  | t :: r, j => by
    show ((pp t).map _ ++ ppL (j + 1) r).length = t.sz + szL r
    rw [List.length_append, List.length_map, pp_len t, ppL_len r (j + 1)]
end
theorem parts_len (t : T) : t.parts.length = t.sz := by unfold T.parts; rw [List.length_map, pp_len]
theorem places_len (t : T) : t.places.length = t.sz := by unfold T.places; rw [List.length_map, pp_len]

/-- the part at a place -/
def partAt : T → List Nat → Option T
  | t, [] => some t
  | .mk _ ks, j :: p => match ks[j]? with
    | some k => partAt k p
    | none => none
def replAt : T → List Nat → T → T
  | _, [], u => u
  | .mk h ks, j :: p, u => match ks[j]? with
    | some k => .mk h (ks.set j (replAt k p u))
    | none => .mk h ks
mutual
theorem pp_at : ∀ (t : T) (p : List Nat) (u : T), (p, u) ∈ pp t → partAt t p = some u
  | .mk h ks, p, u, hm => by
    rcases List.mem_cons.mp hm with e | e
    · cases e; rfl
    · obtain ⟨j, k, q, rfl, hj, _, hq⟩ := ppL_at ks 0 p u e
      rw [Nat.sub_zero] at hj
      show (match ks[j]? with | some k => partAt k q | none => none) = _
      rw [hj]; exact hq
theorem ppL_at : ∀ (ks : List T) (i : Nat) (p : List Nat) (u : T), (p, u) ∈ ppL i ks → ∃ j k q, p = j :: q ∧ ks[j - i]? = some k ∧ i ≤ j ∧ partAt k q = some u
  | [], _, _, _, hm => nomatch hm
  | t :: r, i, p, u, hm => by
    rcases List.mem_append.mp hm with e | e
    · obtain ⟨⟨q, u'⟩, hq, e2⟩ := List.mem_map.mp e
      cases e2
      exact ⟨i, t, q, rfl, by rw [Nat.sub_self]; rfl, Nat.le_refl _, pp_at t q _ hq⟩
    · obtain ⟨j, k, q, rfl, hj, hi, hq⟩ := ppL_at r (i + 1) p u e
      refine ⟨j, k, q, rfl, ?_, by omega, hq⟩
      rw [show j - i = (j - (i + 1)) + 1 by omega]
      exact hj
end
theorem replAt_sz : ∀ (p : List Nat) (t u v : T), partAt t p = some u → (replAt t p v).sz + u.sz = t.sz + v.sz
  | [], t, u, v, h => by
    obtain rfl : t = u := Option.some.inj h
    show v.sz + t.sz = t.sz + v.sz; omega
  | j :: p, .mk hd ks, u, v, h => by
    cases e : ks[j]? with
    | none => simp [partAt, e] at h
    | some k =>
      simp only [partAt, e] at h
      have ih := replAt_sz p k u v h
      simp only [replAt, e]
      have := szL_set ks j k (replAt k p v) e
      show 1 + szL (ks.set j (replAt k p v)) + u.sz = 1 + szL ks + v.sz
      omega

/-! ### substitution -/
abbrev Sub := Str → Option T
def minus {α : Type} (f : Str → Option α) : Option Str → Str → Option α
  | none => f
  | some x => fun y => if y = x then none else f y
def plus {α : Type} (f : Str → Option α) (x : Str) (a : α) : Str → Option α := fun y => if y = x then some a else f y
def bT : Hd → Nat → Option Str
  | .letv x, 1 => some x
  | .loop _ x, 2 => some x
  | _, _ => none
def bC : Hd → Nat → Option Str
  | .loop i _, 2 => some i
  | _, _ => none
mutual
def T.put (a b : Sub) : T → T
  | .mk h ks => match h with
    | .name x => (a x).getD (.mk h ks)
    | .count i => (b i).getD (.mk h ks)
    | _ => .mk h (putL h 0 a b ks)
def putL (h : Hd) (j : Nat) (a b : Sub) : List T → List T
  | [] => []
  | t :: r => t.put (minus a (bT h j)) (minus b (bC h j)) :: putL h (j + 1) a b r
end

theorem putL_length (h : Hd) (a b : Sub) : ∀ (ks : List T) (j : Nat), (putL h j a b ks).length = ks.length
  | [], _ => rfl
  | t :: r, j => by show (putL h (j + 1) a b r).length + 1 = r.length + 1; rw [putL_length h a b r]
/-- where nothing is bound the kids are put alike -/
theorem putL_map (h : Hd) (hT : ∀ j, bT h j = none) (hC : ∀ j, bC h j = none) (a b : Sub) : ∀ (ks : List T) (j : Nat), putL h j a b ks = ks.map (T.put a b)
  | [], _ => rfl
  | t :: r, j => by
    show t.put (minus a (bT h j)) (minus b (bC h j)) :: putL h (j + 1) a b r = t.put a b :: r.map (T.put a b)
    rw [putL_map h hT hC a b r, hT, hC]; rfl
def none' : Sub := fun _ => none
def one (x : Str) (t : T) : Sub := fun y => if y = x then some t else none

/-! ### numbers -/
def opv (s : Str) (m n : Int) : Int :=
  if s = "+" then (m + n) % 1000000
  else if s = "*" then m * n % 1000000
  else if s = "<" then (if m < n then 1 else 0)
  else if n = 0 then m else m % n
mutual
def nvo (k : Str → Option Int) : T → Option Int
  | .mk h ks => match h with
    | .num v => if ks.isEmpty then some v else none
    | .count i => if ks.isEmpty then k i else none
    | .op s => match nvoL k ks with
      | some [m, n] => some (opv s m n)
      | _ => none
    | _ => none
def nvoL (k : Str → Option Int) : List T → Option (List Int)
  | [] => some []
  | t :: r => match nvo k t, nvoL k r with
    | some v, some vs => some (v :: vs)
    | _, _ => none
end
abbrev nv0 (t : T) : Int := (nvo (fun _ => none) t).getD 0

/-! ### plain, closed, what can step -/
mutual
def plainB : T → Bool
  | .mk h ks => match h with
    | .dov _ => plainLB ks
    | .input _ => ks.isEmpty
    | .fixed _ => ks.isEmpty
    | _ => false
def plainLB : List T → Bool
  | [] => true
  | t :: r => plainB t && plainLB r
end
mutual
def closedB : T → Bool
  | .mk h ks => match h with
    | .op _ => closedLB ks
    | .num _ => ks.isEmpty
    | _ => false
def closedLB : List T → Bool
  | [] => true
  | t :: r => closedB t && closedLB r
end
def innerB : T → Bool
  | .mk h _ => match h with
    | .num _ => true
    | .count _ => true
    | .op _ => true
    | _ => false
def doneB (t : T) : Bool := if innerB t then closedB t else plainB t
def canStep : T → Bool
  | .mk h ks => match h, ks with
    | .letv _, a :: _ => plainB a
    | .loop _ _, n :: _ => closedB n
    | .pick, n :: _ => closedB n
    | .call _, ks => ks.all doneB
    | _, _ => false
theorem plainLB_iff : ∀ {ks : List T}, plainLB ks = true ↔ ∀ k ∈ ks, plainB k = true
  | [] => ⟨fun _ _ h => (nomatch h), fun _ => rfl⟩
  | t :: r => by
    show (plainB t && plainLB r) = true ↔ _
    rw [Bool.and_eq_true, plainLB_iff (ks := r)]
    constructor
    · rintro ⟨h1, h2⟩ k hk
      rcases List.mem_cons.mp hk with e | e
      · subst e; exact h1
      · exact h2 k e
    · intro h
      exact ⟨h t List.mem_cons_self, fun k hk => h k (List.mem_cons_of_mem _ hk)⟩
theorem closedLB_iff : ∀ {ks : List T}, closedLB ks = true ↔ ∀ k ∈ ks, closedB k = true
  | [] => ⟨fun _ _ h => (nomatch h), fun _ => rfl⟩
  | t :: r => by
    show (closedB t && closedLB r) = true ↔ _
    rw [Bool.and_eq_true, closedLB_iff (ks := r)]
    constructor
    · rintro ⟨h1, h2⟩ k hk
      rcases List.mem_cons.mp hk with e | e
      · subst e; exact h1
      · exact h2 k e
    · intro h
      exact ⟨h t List.mem_cons_self, fun k hk => h k (List.mem_cons_of_mem _ hk)⟩

/-! ### programs' defs -/
/-- a def: its name, its params (true: a thing), its term -/
structure Df where
  f : Str
  ps : List (Str × Bool)
  b : T
def look (ds : List Df) (f : Str) : Option Df := ds.find? fun d => decide (d.f = f)
/-- what a call's params stand for -/
def bindA : List (Str × Bool) → List T → Sub → Sub → Sub × Sub
  | (x, true) :: ps, t :: ts, a, b => bindA ps ts (plus a x t) b
  | (x, false) :: ps, t :: ts, a, b => bindA ps ts a (plus b x (.mk (.num (nv0 t)) []))
  | _, _, a, b => (a, b)
/-- what comes of a step right at a term -/
def stepOf (ds : List Df) : T → T
  | .mk h ks => match h, ks with
    | .letv x, [a, b] => b.put (one x a) none'
    | .loop i x, [n, a, b] =>
      if nv0 n = 0 then a
      else .mk (.letv x) [.mk (.loop i x) [.mk (.num (nv0 n - 1)) [], a, b], b.put none' (one i (.mk (.num (nv0 n - 1)) []))]
    | .pick, n :: ts => (ts[(nv0 n % ts.length).toNat]?).getD n
    | .call f, ts => match look ds f with
      | some d => d.b.put (bindA d.ps ts none' none').1 (bindA d.ps ts none' none').2
      | none => .mk (.call f) ts
    | h, ks => .mk h ks

/-! ### which terms are well made -/
inductive Wf (sg : Str → Option (List Bool)) : (Str → Prop) → (Str → Prop) → Bool → T → Prop
  | num {X C : Str → Prop} {k : Int} : 0 ≤ k → k < 1000000 → Wf sg X C false (.mk (.num k) [])
  | count {X C : Str → Prop} {i : Str} : C i → Wf sg X C false (.mk (.count i) [])
  | op {X C : Str → Prop} {s : Str} {m n : T} : (s = "+" ∨ s = "*" ∨ s = ":" ∨ s = "<") → Wf sg X C false m → Wf sg X C false n → Wf sg X C false (.mk (.op s) [m, n])
  | name {X C : Str → Prop} {x : Str} : X x → Wf sg X C true (.mk (.name x) [])
  | fixed {X C : Str → Prop} {c : Str} : Wf sg X C true (.mk (.fixed c) [])
  | input {X C : Str → Prop} {k : Int} : Wf sg X C true (.mk (.input k) [])
  | dov {X C : Str → Prop} {d : Str} {ts : List T} : (∀ t ∈ ts, Wf sg X C true t) → Wf sg X C true (.mk (.dov d) ts)
  | letv {X C : Str → Prop} {x : Str} {a b : T} : Wf sg X C true a → Wf sg (fun y => y = x ∨ X y) C true b → Wf sg X C true (.mk (.letv x) [a, b])
  | loop {X C : Str → Prop} {i x : Str} {n a b : T} : Wf sg X C false n → Wf sg X C true a → Wf sg (fun y => y = x ∨ X y) (fun j => j = i ∨ C j) true b → Wf sg X C true (.mk (.loop i x) [n, a, b])
  | pick {X C : Str → Prop} {n : T} {ts : List T} : Wf sg X C false n → ts ≠ [] → (∀ t ∈ ts, Wf sg X C true t) → Wf sg X C true (.mk .pick (n :: ts))
  | call {X C : Str → Prop} {f : Str} {ts : List T} {ss : List Bool} : sg f = some ss → ts.length = ss.length → (∀ (j : Nat) (t : T) (s : Bool), ts[j]? = some t → ss[j]? = some s → Wf sg X C s t) → Wf sg X C true (.mk (.call f) ts)

end Sf
end
section
set_option Elab.async false
set_option linter.all false
/-! Mathematics 2: the big-step relation, substitution, steps keep it, the first step lowers its cost. -/
namespace Sf
open PySem (Str)

abbrev Env := Str → Option T
abbrev Cnt := Str → Option Int
inductive Jd where
  | e (t v : T) | l (ts vs : List T) | r (i x : Str) (b : T) (k : Nat) (v0 v1 : T)
  | a (ps : List (Str × Bool)) (ts : List T) (th0 : Env) (ka0 : Cnt) (th : Env) (ka : Cnt)

inductive Ev (ds : List Df) : Nat → Env → Cnt → Jd → Prop
  | name {th ka x ks v} : th x = some v → Ev ds 0 th ka (.e (.mk (.name x) ks) v)
  | fixed {th ka c} : Ev ds 0 th ka (.e (.mk (.fixed c) []) (.mk (.fixed c) []))
  | input {th ka k} : Ev ds 0 th ka (.e (.mk (.input k) []) (.mk (.input k) []))
  | dov {c th ka d ts vs} : Ev ds c th ka (.l ts vs) → Ev ds c th ka (.e (.mk (.dov d) ts) (.mk (.dov d) vs))
  | letv {c1 c2 th ka x a b va v} : Ev ds c1 th ka (.e a va) → Ev ds c2 (plus th x va) ka (.e b v) → Ev ds (c1 + c2 + 1) th ka (.e (.mk (.letv x) [a, b]) v)
  | loop {c1 c2 th ka i x n a b va v} {k : Nat} : Ev ds c1 th ka (.e a va) → nvo ka n = some (k : Int) → Ev ds c2 th ka (.r i x b k va v) → Ev ds (c1 + c2 + 1) th ka (.e (.mk (.loop i x) [n, a, b]) v)
  | pick {c th ka n ts t v} {k : Int} : nvo ka n = some k → ts[(k % ts.length).toNat]? = some t → Ev ds c th ka (.e t v) → Ev ds (c + 1) th ka (.e (.mk .pick (n :: ts)) v)
  | call {c1 c2 th ka f ts d th' ka' v} : look ds f = some d → Ev ds c1 th ka (.a d.ps ts (fun _ => none) (fun _ => none) th' ka') → Ev ds c2 th' ka' (.e d.b v) → Ev ds (c1 + c2 + 1) th ka (.e (.mk (.call f) ts) v)
  | nil {th ka} : Ev ds 0 th ka (.l [] [])
  | cons {c1 c2 th ka t v ts vs} : Ev ds c1 th ka (.e t v) → Ev ds c2 th ka (.l ts vs) → Ev ds (c1 + c2) th ka (.l (t :: ts) (v :: vs))
  | r0 {th ka i x b v} : Ev ds 0 th ka (.r i x b 0 v v)
  | rS {c1 c2 th ka i x b v0 v1 v2} {k : Nat} : Ev ds c1 th ka (.r i x b k v0 v1) → Ev ds c2 (plus th x v1) (plus ka i (k : Int)) (.e b v2) → Ev ds (c1 + c2 + 2) th ka (.r i x b (k + 1) v0 v2)
  | a0 {th ka th0 ka0} : Ev ds 0 th ka (.a [] [] th0 ka0 th0 ka0)
  | aT {c1 c2 th ka x ps t v ts th0 ka0 th' ka'} : Ev ds c1 th ka (.e t v) → Ev ds c2 th ka (.a ps ts (plus th0 x v) ka0 th' ka') → Ev ds (c1 + c2) th ka (.a ((x, true) :: ps) (t :: ts) th0 ka0 th' ka')
  | aN {c th ka x ps t v ts th0 ka0 th' ka'} : nvo ka t = some v → Ev ds c th ka (.a ps ts th0 (plus ka0 x v) th' ka') → Ev ds c th ka (.a ((x, false) :: ps) (t :: ts) th0 ka0 th' ka')

/-! ### plain terms -/
mutual
theorem plain_ev {ds : List Df} {th : Env} {ka : Cnt} : ∀ t : T, plainB t = true → Ev ds 0 th ka (.e t t)
  | .mk h ks, hp => by
    cases h with
    | input k => obtain rfl : ks = [] := List.isEmpty_iff.mp hp; exact .input
    | fixed c => obtain rfl : ks = [] := List.isEmpty_iff.mp hp; exact .fixed
    | dov d => exact .dov (plainL_ev ks hp)
    | num _ => cases hp
    | count _ => cases hp
    | op _ => cases hp
    | name _ => cases hp
    | letv _ => cases hp
    | loop _ _ => cases hp
    | pick => cases hp
    | call _ => cases hp
theorem plainL_ev {ds : List Df} {th : Env} {ka : Cnt} : ∀ ts : List T, plainLB ts = true → Ev ds 0 th ka (.l ts ts)
  | [], _ => .nil
  | t :: r, hp => by
    have h : (plainB t && plainLB r) = true := hp
    rw [Bool.and_eq_true] at h
    exact Ev.cons (c1 := 0) (c2 := 0) (plain_ev t h.1) (plainL_ev r h.2)
end
mutual
theorem plain_det {ds : List Df} {th : Env} {ka : Cnt} : ∀ (t : T) (c : Nat) (v : T), plainB t = true → Ev ds c th ka (.e t v) → v = t ∧ c = 0
  | .mk h ks, c, v, hp, H => by
    cases h with
    | input k => cases H; exact ⟨rfl, rfl⟩
    | fixed c => cases H; exact ⟨rfl, rfl⟩
    | dov d =>
      cases H with
      | dov H => have := plainL_det ks _ _ hp H; exact ⟨by rw [this.1], this.2⟩
    | num _ => cases hp
    | count _ => cases hp
    | op _ => cases hp
    | name _ => cases hp
    | letv _ => cases hp
    | loop _ _ => cases hp
    | pick => cases hp
    | call _ => cases hp
theorem plainL_det {ds : List Df} {th : Env} {ka : Cnt} : ∀ (ts : List T) (c : Nat) (vs : List T), plainLB ts = true → Ev ds c th ka (.l ts vs) → vs = ts ∧ c = 0
  | [], c, vs, _, H => by cases H; exact ⟨rfl, rfl⟩
  | t :: r, c, vs, hp, H => by
    have h : (plainB t && plainLB r) = true := hp
    rw [Bool.and_eq_true] at h
    cases H with
    | cons H1 H2 =>
      have e1 := plain_det t _ _ h.1 H1
      have e2 := plainL_det r _ _ h.2 H2
      exact ⟨by rw [e1.1, e2.1], by rw [e1.2, e2.2]⟩
end
/-- what is told is plain, where all that names stand for is -/
def Jd.pl : Jd → Prop
  | .e _ v => plainB v = true
  | .l _ vs => plainLB vs = true
  | .r _ _ _ _ v0 v1 => plainB v0 = true → plainB v1 = true
  | .a _ _ th0 _ th' _ => (∀ x v, th0 x = some v → plainB v = true) → ∀ x v, th' x = some v → plainB v = true
theorem plus_some {α : Type} {f : Str → Option α} {x y : Str} {a b : α} (h : plus f x a y = some b) : (y = x ∧ b = a) ∨ (y ≠ x ∧ f y = some b) := by
  unfold plus at h
  split at h
  · rename_i e; exact .inl ⟨e, (Option.some.inj h).symm⟩
  · rename_i e; exact .inr ⟨e, h⟩
theorem plus_plain {th : Env} {x : Str} {v : T} (h : ∀ y u, th y = some u → plainB u = true) (hv : plainB v = true) : ∀ y u, plus th x v y = some u → plainB u = true := fun y u e => by
  rcases plus_some e with ⟨_, rfl⟩ | ⟨_, e⟩
  · exact hv
  · exact h y u e
theorem Ev.plain {ds : List Df} {c : Nat} {th : Env} {ka : Cnt} {j : Jd} (H : Ev ds c th ka j) : (∀ x v, th x = some v → plainB v = true) → j.pl := by
  induction H with
  | name h => intro hp; exact hp _ _ h
  | fixed => intro _; rfl
  | input => intro _; rfl
  | dov _ ih => intro hp; exact ih hp
  | letv _ _ ih1 ih2 => intro hp; exact ih2 (plus_plain hp (ih1 hp))
  | loop _ _ _ ih1 ih2 => intro hp; exact ih2 hp (ih1 hp)
  | pick _ _ _ ih => intro hp; exact ih hp
  | call _ _ _ ih1 ih2 => intro hp; exact ih2 (ih1 hp fun _ _ e => nomatch e)
  | nil => intro _; rfl
  | cons _ _ ih1 ih2 =>
    intro hp
    show (plainB _ && plainLB _) = true
    rw [Bool.and_eq_true]; exact ⟨ih1 hp, ih2 hp⟩
  | r0 => intro _ h; exact h
  | rS _ _ ih1 ih2 => intro hp h0; exact ih2 (plus_plain hp (ih1 hp h0))
  | a0 => intro _ h; exact h
  | aT _ _ ih1 ih2 => intro hp h0; exact ih2 hp (plus_plain h0 (ih1 hp))
  | aN _ _ ih => intro hp h0; exact ih hp h0

/-! ### substitution -/
structure Cmp (a b : Sub) (th th2 : Env) (ka ka2 : Cnt) : Prop where
  t : ∀ x v, th x = some v → (a x = some v ∧ plainB v = true) ∨ (a x = none ∧ th2 x = some v)
  c : ∀ i v, ka i = some v → b i = some (.mk (.num v) []) ∨ (b i = none ∧ ka2 i = some v)
theorem Cmp.bind {a b : Sub} {th th2 : Env} {ka ka2 : Cnt} (C : Cmp a b th th2 ka ka2) (x : Str) (v : T) : Cmp (minus a (some x)) b (plus th x v) (plus th2 x v) ka ka2 := by
  refine ⟨fun y u e => ?_, C.c⟩
  rcases plus_some e with ⟨rfl, rfl⟩ | ⟨ne, e⟩
  · exact .inr ⟨if_pos rfl, if_pos rfl⟩
  · rcases C.t y u e with ⟨h1, h2⟩ | ⟨h1, h2⟩
    · exact .inl ⟨(if_neg ne).trans h1, h2⟩
    · exact .inr ⟨(if_neg ne).trans h1, (if_neg ne).trans h2⟩
theorem Cmp.bind2 {a b : Sub} {th th2 : Env} {ka ka2 : Cnt} (C : Cmp a b th th2 ka ka2) (x i : Str) (v : T) (k : Int) : Cmp (minus a (some x)) (minus b (some i)) (plus th x v) (plus th2 x v) (plus ka i k) (plus ka2 i k) := by
  refine ⟨(C.bind x v).t, fun y u e => ?_⟩
  rcases plus_some e with ⟨rfl, rfl⟩ | ⟨ne, e⟩
  · exact .inr ⟨if_pos rfl, if_pos rfl⟩
  · rcases C.c y u e with h1 | ⟨h1, h2⟩
    · exact .inl ((if_neg ne).trans h1)
    · exact .inr ⟨(if_neg ne).trans h1, (if_neg ne).trans h2⟩
theorem nvo_num {ka : Cnt} {v : Int} : nvo ka (.mk (.num v) []) = some v := rfl
mutual
theorem nvo_put {a b : Sub} {ka ka2 : Cnt} (hc : ∀ i v, ka i = some v → b i = some (.mk (.num v) []) ∨ (b i = none ∧ ka2 i = some v)) : ∀ (t : T) (v : Int), nvo ka t = some v → nvo ka2 (t.put a b) = some v
  | .mk h ks, v, e => by
    cases h with
    | num k =>
      have e' : (if ks.isEmpty then some k else none) = some v := e
      cases ks with
      | nil => exact e'
      | cons _ _ => cases e'
    | count i =>
      have e' : (if ks.isEmpty then ka i else none) = some v := e
      cases ks with
      | cons _ _ => cases e'
      | nil =>
        show nvo ka2 ((b i).getD (.mk (.count i) [])) = some v
        rcases hc i v e' with h | ⟨h1, h2⟩
        · rw [h]; rfl
        · rw [h1]; exact h2
    | op s =>
      have e' : (match nvoL ka ks with | some [m, n] => some (opv s m n) | _ => none) = some v := e
      show (match nvoL ka2 (putL (.op s) 0 a b ks) with | some [m, n] => some (opv s m n) | _ => none) = some v
      cases q : nvoL ka ks with
      | none => rw [q] at e'; cases e'
      | some vs =>
        rw [nvoL_put hc (.op s) (fun _ => rfl) (fun _ => rfl) ks 0 vs q]
        rw [q] at e'; exact e'
    | name _ => cases e
    | fixed _ => cases e
    | input _ => cases e
    | dov _ => cases e
    | letv _ => cases e
    | loop _ _ => cases e
    | pick => cases e
    | call _ => cases e
theorem nvoL_put {a b : Sub} {ka ka2 : Cnt} (hc : ∀ i v, ka i = some v → b i = some (.mk (.num v) []) ∨ (b i = none ∧ ka2 i = some v)) (h : Hd) (hT : ∀ j, bT h j = none) (hC : ∀ j, bC h j = none) : ∀ (ts : List T) (j : Nat) (vs : List Int), nvoL ka ts = some vs → nvoL ka2 (putL h j a b ts) = some vs
  | [], _, vs, e => e
  | t :: r, j, vs, e => by
    have e' : (match nvo ka t, nvoL ka r with | some v, some vs => some (v :: vs) | _, _ => none) = some vs := e
    show (match nvo ka2 (t.put (minus a (bT h j)) (minus b (bC h j))), nvoL ka2 (putL h (j + 1) a b r) with | some v, some vs => some (v :: vs) | _, _ => none) = some vs
    rw [hT, hC]
    show (match nvo ka2 (t.put a b), nvoL ka2 (putL h (j + 1) a b r) with | some v, some vs => some (v :: vs) | _, _ => none) = some vs
    cases q1 : nvo ka t with
    | none => rw [q1] at e'; cases e'
    | some v1 =>
      cases q2 : nvoL ka r with
      | none => rw [q1, q2] at e'; cases e'
      | some vs1 =>
        rw [nvo_put hc t v1 q1, nvoL_put hc h hT hC r (j + 1) vs1 q2]
        rw [q1, q2] at e'; exact e'
end
def Jd.put (a b : Sub) : Jd → Jd
  | .e t v => .e (t.put a b) v
  | .l ts vs => .l (ts.map (T.put a b)) vs
  | .r i x t k v0 v1 => .r i x (t.put (minus a (some x)) (minus b (some i))) k v0 v1
  | .a ps ts th0 ka0 th ka => .a ps (ts.map (T.put a b)) th0 ka0 th ka
theorem Ev.put {ds : List Df} {c : Nat} {th : Env} {ka : Cnt} {j : Jd} (H : Ev ds c th ka j) : ∀ {a b : Sub} {th2 : Env} {ka2 : Cnt}, Cmp a b th th2 ka ka2 → Ev ds c th2 ka2 (j.put a b) := by
  induction H with
  | @name th ka x ks v h =>
    intro a b th2 ka2 C
    show Ev ds 0 th2 ka2 (.e ((a x).getD (.mk (.name x) ks)) v)
    rcases C.t _ _ h with ⟨h1, h2⟩ | ⟨h1, h2⟩
    · rw [h1]; exact plain_ev _ h2
    · rw [h1]; exact .name h2
  | fixed => intro a b th2 ka2 C; exact .fixed
  | input => intro a b th2 ka2 C; exact .input
  | @dov c th ka d ts vs _ ih =>
    intro a b th2 ka2 C
    show Ev ds c th2 ka2 (.e (.mk (.dov d) (putL (.dov d) 0 a b ts)) _)
    rw [putL_map (.dov d) (fun _ => rfl) (fun _ => rfl)]
    exact .dov (ih C)
  | letv _ _ ih1 ih2 => intro a b th2 ka2 C; exact .letv (ih1 C) (ih2 (C.bind _ _))
  | loop _ hn _ ih1 ih2 => intro a b th2 ka2 C; exact .loop (ih1 C) (nvo_put C.c _ _ hn) (ih2 C)
  | @pick c th ka n ts t v k hn ht _ ih =>
    intro a b th2 ka2 C
    show Ev ds (c + 1) th2 ka2 (.e (.mk .pick (n.put a b :: putL .pick 1 a b ts)) v)
    rw [putL_map .pick (fun _ => rfl) (fun _ => rfl)]
    refine .pick (t := t.put a b) (nvo_put C.c _ _ hn) ?_ (ih C)
    rw [List.length_map, List.getElem?_map, ht]; rfl
  | @call c1 c2 th ka f ts d th' ka' v hf H1 H2 ih1 _ =>
    intro a b th2 ka2 C
    show Ev ds (c1 + c2 + 1) th2 ka2 (.e (.mk (.call f) (putL (.call f) 0 a b ts)) v)
    rw [putL_map (.call f) (fun _ => rfl) (fun _ => rfl)]
    exact .call hf (ih1 C) H2
  | nil => intro a b th2 ka2 C; exact .nil
  | cons _ _ ih1 ih2 => intro a b th2 ka2 C; exact .cons (ih1 C) (ih2 C)
  | r0 => intro a b th2 ka2 C; exact .r0
  | rS _ _ ih1 ih2 => intro a b th2 ka2 C; exact .rS (ih1 C) (ih2 (C.bind2 _ _ _ _))
  | a0 => intro a b th2 ka2 C; exact .a0
  | aT _ _ ih1 ih2 => intro a b th2 ka2 C; exact .aT (ih1 C) (ih2 C)
  | aN hn _ ih => intro a b th2 ka2 C; exact .aN (nvo_put C.c _ _ hn) (ih C)

/-! ### a step right at a term -/
mutual
theorem nvo_closed {ka ka2 : Cnt} : ∀ t : T, closedB t = true → nvo ka t = nvo ka2 t
  | .mk h ks, e => by
    cases h with
    | num k => rfl
    | op s =>
      show (match nvoL ka ks with | some [m, n] => some (opv s m n) | _ => none) = (match nvoL ka2 ks with | some [m, n] => some (opv s m n) | _ => none)
      rw [nvoL_closed ks e]
    | count _ => cases e
    | name _ => cases e
    | fixed _ => cases e
    | input _ => cases e
    | dov _ => cases e
    | letv _ => cases e
    | loop _ _ => cases e
    | pick => cases e
    | call _ => cases e
theorem nvoL_closed {ka ka2 : Cnt} : ∀ ts : List T, closedLB ts = true → nvoL ka ts = nvoL ka2 ts
  | [], _ => rfl
  | t :: r, e => by
    have h : (closedB t && closedLB r) = true := e
    rw [Bool.and_eq_true] at h
    show (match nvo ka t, nvoL ka r with | some v, some vs => some (v :: vs) | _, _ => none) = (match nvo ka2 t, nvoL ka2 r with | some v, some vs => some (v :: vs) | _, _ => none)
    rw [nvo_closed t h.1, nvoL_closed r h.2]
end
theorem nv0_closed {ka : Cnt} {t : T} {v : Int} (h : closedB t = true) (e : nvo ka t = some v) : nv0 t = v := by
  show (nvo (fun _ => none) t).getD 0 = v
  rw [nvo_closed (ka2 := ka) t h, e]; rfl
theorem inner_noev {ds : List Df} {c : Nat} {th : Env} {ka : Cnt} {t v : T} (H : Ev ds c th ka (.e t v)) : innerB t = false := by
  cases H <;> rfl
theorem inner_of_nvo {ka : Cnt} {t : T} {v : Int} (h : nvo ka t = some v) : innerB t = true := by
  obtain ⟨hd, ks⟩ := t
  cases hd <;> first | rfl | cases h
theorem args_done {ds : List Df} : ∀ (ps : List (Str × Bool)) (ts : List T) {c : Nat} {th : Env} {ka : Cnt} {th0 : Env} {ka0 : Cnt} {th' : Env} {ka' : Cnt} {a0 b0 : Sub}, Ev ds c th ka (.a ps ts th0 ka0 th' ka') → ts.all doneB = true →
    (∀ x v, th0 x = some v → a0 x = some v ∧ plainB v = true) → (∀ i v, ka0 i = some v → b0 i = some (.mk (.num v) [])) →
    c = 0 ∧ (∀ x v, th' x = some v → (bindA ps ts a0 b0).1 x = some v ∧ plainB v = true) ∧ (∀ i v, ka' i = some v → (bindA ps ts a0 b0).2 i = some (.mk (.num v) []))
  | [], [], c, th, ka, th0, ka0, th', ka', a0, b0, H, _, h1, h2 => by cases H; exact ⟨rfl, h1, h2⟩
  | [], _ :: _, _, _, _, _, _, _, _, _, _, H, _, _, _ => by cases H
  | _ :: _, [], _, _, _, _, _, _, _, _, _, H, _, _, _ => by cases H
  | (x, true) :: ps, t :: ts, c, th, ka, th0, ka0, th', ka', a0, b0, H, hd, h1, h2 => by
    rw [List.all_cons, Bool.and_eq_true] at hd
    cases H with
    | aT H1 H2 =>
      have hp : plainB t = true := by
        have := hd.1
        unfold doneB at this
        rw [inner_noev H1] at this
        exact this
      obtain ⟨rfl, rfl⟩ := plain_det t _ _ hp H1
      obtain ⟨e, g1, g2⟩ := args_done ps ts (a0 := plus a0 x _) (b0 := b0) H2 hd.2 (fun y u e => by
        rcases plus_some e with ⟨rfl, rfl⟩ | ⟨ne, e⟩
        · exact ⟨if_pos rfl, hp⟩
        · exact ⟨(if_neg ne).trans (h1 y u e).1, (h1 y u e).2⟩) h2
      exact ⟨by omega, g1, g2⟩
  | (x, false) :: ps, t :: ts, c, th, ka, th0, ka0, th', ka', a0, b0, H, hd, h1, h2 => by
    rw [List.all_cons, Bool.and_eq_true] at hd
    cases H with
    | aN hn H2 =>
      have hc : closedB t = true := by
        have := hd.1
        unfold doneB at this
        rw [inner_of_nvo hn] at this
        exact this
      have e0 := nv0_closed hc hn
      obtain ⟨e, g1, g2⟩ := args_done ps ts (a0 := a0) (b0 := plus b0 x (.mk (.num (nv0 t)) [])) H2 hd.2 h1 (fun y u e => by
        rcases plus_some e with ⟨rfl, rfl⟩ | ⟨ne, e⟩
        · rw [e0]; exact if_pos rfl
        · exact (if_neg ne).trans (h2 y u e))
      exact ⟨e, g1, g2⟩
theorem root {ds : List Df} {c : Nat} {th : Env} {ka : Cnt} {t v : T} (H : Ev ds c th ka (.e t v)) (hs : canStep t = true) : ∃ c', c' < c ∧ Ev ds c' th ka (.e (stepOf ds t) v) := by
  cases H with
  | name _ => cases hs
  | fixed => cases hs
  | input => cases hs
  | dov _ => cases hs
  | @letv c1 c2 _ _ x a b va _ H1 H2 =>
    have hp : plainB a = true := hs
    obtain ⟨rfl, rfl⟩ := plain_det a _ _ hp H1
    refine ⟨c2, by omega, ?_⟩
    show Ev ds c2 th ka (.e (b.put (one x _) none') v)
    refine H2.put ⟨fun y u e => ?_, fun i u e => .inr ⟨rfl, e⟩⟩
    rcases plus_some e with ⟨rfl, rfl⟩ | ⟨ne, e⟩
    · exact .inl ⟨if_pos rfl, hp⟩
    · exact .inr ⟨if_neg ne, e⟩
  | @loop c1 c2 _ _ i x n a b va _ k H1 hn H2 =>
    have hc : closedB n = true := hs
    have e0 := nv0_closed hc hn
    cases H2 with
    | r0 =>
      refine ⟨c1, by omega, ?_⟩
      show Ev ds c1 th ka (.e (if nv0 n = 0 then a else _) v)
      rw [if_pos (show nv0 n = 0 from e0)]; exact H1
    | @rS c3 c4 _ _ _ _ _ _ v1 _ k' H3 H4 =>
      have e1 : nv0 n - 1 = (k' : Int) := by rw [e0]; omega
      refine ⟨c1 + c3 + 1 + c4 + 1, by omega, ?_⟩
      show Ev ds _ th ka (.e (if nv0 n = 0 then a else .mk (.letv x) [.mk (.loop i x) [.mk (.num (nv0 n - 1)) [], a, b], b.put none' (one i (.mk (.num (nv0 n - 1)) []))]) v)
      rw [if_neg (by rw [e0]; omega), e1]
      refine .letv (.loop H1 rfl H3) ?_
      refine H4.put ⟨fun y u e => .inr ⟨rfl, e⟩, fun y u e => ?_⟩
      rcases plus_some e with ⟨rfl, rfl⟩ | ⟨ne, e⟩
      · exact .inl (if_pos rfl)
      · exact .inr ⟨if_neg ne, e⟩
  | @pick c1 _ _ n ts t _ k hn ht H1 =>
    have hc : closedB n = true := hs
    have e0 := nv0_closed hc hn
    refine ⟨c1, by omega, ?_⟩
    show Ev ds c1 th ka (.e ((ts[(nv0 n % ts.length).toNat]?).getD n) v)
    rw [e0, ht]; exact H1
  | @call c1 c2 _ _ f ts d th' ka' _ hf H1 H2 =>
    have hd : ts.all doneB = true := hs
    obtain ⟨rfl, g1, g2⟩ := args_done d.ps ts (a0 := none') (b0 := none') H1 hd (fun _ _ e => nomatch e) (fun _ _ e => nomatch e)
    refine ⟨c2, by omega, ?_⟩
    have e : stepOf ds (.mk (.call f) ts) = d.b.put (bindA d.ps ts none' none').1 (bindA d.ps ts none' none').2 := by
      show (match look ds f with | some d => _ | none => _) = _
      rw [hf]
    rw [e]
    exact H2.put ⟨fun x u e => .inl (g1 x u e), fun i u e => .inl (g2 i u e)⟩

/-! ### a step at any place -/
def Sim (ds : List Df) (t t' : T) : Prop := ∀ c th ka v, Ev ds c th ka (.e t v) → ∃ c', Ev ds c' th ka (.e t' v)
mutual
theorem nvo_nostep {ka : Cnt} : ∀ (t : T) (v : Int) (p : List Nat) (u : T), nvo ka t = some v → partAt t p = some u → canStep u = false
  | .mk h ks, v, p, u, e, hp => by
    cases p with
    | nil =>
      obtain rfl : T.mk h ks = u := Option.some.inj hp
      cases h <;> first | rfl | cases e
    | cons j p =>
      cases h with
      | num k =>
        have e' : (if ks.isEmpty then some k else none) = some v := e
        cases ks with
        | nil => simp [partAt] at hp
        | cons _ _ => cases e'
      | count i =>
        have e' : (if ks.isEmpty then ka i else none) = some v := e
        cases ks with
        | nil => simp [partAt] at hp
        | cons _ _ => cases e'
      | op s =>
        have e' : (match nvoL ka ks with | some [m, n] => some (opv s m n) | _ => none) = some v := e
        cases q : nvoL ka ks with
        | none => rw [q] at e'; cases e'
        | some vs => exact nvoL_nostep ks vs j p u q hp
      | name _ => cases e
      | fixed _ => cases e
      | input _ => cases e
      | dov _ => cases e
      | letv _ => cases e
      | loop _ _ => cases e
      | pick => cases e
      | call _ => cases e
theorem nvoL_nostep {ka : Cnt} : ∀ (ks : List T) (vs : List Int) (j : Nat) (p : List Nat) (u : T), nvoL ka ks = some vs → (match ks[j]? with | some k => partAt k p | none => none) = some u → canStep u = false
  | [], _, j, p, u, _, hp => by simp at hp
  | t :: r, vs, j, p, u, e, hp => by
    have e' : (match nvo ka t, nvoL ka r with | some v, some vs => some (v :: vs) | _, _ => none) = some vs := e
    cases q1 : nvo ka t with
    | none => rw [q1] at e'; cases e'
    | some v1 =>
      cases q2 : nvoL ka r with
      | none => rw [q1, q2] at e'; cases e'
      | some vs1 =>
        cases j with
        | zero => exact nvo_nostep t v1 p u q1 hp
        | succ j => exact nvoL_nostep r vs1 j p u q2 hp
end
theorem sim_l {ds : List Df} {t t' : T} (S : Sim ds t t') : ∀ (ts vs : List T) (j c : Nat) (th : Env) (ka : Cnt), ts[j]? = some t → Ev ds c th ka (.l ts vs) → ∃ c', Ev ds c' th ka (.l (ts.set j t') vs)
  | [], _, _, _, _, _, h, _ => by simp at h
  | u :: r, vs, 0, c, th, ka, h, H => by
    obtain rfl : u = t := Option.some.inj h
    cases H with
    | cons H1 H2 => obtain ⟨c', q⟩ := S _ _ _ _ H1; exact ⟨_, .cons q H2⟩
  | u :: r, vs, j + 1, c, th, ka, h, H => by
    cases H with
    | cons H1 H2 => obtain ⟨c', q⟩ := sim_l S r _ j _ _ _ h H2; exact ⟨_, .cons H1 q⟩
theorem sim_r {ds : List Df} {b b' : T} (S : Sim ds b b') : ∀ (k : Nat) (c : Nat) (th : Env) (ka : Cnt) (i x : Str) (v0 v1 : T), Ev ds c th ka (.r i x b k v0 v1) → ∃ c', Ev ds c' th ka (.r i x b' k v0 v1)
  | 0, c, th, ka, i, x, v0, v1, H => by cases H; exact ⟨_, .r0⟩
  | k + 1, c, th, ka, i, x, v0, v1, H => by
    cases H with
    | rS H1 H2 =>
      obtain ⟨_, q1⟩ := sim_r S k _ _ _ _ _ _ _ H1
      obtain ⟨_, q2⟩ := S _ _ _ _ H2
      exact ⟨_, .rS q1 q2⟩
theorem sim_a {ds : List Df} {t t' : T} (S : Sim ds t t') (hn : ∀ ka, nvo ka t = none) : ∀ (ps : List (Str × Bool)) (ts : List T) (j c : Nat) (th : Env) (ka : Cnt) (th0 : Env) (ka0 : Cnt) (th' : Env) (ka' : Cnt), ts[j]? = some t → Ev ds c th ka (.a ps ts th0 ka0 th' ka') → ∃ c', Ev ds c' th ka (.a ps (ts.set j t') th0 ka0 th' ka')
  | _, [], _, _, _, _, _, _, _, _, h, _ => by simp at h
  | [], _ :: _, _, _, _, _, _, _, _, _, _, H => by cases H
  | (x, true) :: ps, u :: r, 0, c, th, ka, th0, ka0, th', ka', h, H => by
    obtain rfl : u = t := Option.some.inj h
    cases H with
    | aT H1 H2 => obtain ⟨c', q⟩ := S _ _ _ _ H1; exact ⟨_, .aT q H2⟩
  | (x, false) :: ps, u :: r, 0, c, th, ka, th0, ka0, th', ka', h, H => by
    obtain rfl : u = t := Option.some.inj h
    cases H with
    | aN H1 H2 => rw [hn] at H1; cases H1
  | (x, true) :: ps, u :: r, j + 1, c, th, ka, th0, ka0, th', ka', h, H => by
    cases H with
    | aT H1 H2 => obtain ⟨c', q⟩ := sim_a S hn ps r j _ _ _ _ _ _ _ h H2; exact ⟨_, .aT H1 q⟩
  | (x, false) :: ps, u :: r, j + 1, c, th, ka, th0, ka0, th', ka', h, H => by
    cases H with
    | aN H1 H2 => obtain ⟨c', q⟩ := sim_a S hn ps r j _ _ _ _ _ _ _ h H2; exact ⟨_, .aN H1 q⟩
theorem sim_kid {ds : List Df} {t t' : T} {h : Hd} {ks : List T} {j : Nat} (hj : ks[j]? = some t) (S : Sim ds t t') (hn : ∀ ka, nvo ka t = none) : Sim ds (.mk h ks) (.mk h (ks.set j t')) := by
  intro c th ka v H
  cases H with
  | name e => exact ⟨_, .name e⟩
  | fixed => simp at hj
  | input => simp at hj
  | dov H => obtain ⟨_, q⟩ := sim_l S _ _ _ _ _ _ hj H; exact ⟨_, .dov q⟩
  | letv H1 H2 =>
    match j, hj with
    | 0, hj =>
      obtain rfl := Option.some.inj hj
      obtain ⟨_, q⟩ := S _ _ _ _ H1; exact ⟨_, .letv q H2⟩
    | 1, hj =>
      obtain rfl := Option.some.inj hj
      obtain ⟨_, q⟩ := S _ _ _ _ H2; exact ⟨_, .letv H1 q⟩
    | _ + 2, hj => simp at hj
  | loop H1 e H2 =>
    match j, hj with
    | 0, hj =>
      obtain rfl := Option.some.inj hj
      rw [hn] at e; cases e
    | 1, hj =>
      obtain rfl := Option.some.inj hj
      obtain ⟨_, q⟩ := S _ _ _ _ H1; exact ⟨_, .loop q e H2⟩
    | 2, hj =>
      obtain rfl := Option.some.inj hj
      obtain ⟨_, q⟩ := sim_r S _ _ _ _ _ _ _ _ H2; exact ⟨_, .loop H1 e q⟩
    | _ + 3, hj => simp at hj
  | @pick c1 _ _ n ts u _ k e ht H =>
    match j, hj with
    | 0, hj =>
      obtain rfl := Option.some.inj hj
      rw [hn] at e; cases e
    | j + 1, hj =>
      have hj' : ts[j]? = some t := hj
      show ∃ c', Ev ds c' th ka (.e (.mk .pick (n :: ts.set j t')) v)
      by_cases q : (k % ts.length).toNat = j
      · rw [q, hj'] at ht
        obtain rfl := Option.some.inj ht
        obtain ⟨_, w⟩ := S _ _ _ _ H
        refine ⟨_, .pick (t := t') e ?_ w⟩
        rw [List.length_set, q, List.getElem?_set_self (List.getElem?_eq_some_iff.mp hj').1]
      · refine ⟨_, .pick (t := u) e ?_ H⟩
        rw [List.length_set, List.getElem?_set_ne (Ne.symm q), ht]
  | call hf H1 H2 => obtain ⟨_, q⟩ := sim_a S hn _ _ _ _ _ _ _ _ _ _ hj H1; exact ⟨_, .call hf q H2⟩
theorem sim_step {ds : List Df} {u : T} (hs : canStep u = true) : ∀ (p : List Nat) (t : T), partAt t p = some u → Sim ds t (replAt t p (stepOf ds u))
  | [], t, h => by
    obtain rfl : t = u := Option.some.inj h
    intro c th ka v H
    obtain ⟨c', _, q⟩ := root H hs
    exact ⟨c', q⟩
  | j :: p, .mk hd ks, h => by
    cases e : ks[j]? with
    | none => simp [partAt, e] at h
    | some k =>
      simp only [partAt, e] at h
      have ih := sim_step (ds := ds) hs p k h
      simp only [replAt, e]
      refine sim_kid e ih fun ka => ?_
      cases q : nvo ka k with
      | none => rfl
      | some v => rw [nvo_nostep k v p u q h] at hs; cases hs
end Sf
end
section
set_option Elab.async false
set_option linter.all false
/-! Mathematics 3: the first step, sizes, what is kept of well made terms. -/
namespace Sf
open PySem (Str)

/-! ### all places at which a step can be done -/
def stepPl (t : T) : List (List Nat) := ((pp t).filter fun q => canStep q.2).map (·.1)
def stepPlL (j : Nat) (ks : List T) : List (List Nat) := ((ppL j ks).filter fun q => canStep q.2).map (·.1)
theorem stepPl_mk (h : Hd) (ks : List T) : stepPl (.mk h ks) = (if canStep (.mk h ks) = true then [[]] else []) ++ stepPlL 0 ks := by
  show (List.filter (fun q => canStep q.2) (([], T.mk h ks) :: ppL 0 ks)).map (·.1) = _
  rw [List.filter_cons]
  by_cases c : canStep (.mk h ks) = true
  · rw [if_pos c, if_pos c]; rfl
  · rw [if_neg c, if_neg c]; rfl
theorem stepPlL_nil (j : Nat) : stepPlL j [] = [] := rfl
theorem stepPlL_cons (j : Nat) (t : T) (r : List T) : stepPlL j (t :: r) = (stepPl t).map (j :: ·) ++ stepPlL (j + 1) r := by
  show (List.filter (fun q => canStep q.2) ((pp t).map (fun q => (j :: q.1, q.2)) ++ ppL (j + 1) r)).map (·.1) = _
  rw [List.filter_append, List.map_append, List.filter_map, List.map_map]
  unfold stepPl stepPlL
  rw [List.map_map]; rfl
theorem stepPl_mem {t : T} {p : List Nat} (h : p ∈ stepPl t) : ∃ u, partAt t p = some u ∧ canStep u = true := by
  obtain ⟨⟨p', u⟩, hm, rfl⟩ := List.mem_map.mp h
  obtain ⟨h1, h2⟩ := List.mem_filter.mp hm
  exact ⟨u, pp_at t _ u h1, h2⟩
mutual
theorem plain_nopl : ∀ t : T, plainB t = true → stepPl t = []
  | .mk h ks, hp => by
    cases h with
    | input k => obtain rfl : ks = [] := List.isEmpty_iff.mp hp; rfl
    | fixed c => obtain rfl : ks = [] := List.isEmpty_iff.mp hp; rfl
    | dov d => rw [stepPl_mk, if_neg (show ¬ canStep (.mk (.dov d) ks) = true from Bool.false_ne_true), plainL_nopl ks 0 hp]; rfl
    | num _ => cases hp
    | count _ => cases hp
    | op _ => cases hp
    | name _ => cases hp
    | letv _ => cases hp
    | loop _ _ => cases hp
    | pick => cases hp
    | call _ => cases hp
theorem plainL_nopl : ∀ (ts : List T) (j : Nat), plainLB ts = true → stepPlL j ts = []
  | [], _, _ => rfl
  | t :: r, j, hp => by
    have h : (plainB t && plainLB r) = true := hp
    rw [Bool.and_eq_true] at h
    rw [stepPlL_cons, plain_nopl t h.1, plainL_nopl r (j + 1) h.2]; rfl
end
theorem num_nopl {sg : Str → Option (List Bool)} {X C : Str → Prop} {s : Bool} {t : T} (h : Wf sg X C s t) : s = false → stepPl t = [] := by
  induction h with
  | num _ _ => intro _; rfl
  | count _ => intro _; rfl
  | @op X C s m n _ _ _ ih1 ih2 =>
    intro _
    rw [stepPl_mk, if_neg (show ¬ canStep (.mk (.op s) [m, n]) = true from Bool.false_ne_true), stepPlL_cons, stepPlL_cons, ih1 rfl, ih2 rfl]; rfl
  | name _ => intro e; cases e
  | fixed => intro e; cases e
  | input => intro e; cases e
  | dov _ _ => intro e; cases e
  | letv _ _ _ _ => intro e; cases e
  | loop _ _ _ _ _ _ => intro e; cases e
  | pick _ _ _ _ _ => intro e; cases e
  | call _ _ _ _ => intro e; cases e
abbrev Fa : Str → Prop := fun _ => False
theorem num_closed {sg : Str → Option (List Bool)} {X C : Str → Prop} {s : Bool} {t : T} (h : Wf sg X C s t) : s = false → (∀ i, ¬ C i) → closedB t = true := by
  induction h with
  | num _ _ => intro _ _; rfl
  | count h => intro _ hc; exact absurd h (hc _)
  | @op X C s m n _ _ _ ih1 ih2 =>
    intro _ hc
    show (closedB m && (closedB n && true)) = true
    rw [ih1 rfl hc, ih2 rfl hc]; rfl
  | name _ => intro e; cases e
  | fixed => intro e; cases e
  | input => intro e; cases e
  | dov _ _ => intro e; cases e
  | letv _ _ _ _ => intro e; cases e
  | loop _ _ _ _ _ _ => intro e; cases e
  | pick _ _ _ _ _ => intro e; cases e
  | call _ _ _ _ => intro e; cases e
theorem num_inner {sg : Str → Option (List Bool)} {X C : Str → Prop} {t : T} (h : Wf sg X C false t) : innerB t = true := by cases h <;> rfl
theorem thing_inner {sg : Str → Option (List Bool)} {X C : Str → Prop} {t : T} (h : Wf sg X C true t) : innerB t = false := by cases h <;> rfl

/-! ### the first step -/
/-- the first place: its step lowers the cost -/
def Fst (ds : List Df) (c : Nat) (th : Env) (ka : Cnt) (t v : T) : Prop :=
  ∃ p u, (stepPl t).head? = some p ∧ partAt t p = some u ∧ canStep u = true ∧ ∃ c', c' < c ∧ Ev ds c' th ka (.e (replAt t p (stepOf ds u)) v)
theorem fst_root {ds : List Df} {c : Nat} {th : Env} {ka : Cnt} {t v : T} (H : Ev ds c th ka (.e t v)) (hs : canStep t = true) : Fst ds c th ka t v := by
  obtain ⟨h, ks⟩ := t
  obtain ⟨c', hc, q⟩ := root H hs
  refine ⟨[], _, ?_, rfl, hs, c', hc, q⟩
  rw [stepPl_mk, if_pos hs]; rfl
theorem fst_l {ds : List Df} {th : Env} {ka : Cnt} : ∀ (ts vs : List T) (c j0 : Nat), (∀ t ∈ ts, ∀ c v, Ev ds c th ka (.e t v) → plainB t = true ∨ Fst ds c th ka t v) → Ev ds c th ka (.l ts vs) →
    plainLB ts = true ∨ ∃ j k p u, (stepPlL j0 ts).head? = some ((j0 + j) :: p) ∧ ts[j]? = some k ∧ partAt k p = some u ∧ canStep u = true ∧ ∃ c', c' < c ∧ Ev ds c' th ka (.l (ts.set j (replAt k p (stepOf ds u))) vs)
  | [], vs, c, j0, _, H => .inl rfl
  | t :: r, vs, c, j0, ih, H => by
    cases H with
    | @cons c1 c2 _ _ _ v _ vs H1 H2 =>
      rcases ih t List.mem_cons_self _ _ H1 with hp | ⟨p, u, h1, h2, h3, c', hc, q⟩
      · rcases fst_l r vs c2 (j0 + 1) (fun t ht => ih t (List.mem_cons_of_mem _ ht)) H2 with hr | ⟨j, k, p, u, h1, h2, h3, h4, c', hc, q⟩
        · left
          show (plainB t && plainLB r) = true
          rw [hp, hr]; rfl
        · right
          refine ⟨j + 1, k, p, u, ?_, h2, h3, h4, c1 + c', by omega, .cons H1 q⟩
          rw [stepPlL_cons, plain_nopl t hp]
          show (stepPlL (j0 + 1) r).head? = _
          rw [h1, show j0 + 1 + j = j0 + (j + 1) by omega]
      · right
        refine ⟨0, t, p, u, ?_, rfl, h2, h3, c' + c2, by omega, .cons q H2⟩
        rw [stepPlL_cons]
        cases e : stepPl t with
        | nil => rw [e] at h1; cases h1
        | cons p0 rest =>
          rw [e] at h1
          obtain rfl := Option.some.inj h1
          rfl
theorem fst_a {sg : Str → Option (List Bool)} {X C : Str → Prop} (hC : ∀ i, ¬ C i) {ds : List Df} {th : Env} {ka : Cnt} : ∀ (ps : List (Str × Bool)) (ts : List T) (c j0 : Nat) (th0 : Env) (ka0 : Cnt) (th' : Env) (ka' : Cnt),
    (∀ (j : Nat) (t : T) (s : Bool), ts[j]? = some t → (ps.map (·.2))[j]? = some s → Wf sg X C s t) →
    (∀ t ∈ ts, Wf sg X C true t → ∀ c v, Ev ds c th ka (.e t v) → plainB t = true ∨ Fst ds c th ka t v) → Ev ds c th ka (.a ps ts th0 ka0 th' ka') →
    ts.all doneB = true ∨ ∃ j k p u, (stepPlL j0 ts).head? = some ((j0 + j) :: p) ∧ ts[j]? = some k ∧ partAt k p = some u ∧ canStep u = true ∧ ∃ c', c' < c ∧ Ev ds c' th ka (.a ps (ts.set j (replAt k p (stepOf ds u))) th0 ka0 th' ka')
  | _, [], c, j0, _, _, _, _, _, _, H => .inl rfl
  | [], _ :: _, _, _, _, _, _, _, _, _, H => by cases H
  | (x, true) :: ps, t :: r, c, j0, th0, ka0, th', ka', hw, ih, H => by
    cases H with
    | @aT c1 c2 _ _ _ _ _ v _ _ _ _ _ H1 H2 =>
      have w1 : Wf sg X C true t := hw 0 t true rfl rfl
      rcases ih t List.mem_cons_self w1 _ _ H1 with hp | ⟨p, u, h1, h2, h3, c', hc, q⟩
      · rcases fst_a hC ps r c2 (j0 + 1) _ _ _ _ (fun j t s a b => hw (j + 1) t s a b) (fun t ht => ih t (List.mem_cons_of_mem _ ht)) H2 with hr | ⟨j, k, p, u, h1, h2, h3, h4, c', hc, q⟩
        · left
          rw [List.all_cons, hr, Bool.and_true]
          unfold doneB
          rw [thing_inner w1]; exact hp
        · right
          refine ⟨j + 1, k, p, u, ?_, h2, h3, h4, c1 + c', by omega, .aT H1 q⟩
          rw [stepPlL_cons, plain_nopl t hp]
          show (stepPlL (j0 + 1) r).head? = _
          rw [h1, show j0 + 1 + j = j0 + (j + 1) by omega]
      · right
        refine ⟨0, t, p, u, ?_, rfl, h2, h3, c' + c2, by omega, .aT q H2⟩
        rw [stepPlL_cons]
        cases e : stepPl t with
        | nil => rw [e] at h1; cases h1
        | cons p0 rest =>
          rw [e] at h1
          obtain rfl := Option.some.inj h1
          rfl
  | (x, false) :: ps, t :: r, c, j0, th0, ka0, th', ka', hw, ih, H => by
    cases H with
    | aN H1 H2 =>
      have w1 : Wf sg X C false t := hw 0 t false rfl rfl
      rcases fst_a hC ps r c (j0 + 1) _ _ _ _ (fun j t s a b => hw (j + 1) t s a b) (fun t ht => ih t (List.mem_cons_of_mem _ ht)) H2 with hr | ⟨j, k, p, u, h1, h2, h3, h4, c', hc, q⟩
      · left
        rw [List.all_cons, hr, Bool.and_true]
        unfold doneB
        rw [num_inner w1]; exact num_closed w1 rfl hC
      · right
        refine ⟨j + 1, k, p, u, ?_, h2, h3, h4, c', hc, .aN H1 q⟩
        rw [stepPlL_cons, num_nopl w1 rfl]
        show (stepPlL (j0 + 1) r).head? = _
        rw [h1, show j0 + 1 + j = j0 + (j + 1) by omega]
/-- what is known of the programs' defs -/
structure PrgOk (sg : Str → Option (List Bool)) (ds : List Df) : Prop where
  sig : ∀ f ss, sg f = some ss → ∃ d, look ds f = some d ∧ d.ps.map (·.2) = ss
  body : ∀ f d, look ds f = some d → Wf sg (fun x => (x, true) ∈ d.ps) (fun i => (i, false) ∈ d.ps) true d.b
theorem first {sg : Str → Option (List Bool)} {ds : List Df} (P : PrgOk sg ds) {X C : Str → Prop} (hX : ∀ x, ¬ X x) (hC : ∀ i, ¬ C i) {th : Env} {ka : Cnt} : ∀ t : T, Wf sg X C true t → ∀ c v, Ev ds c th ka (.e t v) → plainB t = true ∨ Fst ds c th ka t v := by
  refine T.ind fun h ks ih => ?_
  intro w c v H
  cases w with
  | name hx => exact absurd hx (hX _)
  | fixed => exact .inl rfl
  | input => exact .inl rfl
  | @dov _ _ d _ hk =>
    cases H with
    | dov H =>
      rcases fst_l ks _ c 0 (fun t ht => ih t ht (hk t ht)) H with hp | ⟨j, k, p, u, h1, h2, h3, h4, c', hc, q⟩
      · exact .inl hp
      · right
        refine ⟨j :: p, u, ?_, ?_, h4, c', hc, ?_⟩
        · rw [stepPl_mk, if_neg (show ¬ canStep (.mk (.dov d) ks) = true from Bool.false_ne_true), List.nil_append, h1, Nat.zero_add]
        · simp only [partAt, h2]; exact h3
        · simp only [replAt, h2]; exact .dov q
  | @letv _ _ x a b wa wb =>
    right
    by_cases hs : canStep (.mk (.letv x) [a, b]) = true
    · exact fst_root H hs
    · cases H with
      | @letv c1 c2 _ _ _ _ _ va _ H1 H2 =>
        rcases ih a List.mem_cons_self wa _ _ H1 with hp | ⟨p, u, h1, h2, h3, c', hc, q⟩
        · exact absurd hp hs
        · refine ⟨0 :: p, u, ?_, h2, h3, c' + c2 + 1, by omega, .letv q H2⟩
          rw [stepPl_mk, if_neg hs, stepPlL_cons]
          cases e : stepPl a with
          | nil => rw [e] at h1; cases h1
          | cons p0 rest =>
            rw [e] at h1
            obtain rfl := Option.some.inj h1
            rfl
  | loop wn wa wb => exact .inr (fst_root H (num_closed wn rfl hC))
  | pick wn _ _ => exact .inr (fst_root H (num_closed wn rfl hC))
  | @call _ _ f ts ss hf hl hk =>
    right
    by_cases hs : canStep (.mk (.call f) ks) = true
    · exact fst_root H hs
    · cases H with
      | @call c1 c2 _ _ _ _ d th' ka' _ hd H1 H2 =>
        obtain ⟨d', hd', e'⟩ := P.sig f ss hf
        rw [hd] at hd'
        obtain rfl := Option.some.inj hd'
        rcases fst_a hC d.ps ks c1 0 _ _ _ _ (fun j t s a b => hk j t s a (by rw [← e']; exact b)) (fun t ht w => ih t ht w) H1 with hp | ⟨j, k, p, u, h1, h2, h3, h4, c', hc, q⟩
        · exact absurd hp hs
        · refine ⟨j :: p, u, ?_, ?_, h4, c' + c2 + 1, by omega, ?_⟩
          · rw [stepPl_mk, if_neg hs, List.nil_append, h1, Nat.zero_add]
          · simp only [partAt, h2]; exact h3
          · simp only [replAt, h2]; exact .call hd q H2
/-- where no step is left -/
theorem no_step_left {sg : Str → Option (List Bool)} {ds : List Df} (P : PrgOk sg ds) {c : Nat} {th : Env} {ka : Cnt} {t v : T} (w : Wf sg Fa Fa true t) (H : Ev ds c th ka (.e t v)) (h : stepPl t = []) : plainB t = true ∧ t = v := by
  rcases first P (fun _ h => h) (fun _ h => h) t w c v H with hp | ⟨p, u, h1, _⟩
  · exact ⟨hp, (plain_det t c v hp H).1.symm⟩
  · rw [h] at h1; cases h1

/-! ### values -/
theorem opv_range {s : Str} {m n : Int} (h1 : 0 ≤ m) (h2 : m < 1000000) (h3 : 0 ≤ n) (h4 : n < 1000000) : 0 ≤ opv s m n ∧ opv s m n < 1000000 := by
  unfold opv
  split
  · exact ⟨Int.emod_nonneg _ (by decide), Int.emod_lt_of_pos _ (by decide)⟩
  · split
    · exact ⟨Int.emod_nonneg _ (by decide), Int.emod_lt_of_pos _ (by decide)⟩
    · split
      · split <;> exact ⟨by decide, by decide⟩
      · split
        · exact ⟨h1, h2⟩
        · rename_i hn
          have := Int.emod_nonneg m hn
          have := Int.emod_lt_of_pos m (show 0 < n by omega)
          exact ⟨by omega, by omega⟩
def KaOk (C : Str → Prop) (ka : Cnt) : Prop := ∀ i, C i → ∃ v, ka i = some v ∧ 0 ≤ v ∧ v < 1000000
theorem nvo_wf {sg : Str → Option (List Bool)} {X C : Str → Prop} {s : Bool} {t : T} (h : Wf sg X C s t) : s = false → ∀ ka, KaOk C ka → ∃ v, nvo ka t = some v ∧ 0 ≤ v ∧ v < 1000000 := by
  induction h with
  | num h1 h2 => intro _ ka _; exact ⟨_, rfl, h1, h2⟩
  | count h => intro _ ka hk; exact hk _ h
  | @op X C s m n _ _ _ ih1 ih2 =>
    intro _ ka hk
    obtain ⟨v1, e1, a1, b1⟩ := ih1 rfl ka hk
    obtain ⟨v2, e2, a2, b2⟩ := ih2 rfl ka hk
    refine ⟨opv s v1 v2, ?_, opv_range a1 b1 a2 b2⟩
    simp only [nvo, nvoL, e1, e2]
  | name _ => intro e; cases e
  | fixed => intro e; cases e
  | input => intro e; cases e
  | dov _ _ => intro e; cases e
  | letv _ _ _ _ => intro e; cases e
  | loop _ _ _ _ _ _ => intro e; cases e
  | pick _ _ _ _ _ => intro e; cases e
  | call _ _ _ _ => intro e; cases e
/-- a closed number's value does not hang on what counts stand for -/
theorem nv0_wf {sg : Str → Option (List Bool)} {X C : Str → Prop} {t : T} (h : Wf sg X C false t) (hc : closedB t = true) : nvo (fun _ => none) t = some (nv0 t) ∧ 0 ≤ nv0 t ∧ nv0 t < 1000000 := by
  obtain ⟨v, e, a, b⟩ := nvo_wf h rfl (fun _ => some 0) fun i _ => ⟨0, rfl, by decide, by decide⟩
  have e0 := nv0_closed hc e
  rw [nvo_closed (ka2 := fun _ => none) t hc] at e
  rw [e0]; exact ⟨e, a, b⟩

/-! ### what is kept of well made terms -/
mutual
theorem plain_wf {sg : Str → Option (List Bool)} {X C : Str → Prop} : ∀ t : T, plainB t = true → Wf sg X C true t
  | .mk h ks, hp => by
    cases h with
    | input k => obtain rfl : ks = [] := List.isEmpty_iff.mp hp; exact .input
    | fixed c => obtain rfl : ks = [] := List.isEmpty_iff.mp hp; exact .fixed
    | dov d => exact .dov (plainL_wf ks hp)
    | num _ => cases hp
    | count _ => cases hp
    | op _ => cases hp
    | name _ => cases hp
    | letv _ => cases hp
    | loop _ _ => cases hp
    | pick => cases hp
    | call _ => cases hp
theorem plainL_wf {sg : Str → Option (List Bool)} {X C : Str → Prop} : ∀ ts : List T, plainLB ts = true → ∀ t ∈ ts, Wf sg X C true t
  | [], _, _, h => nomatch h
  | t :: r, hp, u, hu => by
    have h : (plainB t && plainLB r) = true := hp
    rw [Bool.and_eq_true] at h
    exact (List.mem_cons.mp hu).elim (fun e => e ▸ plain_wf t h.1) (fun e => plainL_wf r h.2 u e)
end
structure WCmp (a b : Sub) (X X2 C C2 : Str → Prop) : Prop where
  t : ∀ x, X x → (∃ p, a x = some p ∧ plainB p = true) ∨ (a x = none ∧ X2 x)
  c : ∀ i, C i → (∃ v : Int, b i = some (.mk (.num v) []) ∧ 0 ≤ v ∧ v < 1000000) ∨ (b i = none ∧ C2 i)
theorem WCmp.bind {a b : Sub} {X X2 C C2 : Str → Prop} (W : WCmp a b X X2 C C2) (x : Str) : WCmp (minus a (some x)) b (fun y => y = x ∨ X y) (fun y => y = x ∨ X2 y) C C2 := by
  refine ⟨fun y hy => ?_, W.c⟩
  by_cases e : y = x
  · exact .inr ⟨if_pos e, .inl e⟩
  · rcases hy with hy | hy
    · exact absurd hy e
    · rcases W.t y hy with ⟨p, h1, h2⟩ | ⟨h1, h2⟩
      · exact .inl ⟨p, (if_neg e).trans h1, h2⟩
      · exact .inr ⟨(if_neg e).trans h1, .inr h2⟩
theorem WCmp.bind2 {a b : Sub} {X X2 C C2 : Str → Prop} (W : WCmp a b X X2 C C2) (x i : Str) : WCmp (minus a (some x)) (minus b (some i)) (fun y => y = x ∨ X y) (fun y => y = x ∨ X2 y) (fun y => y = i ∨ C y) (fun y => y = i ∨ C2 y) := by
  refine ⟨(W.bind x).t, fun y hy => ?_⟩
  by_cases e : y = i
  · exact .inr ⟨if_pos e, .inl e⟩
  · rcases hy with hy | hy
    · exact absurd hy e
    · rcases W.c y hy with ⟨p, h1, h2⟩ | ⟨h1, h2⟩
      · exact .inl ⟨p, (if_neg e).trans h1, h2⟩
      · exact .inr ⟨(if_neg e).trans h1, .inr h2⟩
theorem Wf.put {sg : Str → Option (List Bool)} {X C : Str → Prop} {s : Bool} {t : T} (h : Wf sg X C s t) : ∀ {a b : Sub} {X2 C2 : Str → Prop}, WCmp a b X X2 C C2 → Wf sg X2 C2 s (t.put a b) := by
  induction h with
  | num h1 h2 => intro a b X2 C2 W; exact .num h1 h2
  | @count X C i h =>
    intro a b X2 C2 W
    show Wf sg X2 C2 false ((b i).getD (.mk (.count i) []))
    rcases W.c i h with ⟨v, e, h1, h2⟩ | ⟨e, h1⟩
    · rw [e]; exact .num h1 h2
    · rw [e]; exact .count h1
  | op ho _ _ ih1 ih2 => intro a b X2 C2 W; exact .op ho (ih1 W) (ih2 W)
  | @name X C x h =>
    intro a b X2 C2 W
    show Wf sg X2 C2 true ((a x).getD (.mk (.name x) []))
    rcases W.t x h with ⟨p, e, h1⟩ | ⟨e, h1⟩
    · rw [e]; exact plain_wf p h1
    · rw [e]; exact .name h1
  | fixed => intro a b X2 C2 W; exact .fixed
  | input => intro a b X2 C2 W; exact .input
  | @dov X C d ts _ ih =>
    intro a b X2 C2 W
    show Wf sg X2 C2 true (.mk (.dov d) (putL (.dov d) 0 a b ts))
    rw [putL_map (.dov d) (fun _ => rfl) (fun _ => rfl)]
    refine .dov fun t ht => ?_
    obtain ⟨u, hu, rfl⟩ := List.mem_map.mp ht
    exact ih u hu W
  | letv _ _ ih1 ih2 => intro a b X2 C2 W; exact .letv (ih1 W) (ih2 (W.bind _))
  | loop _ _ _ ih0 ih1 ih2 => intro a b X2 C2 W; exact .loop (ih0 W) (ih1 W) (ih2 (W.bind2 _ _))
  | @pick X C n ts _ hne _ ih0 ih =>
    intro a b X2 C2 W
    show Wf sg X2 C2 true (.mk .pick (n.put a b :: putL .pick 1 a b ts))
    rw [putL_map .pick (fun _ => rfl) (fun _ => rfl)]
    refine .pick (ih0 W) (fun e => hne (List.map_eq_nil_iff.mp e)) fun t ht => ?_
    obtain ⟨u, hu, rfl⟩ := List.mem_map.mp ht
    exact ih u hu W
  | @call X C f ts ss hf hl _ ih =>
    intro a b X2 C2 W
    show Wf sg X2 C2 true (.mk (.call f) (putL (.call f) 0 a b ts))
    rw [putL_map (.call f) (fun _ => rfl) (fun _ => rfl)]
    refine .call hf (by rw [List.length_map]; exact hl) fun j t s hj hs => ?_
    rw [List.getElem?_map] at hj
    cases e : ts[j]? with
    | none => rw [e] at hj; cases hj
    | some u =>
      rw [e] at hj
      obtain rfl := Option.some.inj hj
      exact ih j u s e hs W
/-- what a call's params stand for is plain, and numbers -/
theorem bindA_wf {sg : Str → Option (List Bool)} {X C : Str → Prop} : ∀ (ps : List (Str × Bool)) (ts : List T) (a0 b0 : Sub), ts.length = ps.length → ts.all doneB = true → (∀ (j : Nat) (t : T) (s : Bool), ts[j]? = some t → (ps.map (·.2))[j]? = some s → Wf sg X C s t) →
    (∀ x, ((x, true) ∈ ps ∨ ∃ p, a0 x = some p ∧ plainB p = true) → ∃ p, (bindA ps ts a0 b0).1 x = some p ∧ plainB p = true) ∧
    (∀ i, ((i, false) ∈ ps ∨ ∃ v : Int, b0 i = some (.mk (.num v) []) ∧ 0 ≤ v ∧ v < 1000000) → ∃ v : Int, (bindA ps ts a0 b0).2 i = some (.mk (.num v) []) ∧ 0 ≤ v ∧ v < 1000000)
  | [], [], a0, b0, _, _, _ => ⟨fun x h => h.elim (fun h => nomatch h) id, fun x h => h.elim (fun h => nomatch h) id⟩
  | [], _ :: _, _, _, hl, _, _ => by cases hl
  | _ :: _, [], _, _, hl, _, _ => by cases hl
  | (x, true) :: ps, t :: ts, a0, b0, hl, hd, hw => by
    rw [List.all_cons, Bool.and_eq_true] at hd
    have w1 : Wf sg X C true t := hw 0 t true rfl rfl
    have hp : plainB t = true := by
      have := hd.1
      unfold doneB at this
      rw [thing_inner w1] at this
      exact this
    obtain ⟨g1, g2⟩ := bindA_wf (sg := sg) (X := X) (C := C) ps ts (plus a0 x t) b0 (Nat.succ.inj hl) hd.2 fun j t s a b => hw (j + 1) t s a b
    refine ⟨fun y h => g1 y ?_, fun i h => g2 i ?_⟩
    · by_cases e : y = x
      · exact .inr ⟨t, if_pos e, hp⟩
      · rcases h with h | ⟨p, h1, h2⟩
        · rcases List.mem_cons.mp h with h | h
          · cases h; exact absurd rfl e
          · exact .inl h
        · exact .inr ⟨p, (if_neg e).trans h1, h2⟩
    · rcases h with h | h
      · rcases List.mem_cons.mp h with h | h
        · cases h
        · exact .inl h
      · exact .inr h
  | (x, false) :: ps, t :: ts, a0, b0, hl, hd, hw => by
    rw [List.all_cons, Bool.and_eq_true] at hd
    have w1 : Wf sg X C false t := hw 0 t false rfl rfl
    have hc : closedB t = true := by
      have := hd.1
      unfold doneB at this
      rw [num_inner w1] at this
      exact this
    obtain ⟨_, r1, r2⟩ := nv0_wf w1 hc
    obtain ⟨g1, g2⟩ := bindA_wf (sg := sg) (X := X) (C := C) ps ts a0 (plus b0 x (.mk (.num (nv0 t)) [])) (Nat.succ.inj hl) hd.2 fun j t s a b => hw (j + 1) t s a b
    refine ⟨fun y h => g1 y ?_, fun i h => g2 i ?_⟩
    · rcases h with h | h
      · rcases List.mem_cons.mp h with h | h
        · cases h
        · exact .inl h
      · exact .inr h
    · by_cases e : i = x
      · exact .inr ⟨nv0 t, if_pos e, r1, r2⟩
      · rcases h with h | ⟨p, h1, h2⟩
        · rcases List.mem_cons.mp h with h | h
          · cases h; exact absurd rfl e
          · exact .inl h
        · exact .inr ⟨p, (if_neg e).trans h1, h2⟩
theorem wf_root {sg : Str → Option (List Bool)} {ds : List Df} (P : PrgOk sg ds) {X C : Str → Prop} {s : Bool} {t : T} (w : Wf sg X C s t) (hs : canStep t = true) : Wf sg X C s (stepOf ds t) := by
  cases w with
  | num _ _ => cases hs
  | count _ => cases hs
  | op _ _ _ => cases hs
  | name _ => cases hs
  | fixed => cases hs
  | input => cases hs
  | dov _ => cases hs
  | @letv _ _ x a b wa wb =>
    show Wf sg X C true (b.put (one x a) none')
    refine wb.put ⟨fun y hy => ?_, fun i hi => .inr ⟨rfl, hi⟩⟩
    by_cases e : y = x
    · exact .inl ⟨a, if_pos e, hs⟩
    · rcases hy with hy | hy
      · exact absurd hy e
      · exact .inr ⟨if_neg e, hy⟩
  | @loop _ _ i x n a b wn wa wb =>
    have hc : closedB n = true := hs
    obtain ⟨_, r1, r2⟩ := nv0_wf wn hc
    show Wf sg X C true (if nv0 n = 0 then a else .mk (.letv x) [.mk (.loop i x) [.mk (.num (nv0 n - 1)) [], a, b], b.put none' (one i (.mk (.num (nv0 n - 1)) []))])
    by_cases e : nv0 n = 0
    · rw [if_pos e]; exact wa
    · rw [if_neg e]
      refine .letv (.loop (.num (by omega) (by omega)) wa wb) (wb.put ⟨fun y hy => .inr ⟨rfl, hy⟩, fun j hj => ?_⟩)
      by_cases q : j = i
      · exact .inl ⟨nv0 n - 1, if_pos q, by omega, by omega⟩
      · rcases hj with hj | hj
        · exact absurd hj q
        · exact .inr ⟨if_neg q, hj⟩
  | @pick _ _ n ts wn hne hk =>
    show Wf sg X C true ((ts[(nv0 n % ts.length).toNat]?).getD n)
    have hl : 0 < ts.length := List.length_pos_iff.mpr hne
    have h1 := Int.emod_nonneg (nv0 n) (show (ts.length : Int) ≠ 0 by omega)
    have h2 := Int.emod_lt_of_pos (nv0 n) (show 0 < (ts.length : Int) by omega)
    have h3 : (nv0 n % ts.length).toNat < ts.length := by omega
    rw [List.getElem?_eq_getElem h3]
    exact hk _ (List.getElem_mem h3)
  | @call _ _ f ts ss hf hl hk =>
    obtain ⟨d, hd, e⟩ := P.sig f ss hf
    have e2 : stepOf ds (.mk (.call f) ts) = d.b.put (bindA d.ps ts none' none').1 (bindA d.ps ts none' none').2 := by
      show (match look ds f with | some d => _ | none => _) = _
      rw [hd]
    rw [e2]
    obtain ⟨g1, g2⟩ := bindA_wf (sg := sg) (X := X) (C := C) d.ps ts none' none' (by rw [hl, ← e, List.length_map]) hs fun j t s a b => hk j t s a (by rw [← e]; exact b)
    exact (P.body f d hd).put ⟨fun x hx => .inl (g1 x (.inl hx)), fun i hi => .inl (g2 i (.inl hi))⟩
theorem wf_at {sg : Str → Option (List Bool)} {ds : List Df} (P : PrgOk sg ds) {u : T} (hs : canStep u = true) : ∀ (p : List Nat) (t : T) (X C : Str → Prop) (s : Bool), Wf sg X C s t → partAt t p = some u → Wf sg X C s (replAt t p (stepOf ds u))
  | [], t, X, C, s, w, h => by
    obtain rfl : t = u := Option.some.inj h
    exact wf_root P w hs
  | j :: p, .mk hd ks, X, C, s, w, h => by
    cases e : ks[j]? with
    | none => simp [partAt, e] at h
    | some k =>
      simp only [partAt, e] at h
      simp only [replAt, e]
      have ih := fun X C s w => wf_at P hs p k X C s w h
      cases w with
      | num _ _ => simp at e
      | count _ => simp at e
      | name _ => simp at e
      | fixed => simp at e
      | input => simp at e
      | op ho w1 w2 =>
        match j, e with
        | 0, e => obtain rfl := Option.some.inj e; exact .op ho (ih _ _ _ w1) w2
        | 1, e => obtain rfl := Option.some.inj e; exact .op ho w1 (ih _ _ _ w2)
        | _ + 2, e => simp at e
      | dov hk =>
        refine .dov fun t ht => ?_
        rcases List.mem_or_eq_of_mem_set ht with ht | rfl
        · exact hk t ht
        · exact ih _ _ _ (hk k (List.mem_of_getElem? e))
      | letv w1 w2 =>
        match j, e with
        | 0, e => obtain rfl := Option.some.inj e; exact .letv (ih _ _ _ w1) w2
        | 1, e => obtain rfl := Option.some.inj e; exact .letv w1 (ih _ _ _ w2)
        | _ + 2, e => simp at e
      | loop w0 w1 w2 =>
        match j, e with
        | 0, e => obtain rfl := Option.some.inj e; exact .loop (ih _ _ _ w0) w1 w2
        | 1, e => obtain rfl := Option.some.inj e; exact .loop w0 (ih _ _ _ w1) w2
        | 2, e => obtain rfl := Option.some.inj e; exact .loop w0 w1 (ih _ _ _ w2)
        | _ + 3, e => simp at e
      | @pick _ _ n ts w0 hne hk =>
        match j, e with
        | 0, e => obtain rfl := Option.some.inj e; exact .pick (ih _ _ _ w0) hne hk
        | j + 1, e =>
          have e' : ts[j]? = some k := e
          refine .pick (ts := ts.set j (replAt k p (stepOf ds u))) w0 (fun q => hne ?_) fun t ht => ?_
          · have := congrArg List.length q
            rw [List.length_set] at this
            exact List.length_eq_zero_iff.mp this
          · rcases List.mem_or_eq_of_mem_set ht with ht | rfl
            · exact hk t ht
            · exact ih _ _ _ (hk k (List.mem_of_getElem? e'))
      | call hf hl hk =>
        refine .call hf (by rw [List.length_set]; exact hl) fun i t s hi hs => ?_
        by_cases q : i = j
        · subst q
          rw [List.getElem?_set_self (List.getElem?_eq_some_iff.mp e).1] at hi
          obtain rfl := Option.some.inj hi
          exact ih _ _ _ (hk i k s e hs)
        · rw [List.getElem?_set_ne (Ne.symm q)] at hi
          exact hk i t s hi hs

/-! ### sizes -/
mutual
def sizePut (s : Str → Option Nat) : T → Nat
  | .mk h ks => match h with
    | .name x => (s x).getD 1
    | _ => 1 + sizePutL h 0 s ks
def sizePutL (h : Hd) (j : Nat) (s : Str → Option Nat) : List T → Nat
  | [] => 0
  | t :: r => sizePut (minus s (bT h j)) t + sizePutL h (j + 1) s r
end
def szs (a : Sub) : Str → Option Nat := fun x => (a x).map T.sz
theorem szs_minus (a : Sub) (o : Option Str) : szs (minus a o) = minus (szs a) o := by
  cases o with
  | none => rfl
  | some x =>
    funext y
    show Option.map T.sz (if y = x then none else a y) = if y = x then none else Option.map T.sz (a y)
    split <;> rfl
theorem sizePutL_map (h : Hd) (hT : ∀ j, bT h j = none) (s : Str → Option Nat) : ∀ (ks : List T) (j : Nat), sizePutL h j s ks = (ks.map (sizePut s)).sum
  | [], _ => rfl
  | t :: r, j => by
    show sizePut (minus s (bT h j)) t + sizePutL h (j + 1) s r = sizePut s t + (r.map (sizePut s)).sum
    rw [sizePutL_map h hT s r, hT]; rfl
theorem szL_map_eq {f : T → T} {g : T → Nat} : ∀ ks : List T, (∀ k ∈ ks, (f k).sz = g k) → szL (ks.map f) = (ks.map g).sum
  | [], _ => rfl
  | t :: r, h => by
    show (f t).sz + szL (r.map f) = g t + (r.map g).sum
    rw [h t List.mem_cons_self, szL_map_eq r fun k hk => h k (List.mem_cons_of_mem _ hk)]
theorem put_sz {sg : Str → Option (List Bool)} {X C : Str → Prop} {s : Bool} {t : T} (h : Wf sg X C s t) : ∀ {a b : Sub}, (∀ i p, b i = some p → p.sz = 1) → (t.put a b).sz = sizePut (szs a) t := by
  have hm : ∀ (b : Sub) (o : Option Str), (∀ i p, b i = some p → p.sz = 1) → ∀ i p, minus b o i = some p → p.sz = 1 := fun b o hb i p e => by
    cases o with
    | none => exact hb i p e
    | some x =>
      have e' : (if i = x then none else b i) = some p := e
      split at e'
      · cases e'
      · exact hb i p e'
  induction h with
  | num h1 h2 => intro a b hb; rfl
  | @count X C i h =>
    intro a b hb
    show ((b i).getD (.mk (.count i) [])).sz = 1
    cases e : b i with
    | none => rfl
    | some p => exact hb i p e
  | op ho _ _ ih1 ih2 =>
    intro a b hb
    show 1 + ((T.put a b _).sz + ((T.put a b _).sz + 0)) = 1 + (sizePut (szs a) _ + (sizePut (szs a) _ + 0))
    rw [ih1 hb, ih2 hb]
  | @name X C x h =>
    intro a b hb
    show ((a x).getD (.mk (.name x) [])).sz = ((a x).map T.sz).getD 1
    cases a x <;> rfl
  | fixed => intro a b hb; rfl
  | input => intro a b hb; rfl
  | @dov X C d ts _ ih =>
    intro a b hb
    show 1 + szL (putL (.dov d) 0 a b ts) = 1 + sizePutL (.dov d) 0 (szs a) ts
    rw [putL_map (.dov d) (fun _ => rfl) (fun _ => rfl), sizePutL_map (.dov d) (fun _ => rfl), szL_map_eq ts fun k hk => ih k hk hb]
  | letv _ _ ih1 ih2 =>
    intro a b hb
    show 1 + ((T.put a b _).sz + ((T.put (minus a (some _)) b _).sz + 0)) = 1 + (sizePut (szs a) _ + (sizePut (minus (szs a) (some _)) _ + 0))
    rw [ih1 hb, ih2 hb, szs_minus]
  | loop _ _ _ ih0 ih1 ih2 =>
    intro a b hb
    show 1 + ((T.put a b _).sz + ((T.put a b _).sz + ((T.put (minus a (some _)) (minus b (some _)) _).sz + 0))) = 1 + (sizePut (szs a) _ + (sizePut (szs a) _ + (sizePut (minus (szs a) (some _)) _ + 0)))
    rw [ih0 hb, ih1 hb, ih2 (hm b _ hb), szs_minus]
  | @pick X C n ts _ hne _ ih0 ih =>
    intro a b hb
    show 1 + ((T.put a b n).sz + szL (putL .pick 1 a b ts)) = 1 + (sizePut (szs a) n + sizePutL .pick 1 (szs a) ts)
    rw [putL_map .pick (fun _ => rfl) (fun _ => rfl), sizePutL_map .pick (fun _ => rfl), szL_map_eq ts fun k hk => ih k hk hb, ih0 hb]
  | @call X C f ts ss hf hl hk ih =>
    intro a b hb
    show 1 + szL (putL (.call f) 0 a b ts) = 1 + sizePutL (.call f) 0 (szs a) ts
    rw [putL_map (.call f) (fun _ => rfl) (fun _ => rfl), sizePutL_map (.call f) (fun _ => rfl), szL_map_eq ts fun k hk => ?_]
    obtain ⟨j, hj⟩ := List.mem_iff_getElem?.mp hk
    have hlt : j < ss.length := by rw [← hl]; exact (List.getElem?_eq_some_iff.mp hj).1
    exact ih j k ss[j] hj (List.getElem?_eq_getElem hlt) hb
theorem put_sz0 {sg : Str → Option (List Bool)} {X C : Str → Prop} {s : Bool} {t : T} (h : Wf sg X C s t) : sizePut (fun _ => none) t = t.sz := by
  induction h with
  | num h1 h2 => rfl
  | count h => rfl
  | op ho _ _ ih1 ih2 =>
    show 1 + (sizePut (fun _ => none) _ + (sizePut (fun _ => none) _ + 0)) = 1 + (_ + (_ + 0))
    rw [ih1, ih2]
  | name h => rfl
  | fixed => rfl
  | input => rfl
  | @dov X C d ts _ ih =>
    show 1 + sizePutL (.dov d) 0 _ ts = 1 + szL ts
    rw [sizePutL_map (.dov d) (fun _ => rfl), ← szL_map_eq (f := id) ts fun k hk => (ih k hk).symm, List.map_id]
  | @letv X C x a b _ _ ih1 ih2 =>
    show 1 + (sizePut (fun _ => none) a + (sizePut (minus (fun _ => none) (some x)) b + 0)) = 1 + (a.sz + (b.sz + 0))
    rw [ih1, show minus (fun _ => (none : Option Nat)) (some x) = fun _ => none from by funext y; show (if y = x then none else none) = none; split <;> rfl, ih2]
  | @loop X C i x n a b _ _ _ ih0 ih1 ih2 =>
    show 1 + (sizePut (fun _ => none) n + (sizePut (fun _ => none) a + (sizePut (minus (fun _ => none) (some x)) b + 0))) = 1 + (n.sz + (a.sz + (b.sz + 0)))
    rw [ih0, ih1, show minus (fun _ => (none : Option Nat)) (some x) = fun _ => none from by funext y; show (if y = x then none else none) = none; split <;> rfl, ih2]
  | @pick X C n ts _ hne _ ih0 ih =>
    show 1 + (sizePut (fun _ => none) n + sizePutL .pick 1 _ ts) = 1 + (n.sz + szL ts)
    rw [sizePutL_map .pick (fun _ => rfl), ← szL_map_eq (f := id) ts fun k hk => (ih k hk).symm, List.map_id, ih0]
  | @call X C f ts ss hf hl hk ih =>
    show 1 + sizePutL (.call f) 0 _ ts = 1 + szL ts
    rw [sizePutL_map (.call f) (fun _ => rfl), ← szL_map_eq (f := id) ts fun k hk => ?_, List.map_id]
    obtain ⟨j, hj⟩ := List.mem_iff_getElem?.mp hk
    have hlt : j < ss.length := by rw [← hl]; exact (List.getElem?_eq_some_iff.mp hj).1
    exact (ih j k ss[j] hj (List.getElem?_eq_getElem hlt)).symm
/-- the sizes of what a call's params stand for -/
def bindS : List (Str × Bool) → List T → (Str → Option Nat) → Str → Option Nat
  | (x, true) :: ps, t :: ts, s => bindS ps ts (plus s x t.sz)
  | (_, false) :: ps, _ :: ts, s => bindS ps ts s
  | _, _, s => s
theorem bindS_eq : ∀ (ps : List (Str × Bool)) (ts : List T) (a b : Sub), szs (bindA ps ts a b).1 = bindS ps ts (szs a)
  | [], [], _, _ => rfl
  | [], _ :: _, _, _ => rfl
  | (_, true) :: _, [], _, _ => rfl
  | (_, false) :: _, [], _, _ => rfl
  | (x, true) :: ps, t :: ts, a, b => by
    show szs (bindA ps ts (plus a x t) b).1 = bindS ps ts (plus (szs a) x t.sz)
    rw [bindS_eq ps ts]
    congr 1
    funext y
    show Option.map T.sz (if y = x then some t else a y) = if y = x then some t.sz else Option.map T.sz (a y)
    split <;> rfl
  | (x, false) :: ps, t :: ts, a, b => bindS_eq ps ts a _
def stepSize (ds : List Df) : T → Nat
  | .mk h ks => match h, ks with
    | .letv x, [a, b] => sizePut (plus (fun _ => none) x a.sz) b
    | .loop i x, [n, a, b] => if nv0 n = 0 then a.sz else 3 + a.sz + 2 * b.sz
    | .pick, n :: ts => ((ts[(nv0 n % ts.length).toNat]?).getD n).sz
    | .call f, ts => match look ds f with
      | some d => sizePut (bindS d.ps ts (fun _ => none)) d.b
      | none => 0
    | _, _ => 0
theorem bindA_num : ∀ (ps : List (Str × Bool)) (ts : List T) (a b : Sub), (∀ i p, b i = some p → p.sz = 1) → ∀ i p, (bindA ps ts a b).2 i = some p → p.sz = 1
  | [], [], _, _, hb => hb
  | [], _ :: _, _, _, hb => hb
  | (_, true) :: _, [], _, _, hb => hb
  | (_, false) :: _, [], _, _, hb => hb
  | (x, true) :: ps, t :: ts, a, b, hb => bindA_num ps ts _ b hb
  | (x, false) :: ps, t :: ts, a, b, hb => bindA_num ps ts a _ fun i p e => by
    rcases plus_some e with ⟨_, rfl⟩ | ⟨_, e⟩
    · rfl
    · exact hb i p e
theorem step_sz {sg : Str → Option (List Bool)} {ds : List Df} (P : PrgOk sg ds) {X C : Str → Prop} {s : Bool} {t : T} (w : Wf sg X C s t) (hs : canStep t = true) : (stepOf ds t).sz = stepSize ds t := by
  cases w with
  | num _ _ => cases hs
  | count _ => cases hs
  | op _ _ _ => cases hs
  | name _ => cases hs
  | fixed => cases hs
  | input => cases hs
  | dov _ => cases hs
  | @letv _ _ x a b wa wb =>
    show (b.put (one x a) none').sz = sizePut (plus (fun _ => none) x a.sz) b
    rw [put_sz wb (b := none') (fun _ _ e => by cases e)]
    congr 1
    funext y
    show Option.map T.sz (if y = x then some a else none) = if y = x then some a.sz else none
    split <;> rfl
  | @loop _ _ i x n a b wn wa wb =>
    show (if nv0 n = 0 then a else .mk (.letv x) [.mk (.loop i x) [.mk (.num (nv0 n - 1)) [], a, b], b.put none' (one i (.mk (.num (nv0 n - 1)) []))]).sz = if nv0 n = 0 then a.sz else 3 + a.sz + 2 * b.sz
    split
    · rfl
    · show 1 + ((1 + ((1 + 0) + (a.sz + (b.sz + 0)))) + ((b.put none' (one i (.mk (.num (nv0 n - 1)) []))).sz + 0)) = _
      rw [put_sz wb fun j p e => ?_, show szs none' = fun _ => none from rfl, put_sz0 wb]
      · omega
      · have e' : (if j = i then some (T.mk (.num (nv0 n - 1)) []) else none) = some p := e
        split at e'
        · obtain rfl := Option.some.inj e'; rfl
        · cases e'
  | pick wn hne hk => rfl
  | @call _ _ f ts ss hf hl hk =>
    obtain ⟨d, hd, e⟩ := P.sig f ss hf
    have e2 : stepOf ds (.mk (.call f) ts) = d.b.put (bindA d.ps ts none' none').1 (bindA d.ps ts none' none').2 := by
      show (match look ds f with | some d => _ | none => _) = _
      rw [hd]
    have e3 : stepSize ds (.mk (.call f) ts) = sizePut (bindS d.ps ts (fun _ => none)) d.b := by
      show (match look ds f with | some d => _ | none => _) = _
      rw [hd]
    rw [e2, e3, put_sz (P.body f d hd) (bindA_num d.ps ts none' none' (fun _ _ e => by cases e)), bindS_eq]; rfl
end Sf
end
section
set_option Elab.async false
set_option linter.all false
set_option maxRecDepth 100000
/-! Walk 0: data that is known of values (D, Is), what is known of slots (Ok), readings over it (WE, WT, WA, WS). -/
namespace Sf
open PySem L2

inductive D where
  | non | bl (b : Bool) | int (i : Int) | str (s : Str) | tup (ds : List D) | lst (ds : List D) | dict (ks : List Str) (ds : List D) | adr (a : Addr)

/-- where a mutable thing may stand that is only read: not in F, not in O -/
abbrev Aset := Addr → Prop
def AF : Aset := fun _ => False
def AT : Aset := fun _ => True

mutual
def Is (K : PySem.W.Frag) (F O : Aset) (H : Hp) : V → D → Prop
  | v, .non => v = .non
  | v, .bl b => v = .bl b
  | v, .int i => v = .int i
  | v, .str s => v = .str s
  | v, .adr a => v = .ref a
  | v, .tup ds => ∃ a vs, v = .ref a ∧ SqT K H a vs ∧ IsL K F O H vs ds
  | v, .lst ds => ∃ a vs, v = .ref a ∧ ¬ F a ∧ ¬ O a ∧ H a = some (.lst vs) ∧ IsL K F O H vs ds
  | v, .dict ks ds => ∃ a ws, v = .ref a ∧ ¬ F a ∧ ¬ O a ∧ H a = some (.dK ws) ∧ ws.map (·.1) = ks.map Sum.inr ∧ IsL K F O H (ws.map (·.2)) ds
def IsL (K : PySem.W.Frag) (F O : Aset) (H : Hp) : List V → List D → Prop
  | [], [] => True
  | v :: vs, d :: ds => Is K F O H v d ∧ IsL K F O H vs ds
  | _, _ => False
end

/-- what is kept: all that is tracked but what stands in F, and the tuples -/
structure Kp (F : Aset) (H H' : Hp) : Prop where
  k : ∀ b o, ¬ F b → H b = some o → H' b = some o
  t : ∀ b xs, H b = some (.tup xs) → H' b = some (.tup xs)
  z : ∀ b o u, H b = some (.frz o u) → H' b = some (.frz o u)
theorem Kp.refl {F : Aset} (H : Hp) : Kp F H H := ⟨fun _ _ _ h => h, fun _ _ h => h, fun _ _ _ h => h⟩
theorem Kp.trans {F : Aset} {H H1 H2 : Hp} (a : Kp F H H1) (b : Kp F H1 H2) : Kp F H H2 := ⟨fun c o n h => b.k c o n (a.k c o n h), fun c x h => b.t c x (a.t c x h), fun c o u h => b.z c o u (a.z c o u h)⟩
theorem Kp.of_same {F : Aset} {H H' : Hp} (s : Same H H') : Kp F H H' := ⟨fun b o _ h => s b o h, fun b x h => s b _ h, fun b o u h => s b _ h⟩
theorem Kp.new {F : Aset} {H : Hp} {p : Addr} {o : HO} (h : H p = none) : Kp F H (upd H p o) := .of_same fun b u e => by rw [upd_ne (ne_of_none e h)]; exact e
theorem Kp.same {H H' : Hp} (k : Kp AF H H') : Same H H' := fun b o e => k.k b o id e
theorem Kp.mono {F F' : Aset} {H H' : Hp} (k : Kp F H H') (h : ∀ a, F a → F' a) : Kp F' H H' := ⟨fun b o n e => k.k b o (fun z => n (h b z)) e, k.t, k.z⟩
theorem Kp.sqT {F : Aset} {H H' : Hp} {K : PySem.W.Frag} {a : Addr} {xs : List V} (k : Kp F H H') (h : SqT K H a xs) : SqT K H' a xs := by
  rcases h with (h | ⟨o, h⟩) | h
  · exact .inl (.inl (k.t _ _ h))
  · exact .inl (.inr ⟨o, k.z _ _ _ h⟩)
  · exact .inr h
theorem same_new {H : Hp} {p : Addr} {o : HO} (h : H p = none) : Same H (upd H p o) := fun b u e => by rw [upd_ne (ne_of_none e h)]; exact e

mutual
theorem Is.monoT {K : PySem.W.Frag} {H H' : Hp} (k : ∀ a vs, SqT K H a vs → SqT K H' a vs) : ∀ (d : D) (v : V), Is K AT AT H v d → Is K AT AT H' v d
  | .non, _, h => h
  | .bl _, _, h => h
  | .int _, _, h => h
  | .str _, _, h => h
  | .adr _, _, h => h
  | .tup ds, _, ⟨a, vs, e, h, hl⟩ => ⟨a, vs, e, k a vs h, IsL.monoT k ds vs hl⟩
  | .lst ds, _, ⟨a, vs, e, n1, n2, h, hl⟩ => absurd trivial n1
  | .dict ks ds, _, ⟨a, ws, e, n1, n2, h, hk, hl⟩ => absurd trivial n1
theorem IsL.monoT {K : PySem.W.Frag} {H H' : Hp} (k : ∀ a vs, SqT K H a vs → SqT K H' a vs) : ∀ (ds : List D) (vs : List V), IsL K AT AT H vs ds → IsL K AT AT H' vs ds
  | [], [], h => h
  | [], _ :: _, h => h
  | _ :: _, [], h => h
  | d :: ds, v :: vs, h => ⟨Is.monoT k d v h.1, IsL.monoT k ds vs h.2⟩
end
section
variable {K : PySem.W.Frag} {F F' O O' : Aset} {H H' : Hp}
mutual
/-- more is kept, fewer addresses are barred -/
theorem Is.mono (k : ∀ a vs, SqT K H a vs → SqT K H' a vs) (kl : ∀ a o, ¬ F a → ¬ O a → H a = some o → H' a = some o) (hF : ∀ a, F' a → F a) (hO : ∀ a, O' a → O a) : ∀ (d : D) (v : V), Is K F O H v d → Is K F' O' H' v d
  | .non, _, h => h
  | .bl _, _, h => h
  | .int _, _, h => h
  | .str _, _, h => h
  | .adr _, _, h => h
  | .tup ds, _, ⟨a, vs, e, h, hl⟩ => ⟨a, vs, e, k a vs h, IsL.mono k kl hF hO ds vs hl⟩
  | .lst ds, _, ⟨a, vs, e, n1, n2, h, hl⟩ => ⟨a, vs, e, fun z => n1 (hF a z), fun z => n2 (hO a z), kl a _ n1 n2 h, IsL.mono k kl hF hO ds vs hl⟩
  | .dict ks ds, _, ⟨a, ws, e, n1, n2, h, hk, hl⟩ => ⟨a, ws, e, fun z => n1 (hF a z), fun z => n2 (hO a z), kl a _ n1 n2 h, hk, IsL.mono k kl hF hO ds _ hl⟩
theorem IsL.mono (k : ∀ a vs, SqT K H a vs → SqT K H' a vs) (kl : ∀ a o, ¬ F a → ¬ O a → H a = some o → H' a = some o) (hF : ∀ a, F' a → F a) (hO : ∀ a, O' a → O a) : ∀ (ds : List D) (vs : List V), IsL K F O H vs ds → IsL K F' O' H' vs ds
  | [], [], h => h
  | [], _ :: _, h => h
  | _ :: _, [], h => h
  | d :: ds, v :: vs, h => ⟨Is.mono k kl hF hO d v h.1, IsL.mono k kl hF hO ds vs h.2⟩
end
theorem Is.kp (k : Kp F H H') {d : D} {v : V} (h : Is K F O H v d) : Is K F O H' v d := Is.mono (fun _ _ => k.sqT) (fun a o n _ e => k.k a o n e) (fun _ z => z) (fun _ z => z) d v h
theorem IsL.kp (k : Kp F H H') {ds : List D} {vs : List V} (h : IsL K F O H vs ds) : IsL K F O H' vs ds := IsL.mono (fun _ _ => k.sqT) (fun a o n _ e => k.k a o n e) (fun _ z => z) (fun _ z => z) ds vs h
theorem IsL.kpT (k : Kp F H H') {ds : List D} {vs : List V} (h : IsL K AT AT H vs ds) : IsL K AT AT H' vs ds := IsL.monoT (fun _ _ => k.sqT) ds vs h
theorem Is.down (hF : ∀ a, F' a → F a) (hO : ∀ a, O' a → O a) {d : D} {v : V} (h : Is K F O H v d) : Is K F' O' H v d := Is.mono (fun _ _ => id) (fun _ _ _ _ => id) hF hO d v h
theorem IsL.down (hF : ∀ a, F' a → F a) (hO : ∀ a, O' a → O a) {ds : List D} {vs : List V} (h : IsL K F O H vs ds) : IsL K F' O' H vs ds := IsL.mono (fun _ _ => id) (fun _ _ _ _ => id) hF hO ds vs h
theorem IsL.len : ∀ {ds : List D} {vs : List V}, IsL K F O H vs ds → vs.length = ds.length
  | [], [], _ => rfl
  | [], _ :: _, h => h.elim
  | _ :: _, [], h => h.elim
  | d :: ds, v :: vs, h => congrArg (· + 1) (IsL.len h.2)
theorem IsL.get : ∀ {ds : List D} {vs : List V} {i : Nat} {d : D}, IsL K F O H vs ds → ds[i]? = some d → ∃ v, vs[i]? = some v ∧ Is K F O H v d
  | [], _, _, _, _, e => by simp at e
  | _ :: _, [], _, _, h, _ => h.elim
  | d :: ds, v :: vs, 0, d', h, e => by obtain rfl := Option.some.inj e; exact ⟨v, rfl, h.1⟩
  | d :: ds, v :: vs, i + 1, d', h, e => IsL.get (i := i) h.2 e
theorem IsL.get' : ∀ {ds : List D} {vs : List V} {i : Nat} {v : V}, IsL K F O H vs ds → vs[i]? = some v → ∃ d, ds[i]? = some d ∧ Is K F O H v d
  | _, [], _, _, _, e => by simp at e
  | [], _ :: _, _, _, h, _ => h.elim
  | d :: ds, v :: vs, 0, v', h, e => by obtain rfl := Option.some.inj e; exact ⟨d, rfl, h.1⟩
  | d :: ds, v :: vs, i + 1, v', h, e => IsL.get' (i := i) h.2 e
theorem IsL.append : ∀ {ds : List D} {vs : List V} {es : List D} {us : List V}, IsL K F O H vs ds → IsL K F O H us es → IsL K F O H (vs ++ us) (ds ++ es)
  | [], [], _, _, _, h2 => h2
  | [], _ :: _, _, _, h, _ => h.elim
  | _ :: _, [], _, _, h, _ => h.elim
  | d :: ds, v :: vs, _, _, h, h2 => ⟨h.1, IsL.append h.2 h2⟩
theorem IsL.take : ∀ {ds : List D} {vs : List V} (n : Nat), IsL K F O H vs ds → IsL K F O H (vs.take n) (ds.take n)
  | _, _, 0, _ => trivial
  | [], [], n + 1, h => h
  | [], _ :: _, _ + 1, h => h.elim
  | _ :: _, [], _ + 1, h => h.elim
  | d :: ds, v :: vs, n + 1, h => ⟨h.1, IsL.take n h.2⟩
theorem IsL.drop : ∀ {ds : List D} {vs : List V} (n : Nat), IsL K F O H vs ds → IsL K F O H (vs.drop n) (ds.drop n)
  | _, _, 0, h => h
  | [], [], _ + 1, h => h
  | [], _ :: _, _ + 1, h => h.elim
  | _ :: _, [], _ + 1, h => h.elim
  | d :: ds, v :: vs, n + 1, h => IsL.drop n h.2
theorem IsL.set : ∀ {ds : List D} {vs : List V} (i : Nat) {d : D} {v : V}, IsL K F O H vs ds → Is K F O H v d → IsL K F O H (vs.set i v) (ds.set i d)
  | [], [], _, _, _, h, _ => h
  | [], _ :: _, _, _, _, h, _ => h.elim
  | _ :: _, [], _, _, _, h, _ => h.elim
  | _ :: _, _ :: _, 0, _, _, h, q => ⟨q, h.2⟩
  | _ :: _, _ :: _, i + 1, _, _, h, q => ⟨h.1, IsL.set i h.2 q⟩
theorem IsL.reverse {ds : List D} {vs : List V} (h : IsL K F O H vs ds) : IsL K F O H vs.reverse ds.reverse := by
  induction ds generalizing vs with
  | nil => cases vs with
    | nil => exact h
    | cons => exact h.elim
  | cons d ds ih => cases vs with
    | nil => exact h.elim
    | cons v vs => rw [List.reverse_cons, List.reverse_cons]; exact (ih h.2).append ⟨h.1, trivial⟩
end

/- tuples, numbers, texts alone -/
mutual
def D.im : D → Bool
  | .non => true
  | .bl _ => true
  | .int _ => true
  | .str _ => true
  | .adr _ => true
  | .tup ds => imL ds
  | _ => false
def imL : List D → Bool
  | [] => true
  | d :: ds => d.im && imL ds
end
mutual
theorem Is.up {K : PySem.W.Frag} {F O F' O' : Aset} {H : Hp} : ∀ (d : D) (v : V), d.im = true → Is K F O H v d → Is K F' O' H v d
  | .non, _, _, h => h
  | .bl _, _, _, h => h
  | .int _, _, _, h => h
  | .str _, _, _, h => h
  | .adr _, _, _, h => h
  | .tup ds, _, e, ⟨a, vs, e1, h, hl⟩ => ⟨a, vs, e1, h, IsL.up ds vs e hl⟩
  | .lst _, _, e, _ => by cases e
  | .dict _ _, _, e, _ => by cases e
theorem IsL.up {K : PySem.W.Frag} {F O F' O' : Aset} {H : Hp} : ∀ (ds : List D) (vs : List V), imL ds = true → IsL K F O H vs ds → IsL K F' O' H vs ds
  | [], [], _, h => h
  | [], _ :: _, _, h => h
  | _ :: _, [], _, h => h
  | d :: ds, v :: vs, e, h => by
    have e' : (d.im && imL ds) = true := e
    rw [Bool.and_eq_true] at e'
    exact ⟨Is.up d v e'.1 h.1, IsL.up ds vs e'.2 h.2⟩
end
theorem imL_get : ∀ {ds : List D} {i : Nat} {d : D}, imL ds = true → ds[i]? = some d → d.im = true
  | [], _, _, _, h => by simp at h
  | e :: ds, i, d, h, hi => by
    have h' : (e.im && imL ds) = true := h
    rw [Bool.and_eq_true] at h'
    cases i with
    | zero => obtain rfl := Option.some.inj hi; exact h'.1
    | succ i => exact imL_get (i := i) h'.2 hi
theorem imL_iff {ds : List D} : imL ds = true ↔ ∀ d ∈ ds, d.im = true := by
  induction ds with
  | nil => exact ⟨fun _ _ h => (nomatch h), fun _ => rfl⟩
  | cons d ds ih =>
    show (d.im && imL ds) = true ↔ _
    rw [Bool.and_eq_true, ih]
    exact ⟨fun h e he => (List.mem_cons.mp he).elim (fun q => q ▸ h.1) (h.2 e), fun h => ⟨h d List.mem_cons_self, fun e he => h e (List.mem_cons_of_mem _ he)⟩⟩

/-- a frame: the written part, the entry's heap, what calls may change, and what is known of it -/
structure Frm where
  K : PySem.W.Frag
  H0 : Hp
  F : Aset
  G : Type
  J : G → Hp → Prop
  stab : ∀ g H H', J g H → (∀ b o, F b → H b = some o → H' b = some o) → (∀ b xs, H b = some (.tup xs) → H' b = some (.tup xs)) → (∀ b o u, H b = some (.frz o u) → H' b = some (.frz o u)) → J g H'
  trk : ∀ g H b, J g H → F b → H b ≠ none
/-- nothing is changed -/
@[reducible] def frm0 (K : PySem.W.Frag) (H0 : Hp) : Frm where
  K := K
  H0 := H0
  F := AF
  G := Unit
  J := fun _ _ => True
  stab := fun _ _ _ _ _ _ _ => trivial
  trk := fun _ _ _ _ h => h.elim
theorem Frm.same {M : Frm} {g : M.G} {H H' : Hp} (h : M.J g H) (s : Same H H') : M.J g H' := M.stab g H H' h (fun b o _ e => s b o e) (fun b xs e => s b _ e) fun b o u e => s b _ e

/-- what is known of a slot: data, or a list or dict of its own that it may change -/
inductive SD where
  | d (x : D) | own (ds : List D) | ownd (ks : List Str) (ds : List D) | ownz (ws : List (Nat × Nat))
abbrev Ga := List (Option SD)
def isOwn : SD → Bool
  | .d _ => false
  | _ => true
def IsO (K : PySem.W.Frag) (H : Hp) (a : Addr) : SD → Prop
  | .d _ => False
  | .own ds => ∃ vs, H a = some (.lst vs) ∧ IsL K AT AT H vs ds
  | .ownd ks ds => ∃ ws, H a = some (.dK ws) ∧ ws.map (·.1) = ks.map Sum.inr ∧ IsL K AT AT H (ws.map (·.2)) ds
  | .ownz ws => H a = some (.dK (ws.map fun p => (Sum.inl (p.1 : Int), V.int (p.2 : Int))))
theorem IsO.kp {K : PySem.W.Frag} {F : Aset} {H H' : Hp} {a : Addr} {d : SD} (k : Kp F H H') (n : ¬ F a) (h : IsO K H a d) : IsO K H' a d := by
  cases d with
  | d _ => exact h
  | own ds => obtain ⟨vs, h1, h2⟩ := h; exact ⟨vs, k.k _ _ n h1, h2.kpT k⟩
  | ownd ks ds => obtain ⟨ws, h1, h2, h3⟩ := h; exact ⟨ws, k.k _ _ n h1, h2, h3.kpT k⟩
  | ownz ws => exact k.k _ _ n h
/-- the addresses that slots own -/
def Ow (Γ : Ga) (σ : St) : Aset := fun a => ∃ (i : Nat) (d : SD), Γ[i]? = some (some d) ∧ isOwn d = true ∧ σ[i]? = some (some (V.ref a))
structure Ok (M : Frm) (Γ : Ga) (σ : St) (H : Hp) : Prop where
  len : σ.length = Γ.length
  base : Kp M.F M.H0 H
  at' : ∀ (i : Nat) (d : D), Γ[i]? = some (some (.d d)) → ∃ v, σ[i]? = some (some v) ∧ Is M.K M.F (Ow Γ σ) H v d
  own' : ∀ (i : Nat) (d : SD), Γ[i]? = some (some d) → isOwn d = true → ∃ a, σ[i]? = some (some (V.ref a)) ∧ IsO M.K H a d
  own : ∀ a, Ow Γ σ a → ¬ M.F a ∧ M.H0 a = none
  inj : ∀ (i j : Nat) (d e : SD) (a : Addr), Γ[i]? = some (some d) → isOwn d = true → σ[i]? = some (some (V.ref a)) → Γ[j]? = some (some e) → isOwn e = true → σ[j]? = some (some (V.ref a)) → i = j
theorem Ok.kp {M : Frm} {Γ : Ga} {σ : St} {H H' : Hp} (o : Ok M Γ σ H) (k : Kp M.F H H') : Ok M Γ σ H' :=
  ⟨o.len, o.base.trans k, fun i d e => let ⟨v, h1, h2⟩ := o.at' i d e; ⟨v, h1, h2.kp k⟩, fun i d e n => let ⟨a, h1, h2⟩ := o.own' i d e n; ⟨a, h1, h2.kp k (o.own a ⟨i, d, e, n, h1⟩).1⟩, o.own, o.inj⟩
theorem Ok.owT {M : Frm} {Γ : Ga} {σ : St} {H : Hp} (o : Ok M Γ σ H) {a : Addr} (h : Ow Γ σ a) : ∃ u, H a = some u := by
  obtain ⟨i, d, h1, h2, h3⟩ := h
  obtain ⟨b, e, q⟩ := o.own' i d h1 h2
  rw [h3] at e
  cases e
  cases d with
  | own ds => obtain ⟨vs, q, _⟩ := q; exact ⟨_, q⟩
  | ownd ks ds => obtain ⟨ws, q, _⟩ := q; exact ⟨_, q⟩
  | ownz ws => exact ⟨_, q⟩
  | d _ => cases h2

/-! ### readings over what is known -/
abbrev QE (M : Frm) := D → M.G → Prop
/-- what a reading must hand on -/
def Pr (M : Frm) (O : Aset) (H : Hp) (Q : QE M) (Q' : VK) : Prop := ∀ v H' e g', Kp M.F H H' → M.J g' H' → Is M.K M.F O H' v e → Q e g' → Q' v H'
def WE (M : Frm) (te : TE) (Γ : Ga) (g : M.G) (Q : QE M) : Prop := ∀ σ H, Ok M Γ σ H → M.J g H → ∀ Q', Pr M (Ow Γ σ) H Q Q' → te σ H Q'
def WT (M : Frm) (tt : TT) (Γ : Ga) (g : M.G) (Q : Bool → M.G → Prop) : Prop := ∀ σ H, Ok M Γ σ H → M.J g H → ∀ Q' : Bool → Hp → Prop, (∀ b H' g', Kp M.F H H' → M.J g' H' → Q b g' → Q' b H') → tt σ H Q'
def WA (M : Frm) (ta : TA) (Γ : Ga) (g : M.G) (Q : List D → M.G → Prop) : Prop := ∀ σ H, Ok M Γ σ H → M.J g H → ∀ Q' : List V → Hp → Prop, (∀ vs H' es g', Kp M.F H H' → M.J g' H' → IsL M.K M.F (Ow Γ σ) H' vs es → Q es g' → Q' vs H') → ta σ H Q'
/-- a two-place reading of values -/
def WR (M : Frm) (r : R2) (x y : D) (g : M.G) (Q : QE M) : Prop := ∀ v u H O, (∀ a, O a → ∃ o, H a = some o) → M.J g H → Is M.K M.F O H v x → Is M.K M.F O H u y → ∀ Q', Pr M O H Q Q' → r v u H Q'
def WC (M : Frm) (r : List V → Hp → VK → Prop) (xs : List D) (g : M.G) (Q : QE M) : Prop := ∀ vs H O, (∀ a, O a → ∃ o, H a = some o) → M.J g H → IsL M.K M.F O H vs xs → ∀ Q', Pr M O H Q Q' → r vs H Q'

section
variable {M : Frm} {Γ : Ga} {g : M.G} {Q : QE M} {ta tb te tc : TE} {tt tu : TT} {tr : TA}
theorem WE.mono {Q2 : QE M} (h : WE M te Γ g Q) (hq : ∀ e g', Q e g' → Q2 e g') : WE M te Γ g Q2 := fun σ H o j Q' p => h σ H o j Q' fun v H' e g' k j' i q => p v H' e g' k j' i (hq e g' q)
theorem WS0 : True := trivial
theorem we_var {i : Nat} {d : D} (h : Γ[i]? = some (some (.d d))) (q : Q d g) : WE M (tVar i) Γ g Q := fun σ H o j Q' p => by
  obtain ⟨v, e, r⟩ := o.at' i d h
  exact ⟨v, e, p v H d g (Kp.refl H) j r q⟩
theorem we_int {i : Int} (q : Q (.int i) g) : WE M (tC (.int i)) Γ g Q := fun σ H o j Q' p => p _ H (.int i) g (Kp.refl H) j rfl q
theorem we_str {s : Str} (q : Q (.str s) g) : WE M (tC (.str s)) Γ g Q := fun σ H o j Q' p => p _ H (.str s) g (Kp.refl H) j rfl q
theorem we_bl {b : Bool} (q : Q (.bl b) g) : WE M (tC (.bl b)) Γ g Q := fun σ H o j Q' p => p _ H (.bl b) g (Kp.refl H) j rfl q
theorem we_non (q : Q .non g) : WE M (tC .non) Γ g Q := fun σ H o j Q' p => p _ H .non g (Kp.refl H) j rfl q
theorem we_op {r : R2} (h : WE M ta Γ g fun x g1 => WE M tb Γ g1 fun y g2 => WR M r x y g2 Q) : WE M (tOp r ta tb) Γ g Q := fun σ H o j Q' p =>
  h σ H o j _ fun v H1 x g1 k1 j1 i1 h1 => h1 σ H1 (o.kp k1) j1 _ fun u H2 y g2 k2 j2 i2 h2 =>
    h2 v u H2 _ (fun a z => (o.kp (k1.trans k2)).owT z) j2 (i1.kp k2) i2 Q' fun z H3 e g3 k3 j3 i3 q => p z H3 e g3 ((k1.trans k2).trans k3) j3 i3 q
theorem wa_nil {QA : List D → M.G → Prop} (q : QA [] g) : WA M tNil Γ g QA := fun σ H o j Q' p => p [] H [] g (Kp.refl H) j trivial q
theorem wa_cons {QA : List D → M.G → Prop} (h : WE M te Γ g fun x g1 => WA M tr Γ g1 fun xs g2 => QA (x :: xs) g2) : WA M (tCons te tr) Γ g QA := fun σ H o j Q' p =>
  h σ H o j _ fun v H1 x g1 k1 j1 i1 h1 => h1 σ H1 (o.kp k1) j1 _ fun vs H2 xs g2 k2 j2 i2 q => p (v :: vs) H2 (x :: xs) g2 (k1.trans k2) j2 ⟨i1.kp k2, i2⟩ q
theorem we_tup (h : WA M tr Γ g fun es g1 => es.length ≤ sizeLine ∧ Q (.tup es) g1) : WE M (tTup tr) Γ g Q := fun σ H o j Q' p =>
  h σ H o j _ fun vs H1 es g1 k1 j1 i1 h1 => ⟨by rw [i1.len]; exact h1.1, fun a ha => p _ _ (.tup es) g1 (k1.trans (Kp.new ha)) (M.same j1 (same_new ha)) ⟨a, vs, rfl, .of upd_same, i1.kp (Kp.new ha)⟩ h1.2⟩
/-- a new list -/
theorem we_lst (h : WA M tr Γ g fun es g1 => es.length ≤ sizeLine ∧ Q (.lst es) g1) : WE M (tLst tr) Γ g Q := fun σ H o j Q' p =>
  h σ H o j _ fun vs H1 es g1 k1 j1 i1 h1 => ⟨by rw [i1.len]; exact h1.1, fun a ha => p _ _ (.lst es) g1 (k1.trans (Kp.new ha)) (M.same j1 (same_new ha)) ⟨a, vs, rfl, fun z => M.trk _ _ _ j1 z ha, fun z => (by
    obtain ⟨u, e⟩ := (o.kp k1).owT z
    rw [ha] at e; cases e), upd_same, i1.kp (Kp.new ha)⟩ h1.2⟩
theorem we_cb {r : List V → Hp → VK → Prop} (h : WA M tr Γ g fun xs g1 => WC M r xs g1 Q) : WE M (tCB r tr) Γ g Q := fun σ H o j Q' p =>
  h σ H o j _ fun vs H1 xs g1 k1 j1 i1 h1 => h1 vs H1 _ (fun a z => (o.kp k1).owT z) j1 i1 Q' fun z H3 e g3 k3 j3 i3 q => p z H3 e g3 (k1.trans k3) j3 i3 q
theorem we_ifE (h : WT M tt Γ g fun b g1 => if b = true then WE M ta Γ g1 Q else WE M tb Γ g1 Q) : WE M (tIf tt ta tb) Γ g Q := fun σ H o j Q' p =>
  h σ H o j _ fun b H1 g1 k1 j1 h1 => by
    cases b with
    | true => exact h1 σ H1 (o.kp k1) j1 Q' fun v H2 e g2 k2 j2 i2 q => p v H2 e g2 (k1.trans k2) j2 i2 q
    | false => exact h1 σ H1 (o.kp k1) j1 Q' fun v H2 e g2 k2 j2 i2 q => p v H2 e g2 (k1.trans k2) j2 i2 q
theorem wt_test {QT : Bool → M.G → Prop} (h : WE M te Γ g fun e g1 => ∃ b, e = .bl b ∧ QT b g1) : WT M (tTest te) Γ g QT := fun σ H o j Q' p =>
  h σ H o j _ fun v H1 e g1 k1 j1 i1 ⟨b, e1, q⟩ => by
    subst e1
    obtain rfl : v = .bl b := i1
    exact ⟨b, rfl, p b H1 g1 k1 j1 q⟩
theorem wt_b {QT : Bool → M.G → Prop} (h : WE M te Γ g fun e g1 => ∃ b, e = .bl b ∧ QT b g1) : WT M (tB te) Γ g QT := fun σ H o j Q' p =>
  h σ H o j _ fun v H1 e g1 k1 j1 i1 ⟨b, e1, q⟩ => by
    subst e1
    obtain rfl : v = .bl b := i1
    exact ⟨b, rfl, p b H1 g1 k1 j1 q⟩
theorem wt_and {QT : Bool → M.G → Prop} (h : WT M tt Γ g fun b g1 => if b = true then WT M tu Γ g1 QT else QT false g1) : WT M (tAnd tt tu) Γ g QT := fun σ H o j Q' p =>
  h σ H o j _ fun b H1 g1 k1 j1 h1 => by
    cases b with
    | true => exact h1 σ H1 (o.kp k1) j1 Q' fun b H2 g2 k2 j2 q => p b H2 g2 (k1.trans k2) j2 q
    | false => exact p false H1 g1 k1 j1 h1
theorem wt_or {QT : Bool → M.G → Prop} (h : WT M tt Γ g fun b g1 => if b = true then QT true g1 else WT M tu Γ g1 QT) : WT M (tOr tt tu) Γ g QT := fun σ H o j Q' p =>
  h σ H o j _ fun b H1 g1 k1 j1 h1 => by
    cases b with
    | true => exact p true H1 g1 k1 j1 h1
    | false => exact h1 σ H1 (o.kp k1) j1 Q' fun b H2 g2 k2 j2 q => p b H2 g2 (k1.trans k2) j2 q
theorem wt_not {QT : Bool → M.G → Prop} (h : WT M tt Γ g fun b g1 => QT (!b) g1) : WT M (tNot tt) Γ g QT := fun σ H o j Q' p =>
  h σ H o j _ fun b H1 g1 k1 j1 h1 => p (!b) H1 g1 k1 j1 h1
theorem we_andV (h : WE M ta Γ g fun e g1 => ∃ b, e = .bl b ∧ if b = true then WE M tb Γ g1 Q else Q (.bl false) g1) : WE M (tAndV ta tb) Γ g Q := fun σ H o j Q' p =>
  h σ H o j _ fun v H1 e g1 k1 j1 i1 ⟨b, e1, q⟩ => by
    subst e1
    obtain rfl : v = .bl b := i1
    refine ⟨b, rfl, ?_⟩
    cases b with
    | true => exact q σ H1 (o.kp k1) j1 Q' fun v H2 e g2 k2 j2 i2 q => p v H2 e g2 (k1.trans k2) j2 i2 q
    | false => exact p _ H1 (.bl false) g1 k1 j1 rfl q
end
end Sf
end
section
set_option Elab.async false
set_option linter.all false
set_option maxRecDepth 100000
/-! Walk 1: rules over what is known: operators, slices, built-ins, dicts, statements, loops, comprehensions. -/
namespace Sf
open PySem L2

section
variable {M : Frm} {Γ : Ga} {g : M.G} {Q : QE M} {ta tb te tc : TE} {tt tu : TT} {tr : TA}

/-! ### two values -/
theorem wr_i0 {f : Int → Int → Int} {i j : Int} (q : Q (.int (f i j)) g) : WR M (rI0 fun i j => .int (f i j)) (.int i) (.int j) g Q := fun v u H O o j0 h1 h2 Q' p =>
  ⟨i, j, h1, h2, p _ H (.int (f i j)) g (Kp.refl H) j0 rfl q⟩
theorem wr_iC {C : Int → Int → Prop} {f : Int → Int → Int} {i j : Int} (c : C i j) (q : Q (.int (f i j)) g) : WR M (rI C fun i j => .int (f i j)) (.int i) (.int j) g Q := fun v u H O o j0 h1 h2 Q' p =>
  ⟨i, j, h1, h2, c, p _ H (.int (f i j)) g (Kp.refl H) j0 rfl q⟩
theorem wr_b0 {f : Int → Int → Bool} {i j : Int} (q : Q (.bl (f i j)) g) : WR M (rI0 fun i j => .bl (f i j)) (.int i) (.int j) g Q := fun v u H O o j0 h1 h2 Q' p =>
  ⟨i, j, h1, h2, p _ H (.bl (f i j)) g (Kp.refl H) j0 rfl q⟩
theorem dec_str {s t : Str} : decide (V.str s = V.str t) = decide (s = t) := by
  by_cases h : s = t
  · rw [decide_eq_true h, decide_eq_true (congrArg V.str h)]
  · rw [decide_eq_false h, decide_eq_false fun e => h (V.str.inj e)]
theorem dec_int' {s t : Int} : decide (V.int s = V.int t) = decide (s = t) := by
  by_cases h : s = t
  · rw [decide_eq_true h, decide_eq_true (congrArg V.int h)]
  · rw [decide_eq_false h, decide_eq_false fun e => h (V.int.inj e)]
theorem wr_eqS {s t : Str} (q : Q (.bl (decide (s = t))) g) : WR M rEq (.str s) (.str t) g Q := fun v u H O o j0 h1 h2 Q' p => by
  obtain rfl : v = .str s := h1
  obtain rfl : u = .str t := h2
  exact ⟨rfl, p _ H (.bl (decide (s = t))) g (Kp.refl H) j0 (congrArg V.bl dec_str) q⟩
theorem wr_neS {s t : Str} (q : Q (.bl (!decide (s = t))) g) : WR M rNe (.str s) (.str t) g Q := fun v u H O o j0 h1 h2 Q' p => by
  obtain rfl : v = .str s := h1
  obtain rfl : u = .str t := h2
  exact ⟨rfl, p _ H (.bl (!decide (s = t))) g (Kp.refl H) j0 (congrArg V.bl (congrArg not dec_str)) q⟩
theorem wr_eqI {s t : Int} (q : Q (.bl (decide (s = t))) g) : WR M rEq (.int s) (.int t) g Q := fun v u H O o j0 h1 h2 Q' p => by
  obtain rfl : v = .int s := h1
  obtain rfl : u = .int t := h2
  exact ⟨rfl, p _ H (.bl (decide (s = t))) g (Kp.refl H) j0 (congrArg V.bl dec_int') q⟩
def isNonB : D → Bool
  | .non => true
  | _ => false
theorem wr_isN {d : D} (q : Q (.bl (isNonB d)) g) : WR M (fun x y H Q => y = .non ∧ Q (.bl (decide (x = .non))) H) d .non g Q := fun v u H O o j0 h1 h2 Q' p => by
  refine ⟨h2, p _ H (.bl (isNonB d)) g (Kp.refl H) j0 (congrArg V.bl ?_) q⟩
  cases d with
  | non => exact decide_eq_true h1
  | bl _ => obtain rfl : v = _ := h1; rfl
  | int _ => obtain rfl : v = _ := h1; rfl
  | str _ => obtain rfl : v = _ := h1; rfl
  | adr _ => obtain rfl : v = _ := h1; rfl
  | tup _ => obtain ⟨_, _, rfl, _⟩ := h1; rfl
  | lst _ => obtain ⟨_, _, rfl, _⟩ := h1; rfl
  | dict _ _ => obtain ⟨_, _, rfl, _⟩ := h1; rfl
theorem isL_strs {K : PySem.W.Frag} {F O : Aset} {H : Hp} : ∀ {ss : List Str} {vs : List V}, IsL K F O H vs (ss.map D.str) → vs = ss.map V.str
  | [], [], _ => rfl
  | [], _ :: _, h => h.elim
  | _ :: _, [], h => h.elim
  | s :: ss, v :: vs, h => by
    obtain rfl : v = .str s := h.1
    rw [isL_strs (ss := ss) h.2]; rfl
theorem isL_ints {K : PySem.W.Frag} {F O : Aset} {H : Hp} : ∀ {ss : List Int} {vs : List V}, IsL K F O H vs (ss.map D.int) → vs = ss.map V.int
  | [], [], _ => rfl
  | [], _ :: _, h => h.elim
  | _ :: _, [], h => h.elim
  | s :: ss, v :: vs, h => by
    obtain rfl : v = .int s := h.1
    rw [isL_ints (ss := ss) h.2]; rfl
theorem isL_bls {K : PySem.W.Frag} {F O : Aset} {H : Hp} : ∀ {ss : List Bool} {vs : List V}, IsL K F O H vs (ss.map D.bl) → vs = ss.map V.bl
  | [], [], _ => rfl
  | [], _ :: _, h => h.elim
  | _ :: _, [], h => h.elim
  | s :: ss, v :: vs, h => by
    obtain rfl : v = .bl s := h.1
    rw [isL_bls (ss := ss) h.2]; rfl
theorem flat_strs (ss : List Str) : (ss.map V.str).all flatV = true := by
  rw [List.all_eq_true]
  intro v hv
  obtain ⟨s, _, rfl⟩ := List.mem_map.mp hv
  rfl
theorem inV_strs (s : Str) (ss : List Str) : inV (.str s) (ss.map V.str) = decide (s ∈ ss) := by
  unfold inV
  induction ss with
  | nil => rfl
  | cons t ss ih =>
    rw [List.map_cons, List.any_cons, ih]
    show (t == s || decide (s ∈ ss)) = _
    by_cases h : s = t
    · subst h; simp
    · simp [h, Ne.symm h]
/-- x in a tuple (a list) of texts -/
theorem wr_inT {s : Str} {ss : List Str} (q : Q (.bl (decide (s ∈ ss))) g) : WR M (rIn M.K false) (.str s) (.tup (ss.map D.str)) g Q := fun v u H O o j0 h1 h2 Q' p => by
  obtain rfl : v = .str s := h1
  obtain ⟨a, vs, rfl, hS, hl⟩ := h2
  obtain rfl := isL_strs hl
  exact ⟨a, _, rfl, .inr hS, rfl, flat_strs ss, p _ H (.bl (decide (s ∈ ss))) g (Kp.refl H) j0 (congrArg V.bl (inV_strs s ss)) q⟩
theorem wr_ninL {s : Str} {ss : List Str} (q : Q (.bl (!decide (s ∈ ss))) g) : WR M (rIn M.K true) (.str s) (.lst (ss.map D.str)) g Q := fun v u H O o j0 h1 h2 Q' p => by
  obtain rfl : v = .str s := h1
  obtain ⟨a, vs, rfl, _, _, hS, hl⟩ := h2
  obtain rfl := isL_strs hl
  exact ⟨a, _, rfl, .inl (.of hS), rfl, flat_strs ss, p _ H (.bl (!decide (s ∈ ss))) g (Kp.refl H) j0 (congrArg V.bl (congrArg not (inV_strs s ss))) q⟩
theorem atI_is {K : PySem.W.Frag} {F O : Aset} {H : Hp} {ds : List D} {vs : List V} {i : Int} {d : D} (h : IsL K F O H vs ds) (e : atI ds i = some d) : ∃ v, atI vs i = some v ∧ Is K F O H v d := by
  unfold atI at e ⊢
  rw [h.len]
  cases q : ixN ds.length i with
  | none => rw [q] at e; cases e
  | some j =>
    rw [q] at e
    obtain ⟨v, e1, r⟩ := h.get (i := j) e
    exact ⟨v, e1, r⟩
theorem wr_ixT {x : D} {ds : List D} {i : Int} {d : D} (hx : x = .tup ds) (e : atI ds i = some d) (q : Q d g) : WR M (rIxT M.K) x (.int i) g Q := fun v u H O o j0 h1 h2 Q' p => by
  subst hx
  obtain ⟨a, vs, rfl, hS, hl⟩ := h1
  obtain ⟨w, ew, r⟩ := atI_is hl e
  exact ⟨a, vs, i, w, rfl, h2, hS, ew, p w H d g (Kp.refl H) j0 r q⟩
theorem wr_ixL {ds : List D} {i : Int} {d : D} (e : atI ds i = some d) (q : Q d g) : WR M (rIxL M.K) (.lst ds) (.int i) g Q := fun v u H O o j0 h1 h2 Q' p => by
  obtain ⟨a, vs, rfl, _, _, hS, hl⟩ := h1
  obtain ⟨w, ew, r⟩ := atI_is hl e
  exact ⟨a, vs, i, w, rfl, h2, .of hS, ew, p w H d g (Kp.refl H) j0 r q⟩
theorem wr_ixS {z : Str} {i : Int} {c : Nat} (hz : z.length ≤ sizeLine) (e : atI z.cps.toList i = some c) (q : Q (.str ⟨#[c]⟩) g) : WR M rIxS (.str z) (.int i) g Q := fun v u H O o j0 h1 h2 Q' p =>
  ⟨z, i, c, h1, h2, hz, e, p _ H (.str ⟨#[c]⟩) g (Kp.refl H) j0 rfl q⟩
theorem wr_catS {s t : Str} (hz : s.length + t.length ≤ sizeLine) (q : Q (.str (s ++ t)) g) : WR M (fun x y H Q => ∃ i j, x = .str i ∧ y = .str j ∧ i.length + j.length ≤ sizeLine ∧ Q (.str (i ++ j)) H) (.str s) (.str t) g Q := fun v u H O o j0 h1 h2 Q' p =>
  ⟨s, t, h1, h2, hz, p _ H (.str (s ++ t)) g (Kp.refl H) j0 rfl q⟩
theorem wr_catT {x y : D} {ds es : List D} (hx : x = .tup ds) (hy : y = .tup es) (hz : ds.length + es.length ≤ sizeLine) (q : Q (.tup (ds ++ es)) g) : WR M (rCatA M.K) x y g Q := fun v u H O o j0 h1 h2 Q' p => by
  subst hx hy
  obtain ⟨a, vs, rfl, hS, hl⟩ := h1
  obtain ⟨b, us, rfl, hS2, hl2⟩ := h2
  refine ⟨a, b, vs, us, rfl, rfl, hS, hS2, by rw [hl.len, hl2.len]; exact hz, fun e => ?_, fun _ e => ?_, fun _ _ c hc => ?_⟩
  · subst e
    have : ds = [] := by cases ds with | nil => rfl | cons => exact hl.elim
    subst this
    exact p _ H (.tup es) g (Kp.refl H) j0 ⟨b, us, rfl, hS2, hl2⟩ q
  · subst e
    have : es = [] := by cases es with | nil => rfl | cons => exact hl2.elim
    subst this
    rw [List.append_nil] at q
    exact p _ H (.tup ds) g (Kp.refl H) j0 ⟨a, vs, rfl, hS, hl⟩ q
  · exact p _ _ (.tup (ds ++ es)) g (Kp.new hc) (M.same j0 (same_new hc)) ⟨c, _, rfl, .of upd_same, (hl.append hl2).kp (Kp.new hc)⟩ q
theorem wr_catL {ds es : List D} (hz : ds.length + es.length ≤ sizeLine) (q : Q (.lst (ds ++ es)) g) : WR M rCat (.lst ds) (.lst es) g Q := fun v u H O o j0 h1 h2 Q' p => by
  obtain ⟨a, vs, rfl, _, _, hS, hl⟩ := h1
  obtain ⟨b, us, rfl, _, _, hS2, hl2⟩ := h2
  refine ⟨a, b, vs, us, rfl, rfl, hS, hS2, by rw [hl.len, hl2.len]; exact hz, fun c hc => ?_⟩
  exact p _ _ (.lst (ds ++ es)) g (Kp.new hc) (M.same j0 (same_new hc)) ⟨c, _, rfl, fun z => M.trk _ _ _ j0 z hc, fun z => (by
    obtain ⟨u, e⟩ := o c z
    rw [hc] at e; cases e), upd_same, (hl.append hl2).kp (Kp.new hc)⟩ q

/-! ### slices -/
def WO (M : Frm) (to : TO) (Γ : Ga) (g : M.G) (Q : Option Int → M.G → Prop) : Prop := ∀ σ H, Ok M Γ σ H → M.J g H → ∀ Q' : Option Int → Hp → Prop, (∀ o H' g', Kp M.F H H' → M.J g' H' → Q o g' → Q' o H') → to σ H Q'
def WSl (M : Frm) (r : V → Option Int → Option Int → Hp → VK → Prop) (x : D) (lo hi : Option Int) (g : M.G) (Q : QE M) : Prop := ∀ v H O, (∀ a, O a → ∃ o, H a = some o) → M.J g H → Is M.K M.F O H v x → ∀ Q', Pr M O H Q Q' → r v lo hi H Q'
theorem wo_none {QO : Option Int → M.G → Prop} (q : QO none g) : WO M tNoPart Γ g QO := fun σ H o j Q' p => p none H g (Kp.refl H) j q
theorem wo_some {QO : Option Int → M.G → Prop} (h : WE M te Γ g fun e g1 => ∃ i, e = .int i ∧ QO (some i) g1) : WO M (tPart te) Γ g QO := fun σ H o j Q' p =>
  h σ H o j _ fun v H1 e g1 k1 j1 i1 ⟨i, e1, q⟩ => by
    subst e1
    obtain rfl : v = .int i := i1
    exact ⟨i, rfl, p (some i) H1 g1 k1 j1 q⟩
theorem we_sl {r : V → Option Int → Option Int → Hp → VK → Prop} {tl th : TO} (h : WE M te Γ g fun x g1 => WO M tl Γ g1 fun lo g2 => WO M th Γ g2 fun hi g3 => WSl M r x lo hi g3 Q) : WE M (tSl r te tl th) Γ g Q := fun σ H o j Q' p =>
  h σ H o j _ fun v H1 x g1 k1 j1 i1 h1 => h1 σ H1 (o.kp k1) j1 _ fun lo H2 g2 k2 j2 h2 => h2 σ H2 (o.kp (k1.trans k2)) j2 _ fun hi H3 g3 k3 j3 h3 =>
    h3 v H3 _ (fun a z => (o.kp ((k1.trans k2).trans k3)).owT z) j3 ((i1.kp k2).kp k3) Q' fun z H4 e g4 k4 j4 i4 q => p z H4 e g4 (((k1.trans k2).trans k3).trans k4) j4 i4 q
def cutD (xs : List D) (lo hi : Option Int) : List D := (xs.drop (HT.sIx xs.length 0 lo)).take (HT.sIx xs.length xs.length hi - HT.sIx xs.length 0 lo)
theorem cut_is {K : PySem.W.Frag} {F O : Aset} {H : Hp} {ds : List D} {vs : List V} (h : IsL K F O H vs ds) (lo hi : Option Int) : IsL K F O H (cutV vs lo hi) (cutD ds lo hi) := by
  unfold cutV cutD
  rw [h.len]
  exact (h.drop _).take _
theorem wsl_T {x : D} {ds : List D} {lo hi : Option Int} (hx : x = .tup ds) (q : Q (.tup (cutD ds lo hi)) g) : WSl M (rSlA M.K) x lo hi g Q := fun v H O o j0 h1 Q' p => by
  subst hx
  obtain ⟨a, vs, rfl, hS, hl⟩ := h1
  refine ⟨a, vs, rfl, hS, fun e => ?_, fun _ c hc => ?_⟩
  · refine p _ H (.tup (cutD ds lo hi)) g (Kp.refl H) j0 ⟨a, vs, rfl, hS, ?_⟩ q
    have e2 : cutD ds lo hi = ds := by
      unfold cutD
      rw [hl.len] at e
      rw [e.1, e.2, Nat.sub_zero, List.drop_zero, List.take_length]
    rw [e2]; exact hl
  · exact p _ _ (.tup (cutD ds lo hi)) g (Kp.new hc) (M.same j0 (same_new hc)) ⟨c, _, rfl, .of upd_same, (cut_is hl lo hi).kp (Kp.new hc)⟩ q
theorem wsl_L {ds : List D} {lo hi : Option Int} (q : Q (.lst (cutD ds lo hi)) g) : WSl M (rSlL M.K) (.lst ds) lo hi g Q := fun v H O o j0 h1 Q' p => by
  obtain ⟨a, vs, rfl, _, _, hS, hl⟩ := h1
  refine ⟨a, vs, rfl, .of hS, fun c hc => ?_⟩
  exact p _ _ (.lst (cutD ds lo hi)) g (Kp.new hc) (M.same j0 (same_new hc)) ⟨c, _, rfl, fun z => M.trk _ _ _ j0 z hc, fun z => (by
    obtain ⟨u, e⟩ := o c z
    rw [hc] at e; cases e), upd_same, (cut_is hl lo hi).kp (Kp.new hc)⟩ q

/-! ### built-ins -/
theorem wc_len {x : D} {n : Nat} (hx : match x with | .tup ds => n = ds.length | .lst ds => n = ds.length | .str z => z.length ≤ sizeLine ∧ n = z.length | _ => False) (q : Q (.int n) g) :
    WC M (fun xs H Q => ∃ x n, xs = [x] ∧ LenV M.K x H n ∧ Q (.int n) H) [x] g Q := fun vs H O o j0 h Q' p => by
  obtain ⟨v, rfl⟩ : ∃ v, vs = [v] := by
    cases vs with
    | nil => exact h.elim
    | cons v r => cases r with
      | nil => exact ⟨v, rfl⟩
      | cons => exact h.2.elim
  have h1 := h.1
  refine ⟨v, n, rfl, ?_, p _ H (.int n) g (Kp.refl H) j0 rfl q⟩
  cases x with
  | tup ds => obtain ⟨a, ws, rfl, hS, hl⟩ := h1; exact .inr ⟨ws, hS, by rw [hl.len]; exact hx⟩
  | lst ds => obtain ⟨a, ws, rfl, _, _, hS, hl⟩ := h1; exact .inl ⟨ws, .of hS, by rw [hl.len]; exact hx⟩
  | str z => obtain rfl : v = .str z := h1; exact hx
  | _ => exact hx.elim
theorem vals_one {K : PySem.W.Frag} {F O : Aset} {H : Hp} {vs : List V} {d : D} (h : IsL K F O H vs [d]) : ∃ v, vs = [v] ∧ Is K F O H v d := by
  cases vs with
  | nil => exact h.elim
  | cons v r => cases r with
    | nil => exact ⟨v, rfl, h.1⟩
    | cons => exact h.2.elim
theorem vals_two {K : PySem.W.Frag} {F O : Aset} {H : Hp} {vs : List V} {d e : D} (h : IsL K F O H vs [d, e]) : ∃ v u, vs = [v, u] ∧ Is K F O H v d ∧ Is K F O H u e := by
  cases vs with
  | nil => exact h.elim
  | cons v r =>
    obtain ⟨u, rfl, q⟩ := vals_one h.2
    exact ⟨v, u, rfl, h.1, q⟩
abbrev rTupOf (K : PySem.W.Frag) : List V → Hp → VK → Prop := fun xs H Q => ∃ p ys, xs = [.ref p] ∧ ((SqL K H p ys ∧ ∀ l, H l = none → Q (.ref l) (upd H l (.tup ys))) ∨ (SqT K H p ys ∧ Q (.ref p) H))
theorem wc_tupL {ds : List D} (q : Q (.tup ds) g) : WC M (rTupOf M.K) [.lst ds] g Q := fun vs H O o j0 h Q' p => by
  obtain ⟨v, rfl, a, ws, rfl, _, _, hS, hl⟩ := vals_one h
  exact ⟨a, ws, rfl, .inl ⟨.of hS, fun c hc => p _ _ (.tup ds) g (Kp.new hc) (M.same j0 (same_new hc)) ⟨c, ws, rfl, .of upd_same, hl.kp (Kp.new hc)⟩ q⟩⟩
theorem wc_tupT {x : D} {ds : List D} (hx : x = .tup ds) (q : Q (.tup ds) g) : WC M (rTupOf M.K) [x] g Q := fun vs H O o j0 h Q' p => by
  subst hx
  obtain ⟨v, rfl, a, ws, rfl, hS, hl⟩ := vals_one h
  exact ⟨a, ws, rfl, .inr ⟨hS, p _ H (.tup ds) g (Kp.refl H) j0 ⟨a, ws, rfl, hS, hl⟩ q⟩⟩
theorem wc_all {bs : List Bool} (q : Q (.bl (bs.all id)) g) : WC M (rAll M.K) [.lst (bs.map D.bl)] g Q := fun vs H O o j0 h Q' p => by
  obtain ⟨v, rfl, a, ws, rfl, _, _, hS, hl⟩ := vals_one h
  obtain rfl := isL_bls hl
  exact ⟨a, bs, rfl, .of hS, p _ H (.bl (bs.all id)) g (Kp.refl H) j0 rfl q⟩
theorem wc_intB {b : Bool} (q : Q (.int (if b then 1 else 0)) g) : WC M (fun xs H Q => (∃ i, xs = [.int i] ∧ Q (.int i) H) ∨ ∃ k, xs = [.bl k] ∧ Q (.int (if k then 1 else 0)) H) [.bl b] g Q := fun vs H O o j0 h Q' p => by
  obtain ⟨v, rfl, h1⟩ := vals_one h
  obtain rfl : v = .bl b := h1
  exact .inr ⟨b, rfl, p _ H (.int (if b then 1 else 0)) g (Kp.refl H) j0 rfl q⟩
theorem wc_max2 {i j : Int} (q : Q (.int (if j > i then j else i)) g) : WC M (fun xs H Q => ∃ i j, xs = [.int i, .int j] ∧ Q (.int (if j > i then j else i)) H) [.int i, .int j] g Q := fun vs H O o j0 h Q' p => by
  obtain ⟨v, u, rfl, h1, h2⟩ := vals_two h
  obtain rfl : v = .int i := h1
  obtain rfl : u = .int j := h2
  exact ⟨i, j, rfl, p _ H (.int (if j > i then j else i)) g (Kp.refl H) j0 rfl q⟩

/-! ### dicts by texts -/
def lkD : List Str → List D → Str → Option D
  | k :: ks, d :: ds, s => if k = s then some d else lkD ks ds s
  | _, _, _ => none
def putD (ks : List Str) (ds : List D) (s : Str) (e : D) : List D := if s ∈ ks then List.zipWith (fun k d => if k = s then e else d) ks ds else ds ++ [e]
def putKs (ks : List Str) (s : Str) : List Str := if s ∈ ks then ks else ks ++ [s]
theorem valV_lk {K : PySem.W.Frag} {F O : Aset} {H : Hp} (s : Str) : ∀ {ks : List Str} {ds : List D} {ws : List (Key × V)}, ws.map (·.1) = ks.map Sum.inr → IsL K F O H (ws.map (·.2)) ds →
    (∀ d, lkD ks ds s = some d → ∃ v, valV ws (Sum.inr s) = some v ∧ Is K F O H v d) ∧ (lkD ks ds s = none → valV ws (Sum.inr s) = none)
  | [], _, [], _, _ => ⟨fun d e => by simp [lkD] at e, fun _ => rfl⟩
  | [], _, _ :: _, e, _ => by cases e
  | _ :: _, _, [], e, _ => by cases e
  | k :: ks, [], w :: ws, e, h => h.elim
  | k :: ks, d :: ds, w :: ws, e, h => by
    have e1 : w.1 = Sum.inr k := (List.cons.inj e).1
    have ih := valV_lk s (ks := ks) (ds := ds) (ws := ws) (List.cons.inj e).2 h.2
    by_cases c : k = s
    · subst c
      rw [valV_pos e1]
      show (∀ d', (if k = k then some d else _) = some d' → _) ∧ ((if k = k then some d else _) = none → _)
      rw [if_pos rfl]
      exact ⟨fun d' q => by obtain rfl := Option.some.inj q; exact ⟨_, rfl, h.1⟩, fun q => by cases q⟩
    · have c' : ¬ w.1 = Sum.inr s := fun q => c (Sum.inr.inj (e1.symm.trans q))
      rw [valV_neg c']
      show (∀ d', (if k = s then some d else lkD ks ds s) = some d' → _) ∧ ((if k = s then some d else lkD ks ds s) = none → _)
      rw [if_neg c]
      exact ih
theorem we_get2 {tx : TE} (h : WE M ta Γ g fun x g1 => ∃ ks ds, x = .dict ks ds ∧ WE M tb Γ g1 fun y g2 => ∃ s, y = .str s ∧ WE M tx Γ g2 fun z g3 => Q ((lkD ks ds s).getD z) g3) : WE M (tDGet2 ta tb tx) Γ g Q := fun σ H o j Q' p =>
  h σ H o j _ fun v H1 x g1 k1 j1 i1 ⟨ks, ds, e, h1⟩ => by
    subst e
    obtain ⟨a, ws, rfl, n1, n2, hH, hk, hl⟩ := i1
    refine ⟨a, rfl, .inl ⟨ws, .inl hH⟩, ?_⟩
    refine h1 σ H1 (o.kp k1) j1 _ fun u H2 y g2 k2 j2 i2 ⟨s, e, h2⟩ => ?_
    subst e
    obtain rfl : u = .str s := i2
    refine h2 σ H2 (o.kp (k1.trans k2)) j2 _ fun z H3 e g3 k3 j3 i3 q => ?_
    have hH3 : H3 a = some (.dK ws) := k3.k _ _ n1 (k2.k _ _ n1 hH)
    have hl3 := (hl.kp k2).kp k3
    obtain ⟨c1, c2⟩ := valV_lk s hk hl3
    refine ⟨_, DGet.k (k := Sum.inr s) hH3, ?_⟩
    cases e1 : lkD ks ds s with
    | none =>
      rw [c2 e1]
      rw [e1] at q
      exact p _ H3 e g3 ((k1.trans k2).trans k3) j3 i3 q
    | some d =>
      obtain ⟨w, ew, iw⟩ := c1 d e1
      rw [ew]
      rw [e1] at q
      exact p _ H3 d g3 ((k1.trans k2).trans k3) j3 iw q
theorem we_dget (h : WE M ta Γ g fun x g1 => ∃ ks ds, x = .dict ks ds ∧ WE M tb Γ g1 fun y g2 => ∃ s d, y = .str s ∧ lkD ks ds s = some d ∧ Q d g2) : WE M (tDGet ta tb) Γ g Q := fun σ H o j Q' p =>
  h σ H o j _ fun v H1 x g1 k1 j1 i1 ⟨ks, ds, e, h1⟩ => by
    subst e
    obtain ⟨a, ws, rfl, n1, n2, hH, hk, hl⟩ := i1
    refine h1 σ H1 (o.kp k1) j1 _ fun u H2 y g2 k2 j2 i2 ⟨s, d, e, e1, q⟩ => ?_
    subst e
    obtain rfl : u = .str s := i2
    have hH2 : H2 a = some (.dK ws) := k2.k _ _ n1 hH
    obtain ⟨c1, c2⟩ := valV_lk s hk (hl.kp k2)
    obtain ⟨w, ew, iw⟩ := c1 d e1
    exact ⟨a, w, rfl, .inl ⟨ws, Sum.inr s, .inl hH2, rfl, ew.symm⟩, p _ H2 d g2 (k1.trans k2) j2 iw q⟩

/-! ### statements -/
def TK (H H' : Hp) : Prop := (∀ b xs, H b = some (.tup xs) → H' b = some (.tup xs)) ∧ ∀ b o u, H b = some (.frz o u) → H' b = some (.frz o u)
theorem TK.refl (H : Hp) : TK H H := ⟨fun _ _ h => h, fun _ _ _ h => h⟩
theorem TK.trans {H H1 H2 : Hp} (a : TK H H1) (b : TK H1 H2) : TK H H2 := ⟨fun c x h => b.1 c x (a.1 c x h), fun c o u h => b.2 c o u (a.2 c o u h)⟩
theorem Kp.tk {F : Aset} {H H' : Hp} (k : Kp F H H') : TK H H' := ⟨k.t, k.z⟩
theorem TK.sqT {H H' : Hp} {K : PySem.W.Frag} {a : Addr} {xs : List V} (k : TK H H') (h : SqT K H a xs) : SqT K H' a xs := by
  rcases h with (h | ⟨o, h⟩) | h
  · exact .inl (.inl (k.1 _ _ h))
  · exact .inl (.inr ⟨o, k.2 _ _ _ h⟩)
  · exact .inr h
/-- what is wanted behind a statement: of what is known then -/
structure AE (M : Frm) where
  nx : Ga → M.G → Prop
  rt : D → M.G → Prop := fun _ _ => False
  rtN : List D → M.G → Prop := fun _ _ => False
  bk : Ga → M.G → Prop := fun _ _ => False
  ct : Ga → M.G → Prop := fun _ _ => False
structure PrS (M : Frm) (H0 : Hp) (E : AE M) (D' : Ends) : Prop where
  nx : ∀ σ H Γ g, TK H0 H → Ok M Γ σ H → M.J g H → E.nx Γ g → D'.nx σ H
  bk : ∀ σ H Γ g, TK H0 H → Ok M Γ σ H → M.J g H → E.bk Γ g → D'.bk σ H
  ct : ∀ σ H Γ g, TK H0 H → Ok M Γ σ H → M.J g H → E.ct Γ g → D'.ct σ H
  rt : ∀ v H d g, Kp M.F M.H0 H → M.J g H → Is M.K M.F AF H v d → E.rt d g → D'.rt v H
  rtN : ∀ a vs H ds g, Kp M.F M.H0 H → M.J g H → M.H0 a = none → ¬ M.F a → H a = some (.lst vs) → IsL M.K AT AT H vs ds → E.rtN ds g → D'.rt (.ref a) H
def WS (M : Frm) (ts : TS) (Γ : Ga) (g : M.G) (E : AE M) : Prop := ∀ σ H, Ok M Γ σ H → M.J g H → ∀ D', PrS M H E D' → ts D' σ H
variable {E : AE M} {ts t1 t2 : TS}
theorem PrS.tk {H H' : Hp} {D' : Ends} (p : PrS M H E D') (k : TK H H') : PrS M H' E D' :=
  ⟨fun σ H2 Γ g t => p.nx σ H2 Γ g (k.trans t), fun σ H2 Γ g t => p.bk σ H2 Γ g (k.trans t), fun σ H2 Γ g t => p.ct σ H2 Γ g (k.trans t), p.rt, p.rtN⟩
theorem ws_seq (h : WS M t1 Γ g { E with nx := fun Γ' g' => WS M t2 Γ' g' E }) : WS M (tSeq t1 t2) Γ g E := fun σ H o j D' p =>
  h σ H o j _ ⟨fun σ1 H1 Γ1 g1 t o1 j1 h1 => h1 σ1 H1 o1 j1 D' (p.tk t), p.bk, p.ct, p.rt, p.rtN⟩
theorem ws_next (q : E.nx Γ g) : WS M tNext Γ g E := fun σ H o j D' p => p.nx σ H Γ g (TK.refl H) o j q
theorem ws_break (q : E.bk Γ g) : WS M tBreak Γ g E := fun σ H o j D' p => p.bk σ H Γ g (TK.refl H) o j q
theorem ws_cont (q : E.ct Γ g) : WS M tCont Γ g E := fun σ H o j D' p => p.ct σ H Γ g (TK.refl H) o j q
theorem ws_if (h : WT M tt Γ g fun b g1 => if b = true then WS M t1 Γ g1 E else WS M t2 Γ g1 E) : WS M (tIfS tt t1 t2) Γ g E := fun σ H o j D' p =>
  h σ H o j _ fun b H1 g1 k1 j1 h1 => by
    cases b with
    | true => exact h1 σ H1 (o.kp k1) j1 D' (p.tk k1.tk)
    | false => exact h1 σ H1 (o.kp k1) j1 D' (p.tk k1.tk)
theorem ws_ret (h : WE M te Γ g fun e g1 => e.im = true ∧ E.rt e g1) : WS M (tRet te) Γ g E := fun σ H o j D' p =>
  h σ H o j _ fun v H1 e g1 k1 j1 i1 q => p.rt v H1 e g1 (o.base.trans k1) j1 (Is.up e v q.1 i1) q.2
theorem ws_drop (h : WE M te Γ g fun e g1 => E.nx Γ g1) : WS M (tDrop te) Γ g E := fun σ H o j D' p =>
  h σ H o j _ fun v H1 e g1 k1 j1 i1 q => p.nx σ H1 Γ g1 k1.tk (o.kp k1) j1 q
/-- return of an owned list -/
theorem ws_retO {i : Nat} {ds : List D} (h : Γ[i]? = some (some (.own ds))) (q : E.rtN ds g) : WS M (tRet (tVar i)) Γ g E := fun σ H o j D' p => by
  obtain ⟨a, e, vs, hH, hl⟩ := o.own' i _ h rfl
  have z := o.own a ⟨i, _, h, rfl, e⟩
  exact ⟨_, e, p.rtN a vs H ds g o.base j z.2 z.1 hH hl q⟩
/-- len of an owned list -/
theorem we_lenO {i : Nat} {ds : List D} (h : Γ[i]? = some (some (.own ds))) (q : Q (.int ds.length) g) : WE M (tCB (fun xs H Q => ∃ x n, xs = [x] ∧ LenV M.K x H n ∧ Q (.int n) H) (tCons (tVar i) tNil)) Γ g Q := fun σ H o j Q' p => by
  obtain ⟨a, e, vs, hH, hl⟩ := o.own' i _ h rfl
  exact ⟨_, e, _, ds.length, rfl, .inl ⟨vs, .of hH, hl.len.symm⟩, p _ H (.int ds.length) g (Kp.refl H) j rfl q⟩
/-- tuple of an owned list -/
theorem we_tupO {i : Nat} {ds : List D} (h : Γ[i]? = some (some (.own ds))) (q : Q (.tup ds) g) : WE M (tCB (rTupOf M.K) (tCons (tVar i) tNil)) Γ g Q := fun σ H o j Q' p => by
  obtain ⟨a, e, vs, hH, hl⟩ := o.own' i _ h rfl
  exact ⟨_, e, a, vs, rfl, .inl ⟨.of hH, fun c hc => p _ _ (.tup ds) g (Kp.new hc) (M.same j (same_new hc)) ⟨c, vs, rfl, .of upd_same, (hl.down (fun _ _ => trivial) (fun _ _ => trivial)).kp (Kp.new hc)⟩ q⟩⟩
/-- an owned list's item -/
theorem we_ixO {i : Nat} {ds : List D} (h : Γ[i]? = some (some (.own ds))) (hq : WE M tb Γ g fun y g1 => ∃ k d, y = .int k ∧ atI ds k = some d ∧ Q d g1) : WE M (tOp (rIxL M.K) (tVar i) tb) Γ g Q := fun σ H o j Q' p => by
  obtain ⟨a, e, vs, hH, hl⟩ := o.own' i _ h rfl
  have z := (o.own a ⟨i, _, h, rfl, e⟩).1
  refine ⟨_, e, hq σ H o j _ fun u H1 y g1 k1 j1 i1 ⟨k, d, e1, e2, q⟩ => ?_⟩
  subst e1
  obtain rfl : u = .int k := i1
  obtain ⟨w, ew, r⟩ := atI_is hl e2
  exact ⟨a, vs, k, w, rfl, rfl, .of (k1.k _ _ z hH), ew, p w H1 d g1 k1 j1 ((Is.monoT (fun _ _ => k1.sqT) d w r).down (fun _ _ => trivial) (fun _ _ => trivial)) q⟩

/-! ### targets -/
def WG (M : Frm) (vs : List Nat) (t : TG) (d : D) (Γ : Ga) (g : M.G) (Q : Ga → M.G → Prop) : Prop := ∀ σ H v, Ok M Γ σ H → M.J g H → Is M.K M.F (Ow Γ σ) H v d →
  ∀ Q' : St → Hp → Prop, (∀ σ' Γ', Ok M Γ' σ' H → wipe σ' vs = wipe σ vs → Q Γ' g → Q' σ' H) → t v σ H Q'
def WGs (M : Frm) (vs : List Nat) (t : TGs) (ds : List D) (Γ : Ga) (g : M.G) (Q : Ga → M.G → Prop) : Prop := ∀ σ H us, Ok M Γ σ H → M.J g H → IsL M.K M.F (Ow Γ σ) H us ds →
  ∀ Q' : St → Hp → Prop, (∀ σ' Γ', Ok M Γ' σ' H → wipe σ' vs = wipe σ vs → Q Γ' g → Q' σ' H) → t us σ H Q'
theorem ow_set {Γ : Ga} {σ : St} {i : Nat} {d : D} {v : V} {a : Addr} (h : Ow (Γ.set i (some (.d d))) (σ.set i (some v)) a) : Ow Γ σ a := by
  obtain ⟨j, e, h1, h2, h3⟩ := h
  by_cases q : j = i
  · subst q
    have hlt : j < Γ.length := by
      have := (List.getElem?_eq_some_iff.mp h1).1
      rwa [List.length_set] at this
    rw [List.getElem?_set_self hlt] at h1
    obtain rfl := Option.some.inj (Option.some.inj h1)
    cases h2
  · rw [List.getElem?_set_ne (Ne.symm q)] at h1 h3
    exact ⟨j, e, h1, h2, h3⟩
theorem Ok.set {σ : St} {H : Hp} (o : Ok M Γ σ H) {i : Nat} {d : D} {v : V} (hi : i < Γ.length) (h : Is M.K M.F (Ow Γ σ) H v d) : Ok M (Γ.set i (some (.d d))) (σ.set i (some v)) H := by
  have hiσ : i < σ.length := by rw [o.len]; exact hi
  have ne : ∀ {j : Nat} {e : SD}, (Γ.set i (some (.d d)))[j]? = some (some e) → isOwn e = true → j ≠ i := fun h1 h2 q => by
    subst q
    rw [List.getElem?_set_self hi] at h1
    obtain rfl := Option.some.inj (Option.some.inj h1)
    cases h2
  refine ⟨by rw [List.length_set, List.length_set]; exact o.len, o.base, fun j e hj => ?_, fun j e hj hn => ?_, fun a ha => o.own a (ow_set ha), fun j k e1 e2 a h1 h2 h3 h4 h5 h6 => ?_⟩
  · by_cases q : j = i
    · subst q
      rw [List.getElem?_set_self hi] at hj
      have := Option.some.inj (Option.some.inj hj)
      cases this
      exact ⟨v, List.getElem?_set_self hiσ, h.down (fun _ z => z) fun a ha => ow_set ha⟩
    · rw [List.getElem?_set_ne (Ne.symm q)] at hj
      obtain ⟨w, e1, e2⟩ := o.at' j e hj
      exact ⟨w, by rw [List.getElem?_set_ne (Ne.symm q)]; exact e1, e2.down (fun _ z => z) fun a ha => ow_set ha⟩
  · have q := ne hj hn
    rw [List.getElem?_set_ne (Ne.symm q)] at hj
    obtain ⟨a, e1, e2⟩ := o.own' j e hj hn
    exact ⟨a, by rw [List.getElem?_set_ne (Ne.symm q)]; exact e1, e2⟩
  · have hj := ne h1 h2
    have hk := ne h4 h5
    rw [List.getElem?_set_ne (Ne.symm hj)] at h1 h3
    rw [List.getElem?_set_ne (Ne.symm hk)] at h4 h6
    exact o.inj j k e1 e2 a h1 h2 h3 h4 h5 h6
theorem wipe_set0 {i : Nat} {x : Option V} (σ : St) : ∀ vs : List Nat, (wipe (σ.set i x) vs).set i none = (wipe σ vs).set i none
  | [] => by show (σ.set i x).set i none = σ.set i none; rw [List.set_set]
  | k :: vs => by
    show ((wipe (σ.set i x) vs).set k none).set i none = ((wipe σ vs).set k none).set i none
    by_cases e : k = i
    · subst e; rw [List.set_set, List.set_set]; exact wipe_set0 σ vs
    · rw [List.set_comm _ _ e, wipe_set0 σ vs, List.set_comm _ _ (Ne.symm e)]
theorem wipe_set {i : Nat} {x : Option V} (σ : St) : ∀ {vs : List Nat}, i ∈ vs → wipe (σ.set i x) vs = wipe σ vs
  | k :: vs, h => by
    show (wipe (σ.set i x) vs).set k none = (wipe σ vs).set k none
    by_cases e : i = k
    · subst e; exact wipe_set0 σ vs
    · rcases List.mem_cons.mp h with q | q
      · exact absurd q e
      · rw [wipe_set σ q]
theorem wg_name {vs : List Nat} {i : Nat} {d : D} {QG : Ga → M.G → Prop} (hi : Nat.blt i Γ.length = true) (hv : vs.contains i = true) (q : QG (Γ.set i (some (.d d))) g) : WG M vs (gName i) d Γ g QG := fun σ H v o j h Q' p =>
  p _ _ (o.set (Nat.le_of_ble_eq_true hi) h) (wipe_set σ (List.contains_iff_mem.mp hv)) q
theorem wgs_nil {vs : List Nat} {QG : Ga → M.G → Prop} (q : QG Γ g) : WGs M vs gNil [] Γ g QG := fun σ H us o j h Q' p => by
  cases us with
  | nil => exact ⟨rfl, p σ Γ o rfl q⟩
  | cons => exact h.elim
theorem wgs_cons {vs : List Nat} {i : Nat} {d : D} {ds : List D} {t : TGs} {QG : Ga → M.G → Prop} (hi : Nat.blt i Γ.length = true) (hv : vs.contains i = true) (q : WGs M vs t ds (Γ.set i (some (.d d))) g QG) : WGs M vs (gCons (gName i) t) (d :: ds) Γ g QG := fun σ H us o j h Q' p => by
  cases us with
  | nil => exact h.elim
  | cons v us =>
    refine ⟨v, us, rfl, ?_⟩
    exact q _ H us (o.set (Nat.le_of_ble_eq_true hi) h.1) j (h.2.down (fun _ z => z) fun a ha => ow_set ha) Q' fun σ' Γ' o' w q' => p σ' Γ' o' (w.trans (wipe_set σ (List.contains_iff_mem.mp hv))) q'
theorem wgs_consG {vs : List Nat} {d : D} {ds : List D} {t0 : TG} {t : TGs} {QG : Ga → M.G → Prop} (him : imL ds = true) (q : WG M vs t0 d Γ g fun Γ' g' => WGs M vs t ds Γ' g' QG) : WGs M vs (gCons t0 t) (d :: ds) Γ g QG := fun σ H us o j h Q' p => by
  cases us with
  | nil => exact h.elim
  | cons v us =>
    refine ⟨v, us, rfl, ?_⟩
    exact q σ H v o j h.1 _ fun σ1 Γ1 o1 w1 q1 => q1 σ1 H us o1 j (IsL.up ds us him h.2) Q' fun σ' Γ' o' w q' => p σ' Γ' o' (w.trans w1) q'
theorem wg_tup {vs : List Nat} {n : Nat} {t : TGs} {x : D} {ds : List D} {QG : Ga → M.G → Prop} (hx : x = .tup ds) (hn : ds.length = n) (q : WGs M vs t ds Γ g QG) : WG M vs (gTup M.K n t) x Γ g QG := fun σ H v o j h Q' p => by
  subst hx
  obtain ⟨a, us, rfl, hS, hl⟩ := h
  exact ⟨a, us, rfl, hS, by rw [hl.len]; exact hn, q σ H us o j hl Q' p⟩
/-- the slots 0, 1, .. -/
abbrev allV : List Nat := [0, 1, 2, 3, 4, 5, 6, 7, 8, 9, 10, 11, 12, 13, 14, 15]
theorem ws_asg {t : TG} (h : WE M te Γ g fun e g1 => WG M allV t e Γ g1 fun Γ' g' => E.nx Γ' g') : WS M (tAsg te t) Γ g E := fun σ H o j D' p =>
  h σ H o j _ fun v H1 e g1 k1 j1 i1 q => q σ H1 v (o.kp k1) j1 i1 _ fun σ' Γ' o' _ q' => p.nx σ' H1 Γ' g1 k1.tk o' j1 q'
theorem ws_set {i : Nat} (hi : Nat.blt i Γ.length = true) (h : WE M te Γ g fun e g1 => E.nx (Γ.set i (some (.d e))) g1) : WS M (tAsg te (gName i)) Γ g E := fun σ H o j D' p =>
  h σ H o j _ fun v H1 e g1 k1 j1 i1 q => p.nx _ H1 _ g1 k1.tk ((o.kp k1).set (Nat.le_of_ble_eq_true hi) i1) j1 q
end
end Sf
end
section
set_option Elab.async false
set_option linter.all false
set_option maxRecDepth 100000
/-! Walk 2: loops, comprehensions, owned lists and dicts, calls, promises. -/
namespace Sf
open PySem L2
open PyProof.Rows (envOfC)

/-! ### what is walked -/
def AWalk (K : PySem.W.Frag) (rel : Hp → Hp → Prop) (H1 : Hp) (J : It) (n : Nat) (it : Nat → D) : Prop :=
  ∀ H, rel H1 H → (∀ i, i < n → J.go i H) ∧ J.stop n H ∧ ∀ i x H', i < n → J.yld i H x H' → Same H H' ∧ Is K AT AT H' x (it i)
def WI (M : Frm) (rel : Hp → Hp → Prop) (wi : TI) (Γ : Ga) (g : M.G) (P : Nat → (Nat → D) → M.G → Prop) : Prop := ∀ σ H, Ok M Γ σ H → M.J g H →
  ∀ R : It → Hp → Prop, (∀ Jt H1 n it g1, Kp M.F H H1 → M.J g1 H1 → AWalk M.K rel H1 Jt n it → P n it g1 → R Jt H1) → wi σ H R
section
variable {M : Frm} {Γ : Ga} {g : M.G} {Q : QE M} {ta tb te tc : TE} {tt tu : TT} {tr : TA} {E : AE M} {ts t1 t2 : TS} {rel : Hp → Hp → Prop} {P : Nat → (Nat → D) → M.G → Prop}
theorem aw_list {K : PySem.W.Frag} {H1 : Hp} {F O : Aset} {a : Addr} {vs : List V} {ds : List D} (him : imL ds = true) (hl : IsL K F O H1 vs ds) (ht : ∀ H, rel H1 H → ∀ b xs, SqT K H1 b xs → SqT K H b xs) (hs : ∀ H, rel H1 H → SqL K H a vs) : AWalk K rel H1 (Itl K a) ds.length (fun i => ds.getD i .non) := fun H r => by
  refine ⟨fun i hi => ⟨vs, vs[i]'(by rw [hl.len]; exact hi), hs H r, by simp [hl.len, hi]⟩, ⟨vs, hs H r, by rw [hl.len]; exact Nat.le_refl _⟩, fun i x H' hi y => ?_⟩
  obtain ⟨rfl, y⟩ := y
  obtain ⟨d, e, q⟩ := hl.get' (y vs (hs H' r))
  refine ⟨Same.refl _, ?_⟩
  show Is K AT AT H' x (ds.getD i .non)
  rw [List.getD_eq_getElem?_getD, e]
  exact Is.monoT (fun b xs h => ht H' r b xs h) d x (Is.up d x (imL_get him e) q)
theorem aw_tup {K : PySem.W.Frag} {H1 : Hp} {F O : Aset} {a : Addr} {vs : List V} {ds : List D} (him : imL ds = true) (hl : IsL K F O H1 vs ds) (ht : ∀ H, rel H1 H → ∀ b xs, SqT K H1 b xs → SqT K H b xs) (hs : SqT K H1 a vs) : AWalk K rel H1 (Itt K a) ds.length (fun i => ds.getD i .non) := fun H r => by
  have hs' := ht H r a vs hs
  refine ⟨fun i hi => ⟨vs, vs[i]'(by rw [hl.len]; exact hi), hs', by simp [hl.len, hi]⟩, ⟨vs, hs', by rw [hl.len]; exact Nat.le_refl _⟩, fun i x H' hi y => ?_⟩
  obtain ⟨rfl, y⟩ := y
  obtain ⟨d, e, q⟩ := hl.get' (y vs hs')
  refine ⟨Same.refl _, ?_⟩
  show Is K AT AT H' x (ds.getD i .non)
  rw [List.getD_eq_getElem?_getD, e]
  exact Is.monoT (fun b xs h => ht H' r b xs h) d x (Is.up d x (imL_get him e) q)
theorem wi_tup (hrel : ∀ K H1 H, rel H1 H → ∀ b xs, SqT K H1 b xs → SqT K H b xs) (h : WE M te Γ g fun x g1 => ∃ ds, x = .tup ds ∧ imL ds = true ∧ P ds.length (fun i => ds.getD i .non) g1) : WI M rel (iTup M.K te) Γ g P := fun σ H o j R p =>
  h σ H o j _ fun v H1 x g1 k1 j1 i1 ⟨ds, e, him, q⟩ => by
    subst e
    obtain ⟨a, vs, rfl, hS, hl⟩ := i1
    exact ⟨a, rfl, ⟨vs, hS⟩, p _ H1 _ _ g1 k1 j1 (aw_tup him hl (fun H r => hrel _ _ H r) hS) q⟩
theorem wi_list (h : WE M te Γ g fun x g1 => ∃ ds, x = .lst ds ∧ imL ds = true ∧ P ds.length (fun i => ds.getD i .non) g1) : WI M (Kp M.F) (iList M.K te) Γ g P := fun σ H o j R p =>
  h σ H o j _ fun v H1 x g1 k1 j1 i1 ⟨ds, e, him, q⟩ => by
    subst e
    obtain ⟨a, vs, rfl, n1, n2, hS, hl⟩ := i1
    exact ⟨a, rfl, ⟨vs, .of hS⟩, p _ H1 _ _ g1 k1 j1 (aw_list him hl (fun H r _ _ => r.sqT) fun H r => .of (r.k _ _ n1 hS)) q⟩
theorem wi_range (h : WA M tr Γ g fun xs g1 => ∃ n : Int, xs = [.int n] ∧ 0 ≤ n ∧ n < 2 ^ 62 ∧ P n.toNat (fun i => .int (0 + (i : Int))) g1) : WI M rel (iRng1 tr) Γ g P := fun σ H o j R p =>
  h σ H o j _ fun vs H1 xs g1 k1 j1 i1 ⟨n, e, h0, h1, q⟩ => by
    subst e
    obtain ⟨v, rfl, e⟩ := vals_one i1
    obtain rfl : v = .int n := e
    exact ⟨n, rfl, by omega, h1, p _ H1 _ _ g1 k1 j1 (fun H _ => ⟨fun i hi => hi, Nat.le_refl _, fun i x H' hi y => by obtain ⟨rfl, rfl⟩ := y; exact ⟨Same.refl _, rfl⟩⟩) q⟩

/-- for target in ..: body -/
theorem ws_for {wi : TI} {tg : TG} {tb : TS} (h : WI M TK wi Γ g fun n it g1 => ∃ I : Nat → Ga → M.G → Prop, I 0 Γ g1 ∧
    (∀ i Γ' g', i < n → I i Γ' g' → WG M allV tg (it i) Γ' g' fun Γ2 g2 => WS M tb Γ2 g2 { E with nx := I (i + 1), ct := I (i + 1), bk := E.nx }) ∧ ∀ Γ' g', I n Γ' g' → E.nx Γ' g') : WS M (tFor wi tg tb) Γ g E := fun σ H o j D' p =>
  h σ H o j _ fun Jt H1 n it g1 k1 j1 aw ⟨I, h0, hs, hd⟩ => by
    refine ⟨fun i m σ' H' => m = n - i ∧ i ≤ n ∧ ∃ Γ' g', TK H1 H' ∧ Ok M Γ' σ' H' ∧ M.J g' H' ∧ I i Γ' g', ⟨n, by simp, Nat.zero_le _, Γ, g1, TK.refl _, o.kp k1, j1, h0⟩, ?_⟩
    rintro i m σ' H' ⟨rfl, hi, Γ', g', t1, o', j', q⟩
    obtain ⟨w1, w2, w3⟩ := aw H' t1
    by_cases hlt : i < n
    · refine .inr ⟨w1 i hlt, fun σ2 H2 => ∃ Γ2 g2, TK H1 H2 ∧ Ok M Γ2 σ2 H2 ∧ M.J g2 H2 ∧ I (i + 1) Γ2 g2, fun σ2 H2 ⟨Γ2, g2, b1, b2, b3, b4⟩ => ⟨n - (i + 1), by omega, rfl, hlt, Γ2, g2, b1, b2, b3, b4⟩, fun x H2 y => ?_⟩
      obtain ⟨sm, ix⟩ := w3 i x H2 hlt y
      have kk : Kp M.F H' H2 := .of_same sm
      refine hs i Γ' g' hlt q σ' H2 x (o'.kp kk) (M.same j' sm) (ix.down (fun _ _ => trivial) (fun _ _ => trivial)) _ fun σ3 Γ3 o3 _ q3 => ?_
      have t2 : TK H1 H2 := t1.trans kk.tk
      refine q3 σ3 H2 o3 (M.same j' sm) _ ⟨fun σ4 H4 Γ4 g4 t4 o4 j4 q4 => ⟨Γ4, g4, t2.trans t4, o4, j4, q4⟩, fun σ4 H4 Γ4 g4 t4 o4 j4 q4 => p.nx σ4 H4 Γ4 g4 ((k1.tk.trans t2).trans t4) o4 j4 q4, fun σ4 H4 Γ4 g4 t4 o4 j4 q4 => ⟨Γ4, g4, t2.trans t4, o4, j4, q4⟩, p.rt, p.rtN⟩
    · have e : i = n := by omega
      subst e
      exact .inl ⟨w2, p.nx σ' H' Γ' g' (k1.tk.trans t1) o' j' (hd Γ' g' q)⟩

/-! ### comprehensions -/
def wipeG (Γ : Ga) : List Nat → Ga
  | [] => Γ
  | v :: vs => (wipeG Γ vs).set v none
theorem wipeG_some {Γ : Ga} {i : Nat} {x : SD} : ∀ {vs : List Nat}, (wipeG Γ vs)[i]? = some (some x) → Γ[i]? = some (some x) ∧ i ∉ vs
  | [], h => ⟨h, by simp⟩
  | v :: vs, h => by
    unfold wipeG at h
    by_cases hi : v = i
    · subst hi
      by_cases hv : v < (wipeG Γ vs).length
      · rw [List.getElem?_set_self hv] at h; cases h
      · rw [List.getElem?_eq_none (by simpa using hv)] at h; cases h
    · rw [List.getElem?_set_ne hi] at h
      obtain ⟨h1, h2⟩ := wipeG_some h
      exact ⟨h1, by simp only [List.mem_cons, not_or]; exact ⟨fun e => hi e.symm, h2⟩⟩
theorem wipe_at {σ : St} {i : Nat} : ∀ {vs : List Nat}, i ∉ vs → (wipe σ vs)[i]? = σ[i]?
  | [], _ => rfl
  | v :: vs, h => by
    simp only [List.mem_cons, not_or] at h
    show ((wipe σ vs).set v none)[i]? = _
    rw [List.getElem?_set_ne (fun e => h.1 e.symm), wipe_at h.2]
theorem wipeG_len (Γ : Ga) : ∀ vs : List Nat, (wipeG Γ vs).length = Γ.length
  | [] => rfl
  | v :: vs => by show ((wipeG Γ vs).set v none).length = _; rw [List.length_set, wipeG_len Γ vs]
theorem ow_wipe {Γ : Ga} {σ : St} {vs : List Nat} {a : Addr} (h : Ow (wipeG Γ vs) (wipe σ vs) a) : Ow Γ σ a := by
  obtain ⟨i, d, h1, h2, h3⟩ := h
  obtain ⟨e1, e2⟩ := wipeG_some h1
  rw [wipe_at e2] at h3
  exact ⟨i, d, e1, h2, h3⟩
theorem Ok.wipe {σ : St} {H : Hp} (o : Ok M Γ σ H) (vs : List Nat) : Ok M (wipeG Γ vs) (wipe σ vs) H := by
  refine ⟨by rw [wipe_length, wipeG_len]; exact o.len, o.base, fun i d e => ?_, fun i d e n => ?_, fun a ha => o.own a (ow_wipe ha), fun i j d e a h1 h2 h3 h4 h5 h6 => ?_⟩
  · obtain ⟨e1, e2⟩ := wipeG_some e
    obtain ⟨v, q1, q2⟩ := o.at' i d e1
    exact ⟨v, by rw [wipe_at e2]; exact q1, q2.down (fun _ z => z) fun a ha => ow_wipe ha⟩
  · obtain ⟨e1, e2⟩ := wipeG_some e
    obtain ⟨a, q1, q2⟩ := o.own' i d e1 n
    exact ⟨a, by rw [wipe_at e2]; exact q1, q2⟩
  · obtain ⟨e1, e2⟩ := wipeG_some h1
    obtain ⟨e3, e4⟩ := wipeG_some h4
    rw [wipe_at e2] at h3
    rw [wipe_at e4] at h6
    exact o.inj i j d e a e1 h2 h3 e3 h5 h6
/-- a new address is not barred -/
theorem upd_kp {F : Aset} {H0 H : Hp} {a : Addr} {xs ys : List V} (k : Kp F H0 H) (h0 : H0 a = none) (h : H a = some (.lst xs)) : Kp F H0 (upd H a (.lst ys)) := by
  refine ⟨fun b o n e => ?_, fun b zs e => ?_, fun b o u e => ?_⟩
  · rw [upd_ne (ne_of_none e h0)]; exact k.k b o n e
  · rw [upd_ne (ne_of_none e h0)]; exact k.t b zs e
  · rw [upd_ne (ne_of_none e h0)]; exact k.z b o u e
theorem upd_sqT {K : PySem.W.Frag} {H : Hp} {a : Addr} {xs ys : List V} (h : H a = some (.lst xs)) {b : Addr} {zs : List V} (q : SqT K H b zs) : SqT K (upd H a (.lst ys)) b zs := by
  rcases q with (q | ⟨o, q⟩) | q
  · exact .inl (.inl (by rw [upd_ne (ne_of q h (by intro z; cases z))]; exact q))
  · exact .inl (.inr ⟨o, by rw [upd_ne (ne_of q h (by intro z; cases z))]; exact q⟩)
  · exact .inr q
theorem we_lc {wi : TI} {tg : TG} {te : TE} {vs : List Nat} (h : WI M (Kp M.F) wi Γ g fun n it g1 => n < sizeLine ∧ ∃ I : Nat → List D → M.G → Prop, I 0 [] g1 ∧
    (∀ i acc g', i < n → acc.length ≤ i → I i acc g' → WG M vs tg (it i) (wipeG Γ vs) g' fun Γ2 g2 => WT M tt Γ2 g2 fun b g3 => if b = true then WE M te Γ2 g3 fun e g4 => e.im = true ∧ I (i + 1) (acc ++ [e]) g4 else I (i + 1) acc g3) ∧
    ∀ acc g', acc.length ≤ n → imL acc = true → I n acc g' → Q (.lst acc) g') : WE M (tLc wi tg tt te vs) Γ g Q := fun σ H o j Q' p =>
  h σ H o j _ fun Jt H1 n it g1 k1 j1 aw ⟨hn, I, h0, hs, hd⟩ => by
    intro L hL
    have nF : ∀ {g2 H2}, M.J g2 H2 → H2 L = none → ¬ M.F L := fun j2 e z => M.trk _ _ _ j2 z e
    have nFL := nF j1 hL
    refine ⟨fun i m H' => m = n - i ∧ i ≤ n ∧ ∃ acc us g', Kp M.F H1 H' ∧ M.J g' H' ∧ H' L = some (.lst us) ∧ IsL M.K AT AT H' us acc ∧ imL acc = true ∧ acc.length ≤ i ∧ I i acc g', ⟨n, by simp, Nat.zero_le _, [], [], g1, Kp.new hL, M.same j1 (same_new hL), upd_same, trivial, rfl, Nat.zero_le _, h0⟩, ?_⟩
    rintro i m H' ⟨rfl, hi, acc, us, g', kk, j', eL, il, him, hlen, q⟩
    obtain ⟨w1, w2, w3⟩ := aw H' kk
    by_cases hlt : i < n
    · refine .inr ⟨w1 i hlt, fun H2 => ∃ acc us g', Kp M.F H1 H2 ∧ M.J g' H2 ∧ H2 L = some (.lst us) ∧ IsL M.K AT AT H2 us acc ∧ imL acc = true ∧ acc.length ≤ i + 1 ∧ I (i + 1) acc g', fun H2 q2 => ⟨n - (i + 1), by omega, rfl, hlt, q2⟩, fun x H2 y => ?_⟩
      obtain ⟨sm, ix⟩ := w3 i x H2 hlt y
      have kk2 : Kp M.F H' H2 := .of_same sm
      have o2 : Ok M (wipeG Γ vs) (L2.wipe σ vs) H2 := ((o.kp k1).kp (kk.trans kk2)).wipe vs
      refine hs i acc g' hlt hlen q (L2.wipe σ vs) H2 x o2 (M.same j' sm) (ix.down (fun _ _ => trivial) (fun _ _ => trivial)) _ fun σ3 Γ3 o3 w q3 => ⟨?_, ?_⟩
      · rw [w]
        have : ∀ (ws : List Nat) (τ : St), (∀ i ∈ ws, τ[i]? = some none ∨ τ[i]? = none) → L2.wipe τ ws = τ := by
          intro ws
          induction ws with
          | nil => intro τ _; rfl
          | cons k ws ih =>
            intro τ hτ
            show (L2.wipe τ ws).set k none = τ
            rw [ih τ fun i hi => hτ i (List.mem_cons_of_mem _ hi)]
            apply List.ext_getElem?
            intro r
            by_cases e : k = r
            · subst e
              rcases hτ k List.mem_cons_self with q | q
              · rw [List.getElem?_set_self (List.getElem?_eq_some_iff.mp q).1, q]
              · rw [q, List.getElem?_eq_none]
                rw [List.length_set]; exact List.getElem?_eq_none_iff.mp q
            · rw [List.getElem?_set_ne e]
        have : ∀ (ws : List Nat) (τ : St), ∀ i ∈ ws, (L2.wipe τ ws)[i]? = some none ∨ (L2.wipe τ ws)[i]? = none := by
          intro ws
          induction ws with
          | nil => intro τ i h; cases h
          | cons k ws ih =>
            intro τ i hi
            show ((L2.wipe τ ws).set k none)[i]? = some none ∨ ((L2.wipe τ ws).set k none)[i]? = none
            by_cases e : k = i
            · subst e
              by_cases hk : k < (L2.wipe τ ws).length
              · exact .inl (List.getElem?_set_self hk)
              · exact .inr (List.getElem?_eq_none (by rw [List.length_set]; omega))
            · rw [List.getElem?_set_ne e]
              rcases List.mem_cons.mp hi with q | q
              · exact absurd q.symm e
              · exact ih τ i q
        rename_i h1
        exact h1 vs _ (this vs σ)
      · refine q3 σ3 H2 o3 (M.same j' sm) _ fun b H3 g3 k3 j3 q4 => ?_
        have kk3 : Kp M.F H1 H3 := (kk.trans kk2).trans k3
        have eL3 : H3 L = some (.lst us) := k3.k _ _ nFL (sm _ _ eL)
        cases b with
        | false => exact ⟨acc, us, g3, kk3, j3, eL3, (il.kpT kk2).kpT k3, him, by omega, q4⟩
        | true =>
          refine q4 σ3 H3 (o3.kp k3) j3 _ fun v H4 e g4 k4 j4 i4 ⟨eim, q5⟩ => ?_
          have eL4 : H4 L = some (.lst us) := k4.k _ _ nFL eL3
          have il4 := ((il.kpT kk2).kpT k3).kpT k4
          refine ⟨us, eL4, by rw [il.len]; omega, acc ++ [e], us ++ [v], g4, upd_kp (kk3.trans k4) hL eL4, M.stab _ _ _ j4 (fun b o hb eb => ?_) (fun b xs eb => by rw [upd_ne (ne_of eb eL4 (by intro z; cases z))]; exact eb) (fun b o u eb => by rw [upd_ne (ne_of eb eL4 (by intro z; cases z))]; exact eb), upd_same, ?_, ?_, by rw [List.length_append]; show acc.length + 1 ≤ i + 1; omega, q5⟩
          · rw [upd_ne (fun z => nFL (by rw [← z]; exact hb))]; exact eb
          · refine (IsL.monoT (fun b xs => upd_sqT eL4) _ _ il4).append ⟨Is.monoT (fun b xs => upd_sqT eL4) e v (Is.up e v eim i4), trivial⟩
          · rw [imL_iff] at him ⊢
            intro d hd
            rcases List.mem_append.mp hd with hd | hd
            · exact him d hd
            · rw [List.mem_singleton.mp hd]; exact eim
    · have e : i = n := by omega
      subst e
      refine .inl ⟨w2, p _ H' (.lst acc) g' (k1.trans kk) j' ⟨L, us, rfl, nFL, fun z => ?_, eL, il.down (fun _ _ => trivial) (fun _ _ => trivial)⟩ (hd acc g' hlen him q)⟩
      obtain ⟨u, e⟩ := (o.kp k1).owT z
      rw [hL] at e; cases e

/-! ### owned lists and dicts -/
mutual
theorem Is.addO {K : PySem.W.Frag} {F O O' : Aset} {H : Hp} {p : Addr} (hp : H p = none) (hO : ∀ a, O' a → O a ∨ a = p) : ∀ (d : D) (v : V), Is K F O H v d → Is K F O' H v d
  | .non, _, h => h
  | .bl _, _, h => h
  | .int _, _, h => h
  | .str _, _, h => h
  | .adr _, _, h => h
  | .tup ds, _, ⟨a, vs, e, h, hl⟩ => ⟨a, vs, e, h, IsL.addO hp hO ds vs hl⟩
  | .lst ds, _, ⟨a, vs, e, n1, n2, h, hl⟩ => ⟨a, vs, e, n1, fun z => (hO a z).elim n2 (fun q => (by rw [q, hp] at h; cases h)), h, IsL.addO hp hO ds vs hl⟩
  | .dict ks ds, _, ⟨a, ws, e, n1, n2, h, hk, hl⟩ => ⟨a, ws, e, n1, fun z => (hO a z).elim n2 (fun q => (by rw [q, hp] at h; cases h)), h, hk, IsL.addO hp hO ds _ hl⟩
theorem IsL.addO {K : PySem.W.Frag} {F O O' : Aset} {H : Hp} {p : Addr} (hp : H p = none) (hO : ∀ a, O' a → O a ∨ a = p) : ∀ (ds : List D) (vs : List V), IsL K F O H vs ds → IsL K F O' H vs ds
  | [], [], h => h
  | [], _ :: _, h => h
  | _ :: _, [], h => h
  | d :: ds, v :: vs, h => ⟨Is.addO hp hO d v h.1, IsL.addO hp hO ds vs h.2⟩
end
/-- slot i takes a new owned thing at p -/
theorem Ok.newOwn {σ : St} {H : Hp} (o : Ok M Γ σ H) {g : M.G} (j : M.J g H) {i : Nat} {d : SD} {p : Addr} {ob : HO} (hi : i < Γ.length) (hp : H p = none) (hd : isOwn d = true) (h : IsO M.K (upd H p ob) p d) : Ok M (Γ.set i (some d)) (σ.set i (some (.ref p))) (upd H p ob) := by
  have hiσ : i < σ.length := by rw [o.len]; exact hi
  have ow : ∀ a, Ow (Γ.set i (some d)) (σ.set i (some (.ref p))) a → Ow Γ σ a ∨ a = p := fun a ⟨k, e, h1, h2, h3⟩ => by
    by_cases q : k = i
    · subst q
      rw [List.getElem?_set_self hiσ] at h3
      right
      have := Option.some.inj (Option.some.inj h3)
      cases this; rfl
    · rw [List.getElem?_set_ne (Ne.symm q)] at h1 h3
      exact .inl ⟨k, e, h1, h2, h3⟩
  have nF : ¬ M.F p := fun z => M.trk _ _ _ j z hp
  have H0p : M.H0 p = none := by
    cases q : M.H0 p with
    | none => rfl
    | some u => rw [o.base.k p u nF q] at hp; cases hp
  have notp : ∀ k a e, k ≠ i → σ[k]? = some (some (V.ref a)) → Γ[k]? = some (some e) → isOwn e = true → a ≠ p := fun k a e hk h1 h2 h3 q => by
    subst q
    obtain ⟨u, e⟩ := o.owT ⟨k, e, h2, h3, h1⟩
    rw [hp] at e; cases e
  refine ⟨by rw [List.length_set, List.length_set]; exact o.len, o.base.trans (Kp.new hp), fun k e hk => ?_, fun k e hk hn => ?_, fun a ha => ?_, fun k l e1 e2 a h1 h2 h3 h4 h5 h6 => ?_⟩
  · by_cases q : k = i
    · subst q
      rw [List.getElem?_set_self hi] at hk
      obtain rfl := Option.some.inj (Option.some.inj hk)
      cases hd
    · rw [List.getElem?_set_ne (Ne.symm q)] at hk
      obtain ⟨w, e1, e2⟩ := o.at' k e hk
      exact ⟨w, by rw [List.getElem?_set_ne (Ne.symm q)]; exact e1, (Is.addO hp ow e w e2).kp (Kp.new hp)⟩
  · by_cases q : k = i
    · subst q
      rw [List.getElem?_set_self hi] at hk
      obtain rfl := Option.some.inj (Option.some.inj hk)
      exact ⟨p, List.getElem?_set_self hiσ, h⟩
    · rw [List.getElem?_set_ne (Ne.symm q)] at hk
      obtain ⟨a, e1, e2⟩ := o.own' k e hk hn
      exact ⟨a, by rw [List.getElem?_set_ne (Ne.symm q)]; exact e1, e2.kp (F := M.F) (Kp.new hp) (o.own a ⟨k, e, hk, hn, e1⟩).1⟩
  · rcases ow a ha with q | q
    · exact o.own a q
    · rw [q]; exact ⟨nF, H0p⟩
  · by_cases q1 : k = i <;> by_cases q2 : l = i
    · rw [q1, q2]
    · subst q1
      rw [List.getElem?_set_self hiσ] at h3
      have := Option.some.inj (Option.some.inj h3)
      cases this
      rw [List.getElem?_set_ne (Ne.symm q2)] at h4 h6
      exact absurd rfl (notp l _ _ q2 h6 h4 h5)
    · subst q2
      rw [List.getElem?_set_self hiσ] at h6
      have := Option.some.inj (Option.some.inj h6)
      cases this
      rw [List.getElem?_set_ne (Ne.symm q1)] at h1 h3
      exact absurd rfl (notp k _ _ q1 h3 h1 h2)
    · rw [List.getElem?_set_ne (Ne.symm q1)] at h1 h3
      rw [List.getElem?_set_ne (Ne.symm q2)] at h4 h6
      exact o.inj k l e1 e2 a h1 h2 h3 h4 h5 h6
/-- x = [..], owned -/
theorem ws_newL {i : Nat} (hi : Nat.blt i Γ.length = true) (h : WA M tr Γ g fun es g1 => es.length ≤ sizeLine ∧ imL es = true ∧ E.nx (Γ.set i (some (.own es))) g1) : WS M (tAsg (tLst tr) (gName i)) Γ g E := fun σ H o j D' p =>
  have h3 := Nat.le_of_ble_eq_true hi; h σ H o j _ fun vs H1 es g1 k1 j1 i1 ⟨h1, h2, q⟩ => ⟨by rw [i1.len]; exact h1, fun a ha => p.nx _ _ _ g1 (k1.trans (Kp.new ha)).tk ((o.kp k1).newOwn (d := .own es) j1 h3 ha rfl ⟨vs, upd_same, (IsL.up es vs h2 i1).kpT (Kp.new (F := M.F) ha)⟩) (M.same j1 (same_new ha)) q⟩
/-- x = {}, owned -/
theorem ws_newD {i : Nat} (hi : Nat.blt i Γ.length = true) (q : E.nx (Γ.set i (some (.ownd [] []))) g) : WS M (tAsg tDNewK (gName i)) Γ g E := fun σ H o j D' p a ha => have h3 := Nat.le_of_ble_eq_true hi;
  p.nx _ _ _ g (Kp.new (F := M.F) ha).tk (o.newOwn (d := .ownd [] []) j h3 ha rfl ⟨[], upd_same, rfl, trivial⟩) (M.same j (same_new ha)) q
abbrev rListOf (K : PySem.W.Frag) : List V → Hp → VK → Prop := fun xs H Q => ∃ p ys, xs = [.ref p] ∧ (SqL K H p ys ∨ SqT K H p ys) ∧ ∀ l, H l = none → Q (.ref l) (upd H l (.lst ys))
/-- x = list(t), owned -/
theorem ws_listT {i : Nat} (hi : Nat.blt i Γ.length = true) (h : WE M te Γ g fun x g1 => ∃ es, x = .tup es ∧ imL es = true ∧ E.nx (Γ.set i (some (.own es))) g1) : WS M (tAsg (tCB (rListOf M.K) (tCons te tNil)) (gName i)) Γ g E := fun σ H o j D' p =>
  have h3 := Nat.le_of_ble_eq_true hi; h σ H o j _ fun v H1 x g1 k1 j1 i1 ⟨es, e, h2, q⟩ => by
    subst e
    obtain ⟨b, vs, rfl, hS, hl⟩ := i1
    exact ⟨b, vs, rfl, .inr hS, fun a ha => p.nx _ _ _ g1 (k1.trans (Kp.new ha)).tk ((o.kp k1).newOwn (d := .own es) j1 h3 ha rfl ⟨vs, upd_same, (IsL.up es vs h2 hl).kpT (Kp.new (F := M.F) ha)⟩) (M.same j1 (same_new ha)) q⟩
theorem wrT {K : PySem.W.Frag} {H : Hp} {p : Addr} {ob ob' : HO} (hp : H p = some ob) (hm : Mut (some ob)) {b : Addr} {zs : List V} (q : SqT K H b zs) : SqT K (upd H p ob') b zs := by
  have ne : ∀ {c : Addr} {u : HO}, H c = some u → ¬ Mut (some u) → c ≠ p := fun e n z => by subst z; rw [hp] at e; cases e; exact n hm
  rcases q with (q | ⟨o, q⟩) | q
  · exact .inl (.inl (by rw [upd_ne (ne q id)]; exact q))
  · exact .inl (.inr ⟨o, by rw [upd_ne (ne q id)]; exact q⟩)
  · exact .inr q
/-- slot i's own thing at p is changed -/
theorem Ok.mut {σ : St} {H : Hp} (o : Ok M Γ σ H) {i : Nat} {d d' : SD} {p : Addr} {ob ob' : HO} (hi : Γ[i]? = some (some d)) (hd : isOwn d = true) (hd' : isOwn d' = true) (hσ : σ[i]? = some (some (V.ref p))) (hp : H p = some ob) (hm : Mut (some ob)) (h : IsO M.K (upd H p ob') p d') :
    Ok M (Γ.set i (some d')) σ (upd H p ob') ∧ TK H (upd H p ob') ∧ ∀ g, M.J g H → M.J g (upd H p ob') := by
  have hiΓ : i < Γ.length := (List.getElem?_eq_some_iff.mp hi).1
  have nn := o.own p ⟨i, d, hi, hd, hσ⟩
  have ow : ∀ a, Ow (Γ.set i (some d')) σ a → Ow Γ σ a := fun a ⟨k, e, h1, h2, h3⟩ => by
    by_cases q : k = i
    · subst q; exact ⟨k, d, hi, hd, h3⟩
    · rw [List.getElem?_set_ne (Ne.symm q)] at h1; exact ⟨k, e, h1, h2, h3⟩
  have pat : ∀ {k : Nat} {e : SD}, (Γ.set i (some d'))[k]? = some (some e) → isOwn e = true → ∃ e0, Γ[k]? = some (some e0) ∧ isOwn e0 = true := fun {k e} h1 h2 => by
    by_cases q : k = i
    · subst q; exact ⟨d, hi, hd⟩
    · rw [List.getElem?_set_ne (Ne.symm q)] at h1; exact ⟨e, h1, h2⟩
  have hO : Ow Γ σ p := ⟨i, d, hi, hd, hσ⟩
  have tk : TK H (upd H p ob') := ⟨fun b xs e => by
    rw [upd_ne (fun z => by rw [z, hp] at e; cases e; exact hm)]; exact e, fun b q u e => by
    rw [upd_ne (fun z => by rw [z, hp] at e; cases e; exact hm)]; exact e⟩
  refine ⟨⟨by rw [List.length_set]; exact o.len, ⟨fun b q n e => ?_, fun b xs e => ?_, fun b q u e => ?_⟩, fun k e hk => ?_, fun k e hk hn => ?_, fun a ha => o.own a (ow a ha), fun k l e1 e2 a h1 h2 h3 h4 h5 h6 => ?_⟩, tk, fun g j => M.stab g H _ j (fun b q n e => by rw [upd_ne (fun z => nn.1 (by rw [← z]; exact n))]; exact e) tk.1 tk.2⟩
  · rw [upd_ne (ne_of_none e nn.2)]; exact o.base.k b q n e
  · rw [upd_ne (ne_of_none e nn.2)]; exact o.base.t b xs e
  · rw [upd_ne (ne_of_none e nn.2)]; exact o.base.z b q u e
  · by_cases q : k = i
    · subst q
      rw [List.getElem?_set_self hiΓ] at hk
      obtain rfl := Option.some.inj (Option.some.inj hk)
      cases hd'
    · rw [List.getElem?_set_ne (Ne.symm q)] at hk
      obtain ⟨w, e1, e2⟩ := o.at' k e hk
      exact ⟨w, e1, Is.mono (fun b xs => wrT hp hm) (fun a q _ n h => by rw [upd_ne (fun z => n (by rw [z]; exact hO))]; exact h) (fun _ z => z) ow e w e2⟩
  · by_cases q : k = i
    · subst q
      rw [List.getElem?_set_self hiΓ] at hk
      obtain rfl := Option.some.inj (Option.some.inj hk)
      exact ⟨p, hσ, h⟩
    · rw [List.getElem?_set_ne (Ne.symm q)] at hk
      obtain ⟨a, e1, e2⟩ := o.own' k e hk hn
      refine ⟨a, e1, ?_⟩
      have ap : a ≠ p := fun z => q (o.inj k i e d p hk hn (by rw [← z]; exact e1) hi hd hσ)
      cases e with
      | d _ => cases hn
      | own ds => obtain ⟨vs, h1, h2⟩ := e2; exact ⟨vs, by rw [upd_ne ap]; exact h1, IsL.monoT (fun b xs => wrT hp hm) _ _ h2⟩
      | ownd ks ds => obtain ⟨ws, h1, h2, h3⟩ := e2; exact ⟨ws, by rw [upd_ne ap]; exact h1, h2, IsL.monoT (fun b xs => wrT hp hm) _ _ h3⟩
      | ownz ws => show upd H p ob' a = _; rw [upd_ne ap]; exact e2
  · obtain ⟨f1, a1, a2⟩ := pat h1 h2
    obtain ⟨f2, b1, b2⟩ := pat h4 h5
    exact o.inj k l f1 f2 a a1 a2 h3 b1 b2 h6
/-- x.append(e) of an owned list -/
theorem ws_append {i : Nat} {ds : List D} (hi : Γ[i]? = some (some (.own ds))) (h : WE M te Γ g fun e g1 => e.im = true ∧ ds.length < sizeLine ∧ E.nx (Γ.set i (some (.own (ds ++ [e])))) g1) : WS M (tDrop (tBM M.K "list" rAppend (tVar i) (tCons te tNil))) Γ g E := fun σ H o j D' p => by
  obtain ⟨a, e0, vs, hH, hl⟩ := o.own' i _ hi rfl
  have nn := o.own a ⟨i, _, hi, rfl, e0⟩
  refine ⟨_, e0, .inl ⟨rfl, _, .of hH⟩, h σ H o j _ fun v H1 e g1 k1 j1 i1 ⟨h1, h2, q⟩ => ?_⟩
  have hH1 := k1.k _ _ nn.1 hH
  obtain ⟨o2, t2, j2⟩ := (o.kp k1).mut (ob' := .lst (vs ++ [v])) (d' := .own (ds ++ [e])) hi rfl rfl e0 hH1 trivial ⟨_, upd_same, (IsL.monoT (fun b xs => wrT hH1 trivial) _ _ (hl.kpT k1)).append ⟨Is.monoT (fun b xs => wrT hH1 trivial) e v (Is.up e v h1 i1), trivial⟩⟩
  exact ⟨a, vs, v, rfl, rfl, hH1, by rw [hl.len]; exact h2, p.nx _ _ _ g1 (k1.tk.trans t2) o2 (j2 g1 j1) q⟩
/-- x.extend(e) of an owned list, e a list -/
theorem ws_extend {i : Nat} {ds : List D} (hi : Γ[i]? = some (some (.own ds))) (h : WE M te Γ g fun e g1 => ∃ es, e = .lst es ∧ imL es = true ∧ ds.length + es.length ≤ sizeLine ∧ E.nx (Γ.set i (some (.own (ds ++ es)))) g1) : WS M (tDrop (tBM M.K "list" rExtend (tVar i) (tCons te tNil))) Γ g E := fun σ H o j D' p => by
  obtain ⟨a, e0, vs, hH, hl⟩ := o.own' i _ hi rfl
  have nn := o.own a ⟨i, _, hi, rfl, e0⟩
  refine ⟨_, e0, .inl ⟨rfl, _, .of hH⟩, h σ H o j _ fun v H1 e g1 k1 j1 i1 ⟨es, e1, h1, h2, q⟩ => ?_⟩
  subst e1
  obtain ⟨b, us, rfl, n1, n2, hb, hlb⟩ := i1
  have hH1 := k1.k _ _ nn.1 hH
  obtain ⟨o2, t2, j2⟩ := (o.kp k1).mut (ob' := .lst (vs ++ us)) (d' := .own (ds ++ es)) hi rfl rfl e0 hH1 trivial ⟨_, upd_same, (IsL.monoT (fun b xs => wrT hH1 trivial) _ _ (hl.kpT k1)).append (IsL.monoT (fun b xs => wrT hH1 trivial) es us (IsL.up es us h1 hlb))⟩
  exact ⟨a, b, vs, us, rfl, rfl, hH1, hb, by rw [hl.len, hlb.len]; exact h2, p.nx _ _ _ g1 (k1.tk.trans t2) o2 (j2 g1 j1) q⟩
/-- x[k] = e of an owned list -/
theorem ws_setL {i : Nat} {ds : List D} {ti : TE} (hi : Γ[i]? = some (some (.own ds))) (h : WE M te Γ g fun e g1 => WE M ti Γ g1 fun y g2 => ∃ k m, y = .int k ∧ ixN ds.length k = some m ∧ e.im = true ∧ E.nx (Γ.set i (some (.own (ds.set m e)))) g2) : WS M (tAsg te (gSub (tVar i) ti rSetL)) Γ g E := fun σ H o j D' p => by
  obtain ⟨a, e0, vs, hH, hl⟩ := o.own' i _ hi rfl
  have nn := o.own a ⟨i, _, hi, rfl, e0⟩
  refine h σ H o j _ fun v H1 e g1 k1 j1 i1 h1 => ⟨_, e0, h1 σ H1 (o.kp k1) j1 _ fun u H2 y g2 k2 j2 i2 ⟨k, m, e1, e2, e3, q⟩ => ?_⟩
  subst e1
  obtain rfl : u = .int k := i2
  have hH2 := k2.k _ _ nn.1 (k1.k _ _ nn.1 hH)
  obtain ⟨o2, t2, j3⟩ := (o.kp (k1.trans k2)).mut (ob' := .lst (vs.set m v)) (d' := .own (ds.set m e)) hi rfl rfl e0 hH2 trivial ⟨_, upd_same, (IsL.monoT (fun b xs => wrT hH2 trivial) _ _ ((hl.kpT k1).kpT k2)).set m (Is.monoT (fun b xs => wrT hH2 trivial) e v (Is.up e v e3 (i1.kp k2)))⟩
  exact ⟨a, vs, k, m, rfl, rfl, hH2, by rw [hl.len]; exact e2, p.nx _ _ _ g2 ((k1.trans k2).tk.trans t2) o2 (j3 g2 j2) q⟩
theorem mem_inr {ks : List Str} {s : Str} : (Sum.inr s : Key) ∈ ks.map Sum.inr ↔ s ∈ ks := by
  constructor
  · intro h
    obtain ⟨t, ht, e⟩ := List.mem_map.mp h
    cases e; exact ht
  · exact fun h => List.mem_map.mpr ⟨s, h, rfl⟩
theorem put_is {K : PySem.W.Frag} {H : Hp} {ks : List Str} {ds : List D} {ws : List (Key × V)} {s : Str} {d : D} {v : V} (hk : ws.map (·.1) = ks.map Sum.inr) (hl : IsL K AT AT H (ws.map (·.2)) ds) (hd : Is K AT AT H v d) :
    (putK ws (Sum.inr s) v).map (·.1) = (putKs ks s).map Sum.inr ∧ IsL K AT AT H ((putK ws (Sum.inr s) v).map (·.2)) (putD ks ds s d) := by
  have anyi : (ws.any fun kv => decide (kv.1 = Sum.inr s)) = decide (s ∈ ks) := by
    by_cases h : s ∈ ks
    · rw [decide_eq_true h]
      have := mem_inr.mpr h
      rw [← hk] at this
      obtain ⟨w, hw, e⟩ := List.mem_map.mp this
      exact List.any_eq_true.mpr ⟨w, hw, decide_eq_true e⟩
    · rw [decide_eq_false h]
      cases q : ws.any fun kv => decide (kv.1 = Sum.inr s) with
      | false => rfl
      | true =>
        obtain ⟨w, hw, e⟩ := List.any_eq_true.mp q
        have : (Sum.inr s : Key) ∈ ks.map Sum.inr := by rw [← hk]; exact List.mem_map.mpr ⟨w, hw, of_decide_eq_true e⟩
        exact absurd (mem_inr.mp this) h
  unfold putK
  rw [anyi]
  unfold putKs putD
  by_cases h : s ∈ ks
  · rw [decide_eq_true h, if_pos h, if_pos h]
    simp only [if_true]
    constructor
    · rw [← hk, List.map_map]
      apply List.map_congr_left
      intro w _
      show (if w.1 = Sum.inr s then (w.1, v) else w).1 = w.1
      split <;> rfl
    · clear anyi h
      induction ks generalizing ws ds with
      | nil => cases ws with
        | nil => cases ds with
          | nil => trivial
          | cons => exact hl.elim
        | cons => cases hk
      | cons k ks ih => cases ws with
        | nil => cases hk
        | cons w ws => cases ds with
          | nil => exact hl.elim
          | cons d0 ds =>
            have e1 : w.1 = Sum.inr k := (List.cons.inj hk).1
            refine ⟨?_, ih (List.cons.inj hk).2 hl.2⟩
            show Is K AT AT H (if w.1 = Sum.inr s then (w.1, v) else w).2 (if k = s then d else d0)
            by_cases c : k = s
            · rw [if_pos (by rw [e1, c]), if_pos c]; exact hd
            · rw [if_neg (fun q => c (Sum.inr.inj (e1.symm.trans q))), if_neg c]; exact hl.1
  · rw [decide_eq_false h, if_neg h, if_neg h]
    simp only [Bool.false_eq_true, if_false]
    rw [List.map_append, List.map_append, List.map_append, hk]
    exact ⟨rfl, hl.append (ds := ds) (us := [v]) (es := [d]) ⟨hd, trivial⟩⟩
/-- x[s] = e of an owned dict -/
theorem ws_dput {i : Nat} {ks : List Str} {ds : List D} {ty tv : TE} (hi : Γ[i]? = some (some (.ownd ks ds))) (h : WE M tv Γ g fun e g1 => WE M ty Γ g1 fun y g2 => ∃ s, y = .str s ∧ e.im = true ∧ ks.length < sizeLine ∧ E.nx (Γ.set i (some (.ownd (putKs ks s) (putD ks ds s e)))) g2) : WS M (sDPut (tVar i) ty tv) Γ g E := fun σ H o j D' p => by
  obtain ⟨a, e0, ws, hH, hk, hl⟩ := o.own' i _ hi rfl
  have nn := o.own a ⟨i, _, hi, rfl, e0⟩
  refine h σ H o j _ fun v H1 e g1 k1 j1 i1 h1 => ⟨_, e0, h1 σ H1 (o.kp k1) j1 _ fun u H2 y g2 k2 j2 i2 ⟨s, e1, e3, e4, q⟩ => ?_⟩
  subst e1
  obtain rfl : u = .str s := i2
  have hH2 := k2.k _ _ nn.1 (k1.k _ _ nn.1 hH)
  have wl : ws.length = ks.length := by have := congrArg List.length hk; rwa [List.length_map, List.length_map] at this
  obtain ⟨b1, b2⟩ := put_is (s := s) hk (IsL.monoT (fun b xs => wrT (ob' := .dK (putK ws (Sum.inr s) v)) hH2 trivial) _ _ ((hl.kpT k1).kpT k2)) (Is.monoT (fun b xs => wrT hH2 trivial) e v (Is.up e v e3 (i1.kp k2)))
  obtain ⟨o2, t2, j3⟩ := (o.kp (k1.trans k2)).mut (ob' := .dK (putK ws (Sum.inr s) v)) (d' := .ownd (putKs ks s) (putD ks ds s e)) hi rfl rfl e0 hH2 trivial ⟨_, upd_same, b1, b2⟩
  exact ⟨a, _, rfl, DPut.k (k := Sum.inr s) hH2 (by omega), p.nx _ _ _ g2 ((k1.trans k2).tk.trans t2) o2 (j3 g2 j2) q⟩
def SD.sh : SD → D
  | .d x => x
  | .own ds => .lst ds
  | .ownd ks ds => .dict ks ds
  | .ownz _ => .non
def isSh : SD → Bool
  | .own _ => true
  | .ownd _ _ => true
  | _ => false
theorem isSh_own {d : SD} (h : isSh d = true) : isOwn d = true := by cases d <;> first | rfl | cases h
/-- from here on an owned thing is only read -/
theorem ws_share {i : Nat} {d : SD} (hi : Γ[i]? = some (some d)) (hs : isSh d = true) (h : WS M ts (Γ.set i (some (.d (SD.sh d)))) g E) : WS M ts Γ g E := fun σ H o j D' p => by
  have hd := isSh_own hs
  obtain ⟨a, e0, q0⟩ := o.own' i _ hi hd
  have nn := o.own a ⟨i, _, hi, hd, e0⟩
  have hiΓ : i < Γ.length := (List.getElem?_eq_some_iff.mp hi).1
  refine h σ H ?_ j D' p
  have ow : ∀ b, Ow (Γ.set i (some (.d (SD.sh d)))) σ b → Ow Γ σ b ∧ b ≠ a := fun b ⟨k, e, h1, h2, h3⟩ => by
    by_cases q : k = i
    · subst q
      rw [List.getElem?_set_self hiΓ] at h1
      obtain rfl := Option.some.inj (Option.some.inj h1)
      cases h2
    · rw [List.getElem?_set_ne (Ne.symm q)] at h1
      exact ⟨⟨k, e, h1, h2, h3⟩, fun z => q (o.inj k i e d a h1 h2 (by rw [← z]; exact h3) hi hd e0)⟩
  have ne : ∀ {k : Nat} {e : SD}, (Γ.set i (some (.d (SD.sh d))))[k]? = some (some e) → isOwn e = true → k ≠ i := fun h1 h2 q => by
    subst q
    rw [List.getElem?_set_self hiΓ] at h1
    obtain rfl := Option.some.inj (Option.some.inj h1)
    cases h2
  refine ⟨by rw [List.length_set]; exact o.len, o.base, fun k e hk => ?_, fun k e hk hn => ?_, fun b hb => o.own b (ow b hb).1, fun k l e1 e2 b h1 h2 h3 h4 h5 h6 => ?_⟩
  · by_cases q : k = i
    · subst q
      rw [List.getElem?_set_self hiΓ] at hk
      have := Option.some.inj (Option.some.inj hk)
      cases this
      refine ⟨_, e0, ?_⟩
      cases d with
      | d _ => cases hd
      | own ds => obtain ⟨vs, h1, h2⟩ := q0; exact ⟨a, vs, rfl, nn.1, fun z => (ow a z).2 rfl, h1, h2.down (fun _ _ => trivial) (fun _ _ => trivial)⟩
      | ownd ks ds => obtain ⟨ws, h1, h2, h3⟩ := q0; exact ⟨a, ws, rfl, nn.1, fun z => (ow a z).2 rfl, h1, h2, h3.down (fun _ _ => trivial) (fun _ _ => trivial)⟩
      | ownz ws => cases hs
    · rw [List.getElem?_set_ne (Ne.symm q)] at hk
      obtain ⟨w, e1, e2⟩ := o.at' k e hk
      exact ⟨w, e1, e2.down (fun _ z => z) fun b hb => (ow b hb).1⟩
  · have q := ne hk hn
    rw [List.getElem?_set_ne (Ne.symm q)] at hk
    exact o.own' k e hk hn
  · have q1 := ne h1 h2
    have q2 := ne h4 h5
    rw [List.getElem?_set_ne (Ne.symm q1)] at h1
    rw [List.getElem?_set_ne (Ne.symm q2)] at h4
    exact o.inj k l e1 e2 b h1 h2 h3 h4 h5 h6
end

/-! ### promises -/
/-- given data, data come back; nothing is changed -/
def spI (K : PySem.W.Frag) (R : List D → D → Prop) : Sp := fun vs H Q _ => ∃ es r, IsL K AF AF H vs es ∧ R es r ∧ r.im = true ∧ ∀ v H', Same H H' → Is K AT AT H' v r → Q v H'
/-- .. a new list -/
def spL (K : PySem.W.Frag) (R : List D → List D → Prop) : Sp := fun vs H Q _ => ∃ es ds, IsL K AF AF H vs es ∧ R es ds ∧ ∀ a us H', Same H H' → H a = none → H' a = some (.lst us) → IsL K AT AT H' us ds → Q (.ref a) H'
section
variable {M : Frm} {Γ : Ga} {g : M.G} {Q : QE M} {ta tb te tc : TE} {tt tu : TT} {tr : TA} {R : List D → D → Prop} {RL : List D → List D → Prop} {X0 : XK}
theorem we_callI (h : WA M tr Γ g fun es g1 => ∃ r, R es r ∧ r.im = true ∧ Q r g1) : WE M (tCall (spI M.K R) [] X0 tr) Γ g Q := fun σ H o j Q' p =>
  h σ H o j _ fun vs H1 es g1 k1 j1 i1 ⟨r, h1, h2, q⟩ => by
    show spI M.K R (vs ++ []) H1 Q' X0
    rw [List.append_nil]
    exact ⟨es, r, i1.down (fun _ z => z.elim) (fun _ z => z.elim), h1, h2, fun v H2 sm iv => p v H2 r g1 (k1.trans (.of_same sm)) (M.same j1 sm) (iv.down (fun _ _ => trivial) (fun _ _ => trivial)) q⟩
theorem we_callL (h : WA M tr Γ g fun es g1 => ∃ ds, RL es ds ∧ Q (.lst ds) g1) : WE M (tCall (spL M.K RL) [] X0 tr) Γ g Q := fun σ H o j Q' p =>
  h σ H o j _ fun vs H1 es g1 k1 j1 i1 ⟨ds, h1, q⟩ => by
    show spL M.K RL (vs ++ []) H1 Q' X0
    rw [List.append_nil]
    exact ⟨es, ds, i1.down (fun _ z => z.elim) (fun _ z => z.elim), h1, fun a us H2 sm na ha il => p _ H2 (.lst ds) g1 (k1.trans (.of_same sm)) (M.same j1 sm) ⟨a, us, rfl, fun z => M.trk _ _ _ j1 z na, fun z => (by
      obtain ⟨u, e⟩ := (o.kp k1).owT z
      rw [na] at e; cases e), ha, il.down (fun _ _ => trivial) (fun _ _ => trivial)⟩ q⟩
end
/-- what is known at a def's begin -/
def ga0 (N : List Str) (es : List D) : Ga := es.map (fun d => some (SD.d d)) ++ List.replicate (N.length - es.length) none
theorem ok_start {K : PySem.W.Frag} {M : Frm} (hK : M.K = K) {N : List Str} {es : List D} {vs : List V} {H : Hp} (hN : es.length ≤ N.length) (hH : M.H0 = H) (h : IsL K M.F AF H vs es) : Ok M (ga0 N es) (L2.start N vs) H := by
  subst hK
  have none_own : ∀ (i : Nat) (d : SD), (ga0 N es)[i]? = some (some d) → isOwn d = false ∧ ∃ x, d = .d x ∧ es[i]? = some x := fun i d e => by
    unfold ga0 at e
    by_cases hi : i < es.length
    · rw [List.getElem?_append_left (by rw [List.length_map]; exact hi), List.getElem?_map, List.getElem?_eq_getElem hi] at e
      have := Option.some.inj (Option.some.inj e)
      subst this
      exact ⟨rfl, _, rfl, List.getElem?_eq_getElem hi⟩
    · rw [List.getElem?_append_right (by rw [List.length_map]; omega)] at e
      obtain ⟨_, e2⟩ := List.getElem?_eq_some_iff.mp e
      rw [List.getElem_replicate] at e2; cases e2
  have noO : ∀ a, ¬ Ow (ga0 N es) (L2.start N vs) a := fun a ⟨i, d, h1, h2, _⟩ => by rw [(none_own i d h1).1] at h2; cases h2
  refine ⟨by unfold L2.start ga0; rw [List.length_append, List.length_append, List.length_map, List.length_map, List.length_replicate, List.length_replicate, h.len], by rw [hH]; exact Kp.refl H, fun i d e => ?_, fun i d e n => ?_, fun a ha => absurd ha (noO a), fun i j d e a h1 h2 _ _ _ _ => ?_⟩
  · obtain ⟨_, x, q, hx⟩ := none_own i _ e
    cases q
    obtain ⟨v, hv, iv⟩ := h.get hx
    refine ⟨v, ?_, iv.down (fun _ z => z) fun a ha => absurd ha (noO a)⟩
    unfold L2.start
    rw [List.getElem?_append_left (by rw [List.length_map]; exact (List.getElem?_eq_some_iff.mp hv).1), List.getElem?_map, hv]; rfl
  · rw [(none_own i d e).1] at n; cases n
  · rw [(none_own i d h1).1] at h2; cases h2
section
variable {P : Program} {w : World} {K : PySem.W.Frag} {mg : Str → Option Value} {base : Heap}
/-- a def that hands data back -/
theorem def_I {x qual : Str} {st : Stmt} {f : Addr} {fd : FuncData} {N ps : List Str} {k : Nat} {R : List D → D → Prop} (F : Fun K x qual st f fd) (S : FnScope N ps (defScope st)) (hl : ∀ es r, R es r → es.length = ps.length) (hN : ps.length ≤ N.length)
    (hb : ∀ (cdv : Value) (A : Around) (outer : List PySem.Env) (s : Shared) (H : Hp) (E : XK), Room k (A.deeper (envOfC qual (defScope st) s.heap.objs.size f cdv)) →
      ∃ t, PSs (cxOf CX0 P w K mg base N qual (defScope st) f cdv A outer s H E).nox (defBody st) t ∧ ∀ es r, R es r → WS (frm0 K H) t (ga0 N es) () { nx := fun _ _ => r = .non, rt := fun d _ => d = r }) : FnOk P w K mg base CX0 (k + 1) f fd ps (spI K R) := by
  refine F.ok S (fun vs H Q E h => ?_) (fun cdv A outer s H vs Q E hr h => ?_)
  · obtain ⟨es, r, il, h1, _⟩ := h
    rw [il.len]; exact hl es r h1
  · obtain ⟨es, r, il, h1, him, q⟩ := h
    obtain ⟨t, ht, hw⟩ := hb cdv A outer s H E hr
    refine ⟨t, ht, ?_⟩
    refine hw es r h1 _ H (ok_start rfl (by rw [hl es r h1]; exact hN) rfl il) trivial _ ⟨fun σ' H' Γ' g' _ o' _ e => ?_, fun _ _ _ _ _ _ _ z => z.elim, fun _ _ _ _ _ _ _ z => z.elim, fun v H' d g' kk _ iv e => ?_, fun _ _ _ _ _ _ _ _ _ _ _ z => z.elim⟩
    · subst e
      exact q .non H' o'.base.same rfl
    · subst e
      exact q v H' kk.same (Is.up d v him iv)
/-- a def that hands a new list back -/
theorem def_L {x qual : Str} {st : Stmt} {f : Addr} {fd : FuncData} {N ps : List Str} {k : Nat} {R : List D → List D → Prop} (F : Fun K x qual st f fd) (S : FnScope N ps (defScope st)) (hl : ∀ es r, R es r → es.length = ps.length) (hN : ps.length ≤ N.length)
    (hb : ∀ (cdv : Value) (A : Around) (outer : List PySem.Env) (s : Shared) (H : Hp) (E : XK), Room k (A.deeper (envOfC qual (defScope st) s.heap.objs.size f cdv)) →
      ∃ t, PSs (cxOf CX0 P w K mg base N qual (defScope st) f cdv A outer s H E).nox (defBody st) t ∧ ∀ es r, R es r → WS (frm0 K H) t (ga0 N es) () { nx := fun _ _ => False, rtN := fun d _ => d = r }) : FnOk P w K mg base CX0 (k + 1) f fd ps (spL K R) := by
  refine F.ok S (fun vs H Q E h => ?_) (fun cdv A outer s H vs Q E hr h => ?_)
  · obtain ⟨es, r, il, h1, _⟩ := h
    rw [il.len]; exact hl es r h1
  · obtain ⟨es, r, il, h1, q⟩ := h
    obtain ⟨t, ht, hw⟩ := hb cdv A outer s H E hr
    refine ⟨t, ht, ?_⟩
    refine hw es r h1 _ H (ok_start rfl (by rw [hl es r h1]; exact hN) rfl il) trivial _ ⟨fun σ' H' Γ' g' _ o' _ e => e.elim, fun _ _ _ _ _ _ _ z => z.elim, fun _ _ _ _ _ _ _ z => z.elim, fun _ _ _ _ _ _ _ z => z.elim, fun a vs' H' ds g' kk _ n1 _ ha il' e => ?_⟩
    subst e
    exact q a vs' H' kk.same n1 ha il'
end
end Sf
namespace Sf
open PySem L2
section
variable {M : Frm} {Γ : Ga} {g : M.G} {Q : QE M} {te : TE} {wi : TI} {tg : TG} {vs : List Nat} {E : AE M}
theorem wt_yes {QT : Bool → M.G → Prop} (q : QT true g) : WT M tYes Γ g QT := fun σ H o j Q' p => p true H g (Kp.refl H) j q
/-- a comprehension without a test: what is told of each item -/
theorem we_lcR (R : Nat → D → Prop) (h : WI M (Kp M.F) wi Γ g fun n it g1 => n < sizeLine ∧ (∀ k g', k < n → WG M vs tg (it k) (wipeG Γ vs) g' fun Γ2 g2 => WE M te Γ2 g2 fun e _ => e.im = true ∧ R k e) ∧
    ∀ acc g', acc.length = n → imL acc = true → (∀ (k : Nat) d, acc[k]? = some d → R k d) → Q (.lst acc) g') : WE M (tLc wi tg tYes te vs) Γ g Q := by
  refine we_lc fun σ H o j R0 p => h σ H o j R0 fun Jt H1 n it g1 k1 j1 aw ⟨hn, hs, hd⟩ => p Jt H1 n it g1 k1 j1 aw ⟨hn, fun i acc _ => acc.length = i ∧ ∀ (k : Nat) d, acc[k]? = some d → R k d, ⟨rfl, fun k d e => by simp at e⟩, fun i acc g' hi _ ⟨e1, e2⟩ => ?_, fun acc g' _ him ⟨e1, e2⟩ => hd acc g' e1 him e2⟩
  refine fun σ H v o j iv Q' p => hs i g' hi σ H v o j iv Q' fun σ' Γ' o' w q => p σ' Γ' o' w ?_
  refine wt_yes ?_
  show WE M te Γ' g' _
  refine WE.mono q fun e g4 ⟨h1, h2⟩ => ⟨h1, by rw [List.length_append, e1]; rfl, fun k d e3 => ?_⟩
  by_cases c : k < acc.length
  · rw [List.getElem?_append_left c] at e3; exact e2 k d e3
  · rw [List.getElem?_append_right (by omega)] at e3
    have hk : k - acc.length = 0 := by
      cases q : k - acc.length with
      | zero => rfl
      | succ m => rw [q] at e3; simp at e3
    rw [hk] at e3
    obtain rfl := Option.some.inj e3
    rw [show k = i by omega]; exact h2
theorem acc_map {α : Type} {f : α → D} {acc : List D} {ts : List α} (hl : acc.length = ts.length) (h : ∀ (k : Nat) d, acc[k]? = some d → ∃ t, ts[k]? = some t ∧ d = f t) : acc = ts.map f := by
  apply List.ext_getElem?
  intro k
  rw [List.getElem?_map]
  cases e : acc[k]? with
  | none =>
    rw [List.getElem?_eq_none]
    · rfl
    · have := List.getElem?_eq_none_iff.mp e; omega
  | some d =>
    obtain ⟨t, e1, rfl⟩ := h k d e
    rw [e1]; rfl
theorem we_const {v : V} {d : D} (h : ∀ H, Is M.K AT AT H v d) (q : Q d g) : WE M (tC v) Γ g Q := fun σ H o j Q' p => p v H d g (Kp.refl H) j ((h H).down (fun _ _ => trivial) (fun _ _ => trivial)) q
theorem tk_rel : ∀ (K : PySem.W.Frag) (H1 H : Hp), TK H1 H → ∀ b xs, SqT K H1 b xs → SqT K H b xs := fun _ _ _ r _ _ h => r.sqT h
theorem kp_rel {F : Aset} : ∀ (K : PySem.W.Frag) (H1 H : Hp), Kp F H1 H → ∀ b xs, SqT K H1 b xs → SqT K H b xs := fun _ _ _ r _ _ h => r.sqT h
end
end Sf
namespace Sf
theorem sl_and {n : Nat} {A : Prop} (h : Nat.ble n 1000 = true) (q : A) : n ≤ PySem.sizeLine ∧ A := ⟨Nat.le_trans (Nat.le_of_ble_eq_true h) (by decide), q⟩
end Sf
namespace Sf
open L2
theorem at0 {α : Type} {a : α} {r : List α} : atI (a :: r) 0 = some a := atI_nat (j := 0) rfl
theorem at1 {α : Type} {a b : α} {r : List α} : atI (a :: b :: r) 1 = some b := atI_nat (j := 1) rfl
theorem at2 {α : Type} {a b c : α} {r : List α} : atI (a :: b :: c :: r) 2 = some c := atI_nat (j := 2) rfl
theorem at3 {α : Type} {a b c d : α} {r : List α} : atI (a :: b :: c :: d :: r) 3 = some d := atI_nat (j := 3) rfl
end Sf
namespace Sf
open L2
section
variable {M : Frm} {Γ : Ga} {g : M.G} {Q : QE M} {ta tb tc : TE}
theorem we_chain {r r' : R2} (h : WE M ta Γ g fun x g1 => WE M tb Γ g1 fun y g2 => WR M r x y g2 fun z g3 => ∃ k, z = .bl k ∧ (if k = true then WE M tc Γ g3 fun w g4 => WR M r' y w g4 Q else Q (.bl false) g3)) : WE M (tChain r r' ta tb tc) Γ g Q := fun σ H o j Q' p =>
  h σ H o j _ fun v H1 x g1 k1 j1 i1 h1 => h1 σ H1 (o.kp k1) j1 _ fun u H2 y g2 k2 j2 i2 h2 =>
    h2 v u H2 _ (fun a z => (o.kp (k1.trans k2)).owT z) j2 (i1.kp k2) i2 _ fun z H3 e g3 k3 j3 i3 ⟨b, e1, q⟩ => by
      subst e1
      obtain rfl : z = .bl b := i3
      refine ⟨b, rfl, ?_⟩
      cases b with
      | false => exact p _ H3 (.bl false) g3 ((k1.trans k2).trans k3) j3 rfl q
      | true => exact q σ H3 (o.kp ((k1.trans k2).trans k3)) j3 _ fun w' H4 w g4 k4 j4 i4 h4 => h4 u w' H4 _ (fun a z => (o.kp (((k1.trans k2).trans k3).trans k4)).owT z) j4 ((i2.kp k3).kp k4) i4 Q' fun z H5 e g5 k5 j5 i5 q => p z H5 e g5 ((((k1.trans k2).trans k3).trans k4).trans k5) j5 i5 q
end
end Sf
end
section
set_option Elab.async false
set_option linter.all false
set_option maxRecDepth 100000
/-! Walk 3: the text by places, what the top leaves (Tx), terms as data. -/
namespace Sf
open PySem L2
open PyProof.Rows (envOfC)

def topS (i : Nat) : Stmt := PySem.Challenge.pw_shapefree_k32_whole_any_order.main.body.getD i (.Pass ⟨0, 0, 0, 0⟩)

/-- a def of the text as it stands behind the top -/
structure FA (K : PySem.W.Frag) (mg : Str → Option Value) (nm : Str) (st : Stmt) (ps : List Str) where
  a : Addr
  fd : FuncData
  F : Fun K nm nm st a fd
  g : mg nm = some (.ref a)
  b : Binds K fd ps []

/-- what the top leaves -/
structure Tx (K : PySem.W.Frag) (mg : Str → Option Value) where
  nlen : mg "len" = none
  ntuple : mg "tuple" = none
  nlist : mg "list" = none
  nall : mg "all" = none
  nint : mg "int" = none
  nmax : mg "max" = none
  ndict : mg "dict" = none
  nrange : mg "range" = none
  nzip : mg "zip" = none
  nenumerate : mg "enumerate" = none
  tW : Tok
  gWIDE : mg "WIDE" = some (.int 1000000 tW)
  aI : Addr
  gINNER : mg "INNER" = some (.ref aI)
  sINNER : ∀ H : Hp, SqT K H aI [.str "num", .str "count", .str "op"]
  value_of : FA K mg "value_of" (topS 6) ["number", "counts"]
  number_put : FA K mg "number_put" (topS 9) ["number", "counts"]
  without : FA K mg "without" (topS 10) ["known", "name"]
  put_for : FA K mg "put_for" (topS 11) ["term", "things", "counts"]
  arg_put : FA K mg "arg_put" (topS 12) ["arg", "things", "counts"]
  opened : FA K mg "opened" (topS 13) ["program"]
  is_plain : FA K mg "is_plain" (topS 14) ["term"]
  parts_in : FA K mg "parts_in" (topS 16) ["term"]
  with_parts : FA K mg "with_parts" (topS 17) ["term", "some"]
  parts : FA K mg "parts" (topS 18) ["term"]
  places : FA K mg "places" (topS 19) ["term"]
  part_at : FA K mg "part_at" (topS 20) ["term", "place"]
  replaced : FA K mg "replaced" (topS 21) ["term", "place", "part"]
  is_closed : FA K mg "is_closed" (topS 23) ["number"]
  is_done : FA K mg "is_done" (topS 24) ["arg"]
  can_step : FA K mg "can_step" (topS 25) ["term"]
  step_places : FA K mg "step_places" (topS 26) ["defs", "term"]
  loop_step : FA K mg "loop_step" (topS 27) ["term"]
  def_of : FA K mg "def_of" (topS 28) ["defs", "name"]
  call_step : FA K mg "call_step" (topS 29) ["defs", "term"]
  chosen_in : FA K mg "chosen_in" (topS 30) ["term"]
  step_of : FA K mg "step_of" (topS 31) ["defs", "term"]
  size_put : FA K mg "size_put" (topS 32) ["term", "sizes"]
  step_size : FA K mg "step_size" (topS 33) ["defs", "term"]
  stepped : FA K mg "stepped" (topS 34) ["defs", "term", "place", "most"]
  walked : FA K mg "walked" (topS 35) ["defs", "term", "most"]
  laid_down : FA K mg "laid_down" (topS 37) ["term", "numbers"]
  form_of : FA K mg "form_of" (topS 38) ["term"]
  law_feed : FA K mg "_law_feed" (topS 40) ["_law_script", "_law_k"]
  law_take : FA K mg "_law_take" (topS 41) ["_law_feed_here", "_law_many"]
  law_names : FA K mg "_law_names" (topS 42) ["_law_feed_here", "_law_many"]
  law_shape : FA K mg "_law_shape" (topS 43) ["_law_feed_here"]
  law_small : FA K mg "_law_small" (topS 44) ["_law_feed_here", "_law_counts", "_law_room"]
  law_number : FA K mg "_law_number" (topS 45) ["_law_feed_here", "_law_counts", "_law_room"]
  law_leaf : FA K mg "_law_leaf" (topS 46) ["_law_feed_here", "_law_scope"]
  law_call : FA K mg "_law_call" (topS 47) ["_law_feed_here", "_law_scope", "_law_room", "_law_down"]
  law_bound : FA K mg "_law_bound" (topS 48) ["_law_feed_here", "_law_scope", "_law_room", "_law_down"]
  law_term : FA K mg "_law_term" (topS 49) ["_law_feed_here", "_law_scope", "_law_room", "_law_down"]
  law_program : FA K mg "_law_program" (topS 50) ["_law_feed_here", "_law_shape_here", "_law_inputs", "_law_room"]
  law_ordered : FA K mg "_law_ordered" (topS 51) ["_law_nodes", "_law_top"]
  law_number_at : FA K mg "_law_number_at" (topS 52) ["_law_number_here", "_law_counts"]
  law_kept : FA K mg "_law_kept" (topS 53) ["_law_about", "_law_node"]
  law_called : FA K mg "_law_called" (topS 54) ["_law_about", "_law_term_here", "_law_things", "_law_counts"]
  law_rounds : FA K mg "_law_rounds" (topS 55) ["_law_about", "_law_term_here", "_law_things", "_law_counts"]
  law_gone : FA K mg "_law_gone" (topS 56) ["_law_about", "_law_term_here", "_law_things", "_law_counts"]
  law_plain : FA K mg "_law_plain" (topS 57) ["_law_program_here", "_law_most"]
  law_on : FA K mg "_law_on" (topS 58) ["_law_defs", "_law_term_here", "_law_place"]
  law_to_end : FA K mg "_law_to_end" (topS 59) ["_law_defs", "_law_term_here"]
  law_right : FA K mg "_law_right" (topS 60) ["_law_draws", "_law_program_here", "_law_due", "_law_many"]
theorem Tx.rWIDE {K : PySem.W.Frag} {mg : Str → Option Value} (T : Tx K mg) : RelV (.int 1000000) (.int 1000000 T.tW) := ⟨_, rfl⟩
theorem Tx.rINNER {K : PySem.W.Frag} {mg : Str → Option Value} (T : Tx K mg) : RelV (.ref T.aI) (.ref T.aI) := rfl

/-! ### terms as data -/
mutual
def enc : T → D
  | .mk h ks => match h with
    | .num k => .tup [.str "num", .int k]
    | .count i => .tup [.str "count", .str i]
    | .op s => .tup (.str "op" :: .str s :: encL ks)
    | .name x => .tup [.str "name", .str x]
    | .fixed c => .tup [.str "fixed", .str c]
    | .input k => .tup [.str "input", .int k]
    | .dov d => .tup [.str "do", .str d, .tup (encL ks)]
    | .letv x => .tup (.str "let" :: .str x :: encL ks)
    | .loop i x => match encL ks with
      | n :: r => .tup (.str "loop" :: .str i :: n :: .str x :: r)
      | [] => .non
    | .pick => match encL ks with
      | n :: r => .tup [.str "pick", n, .tup r]
      | [] => .non
    | .call f => .tup [.str "call", .str f, .tup (encL ks)]
def encL : List T → List D
  | [] => []
  | t :: r => enc t :: encL r
end
theorem encL_map : ∀ ts : List T, encL ts = ts.map enc
  | [] => rfl
  | t :: r => by show enc t :: encL r = enc t :: r.map enc; rw [encL_map r]
theorem encL_len : ∀ ts : List T, (encL ts).length = ts.length
  | [] => rfl
  | t :: r => congrArg (· + 1) (encL_len r)
theorem encL_get (ts : List T) (i : Nat) : (encL ts)[i]? = (ts[i]?).map enc := by rw [encL_map, List.getElem?_map]
mutual
theorem enc_im : ∀ t : T, (enc t).im = true
  | .mk h ks => by
    have ih := encL_im ks
    cases h with
    | num _ => rfl
    | count _ => rfl
    | op s => exact ih
    | name _ => rfl
    | fixed _ => rfl
    | input _ => rfl
    | dov d => show (imL (encL ks) && true) = true; rw [ih]; rfl
    | letv x => exact ih
    | loop i x =>
      show D.im (match encL ks with | n :: r => .tup (.str "loop" :: .str i :: n :: .str x :: r) | [] => .non) = true
      cases e : encL ks with
      | nil => rfl
      | cons n r => rw [e] at ih; exact ih
    | pick =>
      show D.im (match encL ks with | n :: r => .tup [.str "pick", n, .tup r] | [] => .non) = true
      cases e : encL ks with
      | nil => rfl
      | cons n r =>
        rw [e] at ih
        have ih' : (n.im && imL r) = true := ih
        show (n.im && (imL r && true)) = true
        rw [Bool.and_true]; exact ih'
    | call f => show (imL (encL ks) && true) = true; rw [ih]; rfl
theorem encL_im : ∀ ts : List T, imL (encL ts) = true
  | [] => rfl
  | t :: r => by show ((enc t).im && imL (encL r)) = true; rw [enc_im t, encL_im r]; rfl
end
/-- a term well made, by whatever is known -/
def Wfx (s : Bool) (t : T) : Prop := ∃ sg X C, Wf sg X C s t
theorem len_le_szL : ∀ ts : List T, ts.length ≤ szL ts
  | [] => Nat.le_refl _
  | t :: r => by have := len_le_szL r; have := sz_pos t; show r.length + 1 ≤ t.sz + szL r; omega
theorem if_t {c : Prop} [Decidable c] {A B : Prop} (hc : c) (h : A) : if c then A else B := by rw [if_pos hc]; exact h
theorem if_f {c : Prop} [Decidable c] {A B : Prop} (hc : ¬ c) (h : B) : if c then A else B := by rw [if_neg hc]; exact h
theorem if_both {c : Prop} [Decidable c] {A B : Prop} (h1 : c → A) (h2 : ¬ c → B) : if c then A else B := by
  by_cases h : c
  · rw [if_pos h]; exact h1 h
  · rw [if_neg h]; exact h2 h
section
variable {P : Program} {w : World} {K : PySem.W.Frag} {mg : Str → Option Value} {base : Heap}
theorem none_I {k : Nat} {f : Addr} {fd : FuncData} {ps : List Str} {R : List D → D → Prop} (h : ∀ es r, ¬ R es r) : FnOk P w K mg base CX0 k f fd ps (spI K R) :=
  ⟨fun _ _ _ _ ⟨es, r, _, h1, _⟩ => absurd h1 (h es r), fun _ _ _ _ _ _ _ _ _ _ _ _ _ ⟨es, r, _, h1, _⟩ => absurd h1 (h es r)⟩
theorem none_L {k : Nat} {f : Addr} {fd : FuncData} {ps : List Str} {R : List D → List D → Prop} (h : ∀ es r, ¬ R es r) : FnOk P w K mg base CX0 k f fd ps (spL K R) :=
  ⟨fun _ _ _ _ ⟨es, r, _, h1, _⟩ => absurd h1 (h es r), fun _ _ _ _ _ _ _ _ _ _ _ _ _ ⟨es, r, _, h1, _⟩ => absurd h1 (h es r)⟩
end
end Sf
end
section
set_option Elab.async false
set_option linter.all false
set_option maxRecDepth 100000
set_option maxHeartbeats 2000000
/-! Extra 1: enumerate of a tuple, t[::-1]. -/
namespace PySem
open Sem (wp)
open AutoSeq1 (wpAny_loadPart')
theorem meets_enumerate_newTu (l : Addr) (items : Array Value) :
    Meets (Builtin.«enumerate.__new__» ⟨[.type "enumerate", .ref l], []⟩) (fun _ R s => s.heap.IsTuple l items ∧
      R (.ok (.ret (.ref (s.heap.push { cls := .type "tuple_iterator", data := .fields #[.ref l, .int 0 0] }).objs.size)))
        { s with heap := (s.heap.push { cls := .type "tuple_iterator", data := .fields #[.ref l, .int 0 0] }).push { cls := .type "enumerate", data := .fields #[.none, .bool false, .ref s.heap.objs.size, rawInt 0, .none, .none] } }) :=
  .of_wp fun prog w A R s h => by
    obtain ⟨hp, g, d, tk, os⟩ := s; obtain ⟨hl, h⟩ := h
    have hsub := sub_enumerate
    have q1 : ∀ {A' : Around} {E : Value → Shared → Prop} {Q : Value → Shared → Prop}, Q (.ref hp.objs.size) ⟨hp.push { cls := .type "tuple_iterator", data := .fields #[.ref l, .int 0 0] }, g, d, tk, os⟩ → wpAny (model prog w) A' (pyIter (.ref l)) Q E ⟨hp, g, d, tk, os⟩ :=
      fun q => (begins_tuple l items).iter prog w _ _ ⟨hp, g, d, tk, os⟩ _ hl q
    wp_walk using q1
    refine wpAny_stack_any fun st => wpAny_pure ?_
    split
    · rename_i c _ _ _ _ _
      cases (c == Value.type "enumerate")
      · wp_walk using q1
        exact ⟨_, rfl, h⟩
      · wp_walk using q1
        exact ⟨_, rfl, h⟩
    · wp_walk using q1
      exact ⟨_, rfl, h⟩
section
variable {prog : Program} {w : World} {A : Around} {E : Value → Shared → Prop} {s : Shared}
theorem call_enumerate_tu {l : Addr} {items : Array Value} {Q : Value → Shared → Prop} (hL : s.heap.IsTuple l items)
    (h : ∀ h', IsEnum h' (s.heap.objs.size + 1) s.heap.objs.size 0 .none → h'.IsTupleIter s.heap.objs.size l 0 → h'.objs.size = s.heap.objs.size + 2 →
      (∀ b o, s.heap.get? b = some o → h'.get? b = some o) → Q (.ref (s.heap.objs.size + 1)) { s with heap := h' }) :
    wpAny (model prog w) A (call (.type "enumerate") [.ref l]) Q E s := by
  refine callType_new F.called_enumerate (by decide) (F.typeCall_enumerate_1 _) (F.newCall_enumerate_1 _) (fun obj => F.args_object_init_2 obj _) F.entry_enumerate_new
    (meets_enumerate_newTu l items) ⟨hL, ?_⟩
  have hz : (s.heap.push { cls := .type "tuple_iterator", data := .fields #[.ref l, .int 0 0] }).objs.size = s.heap.objs.size + 1 := Heap.size_push ..
  show _ ∧ _
  rw [hz]
  have he : IsEnum ((s.heap.push { cls := .type "tuple_iterator", data := .fields #[.ref l, .int 0 0] }).push
      { cls := .type "enumerate", data := .fields #[.none, .bool false, .ref s.heap.objs.size, rawInt 0, .none, .none] }) (s.heap.objs.size + 1) s.heap.objs.size 0 .none := by
    have := Heap.get?_push_size (s.heap.push { cls := .type "tuple_iterator", data := .fields #[.ref l, .int 0 0] })
      (o := { cls := .type "enumerate", data := .fields #[.none, .bool false, .ref s.heap.objs.size, rawInt 0, .none, .none] }) rfl
    rw [hz] at this; exact this
  refine ⟨⟨_, he, rfl⟩, h _ he ⟨_, Heap.get?_push_of_some _ (Heap.get?_push_size _ rfl), rfl, rfl⟩ (by rw [Heap.size_push, hz]) fun b o x => Heap.get?_push_of_some _ (Heap.get?_push_of_some _ x)⟩
theorem pyNext_enum_end_tu {e it l : Addr} {i : Nat} {items : Array Value} {old : Value} {Q : Option Value → Shared → Prop} (hh : A.handled = none)
    (he : IsEnum s.heap e it i old) (hit : s.heap.IsTupleIter it l i) (hl : s.heap.IsTuple l items) (hx : items[i]? = none)
    (hQ : ∀ h', Heap.ExtBut it s.heap h' → Q none { s with heap := h' }) : wpAny (model prog w) A (pyNext (.ref e)) Q E s := by
  have hT : s.TypeIs (.ref e) "enumerate" := ⟨_, he, rfl⟩
  unfold pyNext
  refine wpAny_bind (wpAny_attempt (wpAny_callSpecial?_slot (name := Str.ofString "__next__") hT F.slot_enumerate_next
    (wpAny_call_entry F.slot_enumerate_next hT F.entry_enumerate_next ?_ (F.args_enumerate_next_1 _))))
  show wpAny _ _ (field (.ref e) 2 >>= _) _ _ _
  refine wpAny_bind (wpAny_field he rfl (x := .ref it) rfl ?_)
  refine wpAny_bind (wpAny_nextOf_tuple_end hh hit hl hx fun h' x he' hx' => ?_)
  obtain ⟨o, ho, hc⟩ := hx'
  refine wpAny_bind (wpAny_isInstance (T := "StopIteration") (b := true) ⟨o, ho, hc⟩ isSubtype_stop ?_)
  exact wpAny_pure (hQ _ he')
end
end PySem
namespace Sf
open PySem PySem.Spec PyProof.Rows L2
/-- the tuple at a, each item in a new pair with its number -/
def IteT (K : PySem.W.Frag) (a : Addr) : It :=
  ⟨fun i H => ∃ (xs : List V) (x : V), SqT K H a xs ∧ xs[i]? = some x, fun i H v H' => ∃ T x, v = .ref T ∧ H T = none ∧ H' = upd H T (.tup [.int (i : Nat), x]) ∧ ∀ xs, SqT K H a xs → xs[i]? = some x, fun i H => ∃ xs : List V, SqT K H a xs ∧ xs.length ≤ i⟩
theorem turn_enumT {P : Program} {w : World} {K : PySem.W.Frag} {elts : List Expr} {kk : Nat} {tpos : Pos} (a e it : Addr) (hea : e ≠ a) (hai : a ≠ it) :
    Turn P w K (.Tuple elts kk tpos) (IteT K a) [e, it] e (fun i h => (∃ old, IsEnum h e it ((i : Nat) : Int) old) ∧ h.IsTupleIter it a i ∧ e ≠ it) where
  mem := by simp
  obj := fun i h st b hb => by
    obtain ⟨⟨old, he⟩, ⟨o, ho, hc, hd⟩, _⟩ := st
    have e' : b = e ∨ b = it := by simpa using hb
    rcases e' with z | z
    · rw [z]; exact ⟨_, he, fun v q => nomatch q⟩
    · rw [z]; exact ⟨o, ho, fun v q => by rw [hd] at q; cases q⟩
  keep := fun i h h' st k => let ⟨⟨old, he⟩, hi, hne⟩ := st; ⟨⟨old, k e (by simp) _ he⟩, hi.at fun o q => k it (by simp) o q, hne⟩
  item := by
    intro X hP hw hK hc i pins s σ H E I hf st hg
    subst hP hw hK
    obtain ⟨⟨old, he⟩, hit, hne⟩ := st
    obtain ⟨xs, x, hq, hx⟩ := hg
    obtain ⟨its, rv, p, hz⟩ := I.tuple hq
    obtain ⟨u, hu, ru⟩ := rv.get hx
    have hel : e < s.heap.objs.size := Heap.lt_size he
    have hil : it < s.heap.objs.size := by obtain ⟨_, q, _⟩ := hit; exact Heap.lt_size q
    have hlt : i < its.toArray.size := by
      have := (List.getElem?_eq_some_iff.mp hu).1
      simpa using this
    refine wpAny_pyNext_enum_itemD (Draws.tuple (A := X.A.in1) (I.ok.hd hc) it a hai its.toArray) he ⟨hit, show s.heap.IsTuple a its.toArray from p⟩ hlt hne (by simp [hne, hea]) fun y h' tk hy ho hit' hT hsz hk => ?_
    have hyu : y = u := by
      have : its[i]? = some y := by simpa using hy
      rw [hu] at this; exact (Option.some.inj this).symm
    subst hyu
    refine ⟨_, rfl, wpAny_letOwnedTupleGo_enum (s := { s with heap := h', toks := tk + 1 }) ho fun h'' he' sb => ?_⟩
    have hT2 : h''.get? s.heap.objs.size = some { cls := .type "tuple", data := .seq #[.int i tk, y] } := (sb.2 _ (Nat.ne_of_gt hel)).trans hT
    have new : ObjOk X.prog X.w (upd H s.heap.objs.size (.tup [.int (i : Nat), x])) h'' s.heap.objs.size (.tup [.int (i : Nat), x]) :=
      ⟨by show 2 ≤ sizeLine; decide, [.int i tk, y], .cons ⟨_, rfl⟩ (.cons ru .nil), ⟨_, hT2, rfl, _, rfl⟩⟩
    have I1 : Inv X pins σ (upd H s.heap.objs.size (.tup [.int (i : Nat), x])) { s with heap := h'', toks := tk + 1 } :=
      I.turnedNew (ch := [e, it]) (fun b ob hb q => (sb.2 b (fun z => hb (by simp [z]))).trans (hk b ob (fun z => hb (by simp [z])) (fun z => hb (by simp [z])) q)) hf (Nat.le_refl _) new
    refine ⟨.ref s.heap.objs.size, _, I1, rfl, ⟨_, x, rfl, I.hok.fresh (Nat.le_refl _), rfl, fun ys hy => by rw [I.tuple_inj hy hq]; exact hx⟩, ⟨⟨y, ?_⟩, hit'.1.at fun o q => (sb.2 it (Ne.symm hne)).trans q, hne⟩, fun b hb => ?_⟩
    · have e1 : ((i + 1 : Nat) : Int) = (i : Int) + 1 := by omega
      rw [e1]; exact he'
    · have hb' : b < s.heap.objs.size := by
        have e' : b = e ∨ b = it := by simpa using hb
        rcases e' with z | z
        · rw [z]; exact hel
        · rw [z]; exact hil
      rw [upd_ne (Nat.ne_of_lt hb')]
      exact (hf b hb).1
  done := by
    intro X hP hw hK hc i pins s σ H E I hf st hg
    subst hP hw hK
    obtain ⟨⟨old, he⟩, hit, hne⟩ := st
    obtain ⟨xs, hq, hx⟩ := hg
    obtain ⟨its, rv, p, hz⟩ := I.tuple hq
    obtain ⟨f0, f1, f2, f3, f4, f5⟩ := hf it (by simp)
    have hl := rv.length
    exact pyNext_enum_end_tu (I.ok.hd hc) he hit (show s.heap.IsTuple a its.toArray from p) (by simp; omega) fun h' eb => ⟨rfl, I.turned (t' := s.toks) (fun b o hb q => eb b o hb q) f0 f1 f3 f4 f5⟩
  self := fun A i s Q E st h => let ⟨⟨_, he⟩, _⟩ := st; wpAny_pyIter_enum he h
def iEnumT (K : PySem.W.Frag) (ta : TA) : TI := fun σ H R => ta σ H fun vs H1 => ∃ a xs, vs = [.ref a] ∧ SqT K H1 a xs ∧ R (IteT K a) H1
theorem pi_enumT {X : Cx} {e : Expr} {ta : TA} {p pos tpos : Pos} {elts : List Expr} {kk : Nat} (hg : Gl X "enumerate") (hm : X.mg "enumerate" = none) (ha : PA X [e] ta) (hs : starEach [e] X.env = [(false, eval e X.env)] := by rfl) :
    PI X (.Tuple elts kk tpos) (.Call (.Name "enumerate" p) [e] [] pos) (iEnumT X.K ta) := by
  refine ⟨fun pins s σ H R I h => ?_⟩
  refine Call_ (ld_blt I hg hm boot_enumerate (PyProof.Rows.callWith_type1 (thn (ha.run pos pins s σ H _ I h) fun us s1 ⟨vs, H1, I1, r1, q1⟩ => ?_) hs rfl))
  obtain ⟨a, xs, ex, hq, q⟩ := q1
  subst ex
  cases r1 with
  | cons r rr =>
    cases rr
    cases r
    obtain ⟨its, rv, p', hz⟩ := I1.tuple hq
    have hal : a < s1.heap.objs.size := by obtain ⟨o, ho, _⟩ := id p'; exact Heap.lt_size ho
    refine call_enumerate_tu (show s1.heap.IsTuple a its.toArray from p') fun h' he hit hsz hk => wpAny_pyIter_enum he ?_
    have I2 : Inv X pins σ H1 { s1 with heap := h' } := I1.kept (t' := s1.toks) hk
    refine ⟨s1.heap.objs.size + 1, [s1.heap.objs.size + 1, s1.heap.objs.size], _, _, H1, rfl, I2, turn_enumT a (s1.heap.objs.size + 1) s1.heap.objs.size (Nat.ne_of_gt (Nat.lt_succ_of_lt hal)) (Nat.ne_of_lt hal), ⟨⟨.none, he⟩, hit, Nat.succ_ne_self _⟩, fun b hb => ?_, q⟩
    have e' : b = s1.heap.objs.size + 1 ∨ b = s1.heap.objs.size := by simpa using hb
    have hle : s1.heap.objs.size ≤ b := by
      rcases e' with z | z
      · rw [z]; exact Nat.le_add_right _ _
      · rw [z]; exact Nat.le_refl _
    exact I1.fpOk hle (I1.hok.fresh hle)

/-! ### zip and enumerate over what is known -/
section
variable {M : Frm} {Γ : Ga} {g : M.G} {tr : TA} {rel : Hp → Hp → Prop} {P : Nat → (Nat → D) → M.G → Prop}
theorem wi_enumT (hrel : ∀ K H1 H, rel H1 H → ∀ b xs, SqT K H1 b xs → SqT K H b xs) (h : WA M tr Γ g fun xs g1 => ∃ x ds, xs = [x] ∧ x = .tup ds ∧ imL ds = true ∧ P ds.length (fun i => .tup [.int (i : Nat), ds.getD i .non]) g1) : WI M rel (iEnumT M.K tr) Γ g P := fun σ H o j R p =>
  h σ H o j _ fun vs H1 xs g1 k1 j1 i1 ⟨x, ds, e, ex, him, q⟩ => by
    subst e ex
    obtain ⟨v, rfl, a, us, rfl, hS, hl⟩ := vals_one i1
    refine ⟨a, us, rfl, hS, p _ H1 _ _ g1 k1 j1 (fun H2 r => ?_) q⟩
    have hS2 := hrel _ _ _ r a us hS
    refine ⟨fun i hi => ⟨us, us[i]'(by rw [hl.len]; exact hi), hS2, by simp [hl.len, hi]⟩, ⟨us, hS2, by rw [hl.len]; exact Nat.le_refl _⟩, fun i x H' hi y => ?_⟩
    obtain ⟨T, y0, rfl, hT, rfl, hy⟩ := y
    obtain ⟨d, e, iq⟩ := hl.get' (hy us hS2)
    refine ⟨same_new hT, T, _, rfl, .of upd_same, rfl, ?_, trivial⟩
    rw [List.getD_eq_getElem?_getD, e]
    exact Is.monoT (fun b xs h => Kp.sqT (F := AF) (Kp.new hT) (hrel _ _ _ r b xs h)) d y0 (Is.up d y0 (imL_get him e) iq)
theorem wi_zipT (hrel : ∀ K H1 H, rel H1 H → ∀ b xs, SqT K H1 b xs → SqT K H b xs) (h : WA M tr Γ g fun xs g1 => ∃ x y ds es, xs = [x, y] ∧ x = .tup ds ∧ y = .tup es ∧ imL ds = true ∧ imL es = true ∧ P (min ds.length es.length) (fun i => .tup [ds.getD i .non, es.getD i .non]) g1) : WI M rel (RZ.iZipA M.K tr) Γ g P := fun σ H o j R p =>
  h σ H o j _ fun vs H1 xs g1 k1 j1 i1 ⟨x, y, ds, es, e, ex, ey, him, him2, q⟩ => by
    subst e ex ey
    obtain ⟨v, u, rfl, ⟨a, us, rfl, hS, hl⟩, ⟨b, ws, rfl, hS2, hl2⟩⟩ := vals_two i1
    refine ⟨a, b, us, ws, rfl, .inr ⟨hS, hS2, p _ H1 _ _ g1 k1 j1 (fun H2 r => ?_) q⟩⟩
    have hSa := hrel _ _ _ r a us hS
    have hSb := hrel _ _ _ r b ws hS2
    refine ⟨fun i hi => ⟨us, ws, us[i]'(by rw [hl.len]; omega), ws[i]'(by rw [hl2.len]; omega), hSa, hSb, by simp, by simp⟩, ⟨us, ws, hSa, hSb, by rw [hl.len, hl2.len]; omega⟩, fun i x H' hi y => ?_⟩
    obtain ⟨T, x0, y0, rfl, hT, rfl, hx, hy⟩ := y
    obtain ⟨d, e, iq⟩ := hl.get' (hx us hSa)
    obtain ⟨d2, e2, iq2⟩ := hl2.get' (hy ws hSb)
    refine ⟨same_new hT, T, _, rfl, .of upd_same, ?_, ?_, trivial⟩
    · rw [List.getD_eq_getElem?_getD, e]
      exact Is.monoT (fun b xs h => Kp.sqT (F := AF) (Kp.new hT) (hrel _ _ _ r b xs h)) d x0 (Is.up d x0 (imL_get him e) iq)
    · rw [List.getD_eq_getElem?_getD, e2]
      exact Is.monoT (fun b xs h => Kp.sqT (F := AF) (Kp.new hT) (hrel _ _ _ r b xs h)) d2 y0 (Is.up d2 y0 (imL_get him2 e2) iq2)
theorem wi_zipL (h : WA M tr Γ g fun xs g1 => ∃ ds es, xs = [.lst ds, .lst es] ∧ imL ds = true ∧ imL es = true ∧ P (min ds.length es.length) (fun i => .tup [ds.getD i .non, es.getD i .non]) g1) : WI M (Kp M.F) (RZ.iZipA M.K tr) Γ g P := fun σ H o j R p =>
  h σ H o j _ fun vs H1 xs g1 k1 j1 i1 ⟨ds, es, e, him, him2, q⟩ => by
    subst e
    obtain ⟨v, u, rfl, ⟨a, us, rfl, n1, n2, hS, hl⟩, ⟨b, ws, rfl, m1, m2, hS2, hl2⟩⟩ := vals_two i1
    refine ⟨a, b, us, ws, rfl, .inl ⟨.of hS, .of hS2, p _ H1 _ _ g1 k1 j1 (fun H2 r => ?_) q⟩⟩
    have hSa : SqL M.K H2 a us := .of (r.k _ _ n1 hS)
    have hSb : SqL M.K H2 b ws := .of (r.k _ _ m1 hS2)
    refine ⟨fun i hi => ⟨us, ws, us[i]'(by rw [hl.len]; omega), ws[i]'(by rw [hl2.len]; omega), hSa, hSb, by simp, by simp⟩, ⟨us, ws, hSa, hSb, by rw [hl.len, hl2.len]; omega⟩, fun i x H' hi y => ?_⟩
    obtain ⟨T, x0, y0, rfl, hT, rfl, hx, hy⟩ := y
    obtain ⟨d, e, iq⟩ := hl.get' (hx us hSa)
    obtain ⟨d2, e2, iq2⟩ := hl2.get' (hy ws hSb)
    refine ⟨same_new hT, T, _, rfl, .of upd_same, ?_, ?_, trivial⟩
    · rw [List.getD_eq_getElem?_getD, e]
      exact Is.monoT (fun b xs h => Kp.sqT (F := AF) (Kp.new hT) (r.sqT h)) d x0 (Is.up d x0 (imL_get him e) iq)
    · rw [List.getD_eq_getElem?_getD, e2]
      exact Is.monoT (fun b xs h => Kp.sqT (F := AF) (Kp.new hT) (r.sqT h)) d2 y0 (Is.up d2 y0 (imL_get him2 e2) iq2)
end
end Sf
end
section
set_option Elab.async false
set_option linter.all false
set_option maxRecDepth 100000
set_option maxHeartbeats 2000000
/-! Extra 2: dicts by texts: dict(pairs), list(d.items()), keys under a lock, what a Sub is as a dict. -/
namespace Sf
open PySem L2

def pairD (k : Str) (d : D) : D := .tup [.str k, d]
/-- the dict of pairs: keys, values -/
def mgD : List Str → List D → List (Str × D) → List Str × List D
  | ks, ds, [] => (ks, ds)
  | ks, ds, p :: r => mgD (putKs ks p.1) (putD ks ds p.1 p.2) r
section
variable {K : PySem.W.Frag} {H : Hp}
theorem pairs_is {F O : Aset} : ∀ (ps : List (Str × D)) (vs : List V), IsL K F O H vs (ps.map fun p => pairD p.1 p.2) → imL (ps.map fun p => pairD p.1 p.2) = true →
    ∃ (as : List Addr) (kvs : List (Key × V)), vs = as.map V.ref ∧ Paired (fun p kv => SqT K H p [kV kv.1, kv.2]) as kvs ∧ kvs.map (·.1) = (ps.map (·.1)).map Sum.inr ∧ IsL K AT AT H (kvs.map (·.2)) (ps.map (·.2))
  | [], [], _, _ => ⟨[], [], rfl, .nil, rfl, trivial⟩
  | [], _ :: _, h, _ => h.elim
  | _ :: _, [], h, _ => h.elim
  | p :: ps, v :: vs, h, him => by
    have him' : ((D.im p.2 && true) && imL (ps.map fun p => pairD p.1 p.2)) = true := him
    rw [Bool.and_true, Bool.and_eq_true] at him'
    obtain ⟨as, kvs, e, pr, hk, hl⟩ := pairs_is ps vs h.2 him'.2
    obtain ⟨a, us, rfl, hS, hl2⟩ := h.1
    obtain ⟨u, w, rfl, h1, h2⟩ := vals_two' hl2
    obtain rfl : u = .str p.1 := h1
    exact ⟨a :: as, (Sum.inr p.1, w) :: kvs, by rw [e]; rfl, .cons hS pr, by show _ :: _ = _ :: _; rw [hk], Is.up p.2 w him'.1 h2, hl⟩
where vals_two' {F O : Aset} {vs : List V} {d e : D} (h : IsL K F O H vs [d, e]) : ∃ v u, vs = [v, u] ∧ Is K F O H v d ∧ Is K F O H u e := vals_two h
theorem merge_is : ∀ (kvs : List (Key × V)) (ps : List (Str × D)) (ws : List (Key × V)) (ks : List Str) (ds : List D), kvs.map (·.1) = (ps.map (·.1)).map Sum.inr → IsL K AT AT H (kvs.map (·.2)) (ps.map (·.2)) → ws.map (·.1) = ks.map Sum.inr → IsL K AT AT H (ws.map (·.2)) ds →
    (mergeK ws kvs).map (·.1) = (mgD ks ds ps).1.map Sum.inr ∧ IsL K AT AT H ((mergeK ws kvs).map (·.2)) (mgD ks ds ps).2
  | [], [], ws, ks, ds, _, _, h1, h2 => ⟨h1, h2⟩
  | [], _ :: _, _, _, _, e, _, _, _ => by cases e
  | _ :: _, [], _, _, _, e, _, _, _ => by cases e
  | (k, v) :: kvs, p :: ps, ws, ks, ds, e, hl, h1, h2 => by
    have e1 : k = Sum.inr p.1 := (List.cons.inj e).1
    subst e1
    obtain ⟨q1, q2⟩ := put_is (s := p.1) (d := p.2) (v := v) h1 h2 hl.1
    exact merge_is kvs ps _ _ _ (List.cons.inj e).2 hl.2 q1 q2
end
section
variable {M : Frm} {Γ : Ga} {g : M.G} {Q : QE M} {ta tb te tc : TE} {tt tu : TT} {tr : TA}
theorem wc_dict (ps : List (Str × D)) (him : imL (ps.map fun p => pairD p.1 p.2) = true) (q : Q (.dict (mgD [] [] ps).1 (mgD [] [] ps).2) g) :
    WC M (fun xs H Q => ∃ (a : Addr) (ps : List Addr) (kvs : List (Key × V)), xs = [.ref a] ∧ SqL M.K H a (ps.map V.ref) ∧ Paired (fun p kv => SqT M.K H p [kV kv.1, kv.2]) ps kvs ∧ ∀ p, H p = none → Q (.ref p) (upd H p (.dK (mergeK [] kvs)))) [.lst (ps.map fun p => pairD p.1 p.2)] g Q := fun vs H O o j0 h Q' p => by
  obtain ⟨v, rfl, a, us, rfl, n1, n2, hS, hl⟩ := vals_one h
  obtain ⟨as, kvs, rfl, pr, hk, hv⟩ := pairs_is ps us hl him
  refine ⟨a, as, kvs, rfl, .of hS, pr, fun b hb => ?_⟩
  obtain ⟨q1, q2⟩ := merge_is kvs ps [] [] [] hk hv rfl trivial
  refine p _ _ (.dict _ _) g (Kp.new hb) (M.same j0 (same_new hb)) ⟨b, _, rfl, fun z => M.trk _ _ _ j0 z hb, fun z => ?_, upd_same, q1, (q2.kpT (F := AF) (Kp.new hb)).down (fun _ _ => trivial) (fun _ _ => trivial)⟩ q
  obtain ⟨u, e⟩ := o b z
  rw [hb] at e; cases e
/-- the pairs of a dict -/
def zipD (ks : List Str) (ds : List D) : List (Str × D) := ks.zip ds
theorem items_is {H : Hp} : ∀ (ks : List Str) (ds : List D) (kvs : List (Key × V)) (ts : List Addr), kvs.map (·.1) = ks.map Sum.inr → IsL M.K AT AT H (kvs.map (·.2)) ds → Paired (fun (t : Addr) (q : Key × V) => H t = some (.tup [kV q.1, q.2])) ts kvs →
    IsL M.K AT AT H (ts.map V.ref) ((zipD ks ds).map fun p => pairD p.1 p.2)
  | [], [], [], _, _, _, .nil => trivial
  | [], _ :: _, [], _, _, h, _ => h.elim
  | [], _, _ :: _, _, e, _, _ => by cases e
  | _ :: _, _, [], _, e, _, _ => by cases e
  | k :: ks, [], (k', v) :: kvs, _, _, h, _ => h.elim
  | k :: ks, d :: ds, (k', v) :: kvs, _, e, h, .cons hp r => by
    have e1 : k' = Sum.inr k := (List.cons.inj e).1
    subst e1
    exact ⟨⟨_, _, rfl, .of hp, rfl, h.1, trivial⟩, items_is ks ds kvs _ (List.cons.inj e).2 h.2 r⟩
theorem we_listItems (h : WE M te Γ g fun x g1 => ∃ ks ds, x = .dict ks ds ∧ imL ds = true ∧ Q (.lst ((zipD ks ds).map fun p => pairD p.1 p.2)) g1) : WE M (LiI.tListItems te) Γ g Q := fun σ H o j Q' p =>
  h σ H o j _ fun v H1 x g1 k1 j1 i1 ⟨ks, ds, e, him, q⟩ => by
    subst e
    obtain ⟨a, ws, rfl, n1, n2, hH, hk, hl⟩ := i1
    refine ⟨a, ws, rfl, hH, fun H2 b ts sm hb ht _ hb2 pr => ?_⟩
    have sm' : Same H1 H2 := sm
    refine p _ H2 (.lst _) g1 (k1.trans (.of_same sm')) (M.same j1 sm') ⟨b, _, rfl, fun z => M.trk _ _ _ j1 z hb, fun z => ?_, hb2, (items_is ks ds ws ts hk ((IsL.up ds _ him hl).kpT (F := AF) (.of_same sm')) pr).down (fun _ _ => trivial) (fun _ _ => trivial)⟩ q
    obtain ⟨u, e⟩ := (o.kp k1).owT z
    rw [hb] at e; cases e
theorem we_dnotin (h : WE M ta Γ g fun y g1 => ∃ s, y = .str s ∧ WE M tb Γ g1 fun x g2 => ∃ ks ds, x = .dict ks ds ∧ ks.length = ds.length ∧ Q (.bl (!decide (s ∈ ks))) g2) : WE M (tDNotIn ta tb) Γ g Q := fun σ H o j Q' p =>
  h σ H o j _ fun u H1 y g1 k1 j1 i1 ⟨s, e, h1⟩ => by
    subst e
    obtain rfl : u = .str s := i1
    refine h1 σ H1 (o.kp k1) j1 _ fun v H2 x g2 k2 j2 i2 ⟨ks, ds, e, hlen, q⟩ => ?_
    subst e
    obtain ⟨a, ws, rfl, n1, n2, hH, hk, hl⟩ := i2
    obtain ⟨c1, c2⟩ := valV_lk s hk hl
    have ex : (valV ws (Sum.inr s)).isSome = decide (s ∈ ks) := by
      rw [← valV_any]
      by_cases h : s ∈ ks
      · rw [decide_eq_true h]
        have := mem_inr.mpr h
        rw [← hk] at this
        obtain ⟨w, hw, e⟩ := List.mem_map.mp this
        exact List.any_eq_true.mpr ⟨w, hw, decide_eq_true e⟩
      · rw [decide_eq_false h]
        cases q : ws.any fun kv => decide (kv.1 = Sum.inr s) with
        | false => rfl
        | true =>
          obtain ⟨w, hw, e⟩ := List.any_eq_true.mp q
          have : (Sum.inr s : Key) ∈ ks.map Sum.inr := by rw [← hk]; exact List.mem_map.mpr ⟨w, hw, of_decide_eq_true e⟩
          exact absurd (mem_inr.mp this) h
    refine ⟨a, valV ws (Sum.inr s), rfl, .inl ⟨ws, Sum.inr s, .inl hH, rfl, rfl⟩, ?_⟩
    rw [ex]
    exact p _ H2 (.bl _) g2 (k1.trans k2) j2 rfl q
end

/-! ### a dict without a key -/
def rmP (ps : List (Str × D)) (s : Str) : List (Str × D) := ps.filter fun p => !decide (p.1 = s)
theorem mgD_nodup : ∀ (ps : List (Str × D)) (ks : List Str) (ds : List D), ks.length = ds.length → (ks ++ ps.map (·.1)).Nodup → mgD ks ds ps = (ks ++ ps.map (·.1), ds ++ ps.map (·.2))
  | [], ks, ds, _, _ => by show (ks, ds) = (ks ++ [], ds ++ []); rw [List.append_nil, List.append_nil]
  | p :: ps, ks, ds, hl, hn => by
    have hp : p.1 ∉ ks := fun h => by
      rw [List.nodup_append] at hn
      exact hn.2.2 _ h _ List.mem_cons_self rfl
    show mgD (putKs ks p.1) (putD ks ds p.1 p.2) ps = _
    unfold putKs putD
    rw [if_neg hp, if_neg hp, mgD_nodup ps _ _ (by rw [List.length_append, List.length_append, hl]; rfl) (by rw [List.append_assoc]; exact hn)]
    rw [List.append_assoc, List.append_assoc]; rfl
/-- what a dict by texts stands for -/
structure SubD (n : Nat) (f : Str → Option D) (ks : List Str) (ds : List D) : Prop where
  nd : ks.Nodup
  len : ks.length = ds.length
  le : ks.length ≤ n
  im : imL ds = true
  at' : ∀ s, lkD ks ds s = f s
theorem lkD_none : ∀ {ks : List Str} {ds : List D} {s : Str}, s ∉ ks → lkD ks ds s = none
  | [], _, _, _ => rfl
  | _ :: _, [], _, _ => rfl
  | k :: ks, d :: ds, s, h => by
    show (if k = s then some d else lkD ks ds s) = none
    rw [if_neg (fun e => h (by rw [← e]; exact List.mem_cons_self)), lkD_none fun q => h (List.mem_cons_of_mem _ q)]
theorem lkD_some : ∀ {ks : List Str} {ds : List D} {s : Str}, ks.length = ds.length → s ∈ ks → ∃ d, lkD ks ds s = some d
  | [], _, _, _, h => by cases h
  | _ :: _, [], _, e, _ => by cases e
  | k :: ks, d :: ds, s, e, h => by
    by_cases c : k = s
    · exact ⟨d, by show (if k = s then some d else lkD ks ds s) = _; rw [if_pos c]⟩
    · obtain ⟨d', e'⟩ := lkD_some (ks := ks) (ds := ds) (s := s) (Nat.succ.inj e) ((List.mem_cons.mp h).resolve_left (fun q => c q.symm))
      exact ⟨d', by show (if k = s then some d else lkD ks ds s) = _; rw [if_neg c, e']⟩
theorem lkD_append : ∀ {ks : List Str} {ds : List D} {k : Str} {d : D} {s : Str}, ks.length = ds.length → lkD (ks ++ [k]) (ds ++ [d]) s = (lkD ks ds s).orElse fun _ => if k = s then some d else none
  | [], [], k, d, s, _ => rfl
  | [], _ :: _, _, _, _, e => by cases e
  | _ :: _, [], _, _, _, e => by cases e
  | k0 :: ks, d0 :: ds, k, d, s, e => by
    show (if k0 = s then some d0 else lkD (ks ++ [k]) (ds ++ [d]) s) = (if k0 = s then some d0 else lkD ks ds s).orElse _
    by_cases c : k0 = s
    · rw [if_pos c, if_pos c]; rfl
    · rw [if_neg c, if_neg c]; exact lkD_append (Nat.succ.inj e)
theorem lkD_map : ∀ {ks : List Str} {ds : List D} {k : Str} {d : D} {s : Str}, ks.length = ds.length → k ∈ ks → lkD ks (List.zipWith (fun k' d' => if k' = k then d else d') ks ds) s = if s = k then some d else lkD ks ds s
  | [], _, _, _, _, _, h => by cases h
  | _ :: _, [], _, _, _, e, _ => by cases e
  | k0 :: ks, d0 :: ds, k, d, s, e, h => by
    show (if k0 = s then some (if k0 = k then d else d0) else lkD ks (List.zipWith _ ks ds) s) = if s = k then some d else (if k0 = s then some d0 else lkD ks ds s)
    by_cases c : k0 = s
    · subst c
      rw [if_pos rfl, if_pos rfl]
      by_cases c2 : k0 = k
      · rw [if_pos c2, if_pos c2]
      · rw [if_neg c2, if_neg c2]
    · rw [if_neg c, if_neg c]
      by_cases hk : k ∈ ks
      · exact lkD_map (Nat.succ.inj e) hk
      · obtain rfl : k = k0 := (List.mem_cons.mp h).resolve_right hk
        rw [if_neg (fun q => c q.symm)]
        have : List.zipWith (fun k' d' => if k' = k then d else d') ks ds = ds := by
          have : ∀ (ks : List Str) (ds : List D), k ∉ ks → ks.length = ds.length → List.zipWith (fun k' d' => if k' = k then d else d') ks ds = ds := by
            intro ks
            induction ks with
            | nil => intro ds _ e; cases ds with | nil => rfl | cons => cases e
            | cons k1 ks ih =>
              intro ds hk e
              cases ds with
              | nil => cases e
              | cons d1 ds =>
                show (if k1 = k then d else d1) :: _ = _
                rw [if_neg (fun q => hk (by rw [q]; exact List.mem_cons_self)), ih ds (fun q => hk (List.mem_cons_of_mem _ q)) (Nat.succ.inj e)]
          exact this ks ds hk (Nat.succ.inj e)
        rw [this]
theorem SubD.nil (n : Nat) : SubD n (fun _ => none) [] [] := ⟨.nil, rfl, Nat.zero_le _, rfl, fun _ => rfl⟩
theorem SubD.mono {n m : Nat} {f : Str → Option D} {ks : List Str} {ds : List D} (h : SubD n f ks ds) (hm : n ≤ m) : SubD m f ks ds := ⟨h.nd, h.len, Nat.le_trans h.le hm, h.im, h.at'⟩
theorem SubD.put {n : Nat} {f : Str → Option D} {ks : List Str} {ds : List D} (h : SubD n f ks ds) {s : Str} {e : D} (he : e.im = true) : SubD (n + 1) (plus f s e) (putKs ks s) (putD ks ds s e) := by
  by_cases c : s ∈ ks
  · unfold putKs putD
    rw [if_pos c, if_pos c]
    refine ⟨h.nd, by rw [List.length_zipWith, h.len, Nat.min_self], Nat.le_succ_of_le h.le, ?_, fun t => ?_⟩
    · rw [imL_iff]
      intro d hd
      obtain ⟨i, hi⟩ := List.mem_iff_getElem?.mp hd
      rw [List.getElem?_zipWith] at hi
      cases e1 : ks[i]? with
      | none => rw [e1] at hi; cases hi
      | some k =>
        cases e2 : ds[i]? with
        | none => rw [e1, e2] at hi; cases hi
        | some d2 =>
          rw [e1, e2] at hi
          obtain rfl := Option.some.inj hi
          split
          · exact he
          · exact imL_get h.im e2
    · rw [lkD_map h.len c]
      unfold plus
      rw [h.at']
  · unfold putKs putD
    rw [if_neg c, if_neg c]
    refine ⟨?_, by rw [List.length_append, List.length_append, h.len]; rfl, by rw [List.length_append]; exact Nat.succ_le_succ h.le, ?_, fun t => ?_⟩
    · rw [List.nodup_append]
      exact ⟨h.nd, List.nodup_cons.mpr ⟨by simp, .nil⟩, fun a ha b hb e => c (by rw [← List.mem_singleton.mp hb, ← e]; exact ha)⟩
    · rw [imL_iff]
      intro d hd
      rcases List.mem_append.mp hd with hd | hd
      · exact imL_iff.mp h.im d hd
      · rw [List.mem_singleton.mp hd]; exact he
    · rw [lkD_append h.len, h.at']
      unfold plus
      by_cases c2 : t = s
      · subst c2
        rw [if_pos rfl, if_pos rfl, ← h.at', lkD_none c]; rfl
      · rw [if_neg c2, if_neg (fun q => c2 q.symm)]
        cases f t <;> rfl
theorem SubD.zip_im {n : Nat} {f : Str → Option D} {ks : List Str} {ds : List D} (h : SubD n f ks ds) : imL ((zipD ks ds).map fun p => pairD p.1 p.2) = true := by
  rw [imL_iff]
  intro d hd
  obtain ⟨p, hp, rfl⟩ := List.mem_map.mp hd
  show (true && (D.im p.2 && true)) = true
  rw [imL_iff.mp h.im p.2 (List.of_mem_zip hp).2]; rfl
theorem SubD.zip_fst {n : Nat} {f : Str → Option D} {ks : List Str} {ds : List D} (h : SubD n f ks ds) : (zipD ks ds).map (·.1) = ks := by
  unfold zipD; rw [List.map_fst_zip]; exact Nat.le_of_eq h.len
theorem SubD.zip_snd {n : Nat} {f : Str → Option D} {ks : List Str} {ds : List D} (h : SubD n f ks ds) : (zipD ks ds).map (·.2) = ds := by
  unfold zipD; rw [List.map_snd_zip]; exact Nat.le_of_eq h.len.symm
theorem mgD_app : ∀ (ps qs : List (Str × D)) (ks : List Str) (ds : List D), mgD ks ds (ps ++ qs) = mgD (mgD ks ds ps).1 (mgD ks ds ps).2 qs
  | [], _, _, _ => rfl
  | p :: ps, qs, ks, ds => mgD_app ps qs _ _
/-- dict(list(d.items()) + [(x, v)]) -/
theorem SubD.mg {n : Nat} {f : Str → Option D} {ks : List Str} {ds : List D} (h : SubD n f ks ds) (s : Str) (e : D) : mgD [] [] (zipD ks ds ++ [(s, e)]) = (putKs ks s, putD ks ds s e) := by
  rw [mgD_app, mgD_nodup _ [] [] rfl (by rw [List.nil_append, h.zip_fst]; exact h.nd), h.zip_fst, h.zip_snd]; rfl
/-- the dict without s -/
theorem SubD.rm {n : Nat} {f : Str → Option D} {ks : List Str} {ds : List D} (h : SubD n f ks ds) (s : Str) : ∃ ks' ds', mgD [] [] (rmP (zipD ks ds) s) = (ks', ds') ∧ SubD n (minus f (some s)) ks' ds' := by
  have hnd : ((rmP (zipD ks ds) s).map (·.1)).Nodup := by
    refine List.Nodup.sublist ?_ h.nd
    have := (List.filter_sublist (p := fun p : Str × D => !decide (p.1 = s)) (l := zipD ks ds)).map (·.1)
    rw [h.zip_fst] at this
    exact this
  refine ⟨_, _, mgD_nodup _ [] [] rfl (by rw [List.nil_append]; exact hnd), ?_⟩
  rw [List.nil_append, List.nil_append]
  refine ⟨hnd, by rw [List.length_map, List.length_map], ?_, ?_, fun t => ?_⟩
  · rw [List.length_map]
    refine Nat.le_trans (List.length_filter_le _ _) ?_
    have : (zipD ks ds).length = ks.length := by rw [← congrArg List.length h.zip_fst, List.length_map]
    rw [this]; exact h.le
  · rw [imL_iff]
    intro d hd
    obtain ⟨p, hp, rfl⟩ := List.mem_map.mp hd
    exact imL_iff.mp h.im _ (List.of_mem_zip (List.mem_filter.mp hp).1).2
  · have key : ∀ (ks : List Str) (ds : List D), ks.length = ds.length → lkD ((rmP (zipD ks ds) s).map (·.1)) ((rmP (zipD ks ds) s).map (·.2)) t = if t = s then none else lkD ks ds t := by
      intro ks
      induction ks with
      | nil => intro ds _; show lkD [] _ t = _; split <;> rfl
      | cons k ks ih =>
        intro ds e
        cases ds with
        | nil => cases e
        | cons d ds =>
          have ih' := ih ds (Nat.succ.inj e)
          show lkD ((rmP ((k, d) :: zipD ks ds) s).map (·.1)) ((rmP ((k, d) :: zipD ks ds) s).map (·.2)) t = if t = s then none else (if k = t then some d else lkD ks ds t)
          unfold rmP at ih' ⊢
          rw [List.filter_cons]
          by_cases c : k = s
          · rw [if_neg (by simp [c]), ih']
            by_cases c2 : t = s
            · rw [if_pos c2, if_pos c2]
            · rw [if_neg c2, if_neg c2, if_neg (fun q => c2 (q.symm.trans c))]
          · rw [if_pos (by simp [c])]
            show (if k = t then some d else lkD _ _ t) = _
            rw [ih']
            by_cases c3 : k = t
            · rw [if_pos c3, if_pos c3, if_neg (fun q => c (c3.trans q))]
            · rw [if_neg c3, if_neg c3]
    rw [key ks ds h.len]
    show _ = if t = s then none else f t
    rw [h.at']
theorem SubD.same {n : Nat} {f : Str → Option D} {ks : List Str} {ds : List D} (h : SubD n f ks ds) {s : Str} (hs : s ∉ ks) : SubD n (minus f (some s)) ks ds :=
  ⟨h.nd, h.len, h.le, h.im, fun t => by
    show _ = if t = s then none else f t
    by_cases c : t = s
    · rw [if_pos c, c, lkD_none hs]
    · rw [if_neg c]; exact h.at' t⟩
end Sf
end
section
set_option Elab.async false
set_option linter.all false
set_option maxRecDepth 100000
set_option maxHeartbeats 2000000
/-! Extra 3: a comprehension handed back, {}, {k: v}, == of nested data, t[::-1]. -/
namespace Sf
open PySem L2
section
variable {M : Frm} {Γ : Ga} {g : M.G} {Q : QE M} {ta tb te tc : TE} {tt tu : TT} {tr : TA} {E : AE M}
/-- a reading that makes a new list -/
def WN (M : Frm) (te : TE) (Γ : Ga) (g : M.G) (QN : List D → M.G → Prop) : Prop := ∀ σ H, Ok M Γ σ H → M.J g H → ∀ Q' : VK, (∀ a us H' ds g', Kp M.F H H' → M.J g' H' → H a = none → ¬ M.F a → H' a = some (.lst us) → IsL M.K AT AT H' us ds → QN ds g' → Q' (.ref a) H') → te σ H Q'
theorem wn_lc {QN : List D → M.G → Prop} {wi : TI} {tg : TG} {te : TE} {vs : List Nat} (h : WI M (Kp M.F) wi Γ g fun n it g1 => n < sizeLine ∧ ∃ I : Nat → List D → M.G → Prop, I 0 [] g1 ∧
    (∀ i acc g', i < n → acc.length ≤ i → I i acc g' → WG M vs tg (it i) (wipeG Γ vs) g' fun Γ2 g2 => WT M tt Γ2 g2 fun b g3 => if b = true then WE M te Γ2 g3 fun e g4 => e.im = true ∧ I (i + 1) (acc ++ [e]) g4 else I (i + 1) acc g3) ∧
    ∀ acc g', acc.length ≤ n → imL acc = true → I n acc g' → QN acc g') : WN M (tLc wi tg tt te vs) Γ g QN := fun σ H o j Q' p =>
  h σ H o j _ fun Jt H1 n it g1 k1 j1 aw ⟨hn, I, h0, hs, hd⟩ => by
    intro L hL
    have nF : ∀ {g2 H2}, M.J g2 H2 → H2 L = none → ¬ M.F L := fun j2 e z => M.trk _ _ _ j2 z e
    have nFL := nF j1 hL
    refine ⟨fun i m H' => m = n - i ∧ i ≤ n ∧ ∃ acc us g', Kp M.F H1 H' ∧ M.J g' H' ∧ H' L = some (.lst us) ∧ IsL M.K AT AT H' us acc ∧ imL acc = true ∧ acc.length ≤ i ∧ I i acc g', ⟨n, by simp, Nat.zero_le _, [], [], g1, Kp.new hL, M.same j1 (same_new hL), upd_same, trivial, rfl, Nat.zero_le _, h0⟩, ?_⟩
    rintro i m H' ⟨rfl, hi, acc, us, g', kk, j', eL, il, him, hlen, q⟩
    obtain ⟨w1, w2, w3⟩ := aw H' kk
    by_cases hlt : i < n
    · refine .inr ⟨w1 i hlt, fun H2 => ∃ acc us g', Kp M.F H1 H2 ∧ M.J g' H2 ∧ H2 L = some (.lst us) ∧ IsL M.K AT AT H2 us acc ∧ imL acc = true ∧ acc.length ≤ i + 1 ∧ I (i + 1) acc g', fun H2 q2 => ⟨n - (i + 1), by omega, rfl, hlt, q2⟩, fun x H2 y => ?_⟩
      obtain ⟨sm, ix⟩ := w3 i x H2 hlt y
      have kk2 : Kp M.F H' H2 := .of_same sm
      have o2 : Ok M (wipeG Γ vs) (L2.wipe σ vs) H2 := ((o.kp k1).kp (kk.trans kk2)).wipe vs
      refine hs i acc g' hlt hlen q (L2.wipe σ vs) H2 x o2 (M.same j' sm) (ix.down (fun _ _ => trivial) (fun _ _ => trivial)) _ fun σ3 Γ3 o3 w q3 => ⟨?_, ?_⟩
      · rw [w]
        have : ∀ (ws : List Nat) (τ : St), (∀ i ∈ ws, τ[i]? = some none ∨ τ[i]? = none) → L2.wipe τ ws = τ := by
          intro ws
          induction ws with
          | nil => intro τ _; rfl
          | cons k ws ih =>
            intro τ hτ
            show (L2.wipe τ ws).set k none = τ
            rw [ih τ fun i hi => hτ i (List.mem_cons_of_mem _ hi)]
            apply List.ext_getElem?
            intro r
            by_cases e : k = r
            · subst e
              rcases hτ k List.mem_cons_self with q | q
              · rw [List.getElem?_set_self (List.getElem?_eq_some_iff.mp q).1, q]
              · rw [q, List.getElem?_eq_none]
                rw [List.length_set]; exact List.getElem?_eq_none_iff.mp q
            · rw [List.getElem?_set_ne e]
        have : ∀ (ws : List Nat) (τ : St), ∀ i ∈ ws, (L2.wipe τ ws)[i]? = some none ∨ (L2.wipe τ ws)[i]? = none := by
          intro ws
          induction ws with
          | nil => intro τ i h; cases h
          | cons k ws ih =>
            intro τ i hi
            show ((L2.wipe τ ws).set k none)[i]? = some none ∨ ((L2.wipe τ ws).set k none)[i]? = none
            by_cases e : k = i
            · subst e
              by_cases hk : k < (L2.wipe τ ws).length
              · exact .inl (List.getElem?_set_self hk)
              · exact .inr (List.getElem?_eq_none (by rw [List.length_set]; omega))
            · rw [List.getElem?_set_ne e]
              rcases List.mem_cons.mp hi with q | q
              · exact absurd q.symm e
              · exact ih τ i q
        rename_i h1
        exact h1 vs _ (this vs σ)
      · refine q3 σ3 H2 o3 (M.same j' sm) _ fun b H3 g3 k3 j3 q4 => ?_
        have kk3 : Kp M.F H1 H3 := (kk.trans kk2).trans k3
        have eL3 : H3 L = some (.lst us) := k3.k _ _ nFL (sm _ _ eL)
        cases b with
        | false => exact ⟨acc, us, g3, kk3, j3, eL3, (il.kpT kk2).kpT k3, him, by omega, q4⟩
        | true =>
          refine q4 σ3 H3 (o3.kp k3) j3 _ fun v H4 e g4 k4 j4 i4 ⟨eim, q5⟩ => ?_
          have eL4 : H4 L = some (.lst us) := k4.k _ _ nFL eL3
          have il4 := ((il.kpT kk2).kpT k3).kpT k4
          refine ⟨us, eL4, by rw [il.len]; omega, acc ++ [e], us ++ [v], g4, upd_kp (kk3.trans k4) hL eL4, M.stab _ _ _ j4 (fun b o hb eb => ?_) (fun b xs eb => by rw [upd_ne (ne_of eb eL4 (by intro z; cases z))]; exact eb) (fun b o u eb => by rw [upd_ne (ne_of eb eL4 (by intro z; cases z))]; exact eb), upd_same, ?_, ?_, by rw [List.length_append]; show acc.length + 1 ≤ i + 1; omega, q5⟩
          · rw [upd_ne (fun z => nFL (by rw [← z]; exact hb))]; exact eb
          · refine (IsL.monoT (fun b xs => upd_sqT eL4) _ _ il4).append ⟨Is.monoT (fun b xs => upd_sqT eL4) e v (Is.up e v eim i4), trivial⟩
          · rw [imL_iff] at him ⊢
            intro d hd
            rcases List.mem_append.mp hd with hd | hd
            · exact him d hd
            · rw [List.mem_singleton.mp hd]; exact eim
    · have e : i = n := by omega
      subst e
      have nH : H L = none := by
        cases e : H L with
        | none => rfl
        | some u =>
          by_cases f : M.F L
          · exact absurd f nFL
          · rw [k1.k _ _ f e] at hL; cases hL
      exact .inl ⟨w2, p L us H' acc g' (k1.trans kk) j' nH nFL eL il (hd acc g' hlen him q)⟩

theorem ws_retN (h : WN M te Γ g fun ds g1 => E.rtN ds g1) : WS M (tRet te) Γ g E := fun σ H o j D' p =>
  h σ H o j _ fun a us H' ds g' k j' na nf ha il q => p.rtN a us H' ds g' (o.base.trans k) j' (by
    cases e : M.H0 a with
    | none => rfl
    | some u => rw [o.base.k _ _ nf e] at na; cases na) nf ha il q
theorem we_dnewK (q : Q (.dict [] []) g) : WE M tDNewK Γ g Q := fun σ H o j Q' p a ha =>
  p _ _ (.dict [] []) g (Kp.new ha) (M.same j (same_new ha)) ⟨a, [], rfl, fun z => M.trk _ _ _ j z ha, fun z => (by
    obtain ⟨u, e⟩ := o.owT z
    rw [ha] at e; cases e), upd_same, rfl, trivial⟩ q
theorem we_disp1 {tk tv : TE} (h : WE M tk Γ g fun y g1 => ∃ s, y = .str s ∧ WE M tv Γ g1 fun e g2 => e.im = true ∧ Q (.dict [s] [e]) g2) : WE M (tDisp [(tk, tv)]) Γ g Q := fun σ H o j Q' p a ha => by
  have nF : ¬ M.F a := fun z => M.trk _ _ _ j z ha
  have sm := same_new (o := .dK []) ha
  refine h σ _ (o.kp (.of_same sm)) (M.same j sm) _ fun u H1 y g1 k1 j1 i1 ⟨s, e, h1⟩ => ?_
  subst e
  obtain rfl : u = .str s := i1
  refine h1 σ H1 (o.kp ((Kp.of_same sm).trans k1)) j1 _ fun v H2 e g2 k2 j2 i2 ⟨him, q⟩ => ?_
  have ha2 : H2 a = some (.dK []) := k2.k _ _ nF (k1.k _ _ nF upd_same)
  refine ⟨ha2, [(Sum.inr s, v)], rfl, by show 1 ≤ 15; decide, ?_⟩
  have tup : ∀ b xs, H2 b = some (.tup xs) → upd H2 a (.dK (mergeK [] [(Sum.inr s, v)])) b = some (.tup xs) := fun b xs e => by
    rw [upd_ne (fun z => by rw [z, ha2] at e; cases e)]; exact e
  have kk : Kp M.F H (upd H2 a (.dK (mergeK [] [(Sum.inr s, v)]))) := by
    have k3 := ((Kp.of_same sm).trans k1).trans k2
    refine ⟨fun b o n e => ?_, fun b xs e => ?_, fun b o u e => ?_⟩
    · rw [upd_ne (ne_of_none e ha)]; exact k3.k b o n e
    · rw [upd_ne (ne_of_none e ha)]; exact k3.t b xs e
    · rw [upd_ne (ne_of_none e ha)]; exact k3.z b o u e
  refine p _ _ (.dict [s] [e]) g2 kk (M.stab _ _ _ j2 (fun b o hb eb => ?_) tup (fun b o u e => by rw [upd_ne (fun z => by rw [z, ha2] at e; cases e)]; exact e)) ⟨a, _, rfl, nF, fun z => ?_, upd_same, rfl, ?_, trivial⟩ q
  · rw [upd_ne (fun z => nF (by rw [← z]; exact hb))]; exact eb
  · obtain ⟨u, e⟩ := o.owT z
    rw [ha] at e; cases e
  · exact (Is.monoT (fun b xs => wrT ha2 trivial) e v (Is.up e v him i2)).down (fun _ _ => trivial) (fun _ _ => trivial)

/-! ### == of nested data -/
mutual
def pyD : D → PyData
  | .bl b => .bool b
  | .int i => .int i
  | .str s => .str s
  | .tup ds => .tuple (pyL ds)
  | _ => .none
def pyL : List D → List PyData
  | [] => []
  | d :: ds => pyD d :: pyL ds
end
mutual
/-- no list, no dict, no address -/
def D.tx : D → Bool
  | .non => true
  | .bl _ => true
  | .int _ => true
  | .str _ => true
  | .tup ds => txL ds
  | _ => false
def txL : List D → Bool
  | [] => true
  | d :: ds => d.tx && txL ds
end
mutual
theorem dp_of {K : PySem.W.Frag} {F O : Aset} {H : Hp} : ∀ (d : D) (v : V), d.tx = true → Is K F O H v d → Dp K H v (pyD d)
  | .non, _, _, h => by cases h; exact .non
  | .bl _, _, _, h => by cases h; exact .bl _
  | .int _, _, _, h => by cases h; exact .int _
  | .str _, _, _, h => by cases h; exact .str _
  | .tup ds, _, e, ⟨a, vs, e1, h, hl⟩ => by subst e1; exact .tup h (dp_ofL ds vs e hl)
  | .lst _, _, e, _ => by cases e
  | .dict _ _, _, e, _ => by cases e
  | .adr _, _, e, _ => by cases e
theorem dp_ofL {K : PySem.W.Frag} {F O : Aset} {H : Hp} : ∀ (ds : List D) (vs : List V), txL ds = true → IsL K F O H vs ds → DpAll K H vs (pyL ds)
  | [], [], _, _ => .nil
  | [], _ :: _, _, h => h.elim
  | _ :: _, [], _, h => h.elim
  | d :: ds, v :: vs, e, h => by
    have e' : (d.tx && txL ds) = true := e
    rw [Bool.and_eq_true] at e'
    exact .cons (dp_of d v e'.1 h.1) (dp_ofL ds vs e'.2 h.2)
end
mutual
theorem py_plain : ∀ d : D, (pyD d).plain = true
  | .non => rfl
  | .bl _ => rfl
  | .int _ => rfl
  | .str _ => rfl
  | .tup ds => py_plainL ds
  | .lst _ => rfl
  | .dict _ _ => rfl
  | .adr _ => rfl
theorem py_plainL : ∀ ds : List D, PyData.plainAll (pyL ds) = true
  | [] => rfl
  | d :: ds => by show ((pyD d).plain && PyData.plainAll (pyL ds)) = true; rw [py_plain d, py_plainL ds]; rfl
end
theorem py_eqv (d : D) : PyData.eqv (pyD d) (pyD d) = true := SeqAt.eqv_refl_plain _ (py_plain d)
def rEqP (K : PySem.W.Frag) : R2 := fun x y H Q => ∃ d e, Dp K H x d ∧ Dp K H y e ∧ d.plain = true ∧ e.plain = true ∧ min d.depth e.depth ≤ 64 ∧ Q (.bl (PyData.eqv d e)) H
theorem op_eqP {X : Cx} (hu : X.A.units + 64 < cLine) : OpR X (compareOp .Eq) (rEqP X.K) := by
  intro pins s σ H x y v u Q I rx ry h
  obtain ⟨d, e, hd, he, sd, se, hz, q⟩ := h
  obtain ⟨as, r1⟩ := Dp.reads I d x v hd rx
  obtain ⟨bs, r2⟩ := Dp.reads I e y u he ry
  exact SeqAt.eq_plain r1 r2 sd se (by omega) ⟨.bl _, H, I, rfl, q⟩
theorem wr_eqP {x y : D} (hx : x.tx = true) (hy : y.tx = true) (hz : min (pyD x).depth (pyD y).depth ≤ 64) (q : Q (.bl (PyData.eqv (pyD x) (pyD y))) g) : WR M (rEqP M.K) x y g Q := fun v u H O o j0 h1 h2 Q' p =>
  ⟨_, _, dp_of x v hx h1, dp_of y u hy h2, py_plain x, py_plain y, hz, p _ H (.bl _) g (Kp.refl H) j0 rfl q⟩
end
end Sf
end
section
set_option Elab.async false
set_option linter.all false
set_option maxRecDepth 100000
set_option maxHeartbeats 1000000
namespace Sf
open PySem L2
open PyProof.Rows (envOfC)
local macro_rules | `(tactic| walk_at "evS") => `(tactic| first
  | with_reducible refine ws_seq ?_
  | with_reducible refine ws_if ?_
  | with_reducible refine ws_ret ?_
  | ((with_reducible refine' ws_newL ?hi ?_); (case hi => exact rfl))
  | ((with_reducible refine' ws_newD ?hi ?_); (case hi => exact rfl))
  | ((with_reducible refine' ws_listT ?hi ?_); (case hi => exact rfl))
  | ((with_reducible refine' ws_set ?hi ?_); (case hi => exact rfl))
  | with_reducible refine ws_next ?_)
local macro_rules | `(tactic| walk_at "evE2") => `(tactic| first
  | with_reducible refine we_tup ?_
  | ((with_reducible refine' we_lenO ?hv ?_); (case hv => exact rfl))
  | ((with_reducible refine' we_tupO ?hv ?_); (case hv => exact rfl))
  | with_reducible refine we_cb ?_
  | with_reducible refine we_callI ?_
  | with_reducible refine we_callL ?_
  | with_reducible refine we_sl ?_
  | with_reducible refine we_dget ?_
  | with_reducible refine we_get2 ?_
  | with_reducible refine we_ifE ?_
  | with_reducible refine we_andV ?_
  | with_reducible refine we_chain ?_
  | with_reducible refine we_dnewK ?_
  | with_reducible refine we_bl ?_
  | with_reducible refine we_non ?_)
local macro_rules | `(tactic| walk_at "evE") => `(tactic| first
  | ((with_reducible refine' we_var ?hv ?_); (case hv => exact rfl))
  | with_reducible refine we_int ?_
  | with_reducible refine we_str ?_
  | ((with_reducible refine' we_ixO ?hv ?_); (case hv => exact rfl))
  | with_reducible refine we_op ?_
  | walk_at "evE2")
local macro_rules | `(tactic| walk_at "evW") => `(tactic| first
  | ((with_reducible refine' wr_ixT ?hx ?he ?_); (case hx => exact rfl); (case he => first | exact rfl | exact at0 | exact at1 | exact at2 | exact at3))
  | with_reducible refine wr_eqS ?_
  | with_reducible refine wr_i0 ?_
  | with_reducible refine wr_b0 ?_
  | with_reducible refine wr_eqI ?_
  | with_reducible refine wr_neS ?_
  | ((with_reducible refine' wr_ixL ?he ?_); (case he => first | exact rfl | exact at0 | exact at1 | exact at2 | exact at3)))
local macro_rules | `(tactic| walk_at "evT") => `(tactic| first
  | with_reducible refine wt_test ?_
  | with_reducible refine wt_and ?_
  | with_reducible refine wt_or ?_
  | with_reducible refine wt_not ?_
  | with_reducible refine wt_b ?_)
local macro_rules | `(tactic| walk_at "evM") => `(tactic| first
  | ((with_reducible refine' sl_and ?hs ?_); (case hs => exact rfl))
  | ((with_reducible refine if_t ?hc ?_); (case hc => decide +kernel))
  | ((with_reducible refine if_f ?hc ?_); (case hc => decide +kernel))
  | with_reducible refine wo_none ?_
  | with_reducible refine wo_some ?_
  | ((with_reducible refine' wsl_T ?hx ?_); (case hx => exact rfl))
  | with_reducible refine wsl_L ?_
  | ((with_reducible refine' Exists.intro _ (And.intro ?hx ?_)); (case hx => exact rfl))
  | dsimp only)
local macro_rules | `(tactic| walk_at "ev1") => `(tactic| first
  | with_reducible refine wa_cons ?_
  | with_reducible refine wa_nil ?_
  | ((with_reducible show WE _ _ _ _ _); walk_at "evE")
  | ((with_reducible show WR _ _ _ _ _ _); walk_at "evW")
  | ((with_reducible show WS _ _ _ _ _); walk_at "evS")
  | ((with_reducible show WT _ _ _ _ _); walk_at "evT")
  | walk_at "evM")
local macro_rules | `(tactic| walk_at "ev") => `(tactic| repeat walk_at "ev1")

theorem sc_value_of : FnScope ["number", "counts", "sign", "one", "other"] ["number", "counts"] (defScope (topS 6)) := ⟨rfl, rfl, rfl, by decide +kernel, rfl, by decide +kernel, by decide +kernel⟩
def R_value (n : Nat) (es : List D) (r : D) : Prop := ∃ t v, Wfx false t ∧ closedB t = true ∧ nvo (fun _ => none) t = some v ∧ 0 ≤ v ∧ v < 1000000 ∧ t.dp < n ∧ es = [enc t, .dict [] []] ∧ r = .int v
section
variable {P : Program} {w : World} {K : PySem.W.Frag} {mg : Str → Option Value} {base : Heap} (T : Tx K mg)
theorem ok_value_of : ∀ n : Nat, FnOk P w K mg base CX0 (n + 1) T.value_of.a T.value_of.fd ["number", "counts"] (spI K (R_value n))
  | 0 => none_I fun es r ⟨t, v, _, _, _, _, _, h, _⟩ => absurd h (Nat.not_lt_zero _)
  | n + 1 => by
    have G_value_of := ok_value_of n
    refine def_I T.value_of.F sc_value_of (fun es r ⟨t, v, _, _, _, _, _, _, e, _⟩ => by subst e; rfl) (by decide) (fun cdv A outer s H E hr => ?_)
    have hu := hu_of hr
    have hr_value_of := hr
    refine ⟨_, (pss_cons (ps_if (pt_cmpR op_eq (pe_ix ix_tup (pv 0) pe_int (fun _ _ => rfl)) pe_str (nomark _)) (pss_one (ps_ret (pe_ix ix_tup (pv 0) pe_int (fun _ _ => rfl)))) pss_nil)
  (pss_cons (ps_if (pt_cmpR op_eq (pe_ix ix_tup (pv 0) pe_int (fun _ _ => rfl)) pe_str (nomark _)) (pss_one (ps_ret (pe_dget hu (pv 1) (pe_ix ix_tup (pv 0) pe_int (fun _ _ => rfl)) (fun _ _ => rfl)))) pss_nil)
  (pss_cons (ps_set (i := 2) sc_value_of.nd rfl (by first | exact Or.inl rfl | exact Or.inr rfl) (pe_ix ix_tup (pv 0) pe_int (fun _ _ => rfl)))
  (pss_cons (ps_set (i := 3) sc_value_of.nd rfl (by first | exact Or.inl rfl | exact Or.inr rfl) (pe_call G_value_of hr_value_of (by rfl) T.value_of.g T.value_of.F.kp T.value_of.b .nil pass0 (pa_cons (pe_ix ix_tup (pv 0) pe_int (fun _ _ => rfl)) (pa_cons (pv 1) pa_nil))))
  (pss_cons (ps_set (i := 4) sc_value_of.nd rfl (by first | exact Or.inl rfl | exact Or.inr rfl) (pe_call G_value_of hr_value_of (by rfl) T.value_of.g T.value_of.F.kp T.value_of.b .nil pass0 (pa_cons (pe_ix ix_tup (pv 0) pe_int (fun _ _ => rfl)) (pa_cons (pv 1) pa_nil))))
  (pss_cons (ps_if (pt_cmpR op_eq (pv 2) pe_str (nomark _)) (pss_one (ps_ret (pe_op op_mod (pe_op op_add (pv 3) (pv 4)) (pe_glob (by rfl) T.gWIDE T.rWIDE)))) pss_nil)
  (pss_cons (ps_if (pt_cmpR op_eq (pv 2) pe_str (nomark _)) (pss_one (ps_ret (pe_op op_mod (pe_op op_mul (pv 3) (pv 4)) (pe_glob (by rfl) T.gWIDE T.rWIDE)))) pss_nil)
  (pss_cons (ps_if (pt_cmpR op_eq (pv 2) pe_str (nomark _)) (pss_one (ps_ret (pe_callTy call_int1 (by rfl) T.nint (by decide +kernel) (pa_cons (pe_cmpR op_lt (pv 3) (pv 4) (nomark _)) pa_nil)))) pss_nil)
  (pss_cons (ps_if (pt_cmpR op_eq (pv 4) pe_int (nomark _)) (pss_one (ps_ret (pv 3))) pss_nil)
  (pss_one (ps_ret (pe_op op_mod (pv 3) (pv 4))))))))))))), ?_⟩
    dsimp only [cxOf]
    rintro es r ⟨t, v, ⟨sg, X, C, wf⟩, hc, hv, h0, h1, hd, rfl, rfl⟩
    cases wf with
    | num a b =>
      walk_at "ev"
      exact ⟨rfl, congrArg D.int (Option.some.inj hv)⟩
    | count _ => cases hc
    | @op _ _ o m n' ho wm wn =>
      have hc' : (closedB m && (closedB n' && true)) = true := hc
      rw [Bool.and_true, Bool.and_eq_true] at hc'
      obtain ⟨e1, a1, b1⟩ := nv0_wf wm hc'.1
      obtain ⟨e2, a2, b2⟩ := nv0_wf wn hc'.2
      have ev : v = opv o (nv0 m) (nv0 n') := by
        simp only [nvo, nvoL, e1, e2] at hv
        exact (Option.some.inj hv).symm
      have d1 : m.dp < dpL [m, n'] := dpL_mem List.mem_cons_self
      have d2 : n'.dp < dpL [m, n'] := dpL_mem (List.mem_cons_of_mem _ List.mem_cons_self)
      have hd' : dpL [m, n'] < n + 1 := hd
      walk_at "ev"
      refine ⟨.int (nv0 m), ⟨m, _, ⟨_, _, _, wm⟩, hc'.1, e1, a1, b1, by omega, rfl, rfl⟩, rfl, ?_⟩
      walk_at "ev"
      refine ⟨.int (nv0 n'), ⟨n', _, ⟨_, _, _, wn⟩, hc'.2, e2, a2, b2, by omega, rfl, rfl⟩, rfl, ?_⟩
      rcases ho with rfl | rfl | rfl | rfl
      · walk_at "ev"
        refine wr_iC (by decide) ?_
        exact ⟨rfl, by rw [ev]; rfl⟩
      · walk_at "ev"
        refine wr_iC (.inl ⟨by omega, by omega⟩) ?_
        walk_at "ev"
        refine wr_iC (by decide) ?_
        exact ⟨rfl, by rw [ev]; rfl⟩
      · walk_at "ev"
        refine if_both (fun c => ?_) (fun c => ?_)
        · walk_at "ev"
          refine ⟨rfl, ?_⟩
          rw [ev]
          show D.int (nv0 m) = .int (if nv0 n' = 0 then nv0 m else nv0 m % nv0 n')
          rw [if_pos (of_decide_eq_true c)]
        · walk_at "ev"
          have c' : ¬ nv0 n' = 0 := of_decide_eq_false (Bool.eq_false_iff.mpr c)
          refine wr_iC (by omega) ?_
          refine ⟨rfl, ?_⟩
          rw [ev]
          show D.int (nv0 m % nv0 n') = .int (if nv0 n' = 0 then nv0 m else nv0 m % nv0 n')
          rw [if_neg c']
      · walk_at "ev"
        refine wc_intB ?_
        refine ⟨rfl, ?_⟩
        rw [ev]
        show D.int (if decide (nv0 m < nv0 n') = true then 1 else 0) = .int (if nv0 m < nv0 n' then 1 else 0)
        by_cases c : nv0 m < nv0 n'
        · rw [if_pos (decide_eq_true c), if_pos c]
        · rw [if_neg (by simpa using c), if_neg c]
end
abbrev LIM : Nat := 1000000
theorem lim_line {n : Nat} (h : n ≤ LIM) : n ≤ sizeLine := Nat.le_trans h (by decide)
theorem lim_lt {n : Nat} (h : n ≤ LIM) : n < sizeLine := Nat.lt_of_le_of_lt h (by decide)
theorem encL_getD {ts : List T} {k : Nat} {t : T} (h : ts[k]? = some t) : (encL ts).getD k .non = enc t := by
  rw [List.getD_eq_getElem?_getD, encL_get, h]; rfl
theorem sc_is_closed : FnScope ["number"] ["number"] (defScope (topS 23)) := ⟨rfl, rfl, rfl, by decide +kernel, rfl, by decide +kernel, by decide +kernel⟩
theorem sc_is_plain : FnScope ["term", "part"] ["term"] (defScope (topS 14)) := ⟨rfl, rfl, rfl, by decide +kernel, rfl, by decide +kernel, by decide +kernel⟩
theorem sc_is_done : FnScope ["arg"] ["arg"] (defScope (topS 24)) := ⟨rfl, rfl, rfl, by decide +kernel, rfl, by decide +kernel, by decide +kernel⟩
theorem sc_can_step : FnScope ["term", "word", "arg"] ["term"] (defScope (topS 25)) := ⟨rfl, rfl, rfl, by decide +kernel, rfl, by decide +kernel, by decide +kernel⟩
theorem sc_parts_in : FnScope ["term", "word"] ["term"] (defScope (topS 16)) := ⟨rfl, rfl, rfl, by decide +kernel, rfl, by decide +kernel, by decide +kernel⟩
theorem sc_with_parts : FnScope ["term", "some", "word"] ["term", "some"] (defScope (topS 17)) := ⟨rfl, rfl, rfl, by decide +kernel, rfl, by decide +kernel, by decide +kernel⟩
theorem sc_parts : FnScope ["term", "found", "part"] ["term"] (defScope (topS 18)) := ⟨rfl, rfl, rfl, by decide +kernel, rfl, by decide +kernel, by decide +kernel⟩
theorem sc_part_at : FnScope ["term", "place", "k", "some"] ["term", "place"] (defScope (topS 20)) := ⟨rfl, rfl, rfl, by decide +kernel, rfl, by decide +kernel, by decide +kernel⟩
def R_closed (n : Nat) (es : List D) (r : D) : Prop := ∃ t, Wfx false t ∧ t.dp < n ∧ es = [enc t] ∧ r = .bl (closedB t)
def R_plain (n : Nat) (es : List D) (r : D) : Prop := ∃ t, Wfx true t ∧ t.dp < n ∧ t.sz ≤ LIM ∧ es = [enc t] ∧ r = .bl (plainB t)
def R_done (n : Nat) (es : List D) (r : D) : Prop := ∃ t s, Wfx s t ∧ t.dp < n ∧ t.sz ≤ LIM ∧ es = [enc t] ∧ r = .bl (doneB t)
def R_can (n : Nat) (es : List D) (r : D) : Prop := ∃ t s, Wfx s t ∧ t.dp < n ∧ t.sz ≤ LIM ∧ es = [enc t] ∧ r = .bl (canStep t)
def R_pin (es : List D) (r : D) : Prop := ∃ t s, Wfx s t ∧ t.sz ≤ LIM ∧ es = [enc t] ∧ r = .tup (encL t.ks)
def R_wp (es : List D) (r : D) : Prop := ∃ h ks ks' s, Wfx s (.mk h ks) ∧ (T.mk h ks).sz ≤ LIM ∧ ks'.length = ks.length ∧ es = [enc (.mk h ks), .lst (encL ks')] ∧ r = enc (.mk h ks')
def R_parts (n : Nat) (es : List D) (ds : List D) : Prop := ∃ t s, Wfx s t ∧ t.dp < n ∧ t.sz ≤ LIM ∧ es = [enc t] ∧ ds = t.parts.map enc
def R_pat (es : List D) (r : D) : Prop := ∃ t s p u, Wfx s t ∧ t.sz ≤ LIM ∧ partAt t p = some u ∧ es = [enc t, .tup (p.map fun (k : Nat) => .int (k : Int))] ∧ r = enc u
theorem ts_len {h : Hd} {ks : List T} (hs : (T.mk h ks).sz ≤ LIM) : ks.length ≤ LIM := by
  have := len_le_szL ks
  have e : (T.mk h ks).sz = 1 + szL ks := rfl
  omega
theorem kid_sz {h : Hd} {ks : List T} {k : T} (hs : (T.mk h ks).sz ≤ LIM) (hk : k ∈ ks) : k.sz ≤ LIM := by
  have := szL_mem hk
  have e : (T.mk h ks).sz = 1 + szL ks := rfl
  omega
theorem kid_dp {h : Hd} {ks : List T} {k : T} {n : Nat} (hs : (T.mk h ks).dp < n + 1) (hk : k ∈ ks) : k.dp < n := by
  have := dpL_mem hk
  have e : (T.mk h ks).dp = dpL ks := rfl
  omega
section
variable {P : Program} {w : World} {K : PySem.W.Frag} {mg : Str → Option Value} {base : Heap} (T : Tx K mg)
theorem ok_is_closed : ∀ n : Nat, FnOk P w K mg base CX0 (n + 1) T.is_closed.a T.is_closed.fd ["number"] (spI K (R_closed n))
  | 0 => none_I fun es r ⟨t, _, h, _⟩ => absurd h (Nat.not_lt_zero _)
  | n + 1 => by
    have G_is_closed := ok_is_closed n
    refine def_I T.is_closed.F sc_is_closed (fun es r ⟨t, _, _, e, _⟩ => by subst e; rfl) (by decide) (fun cdv A outer s H E hr => ?_)
    have hr_is_closed := hr
    refine ⟨_, (pss_cons (ps_if (pt_cmpR op_eq (pe_ix ix_tup (pv 0) pe_int (fun _ _ => rfl)) pe_str (nomark _)) (pss_one (ps_ret (pe_and (pe_call G_is_closed hr_is_closed (by rfl) T.is_closed.g T.is_closed.F.kp T.is_closed.b .nil pass0 (pa_cons (pe_ix ix_tup (pv 0) pe_int (fun _ _ => rfl)) pa_nil)) (pe_one (pe_call G_is_closed hr_is_closed (by rfl) T.is_closed.g T.is_closed.F.kp T.is_closed.b .nil pass0 (pa_cons (pe_ix ix_tup (pv 0) pe_int (fun _ _ => rfl)) pa_nil)))))) pss_nil)
  (pss_one (ps_ret (pe_cmpR op_eq (pe_ix ix_tup (pv 0) pe_int (fun _ _ => rfl)) pe_str (nomark _))))), ?_⟩
    dsimp only [cxOf]
    rintro es r ⟨t, ⟨sg, X, C, wf⟩, hd, rfl, rfl⟩
    cases wf with
    | num a b =>
      walk_at "ev"
      exact ⟨rfl, rfl⟩
    | count _ =>
      walk_at "ev"
      exact ⟨rfl, rfl⟩
    | @op _ _ o m n' ho wm wn =>
      walk_at "ev"
      refine ⟨_, ⟨m, ⟨_, _, _, wm⟩, kid_dp hd List.mem_cons_self, rfl, rfl⟩, rfl, ?_⟩
      walk_at "ev"
      refine if_both (fun c => ?_) (fun c => ?_)
      · walk_at "ev"
        refine ⟨_, ⟨n', ⟨_, _, _, wn⟩, kid_dp hd (List.mem_cons_of_mem _ List.mem_cons_self), rfl, rfl⟩, rfl, rfl, ?_⟩
        show D.bl (closedB n') = .bl (closedB m && (closedB n' && true))
        rw [c, Bool.true_and, Bool.and_true]
      · refine ⟨rfl, ?_⟩
        show D.bl false = .bl (closedB m && (closedB n' && true))
        rw [Bool.eq_false_iff.mpr c, Bool.false_and]
theorem plainLB_all : ∀ ts : List Sf.T, plainLB ts = (ts.map plainB).all id
  | [] => rfl
  | t :: r => by show (plainB t && plainLB r) = _; rw [plainLB_all r]; rfl
theorem ok_is_plain : ∀ n : Nat, FnOk P w K mg base CX0 (n + 1) T.is_plain.a T.is_plain.fd ["term"] (spI K (R_plain n))
  | 0 => none_I fun es r ⟨t, _, h, _⟩ => absurd h (Nat.not_lt_zero _)
  | n + 1 => by
    have G_is_plain := ok_is_plain n
    refine def_I T.is_plain.F sc_is_plain (fun es r ⟨t, _, _, _, e, _⟩ => by subst e; rfl) (by decide) (fun cdv A outer s H E hr => ?_)
    have hr_is_plain := hr
    refine ⟨_, (pss_cons (ps_if (pt_cmpR op_eq (pe_ix ix_tup (pv 0) pe_int (fun _ _ => rfl)) pe_str (nomark _)) (pss_one (ps_ret (pe_callB (cr_all rfl) (by rfl) T.nall (by decide +kernel) (pa_cons (pe_lc (own := [("part", 1)]) (by rfl) sc_is_plain.nd (pi_tup (pe_ix ix_tup (pv 0) pe_int (fun _ _ => rfl))) (blkOk_by (own := [("part", 1)]) (N := ["term", "part"]) (sc := defScope (topS 14)) (by decide +kernel)) (fun _ _ _ _ _ => (pg_name (i := 1) sc_is_plain.nd rfl (by first | exact Or.inl rfl | exact Or.inr rfl))) (fun _ _ _ _ _ => pts_nil) (fun _ _ _ _ _ => (pe_call G_is_plain hr_is_plain (by rfl) T.is_plain.g T.is_plain.F.kp T.is_plain.b .nil pass0 (pa_cons (pv 1) pa_nil)))) pa_nil)))) pss_nil)
  (pss_one (ps_ret (pe_cmpR op_in_seq (pe_ix ix_tup (pv 0) pe_int (fun _ _ => rfl)) (pe_tup (pa_cons pe_str (pa_cons pe_str pa_nil))) (by rfl))))), ?_⟩
    dsimp only [cxOf]
    rintro es r ⟨t, ⟨sg, X, C, wf⟩, hd, hz, rfl, rfl⟩
    have fin : ∀ (x : Str) (d : D), decide (x ∈ [("input" : Str), "fixed"]) = (x == "input" || x == "fixed") := fun x d => by
      by_cases h1 : x = "input" <;> by_cases h2 : x = "fixed" <;> simp [h1, h2]
    cases wf with
    | dov hk =>
      rename_i d ts
      walk_at "ev"
      refine we_lcR (fun k e => ∃ t, ts[k]? = some t ∧ e = .bl (plainB t)) ?_
      refine wi_tup kp_rel ?_
      walk_at "ev"
      refine ⟨encL_im ts, lim_lt (by rw [encL_len]; exact ts_len hz), fun k g' hlt => ?_, fun acc g' e1 e2 e3 => ?_⟩
      · rw [encL_len] at hlt
        have ht : ts[k]? = some ts[k] := List.getElem?_eq_getElem hlt
        rw [encL_getD ht]
        refine wg_name rfl rfl ?_
        walk_at "ev"
        exact ⟨_, ⟨ts[k], ⟨_, _, _, hk _ (List.getElem_mem hlt)⟩, kid_dp hd (List.getElem_mem hlt), kid_sz hz (List.getElem_mem hlt), rfl, rfl⟩, rfl, rfl, _, ht, rfl⟩
      · have := acc_map (f := fun t => .bl (plainB t)) (by rw [e1, encL_len]) e3
        have e4 : acc = (ts.map plainB).map D.bl := by rw [this, List.map_map]; rfl
        subst e4
        walk_at "ev"
        refine wc_all ?_
        refine ⟨rfl, ?_⟩
        show D.bl _ = .bl (plainLB ts)
        rw [plainLB_all]
    | name _ => walk_at "ev"; refine wr_inT (ss := ["input", "fixed"]) ?_; exact ⟨rfl, rfl⟩
    | fixed => walk_at "ev"; refine wr_inT (ss := ["input", "fixed"]) ?_; exact ⟨rfl, congrArg D.bl (decide_eq_true (by decide +kernel))⟩
    | input => walk_at "ev"; refine wr_inT (ss := ["input", "fixed"]) ?_; exact ⟨rfl, congrArg D.bl (decide_eq_true (by decide +kernel))⟩
    | letv _ _ => walk_at "ev"; refine wr_inT (ss := ["input", "fixed"]) ?_; exact ⟨rfl, congrArg D.bl (decide_eq_false (by decide +kernel))⟩
    | loop _ _ _ => walk_at "ev"; refine wr_inT (ss := ["input", "fixed"]) ?_; exact ⟨rfl, congrArg D.bl (decide_eq_false (by decide +kernel))⟩
    | pick _ _ _ => walk_at "ev"; refine wr_inT (ss := ["input", "fixed"]) ?_; exact ⟨rfl, congrArg D.bl (decide_eq_false (by decide +kernel))⟩
    | call _ _ _ => walk_at "ev"; refine wr_inT (ss := ["input", "fixed"]) ?_; exact ⟨rfl, congrArg D.bl (decide_eq_false (by decide +kernel))⟩
theorem inner_dec (t : Sf.T) : True := trivial
theorem ok_is_done (n : Nat) : FnOk P w K mg base CX0 (n + 2) T.is_done.a T.is_done.fd ["arg"] (spI K (R_done n)) := by
  have G_is_closed := ok_is_closed (P := P) (w := w) (base := base) T n
  have G_is_plain := ok_is_plain (P := P) (w := w) (base := base) T n
  refine def_I T.is_done.F sc_is_done (fun es r ⟨t, _, _, _, _, e, _⟩ => by subst e; rfl) (by decide) (fun cdv A outer s H E hr => ?_)
  have hr_is_closed := hr
  have hr_is_plain := hr
  refine ⟨_, (pss_cons (ps_if (pt_cmpR op_in_seq (pe_ix ix_tup (pv 0) pe_int (fun _ _ => rfl)) (pe_glob (by rfl) T.gINNER T.rINNER) (by rfl)) (pss_one (ps_ret (pe_call G_is_closed hr_is_closed (by rfl) T.is_closed.g T.is_closed.F.kp T.is_closed.b .nil pass0 (pa_cons (pv 0) pa_nil)))) pss_nil)
  (pss_one (ps_ret (pe_call G_is_plain hr_is_plain (by rfl) T.is_plain.g T.is_plain.F.kp T.is_plain.b .nil pass0 (pa_cons (pv 0) pa_nil))))), ?_⟩
  dsimp only [cxOf]
  rintro es r ⟨t, s, ⟨sg, X, C, wf⟩, hd, hz, rfl, rfl⟩
  have inn : ∀ {x : Str} {Γ : Ga} {g} {Q : QE (frm0 K H)}, Q (.bl (decide (x ∈ [("num" : Str), "count", "op"]))) g → WE (frm0 K H) (tC (.ref T.aI)) Γ g fun y g2 => WR (frm0 K H) (rIn K false) (.str x) y g2 Q := fun q =>
    we_const (d := .tup [.str "num", .str "count", .str "op"]) (fun H => ⟨_, _, rfl, T.sINNER H, rfl, rfl, rfl, trivial⟩) (wr_inT (ss := ["num", "count", "op"]) q)
  have e1 : ∀ (h : Hd) (ks : List Sf.T), innerB (.mk h ks) = true → doneB (.mk h ks) = closedB (.mk h ks) := fun h ks e => by unfold doneB; rw [if_pos e]
  have e2 : ∀ (h : Hd) (ks : List Sf.T), innerB (.mk h ks) = false → doneB (.mk h ks) = plainB (.mk h ks) := fun h ks e => by unfold doneB; rw [if_neg (by rw [e]; exact Bool.false_ne_true)]
  cases s with
  | false =>
    have wf0 := wf
    cases wf with
    | num a b => walk_at "ev"; refine inn ?_; walk_at "ev"; exact ⟨_, ⟨_, ⟨_, _, _, wf0⟩, hd, rfl, rfl⟩, rfl, rfl, by rw [e1 _ _ rfl]⟩
    | count _ => walk_at "ev"; refine inn ?_; walk_at "ev"; exact ⟨_, ⟨_, ⟨_, _, _, wf0⟩, hd, rfl, rfl⟩, rfl, rfl, by rw [e1 _ _ rfl]⟩
    | op _ _ _ => walk_at "ev"; refine inn ?_; walk_at "ev"; exact ⟨_, ⟨_, ⟨_, _, _, wf0⟩, hd, rfl, rfl⟩, rfl, rfl, by rw [e1 _ _ rfl]⟩
  | true =>
    have wf0 := wf
    cases wf with
    | name _ => walk_at "ev"; refine inn ?_; walk_at "ev"; exact ⟨_, ⟨_, ⟨_, _, _, wf0⟩, hd, hz, rfl, rfl⟩, rfl, rfl, by rw [e2 _ _ rfl]⟩
    | fixed => walk_at "ev"; refine inn ?_; walk_at "ev"; exact ⟨_, ⟨_, ⟨_, _, _, wf0⟩, hd, hz, rfl, rfl⟩, rfl, rfl, by rw [e2 _ _ rfl]⟩
    | input => walk_at "ev"; refine inn ?_; walk_at "ev"; exact ⟨_, ⟨_, ⟨_, _, _, wf0⟩, hd, hz, rfl, rfl⟩, rfl, rfl, by rw [e2 _ _ rfl]⟩
    | dov _ => walk_at "ev"; refine inn ?_; walk_at "ev"; exact ⟨_, ⟨_, ⟨_, _, _, wf0⟩, hd, hz, rfl, rfl⟩, rfl, rfl, by rw [e2 _ _ rfl]⟩
    | letv _ _ => walk_at "ev"; refine inn ?_; walk_at "ev"; exact ⟨_, ⟨_, ⟨_, _, _, wf0⟩, hd, hz, rfl, rfl⟩, rfl, rfl, by rw [e2 _ _ rfl]⟩
    | loop _ _ _ => walk_at "ev"; refine inn ?_; walk_at "ev"; exact ⟨_, ⟨_, ⟨_, _, _, wf0⟩, hd, hz, rfl, rfl⟩, rfl, rfl, by rw [e2 _ _ rfl]⟩
    | pick _ _ _ => walk_at "ev"; refine inn ?_; walk_at "ev"; exact ⟨_, ⟨_, ⟨_, _, _, wf0⟩, hd, hz, rfl, rfl⟩, rfl, rfl, by rw [e2 _ _ rfl]⟩
    | call _ _ _ => walk_at "ev"; refine inn ?_; walk_at "ev"; exact ⟨_, ⟨_, ⟨_, _, _, wf0⟩, hd, hz, rfl, rfl⟩, rfl, rfl, by rw [e2 _ _ rfl]⟩
theorem ok_can_step (n : Nat) : FnOk P w K mg base CX0 (n + 3) T.can_step.a T.can_step.fd ["term"] (spI K (R_can n)) := by
  have G_is_closed := ok_is_closed (P := P) (w := w) (base := base) T n
  have G_is_plain := ok_is_plain (P := P) (w := w) (base := base) T n
  have G_is_done := ok_is_done (P := P) (w := w) (base := base) T n
  refine def_I T.can_step.F sc_can_step (fun es r ⟨t, _, _, _, _, e, _⟩ => by subst e; rfl) (by decide) (fun cdv A outer s H E hr => ?_)
  have hr_is_closed := hr.mono (show n + 1 ≤ n + 2 by omega)
  have hr_is_plain := hr.mono (show n + 1 ≤ n + 2 by omega)
  have hr_is_done := hr
  refine ⟨_, (pss_cons (ps_set (i := 1) sc_can_step.nd rfl (by first | exact Or.inl rfl | exact Or.inr rfl) (pe_ix ix_tup (pv 0) pe_int (fun _ _ => rfl)))
  (pss_cons (ps_if (pt_cmpR op_eq (pv 1) pe_str (nomark _)) (pss_one (ps_ret (pe_call G_is_plain hr_is_plain (by rfl) T.is_plain.g T.is_plain.F.kp T.is_plain.b .nil pass0 (pa_cons (pe_ix ix_tup (pv 0) pe_int (fun _ _ => rfl)) pa_nil)))) pss_nil)
  (pss_cons (ps_if (pt_cmpR op_eq (pv 1) pe_str (nomark _)) (pss_one (ps_ret (pe_call G_is_closed hr_is_closed (by rfl) T.is_closed.g T.is_closed.F.kp T.is_closed.b .nil pass0 (pa_cons (pe_ix ix_tup (pv 0) pe_int (fun _ _ => rfl)) pa_nil)))) pss_nil)
  (pss_cons (ps_if (pt_cmpR op_eq (pv 1) pe_str (nomark _)) (pss_one (ps_ret (pe_call G_is_closed hr_is_closed (by rfl) T.is_closed.g T.is_closed.F.kp T.is_closed.b .nil pass0 (pa_cons (pe_ix ix_tup (pv 0) pe_int (fun _ _ => rfl)) pa_nil)))) pss_nil)
  (pss_cons (ps_if (pt_cmpR op_eq (pv 1) pe_str (nomark _)) (pss_one (ps_ret (pe_callB (cr_all rfl) (by rfl) T.nall (by decide +kernel) (pa_cons (pe_lc (own := [("arg", 2)]) (by rfl) sc_can_step.nd (pi_tup (pe_ix ix_tup (pv 0) pe_int (fun _ _ => rfl))) (blkOk_by (own := [("arg", 2)]) (N := ["term", "word", "arg"]) (sc := defScope (topS 25)) (by decide +kernel)) (fun _ _ _ _ _ => (pg_name (i := 2) sc_can_step.nd rfl (by first | exact Or.inl rfl | exact Or.inr rfl))) (fun _ _ _ _ _ => pts_nil) (fun _ _ _ _ _ => (pe_call G_is_done hr_is_done (by rfl) T.is_done.g T.is_done.F.kp T.is_done.b .nil pass0 (pa_cons (pv 2) pa_nil)))) pa_nil)))) pss_nil)
  (pss_one (ps_ret pe_bl))))))), ?_⟩
  dsimp only [cxOf]
  rintro es r ⟨t, s, ⟨sg, X, C, wf⟩, hd, hz, rfl, rfl⟩
  have up : ∀ {m : Nat}, m < n → m < n := fun h => h
  cases wf with
  | num _ _ => walk_at "ev"; exact ⟨rfl, rfl⟩
  | count _ => walk_at "ev"; exact ⟨rfl, rfl⟩
  | op _ _ _ => walk_at "ev"; exact ⟨rfl, rfl⟩
  | name _ => walk_at "ev"; exact ⟨rfl, rfl⟩
  | fixed => walk_at "ev"; exact ⟨rfl, rfl⟩
  | input => walk_at "ev"; exact ⟨rfl, rfl⟩
  | dov _ => walk_at "ev"; exact ⟨rfl, rfl⟩
  | letv wa wb => walk_at "ev"; exact ⟨_, ⟨_, ⟨_, _, _, wa⟩, Nat.lt_trans (dpL_mem List.mem_cons_self) hd, kid_sz hz List.mem_cons_self, rfl, rfl⟩, rfl, rfl, rfl⟩
  | loop wn wa wb => walk_at "ev"; exact ⟨_, ⟨_, ⟨_, _, _, wn⟩, Nat.lt_trans (dpL_mem List.mem_cons_self) hd, rfl, rfl⟩, rfl, rfl, rfl⟩
  | pick wn _ _ => walk_at "ev"; exact ⟨_, ⟨_, ⟨_, _, _, wn⟩, Nat.lt_trans (dpL_mem List.mem_cons_self) hd, rfl, rfl⟩, rfl, rfl, rfl⟩
  | @call _ _ f ts ss hf hl hk =>
    walk_at "ev"
    refine we_lcR (fun k e => ∃ t, ts[k]? = some t ∧ e = .bl (doneB t)) ?_
    refine wi_tup kp_rel ?_
    walk_at "ev"
    refine ⟨encL_im ts, lim_lt (by rw [encL_len]; exact ts_len hz), fun k g' hlt => ?_, fun acc g' e1 e2 e3 => ?_⟩
    · rw [encL_len] at hlt
      have ht : ts[k]? = some ts[k] := List.getElem?_eq_getElem hlt
      have hlt2 : k < ss.length := by rw [← hl]; exact hlt
      rw [encL_getD ht]
      refine wg_name rfl rfl ?_
      walk_at "ev"
      exact ⟨_, ⟨ts[k], ss[k], ⟨_, _, _, hk k _ _ ht (List.getElem?_eq_getElem hlt2)⟩, Nat.lt_trans (dpL_mem (List.getElem_mem hlt)) hd, kid_sz hz (List.getElem_mem hlt), rfl, rfl⟩, rfl, rfl, _, ht, rfl⟩
    · have := acc_map (f := fun t => .bl (doneB t)) (by rw [e1, encL_len]) e3
      have e4 : acc = (ts.map doneB).map D.bl := by rw [this, List.map_map]; rfl
      subst e4
      walk_at "ev"
      refine wc_all ?_
      refine ⟨rfl, ?_⟩
      show D.bl _ = .bl (ts.all doneB)
      rw [List.all_map]; rfl
end
end Sf
end
section
set_option Elab.async false
set_option linter.all false
set_option maxRecDepth 100000
set_option maxHeartbeats 1000000
namespace Sf
open PySem L2
open PyProof.Rows (envOfC)
local macro_rules | `(tactic| walk_at "evS") => `(tactic| first
  | with_reducible refine ws_seq ?_
  | with_reducible refine ws_if ?_
  | with_reducible refine ws_ret ?_
  | ((with_reducible refine' ws_newL ?hi ?_); (case hi => exact rfl))
  | ((with_reducible refine' ws_newD ?hi ?_); (case hi => exact rfl))
  | ((with_reducible refine' ws_listT ?hi ?_); (case hi => exact rfl))
  | ((with_reducible refine' ws_set ?hi ?_); (case hi => exact rfl))
  | with_reducible refine ws_next ?_)
local macro_rules | `(tactic| walk_at "evE2") => `(tactic| first
  | with_reducible refine we_tup ?_
  | ((with_reducible refine' we_lenO ?hv ?_); (case hv => exact rfl))
  | ((with_reducible refine' we_tupO ?hv ?_); (case hv => exact rfl))
  | with_reducible refine we_cb ?_
  | with_reducible refine we_callI ?_
  | with_reducible refine we_callL ?_
  | with_reducible refine we_sl ?_
  | with_reducible refine we_dget ?_
  | with_reducible refine we_get2 ?_
  | with_reducible refine we_ifE ?_
  | with_reducible refine we_andV ?_
  | with_reducible refine we_chain ?_
  | with_reducible refine we_dnewK ?_
  | with_reducible refine we_bl ?_
  | with_reducible refine we_non ?_)
local macro_rules | `(tactic| walk_at "evE") => `(tactic| first
  | ((with_reducible refine' we_var ?hv ?_); (case hv => exact rfl))
  | with_reducible refine we_int ?_
  | with_reducible refine we_str ?_
  | ((with_reducible refine' we_ixO ?hv ?_); (case hv => exact rfl))
  | with_reducible refine we_op ?_
  | walk_at "evE2")
local macro_rules | `(tactic| walk_at "evW") => `(tactic| first
  | ((with_reducible refine' wr_ixT ?hx ?he ?_); (case hx => exact rfl); (case he => first | exact rfl | exact at0 | exact at1 | exact at2 | exact at3))
  | with_reducible refine wr_eqS ?_
  | with_reducible refine wr_i0 ?_
  | with_reducible refine wr_b0 ?_
  | with_reducible refine wr_eqI ?_
  | with_reducible refine wr_neS ?_
  | ((with_reducible refine' wr_ixL ?he ?_); (case he => first | exact rfl | exact at0 | exact at1 | exact at2 | exact at3)))
local macro_rules | `(tactic| walk_at "evT") => `(tactic| first
  | with_reducible refine wt_test ?_
  | with_reducible refine wt_and ?_
  | with_reducible refine wt_or ?_
  | with_reducible refine wt_not ?_
  | with_reducible refine wt_b ?_)
local macro_rules | `(tactic| walk_at "evM") => `(tactic| first
  | ((with_reducible refine' sl_and ?hs ?_); (case hs => exact rfl))
  | ((with_reducible refine if_t ?hc ?_); (case hc => decide +kernel))
  | ((with_reducible refine if_f ?hc ?_); (case hc => decide +kernel))
  | with_reducible refine wo_none ?_
  | with_reducible refine wo_some ?_
  | ((with_reducible refine' wsl_T ?hx ?_); (case hx => exact rfl))
  | with_reducible refine wsl_L ?_
  | ((with_reducible refine' Exists.intro _ (And.intro ?hx ?_)); (case hx => exact rfl))
  | dsimp only)
local macro_rules | `(tactic| walk_at "ev1") => `(tactic| first
  | with_reducible refine wa_cons ?_
  | with_reducible refine wa_nil ?_
  | ((with_reducible show WE _ _ _ _ _); walk_at "evE")
  | ((with_reducible show WR _ _ _ _ _ _); walk_at "evW")
  | ((with_reducible show WS _ _ _ _ _); walk_at "evS")
  | ((with_reducible show WT _ _ _ _ _); walk_at "evT")
  | walk_at "evM")
local macro_rules | `(tactic| walk_at "ev") => `(tactic| repeat walk_at "ev1")

theorem sc_number_put : FnScope ["number", "counts"] ["number", "counts"] (defScope (topS 9)) := ⟨rfl, rfl, rfl, by decide +kernel, rfl, by decide +kernel, by decide +kernel⟩
theorem cut2 (a b : D) (r : List D) : cutD (a :: b :: r) (some 2) none = r := by
  unfold cutD
  rw [show HT.sIx (a :: b :: r).length 0 (some 2) = 2 from by rw [show (some 2 : Option Int) = some ((2 : Nat) : Int) from rfl, HT.sIx_nat]; simp, HT.sIx_none]
  show List.take ((a :: b :: r).length - 2) r = r
  exact List.take_of_length_le (by simp)
theorem cut4 (a b c d : D) (r : List D) : cutD (a :: b :: c :: d :: r) (some 4) none = r := by
  unfold cutD
  rw [show HT.sIx (a :: b :: c :: d :: r).length 0 (some 4) = 4 from by rw [show (some 4 : Option Int) = some ((4 : Nat) : Int) from rfl, HT.sIx_nat]; simp, HT.sIx_none]
  show List.take ((a :: b :: c :: d :: r).length - 4) r = r
  exact List.take_of_length_le (by simp)
theorem cutH2 (a b : D) (r : List D) : cutD (a :: b :: r) none (some 2) = [a, b] := by
  unfold cutD
  rw [show HT.sIx (a :: b :: r).length (a :: b :: r).length (some 2) = 2 from by rw [show (some 2 : Option Int) = some ((2 : Nat) : Int) from rfl, HT.sIx_nat]; simp, HT.sIx_none]
  rfl
theorem cut1 (a : D) (r : List D) : cutD (a :: r) (some 1) none = r := by
  unfold cutD
  rw [show HT.sIx (a :: r).length 0 (some 1) = 1 from by rw [show (some 1 : Option Int) = some ((1 : Nat) : Int) from rfl, HT.sIx_nat]; simp, HT.sIx_none]
  show List.take ((a :: r).length - 1) r = r
  exact List.take_of_length_le (by simp)
section
variable {P : Program} {w : World} {K : PySem.W.Frag} {mg : Str → Option Value} {base : Heap} (T : Tx K mg)
theorem ok_parts_in : FnOk P w K mg base CX0 1 T.parts_in.a T.parts_in.fd ["term"] (spI K R_pin) := by
  refine def_I T.parts_in.F sc_parts_in (fun es r ⟨t, _, _, _, e, _⟩ => by subst e; rfl) (by decide) (fun cdv A outer s H E hr => ?_)
  refine ⟨_, (pss_cons (ps_set (i := 1) sc_parts_in.nd rfl (by first | exact Or.inl rfl | exact Or.inr rfl) (pe_ix ix_tup (pv 0) pe_int (fun _ _ => rfl)))
  (pss_cons (ps_if (PW.pt (pw_or (pt_cmpR op_eq (pv 1) pe_str (nomark _)) (pw_or1 (pt_cmpR op_eq (pv 1) pe_str (nomark _))))) (pss_one (ps_ret (pe_ix ix_tup (pv 0) pe_int (fun _ _ => rfl)))) pss_nil)
  (pss_cons (ps_if (PW.pt (pw_or (pt_cmpR op_eq (pv 1) pe_str (nomark _)) (pw_or1 (pt_cmpR op_eq (pv 1) pe_str (nomark _))))) (pss_one (ps_ret (pe_slice sl_tupA (pv 0) (po_some pe_int) po_none))) pss_nil)
  (pss_cons (ps_if (pt_cmpR op_eq (pv 1) pe_str (nomark _)) (pss_one (ps_ret (pe_op op_catA (pe_tup (pa_cons (pe_ix ix_tup (pv 0) pe_int (fun _ _ => rfl)) pa_nil)) (pe_slice sl_tupA (pv 0) (po_some pe_int) po_none)))) pss_nil)
  (pss_cons (ps_if (pt_cmpR op_eq (pv 1) pe_str (nomark _)) (pss_one (ps_ret (pe_op op_catA (pe_tup (pa_cons (pe_ix ix_tup (pv 0) pe_int (fun _ _ => rfl)) pa_nil)) (pe_ix ix_tup (pv 0) pe_int (fun _ _ => rfl))))) pss_nil)
  (pss_one (ps_ret (pe_tup pa_nil)))))))), ?_⟩
  dsimp only [cxOf]
  rintro es r ⟨t, s, ⟨sg, X, C, wf⟩, hz, rfl, rfl⟩
  cases wf with
  | num _ _ => walk_at "ev"; exact ⟨rfl, rfl⟩
  | count _ => walk_at "ev"; exact ⟨rfl, rfl⟩
  | op _ _ _ => walk_at "ev"; rw [cut2]; exact ⟨encL_im _, rfl⟩
  | name _ => walk_at "ev"; exact ⟨rfl, rfl⟩
  | fixed => walk_at "ev"; exact ⟨rfl, rfl⟩
  | input => walk_at "ev"; exact ⟨rfl, rfl⟩
  | dov _ => walk_at "ev"; exact ⟨encL_im _, rfl⟩
  | letv _ _ => walk_at "ev"; rw [cut2]; exact ⟨encL_im _, rfl⟩
  | @loop _ _ i x n a b _ _ _ =>
    walk_at "ev"
    refine wr_catT rfl rfl (by rw [cut4]; exact lim_line (n := 3) (by decide)) ?_
    rw [cut4]
    exact ⟨encL_im [n, a, b], rfl⟩
  | @pick _ _ n ts _ _ _ =>
    walk_at "ev"
    refine wr_catT rfl rfl (by rw [encL_len]; have := ts_len hz; exact lim_line (show 1 + ts.length ≤ LIM by have e : (Sf.T.mk .pick (n :: ts)).sz = 1 + (n.sz + szL ts) := rfl; have := len_le_szL ts; omega)) ?_
    exact ⟨encL_im (n :: ts), rfl⟩
  | call _ _ _ => walk_at "ev"; exact ⟨encL_im _, rfl⟩
theorem ok_with_parts : FnOk P w K mg base CX0 1 T.with_parts.a T.with_parts.fd ["term", "some"] (spI K R_wp) := by
  refine def_I T.with_parts.F sc_with_parts (fun es r ⟨_, _, _, _, _, _, _, e, _⟩ => by subst e; rfl) (by decide) (fun cdv A outer s H E hr => ?_)
  refine ⟨_, (pss_cons (ps_set (i := 1) sc_with_parts.nd rfl (by first | exact Or.inl rfl | exact Or.inr rfl) (pe_callTy call_tuple_of (by rfl) T.ntuple (by decide +kernel) (pa_cons (pv 1) pa_nil)))
  (pss_cons (ps_set (i := 2) sc_with_parts.nd rfl (by first | exact Or.inl rfl | exact Or.inr rfl) (pe_ix ix_tup (pv 0) pe_int (fun _ _ => rfl)))
  (pss_cons (ps_if (PW.pt (pw_or (pt_cmpR op_eq (pv 2) pe_str (nomark _)) (pw_or1 (pt_cmpR op_eq (pv 2) pe_str (nomark _))))) (pss_one (ps_ret (pe_op op_catA (pe_slice sl_tupA (pv 0) po_none (po_some pe_int)) (pe_tup (pa_cons (pv 1) pa_nil))))) pss_nil)
  (pss_cons (ps_if (PW.pt (pw_or (pt_cmpR op_eq (pv 2) pe_str (nomark _)) (pw_or1 (pt_cmpR op_eq (pv 2) pe_str (nomark _))))) (pss_one (ps_ret (pe_op op_catA (pe_slice sl_tupA (pv 0) po_none (po_some pe_int)) (pv 1)))) pss_nil)
  (pss_cons (ps_if (pt_cmpR op_eq (pv 2) pe_str (nomark _)) (pss_one (ps_ret (pe_op op_catA (pe_tup (pa_cons (pv 2) (pa_cons (pe_ix ix_tup (pv 0) pe_int (fun _ _ => rfl)) (pa_cons (pe_ix ix_tup (pv 1) pe_int (fun _ _ => rfl)) (pa_cons (pe_ix ix_tup (pv 0) pe_int (fun _ _ => rfl)) pa_nil))))) (pe_slice sl_tupA (pv 1) (po_some pe_int) po_none)))) pss_nil)
  (pss_cons (ps_if (pt_cmpR op_eq (pv 2) pe_str (nomark _)) (pss_one (ps_ret (pe_tup (pa_cons (pv 2) (pa_cons (pe_ix ix_tup (pv 1) pe_int (fun _ _ => rfl)) (pa_cons (pe_slice sl_tupA (pv 1) (po_some pe_int) po_none) pa_nil)))))) pss_nil)
  (pss_one (ps_ret (pv 0))))))))), ?_⟩
  dsimp only [cxOf]
  rintro es r ⟨h, ks, ks', s, ⟨sg, X, C, wf⟩, hz, hl, rfl, rfl⟩
  have hll : ks'.length ≤ LIM := by rw [hl]; exact ts_len hz
  cases wf with
  | num _ _ =>
    obtain rfl : ks' = [] := List.length_eq_zero_iff.mp hl
    walk_at "ev"; refine wc_tupL ?_; walk_at "ev"; exact ⟨rfl, rfl⟩
  | count _ =>
    obtain rfl : ks' = [] := List.length_eq_zero_iff.mp hl
    walk_at "ev"; refine wc_tupL ?_; walk_at "ev"; exact ⟨rfl, rfl⟩
  | name _ =>
    obtain rfl : ks' = [] := List.length_eq_zero_iff.mp hl
    walk_at "ev"; refine wc_tupL ?_; walk_at "ev"; exact ⟨rfl, rfl⟩
  | fixed =>
    obtain rfl : ks' = [] := List.length_eq_zero_iff.mp hl
    walk_at "ev"; refine wc_tupL ?_; walk_at "ev"; exact ⟨rfl, rfl⟩
  | input =>
    obtain rfl : ks' = [] := List.length_eq_zero_iff.mp hl
    walk_at "ev"; refine wc_tupL ?_; walk_at "ev"; exact ⟨rfl, rfl⟩
  | op _ _ _ =>
    walk_at "ev"; refine wc_tupL ?_; walk_at "ev"
    refine wr_catT rfl rfl ?_ ?_
    · rw [cutH2, encL_len]; exact lim_line (show 2 + ks'.length ≤ LIM by rw [hl]; exact (by decide : 2 + 2 ≤ LIM))
    · rw [cutH2]; exact ⟨encL_im _, rfl⟩
  | letv _ _ =>
    walk_at "ev"; refine wc_tupL ?_; walk_at "ev"
    refine wr_catT rfl rfl ?_ ?_
    · rw [cutH2, encL_len]; exact lim_line (show 2 + ks'.length ≤ LIM by rw [hl]; exact (by decide : 2 + 2 ≤ LIM))
    · rw [cutH2]; exact ⟨encL_im _, rfl⟩
  | dov _ =>
    walk_at "ev"; refine wc_tupL ?_; walk_at "ev"
    refine wr_catT rfl rfl ?_ ?_
    · rw [cutH2]; exact lim_line (n := 3) (by decide)
    · rw [cutH2]; exact ⟨enc_im (.mk (.dov _) ks'), rfl⟩
  | call _ _ _ =>
    walk_at "ev"; refine wc_tupL ?_; walk_at "ev"
    refine wr_catT rfl rfl ?_ ?_
    · rw [cutH2]; exact lim_line (n := 3) (by decide)
    · rw [cutH2]; exact ⟨enc_im (.mk (.call _) ks'), rfl⟩
  | loop _ _ _ =>
    obtain ⟨n', r', rfl⟩ : ∃ n' r', ks' = n' :: r' := by cases ks' with | nil => cases hl | cons n' r' => exact ⟨n', r', rfl⟩
    walk_at "ev"; refine wc_tupL ?_; walk_at "ev"
    refine wr_catT rfl rfl ?_ ?_
    · rw [show encL (n' :: r') = enc n' :: encL r' from rfl, cut1, encL_len]
      have : r'.length + 1 ≤ LIM := hll
      have : r'.length = 2 := by simpa using hl
      exact lim_line (show 4 + r'.length ≤ 1000000 by omega)
    · rw [show encL (n' :: r') = enc n' :: encL r' from rfl, cut1]; exact ⟨enc_im (.mk (.loop _ _) (n' :: r')), rfl⟩
  | pick _ _ _ =>
    obtain ⟨n', r', rfl⟩ : ∃ n' r', ks' = n' :: r' := by cases ks' with | nil => cases hl | cons n' r' => exact ⟨n', r', rfl⟩
    walk_at "ev"; refine wc_tupL ?_; walk_at "ev"
    rw [show encL (n' :: r') = enc n' :: encL r' from rfl, cut1]
    exact ⟨enc_im (.mk .pick (n' :: r')), rfl⟩
theorem kids_wfx {s : Bool} {h : Hd} {ks : List Sf.T} (w : Wfx s (.mk h ks)) {k : Sf.T} (hk : k ∈ ks) : ∃ s', Wfx s' k := by
  obtain ⟨sg, X, C, wf⟩ := w
  cases wf with
  | num _ _ => cases hk
  | count _ => cases hk
  | name _ => cases hk
  | fixed => cases hk
  | input => cases hk
  | op _ w1 w2 => rcases List.mem_cons.mp hk with rfl | hk
                  · exact ⟨_, _, _, _, w1⟩
                  · rcases List.mem_cons.mp hk with rfl | hk
                    · exact ⟨_, _, _, _, w2⟩
                    · cases hk
  | dov h => exact ⟨_, _, _, _, h k hk⟩
  | letv w1 w2 => rcases List.mem_cons.mp hk with rfl | hk
                  · exact ⟨_, _, _, _, w1⟩
                  · rcases List.mem_cons.mp hk with rfl | hk
                    · exact ⟨_, _, _, _, w2⟩
                    · cases hk
  | loop w0 w1 w2 => rcases List.mem_cons.mp hk with rfl | hk
                     · exact ⟨_, _, _, _, w0⟩
                     · rcases List.mem_cons.mp hk with rfl | hk
                       · exact ⟨_, _, _, _, w1⟩
                       · rcases List.mem_cons.mp hk with rfl | hk
                         · exact ⟨_, _, _, _, w2⟩
                         · cases hk
  | pick w0 _ h => rcases List.mem_cons.mp hk with rfl | hk
                   · exact ⟨_, _, _, _, w0⟩
                   · exact ⟨_, _, _, _, h k hk⟩
  | call hf hl h =>
    obtain ⟨j, hj⟩ := List.mem_iff_getElem?.mp hk
    have hlt := (List.getElem?_eq_some_iff.mp hj).1
    rw [hl] at hlt
    exact ⟨_, _, _, _, h j k _ hj (List.getElem?_eq_getElem hlt)⟩
theorem ok_parts : ∀ n : Nat, FnOk P w K mg base CX0 (n + 1) T.parts.a T.parts.fd ["term"] (spL K (R_parts n))
  | 0 => none_L fun es r ⟨t, _, _, h, _⟩ => absurd h (Nat.not_lt_zero _)
  | n + 1 => by
    have G_parts := ok_parts n
    have G_parts_in := ok_parts_in (P := P) (w := w) (base := base) T
    refine def_L T.parts.F sc_parts (fun es r ⟨_, _, _, _, _, e, _⟩ => by subst e; rfl) (by decide) (fun cdv A outer s H E hr => ?_)
    have hr_parts := hr
    have hr_parts_in := hr.mono (show 1 ≤ n + 1 by omega)
    refine ⟨_, (pss_cons (ps_set (i := 1) sc_parts.nd rfl (by first | exact Or.inl rfl | exact Or.inr rfl) (pe_lst (pa_cons (pv 0) pa_nil)))
  (pss_cons (ps_for PassesOwn.never rfl (pi_tup (pe_call G_parts_in hr_parts_in (by rfl) T.parts_in.g T.parts_in.F.kp T.parts_in.b .nil pass0 (pa_cons (pv 0) pa_nil))) (pg_name (i := 2) sc_parts.nd rfl (by first | exact Or.inl rfl | exact Or.inr rfl)) (pss_one (ps_expr (pe_bm PySem.F.plainAttrs_list PySem.F.slot_list_extend PySem.F.type_list_extend mt_extend (pv 1) (pa_cons (pe_call G_parts hr_parts (by rfl) T.parts.g T.parts.F.kp T.parts.b .nil pass0 (pa_cons (pv 2) pa_nil)) pa_nil)))))
  (pss_one (ps_ret (pv 1))))), ?_⟩
    dsimp only [cxOf]
    rintro es r ⟨⟨h, ks⟩, s, wf, hd, hz, rfl, rfl⟩
    walk_at "ev"
    refine ⟨by show ((enc (Sf.T.mk h ks)).im && true) = true; rw [enc_im]; rfl, ?_⟩
    walk_at "ev"
    refine ws_for (wi_tup tk_rel ?_)
    walk_at "ev"
    refine ⟨_, ⟨_, _, wf, hz, rfl, rfl⟩, encL_im ks, _, rfl, encL_im ks, ?_⟩
    refine ⟨fun i Γ' _ => ∃ x, Γ' = [some (.d (enc (.mk h ks))), some (.own ((Sf.T.mk h ks :: partsL (ks.take i)).map enc)), x], ⟨none, rfl⟩, fun i Γ' g' hlt ⟨x, e⟩ => ?_, fun Γ' g' ⟨x, e⟩ => ?_⟩
    · subst e
      rw [encL_len] at hlt
      have ht : ks[i]? = some ks[i] := List.getElem?_eq_getElem hlt
      rw [encL_getD ht]
      refine wg_name rfl rfl ?_
      obtain ⟨s', wk⟩ := kids_wfx wf (List.getElem_mem hlt)
      have tk : partsL (ks.take (i + 1)) = partsL (ks.take i) ++ (ks[i]).parts := by
        unfold partsL
        rw [List.take_add_one, ht, List.flatMap_append]
        show _ ++ ((ks[i]).parts ++ []) = _
        rw [List.append_nil]
      have szt : ((Sf.T.mk h ks :: partsL (ks.take i)).map enc).length + ((ks[i]).parts.map enc).length ≤ (Sf.T.mk h ks).sz := by
        have e1 : (Sf.T.mk h ks).parts.length = (Sf.T.mk h ks).sz := parts_len _
        rw [parts_eq] at e1
        have e2 : (partsL ks).length = (partsL (ks.take i)).length + (ks[i]).parts.length + (partsL (ks.drop (i + 1))).length := by
          conv => lhs; rw [← List.take_append_drop (i + 1) ks]
          unfold partsL
          rw [List.flatMap_append, List.length_append]
          have := congrArg List.length tk
          unfold partsL at this
          rw [List.length_append] at this
          rw [this]
        rw [← e1, List.length_map, List.length_map, List.length_cons, List.length_cons, e2]
        omega
      refine ws_extend rfl ?_
      walk_at "ev"
      refine ⟨_, ⟨ks[i], s', wk, kid_dp hd (List.getElem_mem hlt), kid_sz hz (List.getElem_mem hlt), rfl, rfl⟩, _, rfl, ?_, lim_line (Nat.le_trans szt hz), some (.d (enc ks[i])), ?_⟩
      · rw [← encL_map]; exact encL_im _
      · rw [tk, ← List.map_append, ← List.cons_append]; rfl
    · subst e
      refine ws_retO rfl ?_
      rw [encL_len, List.take_length, parts_eq]
theorem ok_part_at : FnOk P w K mg base CX0 2 T.part_at.a T.part_at.fd ["term", "place"] (spI K R_pat) := by
  have G_parts_in := ok_parts_in (P := P) (w := w) (base := base) T
  refine def_I T.part_at.F sc_part_at (fun es r ⟨_, _, _, _, _, _, _, e, _⟩ => by subst e; rfl) (by decide) (fun cdv A outer s H E hr => ?_)
  have hr_parts_in := hr
  refine ⟨_, (pss_cons (ps_for PassesOwn.never rfl (pi_tup (pv 1)) (pg_name (i := 2) sc_part_at.nd rfl (by first | exact Or.inl rfl | exact Or.inr rfl)) (pss_cons (ps_set (i := 3) sc_part_at.nd rfl (by first | exact Or.inl rfl | exact Or.inr rfl) (pe_call G_parts_in hr_parts_in (by rfl) T.parts_in.g T.parts_in.F.kp T.parts_in.b .nil pass0 (pa_cons (pv 0) pa_nil)))
  (pss_cons (ps_if (pt_not (pt_chain op_le op_lt pe_int (pv 2) (pe_callB call_len (by rfl) T.nlen PySem.boot_len (pa_cons (pv 3) pa_nil)))) (pss_one (ps_ret pe_non)) pss_nil)
  (pss_one (ps_set (i := 0) sc_part_at.nd rfl (by first | exact Or.inl rfl | exact Or.inr rfl) (pe_ix ix_tup (pv 3) (pv 2) (fun _ _ => rfl)))))))
  (pss_one (ps_ret (pv 0)))), ?_⟩
  dsimp only [cxOf]
  rintro es r ⟨t, s, p, u, wf, hz, hp, rfl, rfl⟩
  walk_at "ev"
  refine ws_for (wi_tup tk_rel ?_)
  walk_at "ev"
  have pim : imL (p.map fun (k : Nat) => D.int (k : Int)) = true := imL_iff.mpr fun d hd => by obtain ⟨k, _, rfl⟩ := List.mem_map.mp hd; rfl
  refine ⟨pim, fun i Γ' _ => ∃ t' x y, Γ' = [some (.d (enc t')), some (.d (.tup (p.map fun (k : Nat) => .int (k : Int)))), x, y] ∧ (∃ s', Wfx s' t') ∧ t'.sz ≤ LIM ∧ partAt t' (p.drop i) = some u, ⟨t, none, none, rfl, ⟨s, wf⟩, hz, by rw [List.drop_zero]; exact hp⟩, fun i Γ' g' hlt ⟨t', x, y, e, ⟨s', w'⟩, hz', hp'⟩ => ?_, fun Γ' g' ⟨t', x, y, e, _, _, hp'⟩ => ?_⟩
  · subst e
    rw [List.length_map] at hlt
    have hk : (p.map fun (k : Nat) => D.int (k : Int)).getD i .non = .int ((p[i] : Nat) : Int) := by
      rw [List.getD_eq_getElem?_getD, List.getElem?_map, List.getElem?_eq_getElem hlt]; rfl
    rw [hk]
    refine wg_name rfl rfl ?_
    walk_at "ev"
    refine ⟨_, ⟨t', s', w', hz', rfl, rfl⟩, encL_im _, ?_⟩
    walk_at "ev"
    obtain ⟨h, ks⟩ := t'
    rw [List.drop_eq_getElem_cons hlt] at hp'
    cases e : ks[p[i]]? with
    | none => simp [partAt, e] at hp'
    | some k =>
      simp only [partAt, e] at hp'
      have hlt2 : p[i] < ks.length := (List.getElem?_eq_some_iff.mp e).1
      have hmem : k ∈ ks := List.mem_of_getElem? e
      refine if_t (decide_eq_true (Int.natCast_nonneg _)) ?_
      walk_at "ev"
      refine wc_len (n := ks.length) (encL_len ks).symm ?_
      walk_at "ev"
      refine if_f (by rw [decide_eq_true (show ((p[i] : Nat) : Int) < ((ks.length : Nat) : Int) by omega)]; decide) ?_
      walk_at "ev"
      obtain ⟨s2, wk⟩ := kids_wfx w' hmem
      exact wr_ixT rfl (atI_nat (by rw [encL_get]; show (ks[p[i]]?).map enc = some (enc k); rw [e]; rfl)) ⟨k, _, _, rfl, ⟨s2, wk⟩, kid_sz hz' hmem, hp'⟩
  · subst e
    rw [List.length_map, List.drop_length] at hp'
    walk_at "ev"
    obtain rfl := Option.some.inj hp'
    exact ⟨enc_im _, rfl⟩
end
end Sf
end
section
set_option Elab.async false
set_option linter.all false
set_option maxRecDepth 100000
set_option maxHeartbeats 1000000
namespace Sf
open PySem L2
open PyProof.Rows (envOfC)
local macro_rules | `(tactic| walk_at "evS") => `(tactic| first
  | with_reducible refine ws_seq ?_
  | with_reducible refine ws_if ?_
  | with_reducible refine ws_ret ?_
  | ((with_reducible refine' ws_newL ?hi ?_); (case hi => exact rfl))
  | ((with_reducible refine' ws_newD ?hi ?_); (case hi => exact rfl))
  | ((with_reducible refine' ws_listT ?hi ?_); (case hi => exact rfl))
  | ((with_reducible refine' ws_set ?hi ?_); (case hi => exact rfl))
  | with_reducible refine ws_next ?_)
local macro_rules | `(tactic| walk_at "evE2") => `(tactic| first
  | with_reducible refine we_tup ?_
  | ((with_reducible refine' we_lenO ?hv ?_); (case hv => exact rfl))
  | ((with_reducible refine' we_tupO ?hv ?_); (case hv => exact rfl))
  | with_reducible refine we_cb ?_
  | with_reducible refine we_callI ?_
  | with_reducible refine we_callL ?_
  | with_reducible refine we_sl ?_
  | with_reducible refine we_dget ?_
  | with_reducible refine we_get2 ?_
  | with_reducible refine we_ifE ?_
  | with_reducible refine we_andV ?_
  | with_reducible refine we_chain ?_
  | with_reducible refine we_dnewK ?_
  | with_reducible refine we_bl ?_
  | with_reducible refine we_non ?_)
local macro_rules | `(tactic| walk_at "evE") => `(tactic| first
  | ((with_reducible refine' we_var ?hv ?_); (case hv => exact rfl))
  | with_reducible refine we_int ?_
  | with_reducible refine we_str ?_
  | ((with_reducible refine' we_ixO ?hv ?_); (case hv => exact rfl))
  | with_reducible refine we_op ?_
  | walk_at "evE2")
local macro_rules | `(tactic| walk_at "evW") => `(tactic| first
  | ((with_reducible refine' wr_ixT ?hx ?he ?_); (case hx => exact rfl); (case he => first | exact rfl | exact at0 | exact at1 | exact at2 | exact at3))
  | with_reducible refine wr_eqS ?_
  | with_reducible refine wr_i0 ?_
  | with_reducible refine wr_b0 ?_
  | with_reducible refine wr_eqI ?_
  | with_reducible refine wr_neS ?_
  | ((with_reducible refine' wr_ixL ?he ?_); (case he => first | exact rfl | exact at0 | exact at1 | exact at2 | exact at3)))
local macro_rules | `(tactic| walk_at "evT") => `(tactic| first
  | with_reducible refine wt_test ?_
  | with_reducible refine wt_and ?_
  | with_reducible refine wt_or ?_
  | with_reducible refine wt_not ?_
  | with_reducible refine wt_b ?_)
local macro_rules | `(tactic| walk_at "evM") => `(tactic| first
  | ((with_reducible refine' sl_and ?hs ?_); (case hs => exact rfl))
  | ((with_reducible refine if_t ?hc ?_); (case hc => decide +kernel))
  | ((with_reducible refine if_f ?hc ?_); (case hc => decide +kernel))
  | with_reducible refine wo_none ?_
  | with_reducible refine wo_some ?_
  | ((with_reducible refine' wsl_T ?hx ?_); (case hx => exact rfl))
  | with_reducible refine wsl_L ?_
  | ((with_reducible refine' Exists.intro _ (And.intro ?hx ?_)); (case hx => exact rfl))
  | dsimp only)
local macro_rules | `(tactic| walk_at "ev1") => `(tactic| first
  | with_reducible refine wa_cons ?_
  | with_reducible refine wa_nil ?_
  | ((with_reducible show WE _ _ _ _ _); walk_at "evE")
  | ((with_reducible show WR _ _ _ _ _ _); walk_at "evW")
  | ((with_reducible show WS _ _ _ _ _); walk_at "evS")
  | ((with_reducible show WT _ _ _ _ _); walk_at "evT")
  | walk_at "evM")
local macro_rules | `(tactic| walk_at "ev") => `(tactic| repeat walk_at "ev1")

theorem sc_without : FnScope ["known", "name", "key"] ["known", "name"] (defScope (topS 10)) := ⟨rfl, rfl, rfl, by decide +kernel, rfl, by decide +kernel, by decide +kernel⟩
theorem valV_at : ∀ {ws : List (Key × V)} {i : Nat} {k : Key} {v : V}, (ws.map (·.1)).Nodup → ws[i]? = some (k, v) → valV ws k = some v
  | [], _, _, _, _, e => by simp at e
  | w :: ws, 0, k, v, _, e => by obtain rfl := Option.some.inj e; exact valV_pos rfl
  | w :: ws, i + 1, k, v, hn, e => by
    have hn' := List.nodup_cons.mp hn
    have e' : ws[i]? = some (k, v) := e
    rw [valV_neg (fun q => hn'.1 (List.mem_map.mpr ⟨(k, v), List.mem_of_getElem? e', q.symm⟩))]
    exact valV_at hn'.2 e'
theorem keep_is {K : PySem.W.Frag} {H : Hp} (nm : Str) : ∀ (ks : List Str) (ds : List D) (ws : List (Key × V)) (as : List Addr), ws.map (·.1) = ks.map Sum.inr → IsL K AT AT H (ws.map (·.2)) ds →
    Paired (fun (t : Addr) (q : Key × V) => H t = some (.tup [kV q.1, q.2])) as (ws.filter fun kv => !decide (kv.1 = Sum.inr nm)) → IsL K AT AT H (as.map V.ref) ((rmP (zipD ks ds) nm).map fun p => pairD p.1 p.2)
  | [], [], [], as, _, _, pr => by cases pr; trivial
  | [], _ :: _, [], _, _, h, _ => h.elim
  | [], _, _ :: _, _, e, _, _ => by cases e
  | _ :: _, _, [], _, e, _, _ => by cases e
  | k :: ks, [], (k', v) :: ws, _, _, h, _ => h.elim
  | k :: ks, d :: ds, (k', v) :: ws, as, e, h, pr => by
    have e1 : k' = Sum.inr k := (List.cons.inj e).1
    subst e1
    show IsL K AT AT H (as.map V.ref) ((rmP ((k, d) :: zipD ks ds) nm).map fun p => pairD p.1 p.2)
    unfold rmP
    rw [List.filter_cons] at pr ⊢
    by_cases c : k = nm
    · rw [if_neg (by simp [c])] at pr ⊢
      exact keep_is nm ks ds ws as (List.cons.inj e).2 h.2 pr
    · have c' : ¬ (Sum.inr k : Key) = Sum.inr nm := fun q => c (Sum.inr.inj q)
      rw [if_pos (by simp [c'])] at pr
      rw [if_pos (by simp [c])]
      cases pr with
      | cons hp r => exact ⟨⟨_, _, rfl, .of hp, rfl, h.1, trivial⟩, keep_is nm ks ds ws _ (List.cons.inj e).2 h.2 r⟩
theorem pair_snoc {α β : Type} {R : α → β → Prop} {xs : List α} {ys : List β} (h : Paired R xs ys) {x : α} {y : β} (q : R x y) : Paired R (xs ++ [x]) (ys ++ [y]) := by
  induction h with
  | nil => exact .cons q .nil
  | cons a _ ih => exact .cons a ih
theorem pair_mono {α β : Type} {R R' : α → β → Prop} {xs : List α} {ys : List β} (h : Paired R xs ys) (q : ∀ x y, R x y → R' x y) : Paired R' xs ys := by
  induction h with
  | nil => exact .nil
  | cons a _ ih => exact .cons (q _ _ a) ih
section
variable {M : Frm} {Γ : Ga} {g : M.G} {Q : QE M}
theorem we_lockKeys {n : Nat} {f : Str → Option D} {ks : List Str} {ds : List D} {nm : Str} (h0 : Γ[0]? = some (some (.d (.dict ks ds)))) (h1 : Γ[1]? = some (some (.d (.str nm)))) (h2 : 2 < Γ.length) (S : SubD n f ks ds) (hn : n < sizeLine)
    (q : Q (.lst ((rmP (zipD ks ds) nm).map fun p => pairD p.1 p.2)) g) : WE M (tLockE (tLc (iKeys (tVar 0)) (gName 2) (tTest (tOp rNe (tVar 2) (tVar 1))) (tTup (tCons (tVar 2) (tCons (tDGet (tVar 0) (tVar 2)) tNil))) [2])) Γ g Q := fun σ H o j Q' p => by
  obtain ⟨v, e0, a, ws, rfl, n1, n2, hH, hk, hl⟩ := o.at' 0 _ h0
  obtain ⟨v1, e1, ev⟩ := o.at' 1 _ h1
  obtain rfl : v1 = .str nm := ev
  have h2' : 2 < σ.length := by rw [o.len]; exact h2
  refine ⟨a, .dK ws, hH, trivial, fun od => ?_⟩
  refine ⟨_, e0, a, od, rfl, .inl ⟨ws, upd_same, fun L hL => ?_⟩⟩
  have hLa : L ≠ a := fun z => by rw [z, upd_same] at hL; cases hL
  have hL' : H L = none := by rw [upd_ne hLa] at hL; exact hL
  have wl : ws.length = ks.length := by have := congrArg List.length hk; rwa [List.length_map, List.length_map] at this
  have wnd : (ws.map (·.1)).Nodup := by
    rw [hk]
    exact List.Pairwise.map _ (fun x y h e => h (Sum.inr.inj e)) S.nd
  have wle : ws.length < sizeLine := by rw [wl]; exact Nat.lt_of_le_of_lt S.le hn
  refine ⟨fun i m H' => m = ws.length - i ∧ i ≤ ws.length ∧ ∃ as : List Addr, H' a = some (.frz od (.dK ws)) ∧ (∀ b o, b ≠ a → H b = some o → H' b = some o) ∧ H' L = some (.lst (as.map V.ref)) ∧
    Paired (fun (t : Addr) (q : Key × V) => H' t = some (.tup [kV q.1, q.2])) as ((ws.take i).filter fun kv => !decide (kv.1 = Sum.inr nm)) ∧ as.length ≤ i, ⟨ws.length, by simp, Nat.zero_le _, [], by rw [upd_ne (Ne.symm hLa), upd_same], fun b o hb e => by rw [upd_ne (ne_of_none e hL'), upd_ne hb]; exact e, upd_same, .nil, Nat.zero_le _⟩, ?_⟩
  rintro i m H' ⟨rfl, hi, as, ea, keep, eL, pr, hlen⟩
  by_cases hlt : i < ws.length
  · refine .inr ⟨⟨ea, hlt⟩, fun H2 => ∃ as : List Addr, H2 a = some (.frz od (.dK ws)) ∧ (∀ b o, b ≠ a → H b = some o → H2 b = some o) ∧ H2 L = some (.lst (as.map V.ref)) ∧
      Paired (fun (t : Addr) (q : Key × V) => H2 t = some (.tup [kV q.1, q.2])) as ((ws.take (i + 1)).filter fun kv => !decide (kv.1 = Sum.inr nm)) ∧ as.length ≤ i + 1, fun H2 z => ⟨ws.length - (i + 1), by omega, rfl, hlt, z⟩, ?_⟩
    rintro x H2 ⟨rfl, k, v, ew, rfl⟩
    obtain ⟨kk, rfl⟩ : ∃ kk, k = Sum.inr kk := by
      have := congrArg (·[i]?) hk
      simp only [List.getElem?_map, ew, Option.map_some] at this
      cases e : ks[i]? with
      | none => rw [e] at this; cases this
      | some kk => rw [e] at this; exact ⟨kk, Option.some.inj this⟩
    refine ⟨by simp [L2.wipe, List.set_set], ?_⟩
    have s2 : ((L2.wipe σ [2]).set 2 (some (kV (Sum.inr kk))))[2]? = some (some (V.str kk)) := by
      rw [List.getElem?_set_self (by rw [wipe_length]; exact h2')]; rfl
    have s1 : ((L2.wipe σ [2]).set 2 (some (kV (Sum.inr kk))))[1]? = some (some (V.str nm)) := by
      rw [List.getElem?_set_ne (by decide), wipe_at (by decide)]; exact e1
    have s0 : ((L2.wipe σ [2]).set 2 (some (kV (Sum.inr kk))))[0]? = some (some (V.ref a)) := by
      rw [List.getElem?_set_ne (by decide), wipe_at (by decide)]; exact e0
    have tk : ws.take (i + 1) = ws.take i ++ [(Sum.inr kk, v)] := by rw [List.take_add_one, ew]; rfl
    refine ⟨_, s2, _, s1, ?_⟩
    refine ⟨rfl, _, rfl, ?_⟩
    show if (!decide (V.str kk = V.str nm)) = true then _ else _
    rw [dec_str, tk, List.filter_append]
    by_cases c : kk = nm
    · rw [decide_eq_true c]
      refine if_f (by decide) ⟨as, ea, keep, eL, ?_, by omega⟩
      rw [List.filter_cons_of_neg (by simp [c]), List.filter_nil, List.append_nil]; exact pr
    · rw [decide_eq_false c]
      refine if_t (by decide) ?_
      have ev : valV ws (Sum.inr kk) = some v := valV_at wnd ew
      refine ⟨_, s2, _, s0, _, s2, a, v, rfl, .inl ⟨ws, Sum.inr kk, .inr ⟨od, ea⟩, rfl, ev.symm⟩, (by decide : 2 ≤ sizeLine), fun t ht => ?_⟩
      have tL : L ≠ t := fun z => by rw [← z, eL] at ht; cases ht
      have ta : a ≠ t := fun z => by rw [← z, ea] at ht; cases ht
      refine ⟨as.map V.ref, by rw [upd_ne tL]; exact eL, by rw [List.length_map]; omega, as ++ [t], by rw [upd_ne (Ne.symm hLa), upd_ne ta]; exact ea, fun b o hb e => ?_, by rw [upd_same, List.map_append]; rfl, ?_, by rw [List.length_append]; show as.length + 1 ≤ i + 1; omega⟩
      · rw [upd_ne (ne_of_none e hL'), upd_ne (ne_of_none (keep b o hb e) ht)]; exact keep b o hb e
      · rw [List.filter_cons_of_pos (by simp [c]), List.filter_nil]
        refine pair_snoc (pair_mono pr fun u q e => ?_) ?_
        · rw [upd_ne (fun z => by rw [z, eL] at e; cases e), upd_ne (ne_of_none e ht)]; exact e
        · show upd _ _ _ t = _
          rw [upd_ne (Ne.symm tL), upd_same]; rfl
  · have e : i = ws.length := by omega
    subst e
    rw [List.take_length] at pr
    have sm : Same H (upd H' a (.dK ws)) := fun b o e => by
      by_cases z : b = a
      · rw [z, upd_same, ← hH, ← z]; exact e
      · rw [upd_ne z]; exact keep b o z e
    have tp : ∀ t xs, H' t = some (.tup xs) → upd H' a (.dK ws) t = some (.tup xs) := fun t xs e => by
      rw [upd_ne (fun z => by rw [z, ea] at e; cases e)]; exact e
    refine .inl ⟨⟨ea, Nat.le_refl _⟩, ea, p _ _ (.lst _) g (.of_same sm) (M.same j sm) ⟨L, _, rfl, fun z => M.trk _ _ _ j z hL', fun z => ?_, by rw [upd_ne hLa]; exact eL, (keep_is nm ks ds ws as hk ((IsL.up ds _ S.im hl).kpT (F := AF) (.of_same sm)) (pair_mono pr fun t q e => tp t _ e)).down (fun _ _ => trivial) (fun _ _ => trivial)⟩ q⟩
    obtain ⟨u, e⟩ := o.owT z
    rw [hL'] at e; cases e
end
/-! ### without -/
def spW (K : PySem.W.Frag) : Sp := fun vs H Q _ => ∃ n f ks ds nm ks' ds' a ws, vs = [.ref a, .str nm] ∧ H a = some (.dK ws) ∧ ws.map (·.1) = ks.map Sum.inr ∧ IsL K AF AF H (ws.map (·.2)) ds ∧ SubD n f ks ds ∧ n < sizeLine ∧
  ((nm ∉ ks ∧ ks' = ks ∧ ds' = ds) ∨ (nm ∈ ks ∧ mgD [] [] (rmP (zipD ks ds) nm) = (ks', ds'))) ∧ (ks' = ks → ds' = ds → ∀ H', Same H H' → Q (.ref a) H') ∧
  ∀ b H' us, Same H H' → H b = none → H' b = some (.dK us) → us.map (·.1) = ks'.map Sum.inr → IsL K AT AT H' (us.map (·.2)) ds' → Q (.ref b) H'
section
variable {M : Frm} {Γ : Ga} {g : M.G} {Q : QE M} {tr : TA} {X0 : XK}
theorem we_without (h : WA M tr Γ g fun es g1 => ∃ n f ks ds nm, es = [.dict ks ds, .str nm] ∧ SubD n f ks ds ∧ n < sizeLine ∧ ∀ ks' ds', SubD n (minus f (some nm)) ks' ds' → Q (.dict ks' ds') g1) : WE M (tCall (spW M.K) [] X0 tr) Γ g Q := fun σ H o j Q' p =>
  h σ H o j _ fun vs H1 es g1 k1 j1 i1 ⟨n, f, ks, ds, nm, e, S, hn, q⟩ => by
    subst e
    show spW M.K (vs ++ []) H1 Q' X0
    rw [List.append_nil]
    obtain ⟨v, u, rfl, ⟨a, ws, rfl, n1, n2, hH, hk, hl⟩, e2⟩ := vals_two i1
    obtain rfl : u = .str nm := e2
    obtain ⟨ks', ds', hd, S'⟩ : ∃ ks' ds', ((nm ∉ ks ∧ ks' = ks ∧ ds' = ds) ∨ (nm ∈ ks ∧ mgD [] [] (rmP (zipD ks ds) nm) = (ks', ds'))) ∧ SubD n (minus f (some nm)) ks' ds' := by
      by_cases c : nm ∈ ks
      · obtain ⟨ks', ds', e, S'⟩ := S.rm nm
        exact ⟨ks', ds', .inr ⟨c, e⟩, S'⟩
      · exact ⟨ks, ds, .inl ⟨c, rfl, rfl⟩, S.same c⟩
    refine ⟨n, f, ks, ds, nm, ks', ds', a, ws, rfl, hH, hk, hl.down (fun _ z => z.elim) (fun _ z => z.elim), S, hn, hd, fun e1 e2 H2 sm => ?_, fun b H2 us sm hb hb2 hk2 hl2 => ?_⟩
    · refine p _ H2 _ g1 (k1.trans (.of_same sm)) (M.same j1 sm) ?_ (q ks' ds' S')
      subst e1 e2
      exact Is.kp (.of_same sm) ⟨a, ws, rfl, n1, n2, hH, hk, hl⟩
    · refine p _ H2 (.dict ks' ds') g1 (k1.trans (.of_same sm)) (M.same j1 sm) ⟨b, us, rfl, fun z => M.trk _ _ _ j1 z hb, fun z => ?_, hb2, hk2, hl2.down (fun _ _ => trivial) (fun _ _ => trivial)⟩ (q ks' ds' S')
      obtain ⟨u, e⟩ := (o.kp k1).owT z
      rw [hb] at e; cases e
end
section
variable {P : Program} {w : World} {K : PySem.W.Frag} {mg : Str → Option Value} {base : Heap} (T : Tx K mg)
theorem ok_without : FnOk P w K mg base CX0 1 T.without.a T.without.fd ["known", "name"] (spW K) := by
  refine T.without.F.ok sc_without (fun vs H Q E ⟨n, f, ks, ds, nm, ks', ds', a, ws, e, _⟩ => by subst e; rfl) (fun cdv A outer s H vs Q E hr h => ?_)
  have hu := hu_of hr
  obtain ⟨n, f, ks, ds, nm, ks', ds', a, ws, rfl, hH, hk, hl, S, hn, hd, q1, q2⟩ := h
  refine ⟨_, (pss_cons (ps_if (pt_cmp (pc_dnotin hu (pv 1) (pv 0))) (pss_one (ps_ret (pv 0))) pss_nil)
  (pss_one (ps_ret (pe_callTy (call_dictP rfl) (by rfl) T.ndict (by decide +kernel) (pa_cons (pe_lock (pe_lc (own := [("key", 2)]) (by rfl) sc_without.nd (pi_keys (pv 0)) (blkOk_by (own := [("key", 2)]) (N := ["known", "name", "key"]) (sc := defScope (topS 10)) (by decide +kernel)) (fun _ _ _ _ _ => (pg_name (i := 2) sc_without.nd rfl (by first | exact Or.inl rfl | exact Or.inr rfl))) (fun _ _ _ _ _ => (pts_one (pt_cmpR op_ne (pv 2) (pv 1) (nomark _)))) (fun _ _ _ _ _ => (pe_tup (pa_cons (pv 2) (pa_cons (pe_dget hu (pv 0) (pv 2) (fun _ _ => rfl)) pa_nil)))))) pa_nil))))), ?_⟩
  dsimp only [cxOf]
  have st : Ok (frm0 K H) (ga0 ["known", "name", "key"] [.dict ks ds, .str nm]) (L2.start ["known", "name", "key"] [.ref a, .str nm]) H :=
    ok_start rfl (Nat.le_succ 2) rfl ⟨⟨a, ws, rfl, id, id, hH, hk, hl⟩, rfl, trivial⟩
  unfold tSeq tIfS tB
  refine (we_dnotin (ta := tVar 1) (tb := tVar 0) (Γ := ga0 ["known", "name", "key"] [.dict ks ds, .str nm]) (M := frm0 K H) (g := ()) (Q := fun e _ => e = .bl (!decide (nm ∈ ks))) (we_var rfl ⟨nm, rfl, we_var rfl ⟨ks, ds, rfl, S.len, rfl⟩⟩)) _ H st trivial _ (fun v H1 e g1 k1 _ iv ee => ?_)
  subst ee
  obtain rfl : v = .bl (!decide (nm ∈ ks)) := iv
  refine ⟨_, rfl, ?_⟩
  have sm1 : Same H H1 := k1.same
  rcases hd with ⟨c, e1, e2⟩ | ⟨c, e1⟩
  · subst e1 e2
    rw [decide_eq_false c]
    exact ⟨_, rfl, q1 rfl rfl H1 sm1⟩
  · rw [decide_eq_true c]
    dsimp only
    refine if_f (by decide) ?_
    unfold tNext tRet tCB tCons tNil
    dsimp only
    refine (we_lockKeys (Γ := ga0 ["known", "name", "key"] [.dict ks ds, .str nm]) (M := frm0 K H) (g := ()) (Q := fun e _ => e = .lst ((rmP (zipD ks ds) nm).map fun p => pairD p.1 p.2)) rfl rfl (Nat.lt_succ_self 2) S hn rfl) _ H1 (st.kp k1) trivial _ (fun v H2 e g2 k2 _ iv ee => ?_)
    subst ee
    obtain ⟨b, us, rfl, m1, m2, hb, hl2⟩ := iv
    have him : imL ((rmP (zipD ks ds) nm).map fun p => pairD p.1 p.2) = true := by
      rw [imL_iff]
      intro d hd
      obtain ⟨p, hp, rfl⟩ := List.mem_map.mp hd
      exact imL_iff.mp S.zip_im _ (List.mem_map.mpr ⟨p, (List.mem_filter.mp hp).1, rfl⟩)
    obtain ⟨as, kvs, rfl, pr, hk2, hv2⟩ := pairs_is _ us hl2 him
    refine ⟨b, as, kvs, rfl, .of hb, pr, fun l hl3 => ?_⟩
    obtain ⟨r1, r2⟩ := merge_is kvs _ [] [] [] hk2 hv2 rfl trivial
    rw [e1] at r1 r2
    exact q2 l _ _ ((sm1.trans k2.same).trans (same_new hl3)) (by
      cases e : H l with
      | none => rfl
      | some u => rw [k2.same _ _ (sm1 _ _ e)] at hl3; cases hl3) upd_same r1 (r2.kpT (F := AF) (Kp.new hl3))
end
end Sf
end
section
set_option Elab.async false
set_option linter.all false
set_option maxRecDepth 100000
set_option maxHeartbeats 1000000
namespace Sf
open PySem L2
open PyProof.Rows (envOfC)
local macro_rules | `(tactic| walk_at "evS") => `(tactic| first
  | with_reducible refine ws_seq ?_
  | with_reducible refine ws_if ?_
  | with_reducible refine ws_ret ?_
  | ((with_reducible refine' ws_newL ?hi ?_); (case hi => exact rfl))
  | ((with_reducible refine' ws_newD ?hi ?_); (case hi => exact rfl))
  | ((with_reducible refine' ws_listT ?hi ?_); (case hi => exact rfl))
  | ((with_reducible refine' ws_set ?hi ?_); (case hi => exact rfl))
  | with_reducible refine ws_next ?_)
local macro_rules | `(tactic| walk_at "evE2") => `(tactic| first
  | with_reducible refine we_tup ?_
  | ((with_reducible refine' we_lenO ?hv ?_); (case hv => exact rfl))
  | ((with_reducible refine' we_tupO ?hv ?_); (case hv => exact rfl))
  | with_reducible refine we_cb ?_
  | with_reducible refine we_callI ?_
  | with_reducible refine we_callL ?_
  | with_reducible refine we_sl ?_
  | with_reducible refine we_dget ?_
  | with_reducible refine we_get2 ?_
  | with_reducible refine we_ifE ?_
  | with_reducible refine we_andV ?_
  | with_reducible refine we_chain ?_
  | with_reducible refine we_dnewK ?_
  | with_reducible refine we_bl ?_
  | with_reducible refine we_non ?_)
local macro_rules | `(tactic| walk_at "evE") => `(tactic| first
  | ((with_reducible refine' we_var ?hv ?_); (case hv => exact rfl))
  | with_reducible refine we_int ?_
  | with_reducible refine we_str ?_
  | ((with_reducible refine' we_ixO ?hv ?_); (case hv => exact rfl))
  | with_reducible refine we_op ?_
  | walk_at "evE2")
local macro_rules | `(tactic| walk_at "evW") => `(tactic| first
  | ((with_reducible refine' wr_ixT ?hx ?he ?_); (case hx => exact rfl); (case he => first | exact rfl | exact at0 | exact at1 | exact at2 | exact at3))
  | with_reducible refine wr_eqS ?_
  | with_reducible refine wr_i0 ?_
  | with_reducible refine wr_b0 ?_
  | with_reducible refine wr_eqI ?_
  | with_reducible refine wr_neS ?_
  | ((with_reducible refine' wr_ixL ?he ?_); (case he => first | exact rfl | exact at0 | exact at1 | exact at2 | exact at3)))
local macro_rules | `(tactic| walk_at "evT") => `(tactic| first
  | with_reducible refine wt_test ?_
  | with_reducible refine wt_and ?_
  | with_reducible refine wt_or ?_
  | with_reducible refine wt_not ?_
  | with_reducible refine wt_b ?_)
local macro_rules | `(tactic| walk_at "evM") => `(tactic| first
  | ((with_reducible refine' sl_and ?hs ?_); (case hs => exact rfl))
  | ((with_reducible refine if_t ?hc ?_); (case hc => decide +kernel))
  | ((with_reducible refine if_f ?hc ?_); (case hc => decide +kernel))
  | with_reducible refine wo_none ?_
  | with_reducible refine wo_some ?_
  | ((with_reducible refine' wsl_T ?hx ?_); (case hx => exact rfl))
  | with_reducible refine wsl_L ?_
  | ((with_reducible refine' Exists.intro _ (And.intro ?hx ?_)); (case hx => exact rfl))
  | dsimp only)
local macro_rules | `(tactic| walk_at "ev1") => `(tactic| first
  | with_reducible refine wa_cons ?_
  | with_reducible refine wa_nil ?_
  | ((with_reducible show WE _ _ _ _ _); walk_at "evE")
  | ((with_reducible show WR _ _ _ _ _ _); walk_at "evW")
  | ((with_reducible show WS _ _ _ _ _); walk_at "evS")
  | ((with_reducible show WT _ _ _ _ _); walk_at "evT")
  | walk_at "evM")
local macro_rules | `(tactic| walk_at "ev") => `(tactic| repeat walk_at "ev1")

theorem sc_put_for : FnScope ["term", "things", "counts", "word", "later", "number", "first", "chosen", "part", "arg"] ["term", "things", "counts"] (defScope (topS 11)) := ⟨rfl, rfl, rfl, by decide +kernel, rfl, by decide +kernel, by decide +kernel⟩
theorem sc_arg_put : FnScope ["arg", "things", "counts"] ["arg", "things", "counts"] (defScope (topS 12)) := ⟨rfl, rfl, rfl, by decide +kernel, rfl, by decide +kernel, by decide +kernel⟩
abbrev SB (m : Nat) (a : Sub) (ks : List Str) (ds : List D) : Prop := SubD m (fun s => (a s).map enc) ks ds
theorem sb_minus {m : Nat} {a : Sub} {o : Option Str} {ks : List Str} {ds : List D} (h : SubD m (minus (fun s => (a s).map enc) o) ks ds) : SB m (minus a o) ks ds := by
  refine ⟨h.nd, h.len, h.le, h.im, fun t => ?_⟩
  rw [h.at']
  cases o with
  | none => rfl
  | some x => show (if t = x then none else (a t).map enc) = (if t = x then none else a t).map enc; split <;> rfl
theorem sb_plus {m : Nat} {a : Sub} {x : Str} {t : Sf.T} {ks : List Str} {ds : List D} (h : SubD m (plus (fun s => (a s).map enc) x (enc t)) ks ds) : SB m (plus a x t) ks ds := by
  refine ⟨h.nd, h.len, h.le, h.im, fun s => ?_⟩
  rw [h.at']
  show (if s = x then some (enc t) else (a s).map enc) = (if s = x then some t else a s).map enc
  split <;> rfl
def R_nput (n : Nat) (es : List D) (r : D) : Prop := ∃ t a b m ks ds, Wfx false t ∧ t.dp < n ∧ SB m b ks ds ∧ es = [enc t, .dict ks ds] ∧ r = enc (t.put a b)
def R_pf (n : Nat) (es : List D) (r : D) : Prop := ∃ t a b m1 m2 ks ds ks2 ds2, Wfx true t ∧ t.dp < n ∧ t.sz ≤ LIM ∧ SB m1 a ks ds ∧ m1 < sizeLine ∧ SB m2 b ks2 ds2 ∧ m2 < sizeLine ∧ es = [enc t, .dict ks ds, .dict ks2 ds2] ∧ r = enc (t.put a b)
def R_ap (n : Nat) (es : List D) (r : D) : Prop := ∃ t s a b m1 m2 ks ds ks2 ds2, Wfx s t ∧ t.dp < n ∧ t.sz ≤ LIM ∧ SB m1 a ks ds ∧ m1 < sizeLine ∧ SB m2 b ks2 ds2 ∧ m2 < sizeLine ∧ es = [enc t, .dict ks ds, .dict ks2 ds2] ∧ r = enc (t.put a b)
section
variable {P : Program} {w : World} {K : PySem.W.Frag} {mg : Str → Option Value} {base : Heap} (T : Tx K mg)
theorem ok_number_put : ∀ n : Nat, FnOk P w K mg base CX0 (n + 1) T.number_put.a T.number_put.fd ["number", "counts"] (spI K (R_nput n))
  | 0 => none_I fun es r ⟨t, _, _, _, _, _, _, h, _⟩ => absurd h (Nat.not_lt_zero _)
  | n + 1 => by
    have G_number_put := ok_number_put n
    refine def_I T.number_put.F sc_number_put (fun es r ⟨_, _, _, _, _, _, _, _, _, e, _⟩ => by subst e; rfl) (by decide) (fun cdv A outer s H E hr => ?_)
    have hu := hu_of hr
    have hr_number_put := hr
    refine ⟨_, (pss_cons (ps_if (pt_cmpR op_eq (pe_ix ix_tup (pv 0) pe_int (fun _ _ => rfl)) pe_str (nomark _)) (pss_one (ps_ret (pe_dget2 hu (pv 1) (pe_ix ix_tup (pv 0) pe_int (fun _ _ => rfl)) (pv 0) (by first | exact ⟨rfl, rfl, rfl, rfl, rfl⟩ | exact ⟨rfl, rfl, rfl, rfl⟩ | exact ⟨rfl, rfl, rfl⟩)))) pss_nil)
  (pss_cons (ps_if (pt_cmpR op_eq (pe_ix ix_tup (pv 0) pe_int (fun _ _ => rfl)) pe_str (nomark _)) (pss_one (ps_ret (pe_tup (pa_cons pe_str (pa_cons (pe_ix ix_tup (pv 0) pe_int (fun _ _ => rfl)) (pa_cons (pe_call G_number_put hr_number_put (by rfl) T.number_put.g T.number_put.F.kp T.number_put.b .nil pass0 (pa_cons (pe_ix ix_tup (pv 0) pe_int (fun _ _ => rfl)) (pa_cons (pv 1) pa_nil))) (pa_cons (pe_call G_number_put hr_number_put (by rfl) T.number_put.g T.number_put.F.kp T.number_put.b .nil pass0 (pa_cons (pe_ix ix_tup (pv 0) pe_int (fun _ _ => rfl)) (pa_cons (pv 1) pa_nil))) pa_nil))))))) pss_nil)
  (pss_one (ps_ret (pv 0))))), ?_⟩
    dsimp only [cxOf]
    rintro es r ⟨t, a, b, m, ks, ds, ⟨sg, X, C, wf⟩, hd, S, rfl, rfl⟩
    cases wf with
    | num h1 h2 => walk_at "ev"; exact ⟨rfl, rfl⟩
    | @count _ _ i _ =>
      walk_at "ev"
      refine ⟨_, _, rfl, ?_⟩
      walk_at "ev"
      rw [S.at']
      show _ ∧ _ = enc ((b i).getD _)
      cases b i with
      | none => exact ⟨rfl, rfl⟩
      | some u => exact ⟨enc_im u, rfl⟩
    | @op _ _ o x y ho wx wy =>
      walk_at "ev"
      refine ⟨_, ⟨x, a, b, m, ks, ds, ⟨_, _, _, wx⟩, kid_dp hd List.mem_cons_self, S, rfl, rfl⟩, enc_im _, ?_⟩
      walk_at "ev"
      refine ⟨_, ⟨y, a, b, m, ks, ds, ⟨_, _, _, wy⟩, kid_dp hd (List.mem_cons_of_mem _ List.mem_cons_self), S, rfl, rfl⟩, enc_im _, ?_⟩
      walk_at "ev"
      exact ⟨enc_im ((Sf.T.mk (.op o) [x, y]).put a b), rfl⟩
theorem ok_arg_put_of (n : Nat) (G_put_for : FnOk P w K mg base CX0 (2 * n + 1) T.put_for.a T.put_for.fd ["term", "things", "counts"] (spI K (R_pf n))) : FnOk P w K mg base CX0 (2 * n + 2) T.arg_put.a T.arg_put.fd ["arg", "things", "counts"] (spI K (R_ap n)) := by
  have G_number_put := ok_number_put (P := P) (w := w) (base := base) T n
  refine def_I T.arg_put.F sc_arg_put (fun es r ⟨_, _, _, _, _, _, _, _, _, _, _, _, _, _, _, _, _, e, _⟩ => by subst e; rfl) (by decide) (fun cdv A outer s H E hr => ?_)
  have hr_number_put := hr.mono (show n + 1 ≤ 2 * n + 1 by omega)
  have hr_put_for := hr
  refine ⟨_, (pss_cons (ps_if (pt_cmpR op_in_seq (pe_ix ix_tup (pv 0) pe_int (fun _ _ => rfl)) (pe_glob (by rfl) T.gINNER T.rINNER) (by rfl)) (pss_one (ps_ret (pe_call G_number_put hr_number_put (by rfl) T.number_put.g T.number_put.F.kp T.number_put.b .nil pass0 (pa_cons (pv 0) (pa_cons (pv 2) pa_nil))))) pss_nil)
  (pss_one (ps_ret (pe_call G_put_for hr_put_for (by rfl) T.put_for.g T.put_for.F.kp T.put_for.b .nil pass0 (pa_cons (pv 0) (pa_cons (pv 1) (pa_cons (pv 2) pa_nil))))))), ?_⟩
  dsimp only [cxOf]
  rintro es r ⟨t, s, a, b, m1, m2, ks, ds, ks2, ds2, ⟨sg, X, C, wf⟩, hd, hz, S1, l1, S2, l2, rfl, rfl⟩
  have inn : ∀ {x : Str} {Γ : Ga} {g} {Q : QE (frm0 K H)}, Q (.bl (decide (x ∈ [("num" : Str), "count", "op"]))) g → WE (frm0 K H) (tC (.ref T.aI)) Γ g fun y g2 => WR (frm0 K H) (rIn K false) (.str x) y g2 Q := fun q =>
    we_const (d := .tup [.str "num", .str "count", .str "op"]) (fun H => ⟨_, _, rfl, T.sINNER H, rfl, rfl, rfl, trivial⟩) (wr_inT (ss := ["num", "count", "op"]) q)
  cases s with
  | false =>
    have wf0 := wf
    cases wf with
    | num _ _ => walk_at "ev"; refine inn ?_; walk_at "ev"; exact ⟨_, ⟨_, a, b, m2, ks2, ds2, ⟨_, _, _, wf0⟩, hd, S2, rfl, rfl⟩, enc_im _, enc_im _, rfl⟩
    | count _ => walk_at "ev"; refine inn ?_; walk_at "ev"; exact ⟨_, ⟨_, a, b, m2, ks2, ds2, ⟨_, _, _, wf0⟩, hd, S2, rfl, rfl⟩, enc_im _, enc_im _, rfl⟩
    | op _ _ _ => walk_at "ev"; refine inn ?_; walk_at "ev"; exact ⟨_, ⟨_, a, b, m2, ks2, ds2, ⟨_, _, _, wf0⟩, hd, S2, rfl, rfl⟩, enc_im _, enc_im _, rfl⟩
  | true =>
    have wf0 := wf
    cases wf with
    | name _ => walk_at "ev"; refine inn ?_; walk_at "ev"; exact ⟨_, ⟨_, a, b, m1, m2, ks, ds, ks2, ds2, ⟨_, _, _, wf0⟩, hd, hz, S1, l1, S2, l2, rfl, rfl⟩, enc_im _, enc_im _, rfl⟩
    | fixed => walk_at "ev"; refine inn ?_; walk_at "ev"; exact ⟨_, ⟨_, a, b, m1, m2, ks, ds, ks2, ds2, ⟨_, _, _, wf0⟩, hd, hz, S1, l1, S2, l2, rfl, rfl⟩, enc_im _, enc_im _, rfl⟩
    | input => walk_at "ev"; refine inn ?_; walk_at "ev"; exact ⟨_, ⟨_, a, b, m1, m2, ks, ds, ks2, ds2, ⟨_, _, _, wf0⟩, hd, hz, S1, l1, S2, l2, rfl, rfl⟩, enc_im _, enc_im _, rfl⟩
    | dov _ => walk_at "ev"; refine inn ?_; walk_at "ev"; exact ⟨_, ⟨_, a, b, m1, m2, ks, ds, ks2, ds2, ⟨_, _, _, wf0⟩, hd, hz, S1, l1, S2, l2, rfl, rfl⟩, enc_im _, enc_im _, rfl⟩
    | letv _ _ => walk_at "ev"; refine inn ?_; walk_at "ev"; exact ⟨_, ⟨_, a, b, m1, m2, ks, ds, ks2, ds2, ⟨_, _, _, wf0⟩, hd, hz, S1, l1, S2, l2, rfl, rfl⟩, enc_im _, enc_im _, rfl⟩
    | loop _ _ _ => walk_at "ev"; refine inn ?_; walk_at "ev"; exact ⟨_, ⟨_, a, b, m1, m2, ks, ds, ks2, ds2, ⟨_, _, _, wf0⟩, hd, hz, S1, l1, S2, l2, rfl, rfl⟩, enc_im _, enc_im _, rfl⟩
    | pick _ _ _ => walk_at "ev"; refine inn ?_; walk_at "ev"; exact ⟨_, ⟨_, a, b, m1, m2, ks, ds, ks2, ds2, ⟨_, _, _, wf0⟩, hd, hz, S1, l1, S2, l2, rfl, rfl⟩, enc_im _, enc_im _, rfl⟩
    | call _ _ _ => walk_at "ev"; refine inn ?_; walk_at "ev"; exact ⟨_, ⟨_, a, b, m1, m2, ks, ds, ks2, ds2, ⟨_, _, _, wf0⟩, hd, hz, S1, l1, S2, l2, rfl, rfl⟩, enc_im _, enc_im _, rfl⟩
theorem putL0 (h : Hd) (a b : Sub) (ts : List Sf.T) (hT : ∀ j, bT h j = none) (hC : ∀ j, bC h j = none) : encL (putL h 0 a b ts) = ts.map fun t => enc (t.put a b) := by
  rw [putL_map h hT hC, encL_map, List.map_map]; rfl
theorem pickput (a b : Sub) (n : Sf.T) (ts : List Sf.T) : (Sf.T.mk .pick (n :: ts)).put a b = .mk .pick (n.put a b :: ts.map (Sf.T.put a b)) := by
  show Sf.T.mk .pick (n.put _ _ :: putL .pick 1 a b ts) = _
  rw [putL_map .pick (fun j => rfl) (fun j => rfl)]; rfl
theorem ok_put_for : ∀ n : Nat, FnOk P w K mg base CX0 (2 * n + 1) T.put_for.a T.put_for.fd ["term", "things", "counts"] (spI K (R_pf n))
  | 0 => none_I fun es r ⟨t, _, _, _, _, _, _, _, _, _, h, _⟩ => absurd h (Nat.not_lt_zero _)
  | n + 1 => by
    have G_put_for := ok_put_for n
    have G_arg_put := ok_arg_put_of T n G_put_for
    have G_number_put := ok_number_put (P := P) (w := w) (base := base) T n
    have G_without := ok_without (P := P) (w := w) (base := base) T
    refine def_I T.put_for.F sc_put_for (fun es r ⟨_, _, _, _, _, _, _, _, _, _, _, _, _, _, _, _, e, _⟩ => by subst e; rfl) (by decide) (fun cdv A outer s H E hr => ?_)
    have hu := hu_of hr
    have hr_number_put := hr.mono (show n + 1 ≤ 2 * n + 2 by omega)
    have hr_put_for := hr.mono (show 2 * n + 1 ≤ 2 * n + 2 by omega)
    have hr_arg_put := hr
    have hr_without := hr.mono (show 1 ≤ 2 * n + 2 by omega)
    refine ⟨_, (pss_cons (ps_set (i := 3) sc_put_for.nd rfl (by first | exact Or.inl rfl | exact Or.inr rfl) (pe_ix ix_tup (pv 0) pe_int (fun _ _ => rfl)))
  (pss_cons (ps_if (pt_cmpR op_eq (pv 3) pe_str (nomark _)) (pss_one (ps_ret (pe_dget2 hu (pv 1) (pe_ix ix_tup (pv 0) pe_int (fun _ _ => rfl)) (pv 0) (by first | exact ⟨rfl, rfl, rfl, rfl, rfl⟩ | exact ⟨rfl, rfl, rfl, rfl⟩ | exact ⟨rfl, rfl, rfl⟩)))) pss_nil)
  (pss_cons (ps_if (pt_cmpR op_eq (pv 3) pe_str (nomark _)) (pss_one (ps_ret (pe_tup (pa_cons pe_str (pa_cons (pe_ix ix_tup (pv 0) pe_int (fun _ _ => rfl)) (pa_cons (pe_callTy call_tuple_of (by rfl) T.ntuple (by decide +kernel) (pa_cons (pe_lc (own := [("part", 8)]) (by rfl) sc_put_for.nd (pi_tup (pe_ix ix_tup (pv 0) pe_int (fun _ _ => rfl))) (blkOk_by (own := [("part", 8)]) (N := ["term", "things", "counts", "word", "later", "number", "first", "chosen", "part", "arg"]) (sc := defScope (topS 11)) (by decide +kernel)) (fun _ _ _ _ _ => (pg_name (i := 8) sc_put_for.nd rfl (by first | exact Or.inl rfl | exact Or.inr rfl))) (fun _ _ _ _ _ => pts_nil) (fun _ _ _ _ _ => (pe_call G_put_for hr_put_for (by rfl) T.put_for.g T.put_for.F.kp T.put_for.b .nil pass0 (pa_cons (pv 8) (pa_cons (pv 1) (pa_cons (pv 2) pa_nil)))))) pa_nil)) pa_nil)))))) pss_nil)
  (pss_cons (ps_if (pt_cmpR op_eq (pv 3) pe_str (nomark _)) (pss_cons (ps_set (i := 4) sc_put_for.nd rfl (by first | exact Or.inl rfl | exact Or.inr rfl) (pe_call G_without hr_without (by rfl) T.without.g T.without.F.kp T.without.b .nil pass0 (pa_cons (pv 1) (pa_cons (pe_ix ix_tup (pv 0) pe_int (fun _ _ => rfl)) pa_nil))))
  (pss_one (ps_ret (pe_tup (pa_cons pe_str (pa_cons (pe_ix ix_tup (pv 0) pe_int (fun _ _ => rfl)) (pa_cons (pe_call G_put_for hr_put_for (by rfl) T.put_for.g T.put_for.F.kp T.put_for.b .nil pass0 (pa_cons (pe_ix ix_tup (pv 0) pe_int (fun _ _ => rfl)) (pa_cons (pv 1) (pa_cons (pv 2) pa_nil)))) (pa_cons (pe_call G_put_for hr_put_for (by rfl) T.put_for.g T.put_for.F.kp T.put_for.b .nil pass0 (pa_cons (pe_ix ix_tup (pv 0) pe_int (fun _ _ => rfl)) (pa_cons (pv 4) (pa_cons (pv 2) pa_nil)))) pa_nil)))))))) pss_nil)
  (pss_cons (ps_if (pt_cmpR op_eq (pv 3) pe_str (nomark _)) (pss_cons (ps_set (i := 5) sc_put_for.nd rfl (by first | exact Or.inl rfl | exact Or.inr rfl) (pe_call G_number_put hr_number_put (by rfl) T.number_put.g T.number_put.F.kp T.number_put.b .nil pass0 (pa_cons (pe_ix ix_tup (pv 0) pe_int (fun _ _ => rfl)) (pa_cons (pv 2) pa_nil))))
  (pss_cons (ps_set (i := 6) sc_put_for.nd rfl (by first | exact Or.inl rfl | exact Or.inr rfl) (pe_call G_put_for hr_put_for (by rfl) T.put_for.g T.put_for.F.kp T.put_for.b .nil pass0 (pa_cons (pe_ix ix_tup (pv 0) pe_int (fun _ _ => rfl)) (pa_cons (pv 1) (pa_cons (pv 2) pa_nil)))))
  (pss_cons (ps_set (i := 4) sc_put_for.nd rfl (by first | exact Or.inl rfl | exact Or.inr rfl) (pe_call G_put_for hr_put_for (by rfl) T.put_for.g T.put_for.F.kp T.put_for.b .nil pass0 (pa_cons (pe_ix ix_tup (pv 0) pe_int (fun _ _ => rfl)) (pa_cons (pe_call G_without hr_without (by rfl) T.without.g T.without.F.kp T.without.b .nil pass0 (pa_cons (pv 1) (pa_cons (pe_ix ix_tup (pv 0) pe_int (fun _ _ => rfl)) pa_nil))) (pa_cons (pe_call G_without hr_without (by rfl) T.without.g T.without.F.kp T.without.b .nil pass0 (pa_cons (pv 2) (pa_cons (pe_ix ix_tup (pv 0) pe_int (fun _ _ => rfl)) pa_nil))) pa_nil)))))
  (pss_one (ps_ret (pe_tup (pa_cons pe_str (pa_cons (pe_ix ix_tup (pv 0) pe_int (fun _ _ => rfl)) (pa_cons (pv 5) (pa_cons (pe_ix ix_tup (pv 0) pe_int (fun _ _ => rfl)) (pa_cons (pv 6) (pa_cons (pv 4) pa_nil)))))))))))) pss_nil)
  (pss_cons (ps_if (pt_cmpR op_eq (pv 3) pe_str (nomark _)) (pss_cons (ps_set (i := 7) sc_put_for.nd rfl (by first | exact Or.inl rfl | exact Or.inr rfl) (pe_callTy call_tuple_of (by rfl) T.ntuple (by decide +kernel) (pa_cons (pe_lc (own := [("part", 8)]) (by rfl) sc_put_for.nd (pi_tup (pe_ix ix_tup (pv 0) pe_int (fun _ _ => rfl))) (blkOk_by (own := [("part", 8)]) (N := ["term", "things", "counts", "word", "later", "number", "first", "chosen", "part", "arg"]) (sc := defScope (topS 11)) (by decide +kernel)) (fun _ _ _ _ _ => (pg_name (i := 8) sc_put_for.nd rfl (by first | exact Or.inl rfl | exact Or.inr rfl))) (fun _ _ _ _ _ => pts_nil) (fun _ _ _ _ _ => (pe_call G_put_for hr_put_for (by rfl) T.put_for.g T.put_for.F.kp T.put_for.b .nil pass0 (pa_cons (pv 8) (pa_cons (pv 1) (pa_cons (pv 2) pa_nil)))))) pa_nil)))
  (pss_one (ps_ret (pe_tup (pa_cons pe_str (pa_cons (pe_call G_number_put hr_number_put (by rfl) T.number_put.g T.number_put.F.kp T.number_put.b .nil pass0 (pa_cons (pe_ix ix_tup (pv 0) pe_int (fun _ _ => rfl)) (pa_cons (pv 2) pa_nil))) (pa_cons (pv 7) pa_nil))))))) pss_nil)
  (pss_cons (ps_if (pt_cmpR op_eq (pv 3) pe_str (nomark _)) (pss_one (ps_ret (pe_tup (pa_cons pe_str (pa_cons (pe_ix ix_tup (pv 0) pe_int (fun _ _ => rfl)) (pa_cons (pe_callTy call_tuple_of (by rfl) T.ntuple (by decide +kernel) (pa_cons (pe_lc (own := [("arg", 9)]) (by rfl) sc_put_for.nd (pi_tup (pe_ix ix_tup (pv 0) pe_int (fun _ _ => rfl))) (blkOk_by (own := [("arg", 9)]) (N := ["term", "things", "counts", "word", "later", "number", "first", "chosen", "part", "arg"]) (sc := defScope (topS 11)) (by decide +kernel)) (fun _ _ _ _ _ => (pg_name (i := 9) sc_put_for.nd rfl (by first | exact Or.inl rfl | exact Or.inr rfl))) (fun _ _ _ _ _ => pts_nil) (fun _ _ _ _ _ => (pe_call G_arg_put hr_arg_put (by rfl) T.arg_put.g T.arg_put.F.kp T.arg_put.b .nil pass0 (pa_cons (pv 9) (pa_cons (pv 1) (pa_cons (pv 2) pa_nil)))))) pa_nil)) pa_nil)))))) pss_nil)
  (pss_one (ps_ret (pv 0)))))))))), ?_⟩
    dsimp only [cxOf]
    rintro es r ⟨t, a, b, m1, m2, ks, ds, ks2, ds2, ⟨sg, X, C, wf⟩, hd, hz, S1, l1, S2, l2, rfl, rfl⟩
    cases wf with
    | @name _ _ x _ =>
      walk_at "ev"
      refine ⟨_, _, rfl, ?_⟩
      walk_at "ev"
      rw [S1.at']
      show _ ∧ _ = enc ((a x).getD _)
      cases a x with
      | none => exact ⟨rfl, rfl⟩
      | some u => exact ⟨enc_im u, rfl⟩
    | fixed => walk_at "ev"; exact ⟨rfl, rfl⟩
    | input => walk_at "ev"; exact ⟨rfl, rfl⟩
    | @dov _ _ d ts hk =>
      walk_at "ev"
      refine we_lcR (fun k e => ∃ t, ts[k]? = some t ∧ e = enc (t.put a b)) ?_
      refine wi_tup kp_rel ?_
      walk_at "ev"
      refine ⟨encL_im ts, lim_lt (by rw [encL_len]; exact ts_len hz), fun k g' hlt => ?_, fun acc g' e1 e2 e3 => ?_⟩
      · rw [encL_len] at hlt
        have ht : ts[k]? = some ts[k] := List.getElem?_eq_getElem hlt
        rw [encL_getD ht]
        refine wg_name rfl rfl ?_
        walk_at "ev"
        exact ⟨_, ⟨ts[k], a, b, m1, m2, ks, ds, ks2, ds2, ⟨_, _, _, hk _ (List.getElem_mem hlt)⟩, kid_dp hd (List.getElem_mem hlt), kid_sz hz (List.getElem_mem hlt), S1, l1, S2, l2, rfl, rfl⟩, enc_im _, enc_im _, _, ht, rfl⟩
      · have e4 := acc_map (f := fun t : Sf.T => enc (t.put a b)) (by rw [e1, encL_len]) e3
        rw [← putL0 (.dov d) a b ts (fun _ => rfl) (fun _ => rfl)] at e4
        subst e4
        walk_at "ev"
        refine wc_tupL ?_
        walk_at "ev"
        exact ⟨enc_im (.mk (.dov d) (putL (.dov d) 0 a b ts)), rfl⟩
    | @letv _ _ x t1 t2 w1 w2 =>
      walk_at "ev"
      refine we_without ?_
      walk_at "ev"
      refine ⟨m1, _, ks, ds, x, rfl, S1, l1, fun ks' ds' S' => ?_⟩
      walk_at "ev"
      refine ⟨_, ⟨t1, a, b, m1, m2, ks, ds, ks2, ds2, ⟨_, _, _, w1⟩, kid_dp hd List.mem_cons_self, kid_sz hz List.mem_cons_self, S1, l1, S2, l2, rfl, rfl⟩, enc_im _, ?_⟩
      walk_at "ev"
      refine ⟨_, ⟨t2, minus a (some x), b, m1, m2, ks', ds', ks2, ds2, ⟨_, _, _, w2⟩, kid_dp hd (List.mem_cons_of_mem _ List.mem_cons_self), kid_sz hz (List.mem_cons_of_mem _ List.mem_cons_self), sb_minus S', l1, S2, l2, rfl, rfl⟩, enc_im _, ?_⟩
      walk_at "ev"
      exact ⟨enc_im ((Sf.T.mk (.letv x) [t1, t2]).put a b), rfl⟩
    | @loop _ _ i x nn t1 t2 w0 w1 w2 =>
      walk_at "ev"
      refine ⟨_, ⟨nn, a, b, m2, ks2, ds2, ⟨_, _, _, w0⟩, kid_dp hd List.mem_cons_self, S2, rfl, rfl⟩, enc_im _, ?_⟩
      walk_at "ev"
      refine ⟨_, ⟨t1, a, b, m1, m2, ks, ds, ks2, ds2, ⟨_, _, _, w1⟩, kid_dp hd (List.mem_cons_of_mem _ List.mem_cons_self), kid_sz hz (List.mem_cons_of_mem _ List.mem_cons_self), S1, l1, S2, l2, rfl, rfl⟩, enc_im _, ?_⟩
      walk_at "ev"
      refine we_without ?_
      walk_at "ev"
      refine ⟨m1, _, ks, ds, x, rfl, S1, l1, fun ks' ds' S' => ?_⟩
      walk_at "ev"
      refine we_without ?_
      walk_at "ev"
      refine ⟨m2, _, ks2, ds2, i, rfl, S2, l2, fun ks2' ds2' S2' => ?_⟩
      walk_at "ev"
      have hm : t2 ∈ [nn, t1, t2] := List.mem_cons_of_mem _ (List.mem_cons_of_mem _ List.mem_cons_self)
      refine ⟨_, ⟨t2, minus a (some x), minus b (some i), m1, m2, ks', ds', ks2', ds2', ⟨_, _, _, w2⟩, kid_dp hd hm, kid_sz hz hm, sb_minus S', l1, sb_minus S2', l2, rfl, rfl⟩, enc_im _, ?_⟩
      walk_at "ev"
      exact ⟨enc_im ((Sf.T.mk (.loop i x) [nn, t1, t2]).put a b), rfl⟩
    | @pick _ _ nn ts w0 hne hk =>
      walk_at "ev"
      refine we_lcR (fun k e => ∃ t, ts[k]? = some t ∧ e = enc (t.put a b)) ?_
      refine wi_tup kp_rel ?_
      walk_at "ev"
      have hts : ts.length ≤ LIM := by
        have := ts_len hz
        have e : (nn :: ts).length = ts.length + 1 := rfl
        omega
      refine ⟨encL_im ts, lim_lt (by rw [encL_len]; exact hts), fun k g' hlt => ?_, fun acc g' e1 e2 e3 => ?_⟩
      · rw [encL_len] at hlt
        have ht : ts[k]? = some ts[k] := List.getElem?_eq_getElem hlt
        rw [encL_getD ht]
        refine wg_name rfl rfl ?_
        walk_at "ev"
        exact ⟨_, ⟨ts[k], a, b, m1, m2, ks, ds, ks2, ds2, ⟨_, _, _, hk _ (List.getElem_mem hlt)⟩, kid_dp hd (List.mem_cons_of_mem _ (List.getElem_mem hlt)), kid_sz hz (List.mem_cons_of_mem _ (List.getElem_mem hlt)), S1, l1, S2, l2, rfl, rfl⟩, enc_im _, enc_im _, _, ht, rfl⟩
      · have e4 := acc_map (f := fun t : Sf.T => enc (t.put a b)) (by rw [e1, encL_len]) e3
        have e5 : acc = encL (ts.map (Sf.T.put a b)) := by rw [e4, encL_map, List.map_map]; rfl
        subst e5
        walk_at "ev"
        refine wc_tupL ?_
        walk_at "ev"
        refine ⟨_, ⟨nn, a, b, m2, ks2, ds2, ⟨_, _, _, w0⟩, kid_dp hd List.mem_cons_self, S2, rfl, rfl⟩, enc_im _, ?_⟩
        walk_at "ev"
        rw [pickput]
        exact ⟨enc_im (.mk .pick (nn.put a b :: ts.map (Sf.T.put a b))), rfl⟩
    | @call _ _ f ts ss hf hl hk =>
      walk_at "ev"
      refine we_lcR (fun k e => ∃ t, ts[k]? = some t ∧ e = enc (t.put a b)) ?_
      refine wi_tup kp_rel ?_
      walk_at "ev"
      refine ⟨encL_im ts, lim_lt (by rw [encL_len]; exact ts_len hz), fun k g' hlt => ?_, fun acc g' e1 e2 e3 => ?_⟩
      · rw [encL_len] at hlt
        have ht : ts[k]? = some ts[k] := List.getElem?_eq_getElem hlt
        have hlt2 : k < ss.length := by rw [← hl]; exact hlt
        rw [encL_getD ht]
        refine wg_name rfl rfl ?_
        walk_at "ev"
        exact ⟨_, ⟨ts[k], ss[k], a, b, m1, m2, ks, ds, ks2, ds2, ⟨_, _, _, hk k _ _ ht (List.getElem?_eq_getElem hlt2)⟩, kid_dp hd (List.getElem_mem hlt), kid_sz hz (List.getElem_mem hlt), S1, l1, S2, l2, rfl, rfl⟩, enc_im _, enc_im _, _, ht, rfl⟩
      · have e4 := acc_map (f := fun t : Sf.T => enc (t.put a b)) (by rw [e1, encL_len]) e3
        rw [← putL0 (.call f) a b ts (fun _ => rfl) (fun _ => rfl)] at e4
        subst e4
        walk_at "ev"
        refine wc_tupL ?_
        walk_at "ev"
        exact ⟨enc_im (.mk (.call f) (putL (.call f) 0 a b ts)), rfl⟩
end
end Sf
end
section
set_option Elab.async false
set_option linter.all false
set_option maxRecDepth 100000
set_option maxHeartbeats 1000000
namespace Sf
open PySem L2
open PyProof.Rows (envOfC)
local macro_rules | `(tactic| walk_at "evS") => `(tactic| first
  | with_reducible refine ws_seq ?_
  | with_reducible refine ws_if ?_
  | with_reducible refine ws_ret ?_
  | ((with_reducible refine' ws_newL ?hi ?_); (case hi => exact rfl))
  | ((with_reducible refine' ws_newD ?hi ?_); (case hi => exact rfl))
  | ((with_reducible refine' ws_listT ?hi ?_); (case hi => exact rfl))
  | ((with_reducible refine' ws_set ?hi ?_); (case hi => exact rfl))
  | with_reducible refine ws_next ?_)
local macro_rules | `(tactic| walk_at "evE2") => `(tactic| first
  | with_reducible refine we_tup ?_
  | ((with_reducible refine' we_lenO ?hv ?_); (case hv => exact rfl))
  | ((with_reducible refine' we_tupO ?hv ?_); (case hv => exact rfl))
  | with_reducible refine we_cb ?_
  | with_reducible refine we_callI ?_
  | with_reducible refine we_callL ?_
  | with_reducible refine we_sl ?_
  | with_reducible refine we_dget ?_
  | with_reducible refine we_get2 ?_
  | with_reducible refine we_ifE ?_
  | with_reducible refine we_andV ?_
  | with_reducible refine we_chain ?_
  | with_reducible refine we_dnewK ?_
  | with_reducible refine we_bl ?_
  | with_reducible refine we_non ?_)
local macro_rules | `(tactic| walk_at "evE") => `(tactic| first
  | ((with_reducible refine' we_var ?hv ?_); (case hv => exact rfl))
  | with_reducible refine we_int ?_
  | with_reducible refine we_str ?_
  | ((with_reducible refine' we_ixO ?hv ?_); (case hv => exact rfl))
  | with_reducible refine we_op ?_
  | walk_at "evE2")
local macro_rules | `(tactic| walk_at "evW") => `(tactic| first
  | ((with_reducible refine' wr_ixT ?hx ?he ?_); (case hx => exact rfl); (case he => first | exact rfl | exact at0 | exact at1 | exact at2 | exact at3))
  | with_reducible refine wr_eqS ?_
  | with_reducible refine wr_i0 ?_
  | with_reducible refine wr_b0 ?_
  | with_reducible refine wr_eqI ?_
  | with_reducible refine wr_neS ?_
  | ((with_reducible refine' wr_ixL ?he ?_); (case he => first | exact rfl | exact at0 | exact at1 | exact at2 | exact at3)))
local macro_rules | `(tactic| walk_at "evT") => `(tactic| first
  | with_reducible refine wt_test ?_
  | with_reducible refine wt_and ?_
  | with_reducible refine wt_or ?_
  | with_reducible refine wt_not ?_
  | with_reducible refine wt_b ?_)
local macro_rules | `(tactic| walk_at "evM") => `(tactic| first
  | ((with_reducible refine' sl_and ?hs ?_); (case hs => exact rfl))
  | ((with_reducible refine if_t ?hc ?_); (case hc => decide +kernel))
  | ((with_reducible refine if_f ?hc ?_); (case hc => decide +kernel))
  | with_reducible refine wo_none ?_
  | with_reducible refine wo_some ?_
  | ((with_reducible refine' wsl_T ?hx ?_); (case hx => exact rfl))
  | with_reducible refine wsl_L ?_
  | ((with_reducible refine' Exists.intro _ (And.intro ?hx ?_)); (case hx => exact rfl))
  | dsimp only)
local macro_rules | `(tactic| walk_at "ev1") => `(tactic| first
  | with_reducible refine wa_cons ?_
  | with_reducible refine wa_nil ?_
  | ((with_reducible show WE _ _ _ _ _); walk_at "evE")
  | ((with_reducible show WR _ _ _ _ _ _); walk_at "evW")
  | ((with_reducible show WS _ _ _ _ _); walk_at "evS")
  | ((with_reducible show WT _ _ _ _ _); walk_at "evT")
  | walk_at "evM")
local macro_rules | `(tactic| walk_at "ev") => `(tactic| repeat walk_at "ev1")

theorem sc_opened : FnScope ["program", "things", "k", "name"] ["program"] (defScope (topS 13)) := ⟨rfl, rfl, rfl, by decide +kernel, rfl, by decide +kernel, by decide +kernel⟩
theorem sc_places : FnScope ["term", "found", "k", "part", "place"] ["term"] (defScope (topS 19)) := ⟨rfl, rfl, rfl, by decide +kernel, rfl, by decide +kernel, by decide +kernel⟩
theorem sc_replaced : FnScope ["term", "place", "part", "some"] ["term", "place", "part"] (defScope (topS 21)) := ⟨rfl, rfl, rfl, by decide +kernel, rfl, by decide +kernel, by decide +kernel⟩
theorem sc_def_of : FnScope ["defs", "name", "f", "params", "own"] ["defs", "name"] (defScope (topS 28)) := ⟨rfl, rfl, rfl, by decide +kernel, rfl, by decide +kernel, by decide +kernel⟩
theorem sc_chosen_in : FnScope ["term"] ["term"] (defScope (topS 30)) := ⟨rfl, rfl, rfl, by decide +kernel, rfl, by decide +kernel, by decide +kernel⟩
theorem sc_loop_step : FnScope ["term", "word", "i", "number", "x", "first", "later", "rounds", "fewer"] ["term"] (defScope (topS 27)) := ⟨rfl, rfl, rfl, by decide +kernel, rfl, by decide +kernel, by decide +kernel⟩
def plD (p : List Nat) : D := .tup (p.map fun (k : Nat) => .int (k : Int))
theorem plD_im (p : List Nat) : (plD p).im = true := imL_iff.mpr fun d hd => by obtain ⟨k, _, rfl⟩ := List.mem_map.mp hd; rfl
theorem plL_im (ps : List (List Nat)) : imL (ps.map plD) = true := imL_iff.mpr fun d hd => by obtain ⟨k, _, rfl⟩ := List.mem_map.mp hd; exact plD_im k
theorem plL_getD {ps : List (List Nat)} {k : Nat} {p : List Nat} (h : ps[k]? = some p) : (ps.map plD).getD k .non = plD p := by
  rw [List.getD_eq_getElem?_getD, List.getElem?_map, h]; rfl
theorem placesL_app : ∀ (a : List Sf.T) (k : Sf.T) (j : Nat), placesL j (a ++ [k]) = placesL j a ++ k.places.map ((j + a.length) :: ·)
  | [], k, j => by show k.places.map (j :: ·) ++ [] = [] ++ k.places.map ((j + 0) :: ·); rw [List.append_nil]; rfl
  | t :: r, k, j => by
    show t.places.map (j :: ·) ++ placesL (j + 1) (r ++ [k]) = (t.places.map (j :: ·) ++ placesL (j + 1) r) ++ _
    rw [placesL_app r k (j + 1), List.append_assoc]
    rw [show j + (t :: r).length = j + 1 + r.length by rw [List.length_cons]; omega]
theorem placesL_len (ks : List Sf.T) (j : Nat) : (placesL j ks).length = szL ks := by rw [← ppL_places, List.length_map, ppL_len]
theorem szL_take_le : ∀ (ks : List Sf.T) (i : Nat), szL (ks.take i) ≤ szL ks
  | [], 0 => Nat.le_refl _
  | [], _ + 1 => Nat.le_refl _
  | t :: r, 0 => Nat.zero_le _
  | t :: r, i + 1 => Nat.add_le_add_left (szL_take_le r i) t.sz
theorem part_len : ∀ (p : List Nat) (t u : Sf.T), partAt t p = some u → p.length ≤ t.dp
  | [], _, _, _ => Nat.zero_le _
  | j :: p, .mk h ks, u, e => by
    cases e2 : ks[j]? with
    | none => simp [partAt, e2] at e
    | some k =>
      simp only [partAt, e2] at e
      have := part_len p k u e
      have h2 := dpL_mem (List.mem_of_getElem? e2)
      show p.length + 1 ≤ dpL ks
      omega
theorem places_at {t : Sf.T} {p : List Nat} (h : p ∈ t.places) : ∃ u, partAt t p = some u := by
  obtain ⟨q, hq, rfl⟩ := List.mem_map.mp h
  exact ⟨q.2, pp_at t q.1 q.2 hq⟩
def R_places (n : Nat) (es : List D) (ds : List D) : Prop := ∃ t s, Wfx s t ∧ t.dp < n ∧ t.sz ≤ LIM ∧ es = [enc t] ∧ ds = t.places.map plD
def R_repl (n : Nat) (es : List D) (r : D) : Prop := ∃ t s p u v, Wfx s t ∧ t.sz ≤ LIM ∧ p.length < n ∧ partAt t p = some u ∧ es = [enc t, plD p, enc v] ∧ r = enc (replAt t p v)
def parD (p : Str × Bool) : D := .tup [.str p.1, .str (if p.2 then "thing" else "number")]
def parsD (ps : List (Str × Bool)) : D := .tup (ps.map parD)
def outD (d : Df) : D := .tup [parsD d.ps, enc d.b]
def defD (d : Df) : D := .tup [.str d.f, parsD d.ps, enc d.b]
def defsD (ds : List Df) : D := .tup (ds.map defD)
theorem parsD_im (ps : List (Str × Bool)) : imL (ps.map parD) = true := imL_iff.mpr fun d hd => by obtain ⟨k, _, rfl⟩ := List.mem_map.mp hd; rfl
theorem defsD_im (ds : List Df) : imL (ds.map defD) = true := imL_iff.mpr fun d hd => by
  obtain ⟨k, _, rfl⟩ := List.mem_map.mp hd
  show (imL (k.ps.map parD) && ((enc k.b).im && true)) = true
  rw [parsD_im, enc_im]; rfl
theorem outL_im (ds : List Df) : imL (ds.map outD) = true := imL_iff.mpr fun d hd => by
  obtain ⟨k, _, rfl⟩ := List.mem_map.mp hd
  show (imL (k.ps.map parD) && ((enc k.b).im && true)) = true
  rw [parsD_im, enc_im]; rfl
def R_defof (es : List D) (r : D) : Prop := ∃ ds f d, look ds f = some d ∧ ds.length ≤ LIM ∧ es = [defsD ds, .str f] ∧ r = outD d
def R_chosen (n : Nat) (es : List D) (r : D) : Prop := ∃ ds nn ts, Wfx true (.mk .pick (nn :: ts)) ∧ closedB nn = true ∧ (Sf.T.mk .pick (nn :: ts)).dp < n ∧ (Sf.T.mk .pick (nn :: ts)).sz ≤ LIM ∧ es = [enc (.mk .pick (nn :: ts))] ∧ r = enc (stepOf ds (.mk .pick (nn :: ts)))
def R_lstep (n : Nat) (es : List D) (r : D) : Prop := ∃ ds i x nn a b, Wfx true (.mk (.loop i x) [nn, a, b]) ∧ closedB nn = true ∧ (Sf.T.mk (.loop i x) [nn, a, b]).dp < n ∧ (Sf.T.mk (.loop i x) [nn, a, b]).sz ≤ LIM ∧ es = [enc (.mk (.loop i x) [nn, a, b])] ∧ r = enc (stepOf ds (.mk (.loop i x) [nn, a, b]))
theorem sb_one (x : Str) (t : Sf.T) : SB 1 (one x t) [x] [enc t] := ⟨List.nodup_cons.mpr ⟨by simp, .nil⟩, rfl, Nat.le_refl _, by show ((enc t).im && true) = true; rw [enc_im]; rfl, fun s => by
  show (if x = s then some (enc t) else none) = (if s = x then some t else none).map enc
  by_cases c : x = s
  · rw [if_pos c, if_pos c.symm]; rfl
  · rw [if_neg c, if_neg (fun q => c q.symm)]; rfl⟩
theorem sb_none (m : Nat) : SB m none' [] [] := ⟨.nil, rfl, Nat.zero_le _, rfl, fun _ => rfl⟩
/-- the inputs by their places -/
def inSub : List Str → Nat → Sub → Sub
  | [], _, a => a
  | x :: r, k, a => inSub r (k + 1) (plus a x (.mk (.input k) []))
def inPairs : List Str → Nat → List (Str × D)
  | [], _ => []
  | x :: r, k => (x, enc (.mk (.input k) [])) :: inPairs r (k + 1)
theorem in_mg : ∀ (xs : List Str) (k m : Nat) (a : Sub) (ks : List Str) (ds : List D), SB m a ks ds → SB (m + xs.length) (inSub xs k a) (mgD ks ds (inPairs xs k)).1 (mgD ks ds (inPairs xs k)).2
  | [], _, _, _, _, _, h => h
  | x :: r, k, m, a, ks, ds, h => by
    have := in_mg r (k + 1) (m + 1) (plus a x (.mk (.input k) [])) _ _ (sb_plus (SubD.put h (s := x) (e := enc (.mk (.input (k : Int)) [])) rfl))
    rw [show m + (x :: r).length = m + 1 + r.length by rw [List.length_cons]; omega]
    exact this
theorem inPairs_get : ∀ (xs : List Str) (k i : Nat), (inPairs xs k)[i]? = (xs[i]?).map fun x => (x, enc (.mk (.input ((k + i : Nat) : Int)) []))
  | [], _, _ => by simp [inPairs]
  | x :: r, k, 0 => rfl
  | x :: r, k, i + 1 => by
    show (inPairs r (k + 1))[i]? = _
    rw [inPairs_get r (k + 1) i, show k + 1 + i = k + (i + 1) by omega]; rfl
theorem inPairs_len : ∀ (xs : List Str) (k : Nat), (inPairs xs k).length = xs.length
  | [], _ => rfl
  | _ :: r, k => congrArg (· + 1) (inPairs_len r (k + 1))
def R_opened (n : Nat) (es : List D) (r : D) : Prop := ∃ xs x t, Wfx true t ∧ t.dp < n ∧ t.sz ≤ LIM ∧ xs.length ≤ 1000 ∧ x.im = true ∧ es = [.tup [.tup (xs.map D.str), x, enc t]] ∧ r = enc (t.put (inSub xs 0 none') none')
section
variable {P : Program} {w : World} {K : PySem.W.Frag} {mg : Str → Option Value} {base : Heap} (T : Tx K mg)
theorem ok_opened (n : Nat) : FnOk P w K mg base CX0 (2 * n + 2) T.opened.a T.opened.fd ["program"] (spI K (R_opened n)) := by
  have G_put_for := ok_put_for (P := P) (w := w) (base := base) T n
  refine def_I T.opened.F sc_opened (fun es r ⟨_, _, _, _, _, _, _, _, e, _⟩ => by subst e; rfl) (by decide) (fun cdv A outer s H E hr => ?_)
  have hu := hu_of hr
  have hr_put_for := hr
  refine ⟨_, (pss_cons (ps_set (i := 1) sc_opened.nd rfl (by first | exact Or.inl rfl | exact Or.inr rfl) (pe_callTy (call_dictP rfl) (by rfl) T.ndict (by decide +kernel) (pa_cons (pe_lc (own := [("k", 2), ("name", 3)]) (by rfl) sc_opened.nd (pi_enumT (by rfl) T.nenumerate (pa_cons (pe_ix ix_tup (pv 0) pe_int (fun _ _ => rfl)) pa_nil)) (blkOk_by (own := [("k", 2), ("name", 3)]) (N := ["program", "things", "k", "name"]) (sc := defScope (topS 13)) (by decide +kernel)) (fun _ _ _ _ _ => (show PG _ _ (gTup K 2 (gCons (gName 2) (gCons (gName 3) gNil))) from by exact (pg_tup (by rfl) (pgs_cons (pg_name (i := 2) sc_opened.nd rfl (by first | exact Or.inl rfl | exact Or.inr rfl)) (pgs_cons (pg_name (i := 3) sc_opened.nd rfl (by first | exact Or.inl rfl | exact Or.inr rfl)) pgs_nil))))) (fun _ _ _ _ _ => pts_nil) (fun _ _ _ _ _ => (pe_tup (pa_cons (pv 3) (pa_cons (pe_tup (pa_cons pe_str (pa_cons (pv 2) pa_nil))) pa_nil))))) pa_nil)))
  (pss_one (ps_ret (pe_call G_put_for hr_put_for (by rfl) T.put_for.g T.put_for.F.kp T.put_for.b .nil pass0 (pa_cons (pe_ix ix_tup (pv 0) pe_int (fun _ _ => rfl)) (pa_cons (pv 1) (pa_cons pe_dnewK pa_nil))))))), ?_⟩
  dsimp only [cxOf]
  rintro es r ⟨xs, x, t, wf, hd, hz, hx, him, rfl, rfl⟩
  have xim : imL (xs.map D.str) = true := imL_iff.mpr fun d hd => by obtain ⟨k, _, rfl⟩ := List.mem_map.mp hd; rfl
  walk_at "ev"
  refine we_lcR (fun k e => ∃ p, (inPairs xs 0)[k]? = some p ∧ e = pairD p.1 p.2) ?_
  refine wi_enumT kp_rel ?_
  walk_at "ev"
  refine ⟨_, _, rfl, rfl, xim, lim_lt (by rw [List.length_map]; show xs.length ≤ 1000000; omega), fun k g' hlt => ?_, fun acc g' e1 e2 e3 => ?_⟩
  · rw [List.length_map] at hlt
    have hk : (xs.map D.str).getD k .non = .str xs[k] := by rw [List.getD_eq_getElem?_getD, List.getElem?_map, List.getElem?_eq_getElem hlt]; rfl
    rw [hk]
    refine wg_tup rfl rfl (wgs_cons rfl rfl (wgs_cons rfl rfl (wgs_nil ?_)))
    walk_at "ev"
    exact ⟨rfl, (xs[k], enc (.mk (.input (k : Int)) [])), by rw [inPairs_get, List.getElem?_eq_getElem hlt, Nat.zero_add]; rfl, rfl⟩
  · have e4 := acc_map (f := fun p : Str × D => pairD p.1 p.2) (by rw [e1, List.length_map, inPairs_len]) e3
    subst e4
    walk_at "ev"
    refine wc_dict _ e2 ?_
    walk_at "ev"
    exact ⟨_, ⟨t, _, _, _, _, _, _, _, _, wf, hd, hz, in_mg xs 0 0 none' [] [] (sb_none 0), lim_lt (by show 0 + xs.length ≤ 1000000; omega), sb_none 0, by decide, rfl, rfl⟩, enc_im _, enc_im _, rfl⟩
theorem ok_places : ∀ n : Nat, FnOk P w K mg base CX0 (n + 1) T.places.a T.places.fd ["term"] (spL K (R_places n))
  | 0 => none_L fun es r ⟨t, _, _, h, _⟩ => absurd h (Nat.not_lt_zero _)
  | n + 1 => by
    have G_places := ok_places n
    have G_parts_in := ok_parts_in (P := P) (w := w) (base := base) T
    refine def_L T.places.F sc_places (fun es r ⟨_, _, _, _, _, e, _⟩ => by subst e; rfl) (by decide) (fun cdv A outer s H E hr => ?_)
    have hr_places := hr
    have hr_parts_in := hr.mono (show 1 ≤ n + 1 by omega)
    refine ⟨_, (pss_cons (ps_set (i := 1) sc_places.nd rfl (by first | exact Or.inl rfl | exact Or.inr rfl) (pe_lst (pa_cons (pe_tup pa_nil) pa_nil)))
  (pss_cons (ps_for PassesOwn.never rfl (pi_enumT (by rfl) T.nenumerate (pa_cons (pe_call G_parts_in hr_parts_in (by rfl) T.parts_in.g T.parts_in.F.kp T.parts_in.b .nil pass0 (pa_cons (pv 0) pa_nil)) pa_nil)) (pg_tup (by rfl) (pgs_cons (pg_name (i := 2) sc_places.nd rfl (by first | exact Or.inl rfl | exact Or.inr rfl)) (pgs_cons (pg_name (i := 3) sc_places.nd rfl (by first | exact Or.inl rfl | exact Or.inr rfl)) pgs_nil))) (pss_one (ps_expr (pe_bm PySem.F.plainAttrs_list PySem.F.slot_list_extend PySem.F.type_list_extend mt_extend (pv 1) (pa_cons (pe_lc (own := [("place", 4)]) (by rfl) sc_places.nd (pi_list (pe_call G_places hr_places (by rfl) T.places.g T.places.F.kp T.places.b .nil pass0 (pa_cons (pv 3) pa_nil))) (blkOk_by (own := [("place", 4)]) (N := ["term", "found", "k", "part", "place"]) (sc := defScope (topS 19)) (by decide +kernel)) (fun _ _ _ _ _ => (pg_name (i := 4) sc_places.nd rfl (by first | exact Or.inl rfl | exact Or.inr rfl))) (fun _ _ _ _ _ => pts_nil) (fun _ _ _ _ _ => (pe_op (op_catA : OpR _ _ (rCatA K)) (pe_tup (pa_cons (pv 2) pa_nil)) (pv 4)))) pa_nil)))))
  (pss_one (ps_ret (pv 1))))), ?_⟩
    dsimp only [cxOf]
    rintro es r ⟨⟨h, ks⟩, s, wf, hd, hz, rfl, rfl⟩
    walk_at "ev"
    refine ⟨rfl, ?_⟩
    walk_at "ev"
    refine ws_for (wi_enumT tk_rel ?_)
    walk_at "ev"
    refine ⟨_, ⟨_, _, wf, hz, rfl, rfl⟩, encL_im ks, ?_⟩
    walk_at "ev"
    refine ⟨_, _, rfl, rfl, encL_im ks, ?_⟩
    refine ⟨fun i Γ' _ => ∃ x y z, Γ' = [some (.d (enc (.mk h ks))), some (.own (([] :: placesL 0 (ks.take i)).map plD)), x, y, z], ⟨none, none, none, rfl⟩, fun i Γ' g' hlt ⟨x, y, z, e⟩ => ?_, fun Γ' g' ⟨x, y, z, e⟩ => ?_⟩
    · subst e
      rw [encL_len] at hlt
      have ht : ks[i]? = some ks[i] := List.getElem?_eq_getElem hlt
      rw [encL_getD ht]
      refine wg_tup rfl rfl (wgs_cons rfl rfl (wgs_cons rfl rfl (wgs_nil ?_)))
      obtain ⟨s', wk⟩ := kids_wfx wf (List.getElem_mem hlt)
      have tk : placesL 0 (ks.take (i + 1)) = placesL 0 (ks.take i) ++ (ks[i]).places.map (i :: ·) := by
        rw [List.take_add_one, ht]
        show placesL 0 (ks.take i ++ [ks[i]]) = _
        rw [placesL_app, List.length_take, Nat.min_eq_left (Nat.le_of_lt hlt), Nat.zero_add]
      have szt : (([] :: placesL 0 (ks.take i)).map plD).length + (((ks[i]).places.map (i :: ·)).map plD).length ≤ (Sf.T.mk h ks).sz := by
        rw [List.length_map, List.length_map, List.length_cons, Nat.add_right_comm, ← List.length_append, ← tk, placesL_len]
        have := szL_take_le ks (i + 1)
        show szL (ks.take (i + 1)) + 1 ≤ 1 + szL ks
        omega
      refine ws_extend rfl ?_
      refine we_lcR (fun k e => ∃ p, ((ks[i]).places.map (i :: ·))[k]? = some p ∧ e = plD p) ?_
      refine wi_list ?_
      walk_at "ev"
      refine ⟨_, ⟨ks[i], s', wk, kid_dp hd (List.getElem_mem hlt), kid_sz hz (List.getElem_mem hlt), rfl, rfl⟩, _, rfl, plL_im _, ?_⟩
      refine ⟨lim_lt (by rw [List.length_map, places_len]; exact kid_sz hz (List.getElem_mem hlt)), fun k g' hk => ?_, fun acc g' e1 e2 e3 => ?_⟩
      · rw [List.length_map] at hk
        have hp : (ks[i]).places[k]? = some ((ks[i]).places[k]) := List.getElem?_eq_getElem hk
        rw [plL_getD hp]
        refine wg_name rfl rfl ?_
        walk_at "ev"
        obtain ⟨u, hu⟩ := places_at (List.getElem_mem hk)
        have hl := part_len _ _ _ hu
        have hl2 := dp_lt_sz (ks[i])
        have hl3 := kid_sz hz (List.getElem_mem hlt)
        refine wr_catT rfl rfl ?_ ?_
        · refine lim_line ?_
          rw [List.length_map]
          show 1 + _ ≤ 1000000
          have : (ks[i]).sz ≤ 1000000 := hl3
          omega
        · exact ⟨plD_im (i :: (ks[i]).places[k]), i :: (ks[i]).places[k], by rw [List.getElem?_map, hp]; rfl, rfl⟩
      · have e4 := acc_map (f := plD) (ts := (ks[i]).places.map (i :: ·)) (by rw [e1, List.length_map, List.length_map]) e3
        subst e4
        refine ⟨_, rfl, plL_im _, lim_line (Nat.le_trans szt hz), some (.d (.int i)), some (.d (enc ks[i])), z, ?_⟩
        rw [tk, ← List.map_append, ← List.cons_append]; rfl
    · subst e
      refine ws_retO rfl ?_
      rw [encL_len, List.take_length, places_eq]
theorem eqv_nil (p : List Nat) : PyData.eqv (pyD (plD p)) (pyD (.tup [])) = p.isEmpty := by
  cases p with
  | nil => rfl
  | cons j q => rfl
theorem pl_tx (p : List Nat) : (plD p).tx = true := by
  show txL (p.map fun (k : Nat) => D.int (k : Int)) = true
  induction p with
  | nil => rfl
  | cons j q ih => show (true && txL (q.map fun (k : Nat) => D.int (k : Int))) = true; rw [ih]; rfl
theorem encL_set : ∀ (ts : List Sf.T) (j : Nat) (u : Sf.T), (encL ts).set j (enc u) = encL (ts.set j u) := fun ts j u => by
  rw [encL_map, encL_map, List.map_set]
theorem ixN_nat {n j : Nat} (h : j < n) : ixN n (j : Int) = some j := by
  unfold ixN
  rw [if_pos (Int.natCast_nonneg _), if_pos (by omega)]; rfl
theorem ok_replaced : ∀ n : Nat, FnOk P w K mg base CX0 (n + 1) T.replaced.a T.replaced.fd ["term", "place", "part"] (spI K (R_repl n))
  | 0 => none_I fun es r ⟨t, _, _, _, _, _, _, h, _⟩ => absurd h (Nat.not_lt_zero _)
  | n + 1 => by
    have G_replaced := ok_replaced n
    have G_parts_in := ok_parts_in (P := P) (w := w) (base := base) T
    have G_with_parts := ok_with_parts (P := P) (w := w) (base := base) T
    refine def_I T.replaced.F sc_replaced (fun es r ⟨_, _, _, _, _, _, _, _, _, e, _⟩ => by subst e; rfl) (by decide) (fun cdv A outer s H E hr => ?_)
    have hr_replaced := hr
    have hr_parts_in := hr.mono (show 1 ≤ n + 1 by omega)
    have hr_with_parts := hr.mono (show 1 ≤ n + 1 by omega)
    refine ⟨_, (pss_cons (ps_if (pt_cmpR (op_eqP hr.units) (pv 1) (pe_tup pa_nil) (nomark _)) (pss_one (ps_ret (pv 2))) pss_nil)
  (pss_cons (ps_set (i := 3) sc_replaced.nd rfl (by first | exact Or.inl rfl | exact Or.inr rfl) (pe_callTy call_list_of (by rfl) T.nlist (by decide +kernel) (pa_cons (pe_call G_parts_in hr_parts_in (by rfl) T.parts_in.g T.parts_in.F.kp T.parts_in.b .nil pass0 (pa_cons (pv 0) pa_nil)) pa_nil)))
  (pss_cons (ps_asg (pe_call G_replaced hr_replaced (by rfl) T.replaced.g T.replaced.F.kp T.replaced.b .nil pass0 (pa_cons (pe_ix ix_list (pv 3) (pe_ix ix_tup (pv 1) pe_int (fun _ _ => rfl)) (fun _ _ => rfl)) (pa_cons (pe_slice sl_tupA (pv 1) (po_some pe_int) po_none) (pa_cons (pv 2) pa_nil)))) (pg_sub (pv 3) (pe_ix ix_tup (pv 1) pe_int (fun _ _ => rfl)) set_list))
  (pss_one (ps_ret (pe_call G_with_parts hr_with_parts (by rfl) T.with_parts.g T.with_parts.F.kp T.with_parts.b .nil pass0 (pa_cons (pv 0) (pa_cons (pv 3) pa_nil)))))))), ?_⟩
    dsimp only [cxOf]
    rintro es r ⟨⟨h, ks⟩, s, p, u, v, wf, hz, hl, hp, rfl, rfl⟩
    walk_at "ev"
    refine wr_eqP (pl_tx p) rfl ?_ ?_
    · show min _ 1 ≤ 64
      omega
    refine ⟨_, rfl, ?_⟩
    rw [eqv_nil]
    cases p with
    | nil =>
      walk_at "ev"
      exact ⟨enc_im v, rfl⟩
    | cons j q =>
      have hkj : ∃ k, ks[j]? = some k := by
        cases e : ks[j]? with
        | none => simp [partAt, e] at hp
        | some k => exact ⟨k, rfl⟩
      obtain ⟨k, e⟩ := hkj
      simp only [partAt, e] at hp
      have hlt2 : j < ks.length := (List.getElem?_eq_some_iff.mp e).1
      have hmem : k ∈ ks := List.mem_of_getElem? e
      obtain ⟨s2, wk⟩ := kids_wfx wf hmem
      refine if_f (show ¬ ((j :: q).isEmpty = true) from Bool.false_ne_true) ?_
      walk_at "ev"
      refine ⟨_, ⟨_, _, wf, hz, rfl, rfl⟩, encL_im ks, _, rfl, encL_im ks, ?_⟩
      walk_at "ev"
      refine ws_setL rfl ?_
      walk_at "ev"
      refine ⟨_, enc k, rfl, atI_nat (by rw [encL_get]; show (ks[j]?).map enc = some (enc k); rw [e]; rfl), ?_⟩
      walk_at "ev"
      rw [show cutD (List.map (fun (k : Nat) => D.int (k : Int)) (j :: q)) (some 1) none = List.map (fun (k : Nat) => D.int (k : Int)) q from cut1 _ _]
      walk_at "ev"
      refine ⟨_, ⟨k, s2, q, u, v, wk, kid_sz hz hmem, Nat.lt_of_succ_lt_succ hl, hp, rfl, rfl⟩, enc_im _, ?_⟩
      walk_at "ev"
      refine ⟨_, j, rfl, by rw [encL_len]; exact ixN_nat hlt2, enc_im _, ?_⟩
      rw [encL_set]
      refine ws_share (i := 3) rfl rfl ?_
      walk_at "ev"
      refine ⟨_, ⟨h, ks, ks.set j (replAt k q v), s, wf, hz, by rw [List.length_set], rfl, rfl⟩, enc_im _, enc_im _, ?_⟩
      simp only [replAt, e]
theorem find_head {α : Type} (p : α → Bool) : ∀ l : List α, (l.filter p)[0]? = l.find? p
  | [] => rfl
  | a :: l => by
    rw [List.filter_cons, List.find?_cons]
    cases h : p a with
    | true => rfl
    | false => exact find_head p l
theorem ok_def_of : FnOk P w K mg base CX0 1 T.def_of.a T.def_of.fd ["defs", "name"] (spI K R_defof) := by
  refine def_I T.def_of.F sc_def_of (fun es r ⟨_, _, _, _, _, e, _⟩ => by subst e; rfl) (by decide) (fun cdv A outer s H E hr => ?_)
  refine ⟨_, (pss_one (ps_ret (pe_ix ix_list (pe_lc (own := [("f", 2), ("params", 3), ("own", 4)]) (by rfl) sc_def_of.nd (pi_tup (pv 0)) (blkOk_by (own := [("f", 2), ("params", 3), ("own", 4)]) (N := ["defs", "name", "f", "params", "own"]) (sc := defScope (topS 28)) (by decide +kernel)) (fun _ _ _ _ _ => (show PG _ _ (gTup K 3 (gCons (gName 2) (gCons (gName 3) (gCons (gName 4) gNil)))) from by exact (pg_tup (by rfl) (pgs_cons (pg_name (i := 2) sc_def_of.nd rfl (by first | exact Or.inl rfl | exact Or.inr rfl)) (pgs_cons (pg_name (i := 3) sc_def_of.nd rfl (by first | exact Or.inl rfl | exact Or.inr rfl)) (pgs_cons (pg_name (i := 4) sc_def_of.nd rfl (by first | exact Or.inl rfl | exact Or.inr rfl)) pgs_nil)))))) (fun _ _ _ _ _ => (pts_one (pt_cmpR op_eq (pv 2) (pv 1) (nomark _)))) (fun _ _ _ _ _ => (pe_tup (pa_cons (pv 3) (pa_cons (pv 4) pa_nil))))) pe_int (fun _ _ => rfl)))), ?_⟩
  dsimp only [cxOf]
  rintro es r ⟨ds, f, d, hl, hz, rfl, rfl⟩
  walk_at "ev"
  refine we_lc (wi_tup kp_rel ?_)
  walk_at "ev"
  refine ⟨defsD_im ds, lim_lt (by rw [List.length_map]; exact hz), fun i acc _ => acc = ((ds.take i).filter fun d => decide (d.f = f)).map outD, rfl, fun i acc g' hlt _ e => ?_, fun acc g' _ him e => ?_⟩
  · rw [List.length_map] at hlt
    have hd : ds[i]? = some ds[i] := List.getElem?_eq_getElem hlt
    have hk : (ds.map defD).getD i .non = defD ds[i] := by rw [List.getD_eq_getElem?_getD, List.getElem?_map, hd]; rfl
    rw [hk]
    have tk : (ds.take (i + 1)).filter (fun d => decide (d.f = f)) = (ds.take i).filter (fun d => decide (d.f = f)) ++ (if decide ((ds[i]).f = f) = true then [ds[i]] else []) := by
      rw [List.take_add_one, hd, List.filter_append]
      congr 1
      show List.filter _ [ds[i]] = _
      rw [List.filter_cons]
      split <;> rfl
    refine wg_tup rfl rfl (wgs_cons rfl rfl (wgs_cons rfl rfl (wgs_cons rfl rfl (wgs_nil ?_))))
    walk_at "ev"
    rw [tk]
    refine if_both (fun c => ?_) (fun c => ?_)
    · walk_at "ev"
      refine ⟨?_, ?_⟩
      · show (imL ((ds[i]).ps.map parD) && ((enc (ds[i]).b).im && true)) = true
        rw [parsD_im, enc_im]; rfl
      · rw [if_pos c, List.map_append, e]; rfl
    · rw [if_neg c, List.append_nil]; exact e
  · rw [List.length_map, List.take_length] at e
    subst e
    walk_at "ev"
    refine wr_ixL (d := outD d) ?_ ?_
    · have : ((ds.filter fun d => decide (d.f = f)).map outD)[0]? = some (outD d) := by
        rw [List.getElem?_map, find_head]
        show (look ds f).map outD = _
        rw [hl]; rfl
      exact atI_nat (j := 0) this
    · refine ⟨?_, rfl⟩
      show (imL (d.ps.map parD) && ((enc d.b).im && true)) = true
      rw [parsD_im, enc_im]; rfl
theorem ok_chosen_in (n : Nat) : FnOk P w K mg base CX0 (n + 2) T.chosen_in.a T.chosen_in.fd ["term"] (spI K (R_chosen n)) := by
  have G_value_of := ok_value_of (P := P) (w := w) (base := base) T n
  refine def_I T.chosen_in.F sc_chosen_in (fun es r ⟨_, _, _, _, _, _, _, e, _⟩ => by subst e; rfl) (by decide) (fun cdv A outer s H E hr => ?_)
  have hr_value_of := hr
  refine ⟨_, (pss_one (ps_ret (pe_ix ix_tup (pe_ix ix_tup (pv 0) pe_int (fun _ _ => rfl)) (pe_op op_mod (pe_call G_value_of hr_value_of (by rfl) T.value_of.g T.value_of.F.kp T.value_of.b .nil pass0 (pa_cons (pe_ix ix_tup (pv 0) pe_int (fun _ _ => rfl)) (pa_cons pe_dnewK pa_nil))) (pe_callB call_len (by rfl) T.nlen PySem.boot_len (pa_cons (pe_ix ix_tup (pv 0) pe_int (fun _ _ => rfl)) pa_nil))) (fun _ _ => rfl)))), ?_⟩
  dsimp only [cxOf]
  rintro es r ⟨ds, nn, ts, ⟨sg, X, C, wf⟩, hc, hd, hz, rfl, rfl⟩
  cases wf with
  | pick w0 hne hk =>
    obtain ⟨e1, a1, b1⟩ := nv0_wf w0 hc
    have hpos : 0 < ts.length := by cases ts with | nil => exact absurd rfl hne | cons => exact Nat.succ_pos _
    walk_at "ev"
    refine ⟨.int (nv0 nn), ⟨nn, _, ⟨_, _, _, w0⟩, hc, e1, a1, b1, Nat.lt_trans (dpL_mem List.mem_cons_self) hd, rfl, rfl⟩, rfl, ?_⟩
    walk_at "ev"
    refine wc_len (n := ts.length) (encL_len ts).symm ?_
    refine wr_iC (by show 0 < ((ts.length : Nat) : Int); omega) ?_
    have hm1 : 0 ≤ nv0 nn % (ts.length : Int) := Int.emod_nonneg _ (by omega)
    have hm2 : nv0 nn % (ts.length : Int) < ts.length := Int.emod_lt_of_pos _ (by omega)
    have hj : (nv0 nn % (ts.length : Int)).toNat < ts.length := by omega
    have ej : ts[(nv0 nn % (ts.length : Int)).toNat]? = some ts[(nv0 nn % (ts.length : Int)).toNat] := List.getElem?_eq_getElem hj
    have es : stepOf ds (.mk .pick (nn :: ts)) = ts[(nv0 nn % (ts.length : Int)).toNat] := by
      show (ts[(nv0 nn % (ts.length : Int)).toNat]?).getD nn = _
      rw [ej]; rfl
    rw [es]
    refine wr_ixT rfl ?_ ⟨enc_im _, rfl⟩
    have := atI_nat (xs := encL ts) (j := (nv0 nn % (ts.length : Int)).toNat) (v := enc ts[(nv0 nn % (ts.length : Int)).toNat]) (by rw [encL_get, ej]; rfl)
    rw [Int.toNat_of_nonneg hm1] at this
    exact this
theorem ok_loop_step (n : Nat) : FnOk P w K mg base CX0 (2 * n + 2) T.loop_step.a T.loop_step.fd ["term"] (spI K (R_lstep n)) := by
  have G_value_of := ok_value_of (P := P) (w := w) (base := base) T n
  have G_put_for := ok_put_for (P := P) (w := w) (base := base) T n
  refine def_I T.loop_step.F sc_loop_step (fun es r ⟨_, _, _, _, _, _, _, _, _, _, e, _⟩ => by subst e; rfl) (by decide) (fun cdv A outer s H E hr => ?_)
  have hr_value_of := hr.mono (show n + 1 ≤ 2 * n + 1 by omega)
  have hr_put_for := hr
  refine ⟨_, (pss_cons (ps_asg (pv 0) (pg_tup (by rfl) (pgs_cons (pg_name (i := 1) sc_loop_step.nd rfl (by first | exact Or.inl rfl | exact Or.inr rfl)) (pgs_cons (pg_name (i := 2) sc_loop_step.nd rfl (by first | exact Or.inl rfl | exact Or.inr rfl)) (pgs_cons (pg_name (i := 3) sc_loop_step.nd rfl (by first | exact Or.inl rfl | exact Or.inr rfl)) (pgs_cons (pg_name (i := 4) sc_loop_step.nd rfl (by first | exact Or.inl rfl | exact Or.inr rfl)) (pgs_cons (pg_name (i := 5) sc_loop_step.nd rfl (by first | exact Or.inl rfl | exact Or.inr rfl)) (pgs_cons (pg_name (i := 6) sc_loop_step.nd rfl (by first | exact Or.inl rfl | exact Or.inr rfl)) pgs_nil))))))))
  (pss_cons (ps_set (i := 7) sc_loop_step.nd rfl (by first | exact Or.inl rfl | exact Or.inr rfl) (pe_call G_value_of hr_value_of (by rfl) T.value_of.g T.value_of.F.kp T.value_of.b .nil pass0 (pa_cons (pv 3) (pa_cons pe_dnewK pa_nil))))
  (pss_cons (ps_if (pt_cmpR op_eq (pv 7) pe_int (nomark _)) (pss_one (ps_ret (pv 5))) pss_nil)
  (pss_cons (ps_set (i := 8) sc_loop_step.nd rfl (by first | exact Or.inl rfl | exact Or.inr rfl) (pe_tup (pa_cons pe_str (pa_cons (pe_op op_sub (pv 7) pe_int) pa_nil))))
  (pss_one (ps_ret (pe_tup (pa_cons pe_str (pa_cons (pv 4) (pa_cons (pe_tup (pa_cons pe_str (pa_cons (pv 2) (pa_cons (pv 8) (pa_cons (pv 4) (pa_cons (pv 5) (pa_cons (pv 6) pa_nil))))))) (pa_cons (pe_call G_put_for hr_put_for (by rfl) T.put_for.g T.put_for.F.kp T.put_for.b .nil pass0 (pa_cons (pv 6) (pa_cons pe_dnewK (pa_cons (pe_disp (pps_cons (pv 2) (pv 8) pps_nil) (by rfl) (by rfl) (fun z => by cases z) (by decide)) pa_nil)))) pa_nil))))))))))), ?_⟩
  dsimp only [cxOf]
  rintro es r ⟨ds, i, x, nn, a, b, ⟨sg, X, C, wf⟩, hc, hd, hz, rfl, rfl⟩
  cases wf with
  | loop w0 w1 w2 =>
    obtain ⟨e1, a1, b1⟩ := nv0_wf w0 hc
    have hm : b ∈ [nn, a, b] := List.mem_cons_of_mem _ (List.mem_cons_of_mem _ List.mem_cons_self)
    walk_at "ev"
    refine ws_asg ?_
    walk_at "ev"
    refine wg_tup rfl rfl (wgs_cons rfl rfl (wgs_cons rfl rfl (wgs_cons rfl rfl (wgs_cons rfl rfl (wgs_cons rfl rfl (wgs_cons rfl rfl (wgs_nil ?_)))))))
    walk_at "ev"
    refine ⟨.int (nv0 nn), ⟨nn, _, ⟨_, _, _, w0⟩, hc, e1, a1, b1, Nat.lt_trans (dpL_mem List.mem_cons_self) hd, rfl, rfl⟩, rfl, ?_⟩
    walk_at "ev"
    refine if_both (fun c => ?_) (fun c => ?_)
    · walk_at "ev"
      refine ⟨enc_im a, ?_⟩
      show enc a = enc (if nv0 nn = 0 then a else _)
      rw [if_pos (of_decide_eq_true c)]
    · have c' : ¬ nv0 nn = 0 := of_decide_eq_false (Bool.eq_false_iff.mpr c)
      walk_at "ev"
      refine we_disp1 ?_
      walk_at "ev"
      refine ⟨rfl, ?_⟩
      walk_at "ev"
      refine ⟨_, ⟨b, none', one i (.mk (.num (nv0 nn - 1)) []), 0, 1, _, _, _, _, ⟨_, _, _, w2⟩, Nat.lt_trans (dpL_mem hm) hd, kid_sz hz hm, sb_none 0, by decide, sb_one i _, by decide, rfl, rfl⟩, enc_im _, ?_⟩
      walk_at "ev"
      have es : stepOf ds (.mk (.loop i x) [nn, a, b]) = .mk (.letv x) [.mk (.loop i x) [.mk (.num (nv0 nn - 1)) [], a, b], b.put none' (one i (.mk (.num (nv0 nn - 1)) []))] := by
        show (if nv0 nn = 0 then a else _) = _
        rw [if_neg c']
      rw [es]
      exact ⟨enc_im (.mk (.letv x) [.mk (.loop i x) [.mk (.num (nv0 nn - 1)) [], a, b], b.put none' (one i (.mk (.num (nv0 nn - 1)) []))]), rfl⟩
end
end Sf
end
section
set_option Elab.async false
set_option linter.all false
set_option maxRecDepth 100000
set_option maxHeartbeats 1000000
namespace Sf
open PySem L2
open PyProof.Rows (envOfC)
local macro_rules | `(tactic| walk_at "evS") => `(tactic| first
  | with_reducible refine ws_seq ?_
  | with_reducible refine ws_if ?_
  | with_reducible refine ws_ret ?_
  | ((with_reducible refine' ws_newL ?hi ?_); (case hi => exact rfl))
  | ((with_reducible refine' ws_newD ?hi ?_); (case hi => exact rfl))
  | ((with_reducible refine' ws_listT ?hi ?_); (case hi => exact rfl))
  | ((with_reducible refine' ws_set ?hi ?_); (case hi => exact rfl))
  | with_reducible refine ws_next ?_)
local macro_rules | `(tactic| walk_at "evE2") => `(tactic| first
  | with_reducible refine we_tup ?_
  | ((with_reducible refine' we_lenO ?hv ?_); (case hv => exact rfl))
  | ((with_reducible refine' we_tupO ?hv ?_); (case hv => exact rfl))
  | with_reducible refine we_cb ?_
  | with_reducible refine we_callI ?_
  | with_reducible refine we_callL ?_
  | with_reducible refine we_sl ?_
  | with_reducible refine we_dget ?_
  | with_reducible refine we_get2 ?_
  | with_reducible refine we_ifE ?_
  | with_reducible refine we_andV ?_
  | with_reducible refine we_chain ?_
  | with_reducible refine we_dnewK ?_
  | with_reducible refine we_bl ?_
  | with_reducible refine we_non ?_)
local macro_rules | `(tactic| walk_at "evE") => `(tactic| first
  | ((with_reducible refine' we_var ?hv ?_); (case hv => exact rfl))
  | with_reducible refine we_int ?_
  | with_reducible refine we_str ?_
  | ((with_reducible refine' we_ixO ?hv ?_); (case hv => exact rfl))
  | with_reducible refine we_op ?_
  | walk_at "evE2")
local macro_rules | `(tactic| walk_at "evW") => `(tactic| first
  | ((with_reducible refine' wr_ixT ?hx ?he ?_); (case hx => exact rfl); (case he => first | exact rfl | exact at0 | exact at1 | exact at2 | exact at3))
  | with_reducible refine wr_eqS ?_
  | with_reducible refine wr_i0 ?_
  | with_reducible refine wr_b0 ?_
  | with_reducible refine wr_eqI ?_
  | with_reducible refine wr_neS ?_
  | ((with_reducible refine' wr_ixL ?he ?_); (case he => first | exact rfl | exact at0 | exact at1 | exact at2 | exact at3)))
local macro_rules | `(tactic| walk_at "evT") => `(tactic| first
  | with_reducible refine wt_test ?_
  | with_reducible refine wt_and ?_
  | with_reducible refine wt_or ?_
  | with_reducible refine wt_not ?_
  | with_reducible refine wt_b ?_)
local macro_rules | `(tactic| walk_at "evM") => `(tactic| first
  | ((with_reducible refine' sl_and ?hs ?_); (case hs => exact rfl))
  | ((with_reducible refine if_t ?hc ?_); (case hc => decide +kernel))
  | ((with_reducible refine if_f ?hc ?_); (case hc => decide +kernel))
  | with_reducible refine wo_none ?_
  | with_reducible refine wo_some ?_
  | ((with_reducible refine' wsl_T ?hx ?_); (case hx => exact rfl))
  | with_reducible refine wsl_L ?_
  | ((with_reducible refine' Exists.intro _ (And.intro ?hx ?_)); (case hx => exact rfl))
  | dsimp only)
local macro_rules | `(tactic| walk_at "ev1") => `(tactic| first
  | with_reducible refine wa_cons ?_
  | with_reducible refine wa_nil ?_
  | ((with_reducible show WE _ _ _ _ _); walk_at "evE")
  | ((with_reducible show WR _ _ _ _ _ _); walk_at "evW")
  | ((with_reducible show WS _ _ _ _ _); walk_at "evS")
  | ((with_reducible show WT _ _ _ _ _); walk_at "evT")
  | walk_at "evM")
local macro_rules | `(tactic| walk_at "ev") => `(tactic| repeat walk_at "ev1")

theorem sc_call_step : FnScope ["defs", "term", "params", "own", "things", "counts", "param", "arg"] ["defs", "term"] (defScope (topS 29)) := ⟨rfl, rfl, rfl, by decide +kernel, rfl, by decide +kernel, by decide +kernel⟩
theorem sc_size_put : FnScope ["term", "sizes", "total", "k", "part", "known"] ["term", "sizes"] (defScope (topS 32)) := ⟨rfl, rfl, rfl, by decide +kernel, rfl, by decide +kernel, by decide +kernel⟩
theorem sc_step_of : FnScope ["defs", "term", "word"] ["defs", "term"] (defScope (topS 31)) := ⟨rfl, rfl, rfl, by decide +kernel, rfl, by decide +kernel, by decide +kernel⟩
theorem sc_step_size : FnScope ["defs", "term", "word", "params", "own", "sizes", "param", "arg"] ["defs", "term"] (defScope (topS 33)) := ⟨rfl, rfl, rfl, by decide +kernel, rfl, by decide +kernel, by decide +kernel⟩
theorem sc_step_places : FnScope ["defs", "term", "place", "part"] ["defs", "term"] (defScope (topS 26)) := ⟨rfl, rfl, rfl, by decide +kernel, rfl, by decide +kernel, by decide +kernel⟩
def stepA (p : Str × Bool) (t : Sf.T) (ab : Sub × Sub) : Sub × Sub := if p.2 = true then (plus ab.1 p.1 t, ab.2) else (ab.1, plus ab.2 p.1 (.mk (.num (nv0 t)) []))
theorem bindA_snoc : ∀ (ps : List (Str × Bool)) (ts : List Sf.T) (p : Str × Bool) (t : Sf.T) (a b : Sub), ts.length = ps.length → bindA (ps ++ [p]) (ts ++ [t]) a b = stepA p t (bindA ps ts a b)
  | [], [], (x, true), t, a, b, _ => rfl
  | [], [], (x, false), t, a, b, _ => rfl
  | [], _ :: _, _, _, _, _, e => by cases e
  | _ :: _, [], _, _, _, _, e => by cases e
  | (x, true) :: ps, t0 :: ts, p, t, a, b, e => bindA_snoc ps ts p t (plus a x t0) b (Nat.succ.inj e)
  | (x, false) :: ps, t0 :: ts, p, t, a, b, e => bindA_snoc ps ts p t a (plus b x (.mk (.num (nv0 t0)) [])) (Nat.succ.inj e)
theorem bindS_snoc : ∀ (ps : List (Str × Bool)) (ts : List Sf.T) (p : Str × Bool) (t : Sf.T) (s : Str → Option Nat), ts.length = ps.length → bindS (ps ++ [p]) (ts ++ [t]) s = if p.2 = true then plus (bindS ps ts s) p.1 t.sz else bindS ps ts s
  | [], [], (x, true), t, s, _ => rfl
  | [], [], (x, false), t, s, _ => rfl
  | [], _ :: _, _, _, _, e => by cases e
  | _ :: _, [], _, _, _, e => by cases e
  | (x, true) :: ps, t0 :: ts, p, t, s, e => bindS_snoc ps ts p t (plus s x t0.sz) (Nat.succ.inj e)
  | (x, false) :: ps, t0 :: ts, p, t, s, e => bindS_snoc ps ts p t s (Nat.succ.inj e)
theorem take_snoc {α : Type} {l : List α} {i : Nat} {x : α} (h : l[i]? = some x) : l.take (i + 1) = l.take i ++ [x] := by rw [List.take_add_one, h]; rfl
structure CallOk (n : Nat) (ds : List Df) (f : Str) (ts : List Sf.T) (d : Df) : Prop where
  lk : look ds f = some d
  dl : ds.length ≤ LIM
  len : ts.length = d.ps.length
  wf : ∀ (j : Nat) (t : Sf.T) (s : Bool), ts[j]? = some t → (d.ps.map (·.2))[j]? = some s → Wfx s t
  done : ts.all doneB = true
  dp : (Sf.T.mk (.call f) ts).dp < n
  sz : (Sf.T.mk (.call f) ts).sz ≤ LIM
  bwf : Wfx true d.b
  bdp : d.b.dp < n
  bsz : d.b.sz ≤ LIM
def R_cstep (n : Nat) (es : List D) (r : D) : Prop := ∃ ds f ts d, CallOk n ds f ts d ∧ es = [defsD ds, enc (.mk (.call f) ts)] ∧ r = enc (stepOf ds (.mk (.call f) ts))
def tag : Hd → Str
  | .num _ => "num" | .count _ => "count" | .op _ => "op" | .name _ => "name" | .fixed _ => "fixed" | .input _ => "input"
  | .dov _ => "do" | .letv _ => "let" | .loop _ _ => "loop" | .pick => "pick" | .call _ => "call"
theorem tag_name : ∀ {h : Hd}, tag h = "name" → ∃ x, h = .name x
  | .num _, q => absurd (show ("num" : Str) = "name" from q) (by decide +kernel)
  | .count _, q => absurd (show ("count" : Str) = "name" from q) (by decide +kernel)
  | .op _, q => absurd (show ("op" : Str) = "name" from q) (by decide +kernel)
  | .name x, _ => ⟨x, rfl⟩
  | .fixed _, q => absurd (show ("fixed" : Str) = "name" from q) (by decide +kernel)
  | .input _, q => absurd (show ("input" : Str) = "name" from q) (by decide +kernel)
  | .dov _, q => absurd (show ("do" : Str) = "name" from q) (by decide +kernel)
  | .letv _, q => absurd (show ("let" : Str) = "name" from q) (by decide +kernel)
  | .loop _ _, q => absurd (show ("loop" : Str) = "name" from q) (by decide +kernel)
  | .pick, q => absurd (show ("pick" : Str) = "name" from q) (by decide +kernel)
  | .call _, q => absurd (show ("call" : Str) = "name" from q) (by decide +kernel)
theorem tag_let : ∀ {h : Hd}, tag h = "let" → ∃ x, h = .letv x
  | .num _, q => absurd (show ("num" : Str) = "let" from q) (by decide +kernel)
  | .count _, q => absurd (show ("count" : Str) = "let" from q) (by decide +kernel)
  | .op _, q => absurd (show ("op" : Str) = "let" from q) (by decide +kernel)
  | .name _, q => absurd (show ("name" : Str) = "let" from q) (by decide +kernel)
  | .fixed _, q => absurd (show ("fixed" : Str) = "let" from q) (by decide +kernel)
  | .input _, q => absurd (show ("input" : Str) = "let" from q) (by decide +kernel)
  | .dov _, q => absurd (show ("do" : Str) = "let" from q) (by decide +kernel)
  | .letv x, _ => ⟨x, rfl⟩
  | .loop _ _, q => absurd (show ("loop" : Str) = "let" from q) (by decide +kernel)
  | .pick, q => absurd (show ("pick" : Str) = "let" from q) (by decide +kernel)
  | .call _, q => absurd (show ("call" : Str) = "let" from q) (by decide +kernel)
theorem tag_loop : ∀ {h : Hd}, tag h = "loop" → ∃ j x, h = .loop j x
  | .num _, q => absurd (show ("num" : Str) = "loop" from q) (by decide +kernel)
  | .count _, q => absurd (show ("count" : Str) = "loop" from q) (by decide +kernel)
  | .op _, q => absurd (show ("op" : Str) = "loop" from q) (by decide +kernel)
  | .name _, q => absurd (show ("name" : Str) = "loop" from q) (by decide +kernel)
  | .fixed _, q => absurd (show ("fixed" : Str) = "loop" from q) (by decide +kernel)
  | .input _, q => absurd (show ("input" : Str) = "loop" from q) (by decide +kernel)
  | .dov _, q => absurd (show ("do" : Str) = "loop" from q) (by decide +kernel)
  | .letv _, q => absurd (show ("let" : Str) = "loop" from q) (by decide +kernel)
  | .loop j x, _ => ⟨j, x, rfl⟩
  | .pick, q => absurd (show ("pick" : Str) = "loop" from q) (by decide +kernel)
  | .call _, q => absurd (show ("call" : Str) = "loop" from q) (by decide +kernel)
theorem enc_tag {s : Bool} {h : Hd} {ks : List Sf.T} (w : Wfx s (.mk h ks)) : ∃ rest, enc (.mk h ks) = .tup (.str (tag h) :: rest) := by
  obtain ⟨sg, X, C, wf⟩ := w
  cases wf <;> exact ⟨_, rfl⟩
def szD (f : Str → Option Nat) : Str → Option D := fun x => (f x).map fun (n : Nat) => .int (n : Int)
theorem szD_minus (f : Str → Option Nat) (o : Option Str) : minus (szD f) o = szD (minus f o) := by
  cases o with
  | none => rfl
  | some x => funext y; show (if y = x then none else szD f y) = Option.map _ (if y = x then none else f y); split <;> rfl
theorem szD_plus (f : Str → Option Nat) (x : Str) (n : Nat) : plus (szD f) x (.int (n : Int)) = szD (plus f x n) := by
  funext y; show (if y = x then some _ else szD f y) = Option.map _ (if y = x then some n else f y); split <;> rfl
theorem sizePutL_snoc (h : Hd) (s : Str → Option Nat) : ∀ (a : List Sf.T) (k : Sf.T) (j : Nat), sizePutL h j s (a ++ [k]) = sizePutL h j s a + sizePut (minus s (bT h (j + a.length))) k
  | [], k, j => by show sizePut (minus s (bT h j)) k + 0 = 0 + sizePut (minus s (bT h (j + 0))) k; rw [Nat.add_zero, Nat.add_zero, Nat.zero_add]
  | t :: r, k, j => by
    show sizePut (minus s (bT h j)) t + sizePutL h (j + 1) s (r ++ [k]) = sizePut (minus s (bT h j)) t + sizePutL h (j + 1) s r + _
    rw [sizePutL_snoc h s r k (j + 1), show j + (t :: r).length = j + 1 + r.length by rw [List.length_cons]; omega]; omega
def R_szput (n : Nat) (es : List D) (r : D) : Prop := ∃ t s m f ks ds, Wfx s t ∧ t.dp < n ∧ t.sz ≤ LIM ∧ SubD m (szD f) ks ds ∧ m < sizeLine ∧ es = [enc t, .dict ks ds] ∧ r = .int (sizePut f t : Nat)
section
variable {P : Program} {w : World} {K : PySem.W.Frag} {mg : Str → Option Value} {base : Heap} (T : Tx K mg)
theorem ok_call_step (n : Nat) : FnOk P w K mg base CX0 (2 * n + 2) T.call_step.a T.call_step.fd ["defs", "term"] (spI K (R_cstep n)) := by
  have G_value_of := ok_value_of (P := P) (w := w) (base := base) T n
  have G_put_for := ok_put_for (P := P) (w := w) (base := base) T n
  have G_def_of := ok_def_of (P := P) (w := w) (base := base) T
  refine def_I T.call_step.F sc_call_step (fun es r ⟨_, _, _, _, _, e, _⟩ => by subst e; rfl) (by decide) (fun cdv A outer s H E hr => ?_)
  have hu := hu_of hr
  have hr_value_of := hr.mono (show n + 1 ≤ 2 * n + 1 by omega)
  have hr_def_of := hr.mono (show 1 ≤ 2 * n + 1 by omega)
  have hr_put_for := hr
  refine ⟨_, (pss_cons (ps_asg (pe_call G_def_of hr_def_of (by rfl) T.def_of.g T.def_of.F.kp T.def_of.b .nil pass0 (pa_cons (pv 0) (pa_cons (pe_ix ix_tup (pv 1) pe_int (fun _ _ => rfl)) pa_nil))) (pg_tup (by rfl) (pgs_cons (pg_name (i := 2) sc_call_step.nd rfl (by first | exact Or.inl rfl | exact Or.inr rfl)) (pgs_cons (pg_name (i := 3) sc_call_step.nd rfl (by first | exact Or.inl rfl | exact Or.inr rfl)) pgs_nil))))
  (pss_cons (ps_set (i := 4) sc_call_step.nd rfl (by first | exact Or.inl rfl | exact Or.inr rfl) pe_dnewK)
  (pss_cons (ps_set (i := 5) sc_call_step.nd rfl (by first | exact Or.inl rfl | exact Or.inr rfl) pe_dnewK)
  (pss_cons (ps_for PassesOwn.never rfl (RZ.pi_zipA (by rfl) T.nzip (pa_cons (pv 2) (pa_cons (pe_ix ix_tup (pv 1) pe_int (fun _ _ => rfl)) pa_nil))) (pg_tup (by rfl) (pgs_cons (pg_name (i := 6) sc_call_step.nd rfl (by first | exact Or.inl rfl | exact Or.inr rfl)) (pgs_cons (pg_name (i := 7) sc_call_step.nd rfl (by first | exact Or.inl rfl | exact Or.inr rfl)) pgs_nil))) (pss_one (ps_if (pt_cmpR op_eq (pe_ix ix_tup (pv 6) pe_int (fun _ _ => rfl)) pe_str (nomark _)) (pss_one (ps_dput hu (pv 4) (pe_ix ix_tup (pv 6) pe_int (fun _ _ => rfl)) (pv 7) rfl)) (pss_one (ps_dput hu (pv 5) (pe_ix ix_tup (pv 6) pe_int (fun _ _ => rfl)) (pe_tup (pa_cons pe_str (pa_cons (pe_call G_value_of hr_value_of (by rfl) T.value_of.g T.value_of.F.kp T.value_of.b .nil pass0 (pa_cons (pv 7) (pa_cons pe_dnewK pa_nil))) pa_nil))) rfl)))))
  (pss_one (ps_ret (pe_call G_put_for hr_put_for (by rfl) T.put_for.g T.put_for.F.kp T.put_for.b .nil pass0 (pa_cons (pv 3) (pa_cons (pv 4) (pa_cons (pv 5) pa_nil)))))))))), ?_⟩
  dsimp only [cxOf]
  rintro es r ⟨ds, f, ts, d, C, rfl, rfl⟩
  have tl : ts.length ≤ LIM := ts_len C.sz
  walk_at "ev"
  refine ws_asg ?_
  walk_at "ev"
  refine ⟨_, ⟨ds, f, d, C.lk, C.dl, rfl, rfl⟩, ?_, ?_⟩
  · show (imL (d.ps.map parD) && ((enc d.b).im && true)) = true
    rw [parsD_im, enc_im]; rfl
  refine wg_tup rfl rfl (wgs_cons rfl rfl (wgs_cons rfl rfl (wgs_nil ?_)))
  walk_at "ev"
  refine ws_for (wi_zipT tk_rel ?_)
  walk_at "ev"
  refine ⟨_, _, _, _, rfl, rfl, rfl, parsD_im _, encL_im ts, ?_⟩
  rw [List.length_map, encL_len, C.len, Nat.min_self]
  refine ⟨fun i Γ' _ => ∃ ks1 ds1 ks2 ds2 x y, Γ' = [some (.d (defsD ds)), some (.d (enc (.mk (.call f) ts))), some (.d (parsD d.ps)), some (.d (enc d.b)), some (.ownd ks1 ds1), some (.ownd ks2 ds2), x, y] ∧
    SB i (bindA (d.ps.take i) (ts.take i) none' none').1 ks1 ds1 ∧ SB i (bindA (d.ps.take i) (ts.take i) none' none').2 ks2 ds2, ⟨[], [], [], [], none, none, rfl, sb_none 0, sb_none 0⟩, fun i Γ' g' hlt ⟨ks1, ds1, ks2, ds2, x, y, e, S1, S2⟩ => ?_, fun Γ' g' ⟨ks1, ds1, ks2, ds2, x, y, e, S1, S2⟩ => ?_⟩
  · subst e
    have hlt2 : i < ts.length := by rw [C.len]; exact hlt
    have hp : d.ps[i]? = some d.ps[i] := List.getElem?_eq_getElem hlt
    have ht : ts[i]? = some ts[i] := List.getElem?_eq_getElem hlt2
    have hk : (d.ps.map parD).getD i .non = parD d.ps[i] := by rw [List.getD_eq_getElem?_getD, List.getElem?_map, hp]; rfl
    rw [hk, encL_getD ht]
    have sn := bindA_snoc (d.ps.take i) (ts.take i) d.ps[i] ts[i] none' none' (by rw [List.length_take, List.length_take, C.len])
    rw [← take_snoc hp, ← take_snoc ht] at sn
    have hw := C.wf i ts[i] (d.ps[i]).2 ht (by rw [List.getElem?_map, hp]; rfl)
    have hdn : doneB ts[i] = true := List.all_eq_true.mp C.done _ (List.getElem_mem hlt2)
    have l1 : ks1.length < sizeLine := lim_lt (by have := S1.le; omega)
    have l2 : ks2.length < sizeLine := lim_lt (by have := S2.le; omega)
    generalize hpe : d.ps[i] = p at sn hw hk
    obtain ⟨px, pb⟩ := p
    refine wg_tup rfl rfl (wgs_cons rfl rfl (wgs_cons rfl rfl (wgs_nil ?_)))
    cases pb with
    | true =>
      walk_at "ev"
      refine ws_dput rfl ?_
      walk_at "ev"
      refine ⟨enc_im _, l1, _, _, _, _, _, _, rfl, ?_, ?_⟩
      · rw [sn]; exact sb_plus (S1.put (enc_im _))
      · rw [sn]; exact S2.mono (Nat.le_succ i)
    | false =>
      walk_at "ev"
      refine ws_dput rfl ?_
      walk_at "ev"
      obtain ⟨sg, X, CC, wf⟩ := hw
      have hcl : closedB ts[i] = true := by
        have := hdn
        unfold doneB at this
        rw [if_pos (num_inner wf)] at this
        exact this
      obtain ⟨e1, a1, b1⟩ := nv0_wf wf hcl
      refine ⟨.int (nv0 ts[i]), ⟨ts[i], _, ⟨_, _, _, wf⟩, hcl, e1, a1, b1, Nat.lt_trans (dpL_mem (List.getElem_mem hlt2)) C.dp, rfl, rfl⟩, rfl, ?_⟩
      walk_at "ev"
      refine ⟨rfl, l2, _, _, _, _, _, _, rfl, ?_, ?_⟩
      · rw [sn]; exact S1.mono (Nat.le_succ i)
      · rw [sn]; exact sb_plus (S2.put (s := px) (e := enc (.mk (.num (nv0 ts[i])) [])) rfl)
  · subst e
    rw [List.take_length] at S1 S2
    rw [← C.len, List.take_length] at S1 S2
    refine ws_share (i := 4) rfl rfl ?_
    refine ws_share (i := 5) rfl rfl ?_
    walk_at "ev"
    refine ⟨_, ⟨d.b, _, _, _, _, ks1, ds1, ks2, ds2, C.bwf, C.bdp, C.bsz, S1, lim_lt tl, S2, lim_lt tl, rfl, rfl⟩, enc_im _, enc_im _, ?_⟩
    show _ = enc (match look ds f with | some d => _ | none => _)
    rw [C.lk]
theorem enc_hd {s : Bool} {h : Hd} {ks : List Sf.T} (w : Wfx s (.mk h ks)) : True := trivial
theorem ok_size_put : ∀ n : Nat, FnOk P w K mg base CX0 (n + 1) T.size_put.a T.size_put.fd ["term", "sizes"] (spI K (R_szput n))
  | 0 => none_I fun es r ⟨t, _, _, _, _, _, _, h, _⟩ => absurd h (Nat.not_lt_zero _)
  | n + 1 => by
    have G_size_put := ok_size_put n
    have G_parts_in := ok_parts_in (P := P) (w := w) (base := base) T
    have G_without := ok_without (P := P) (w := w) (base := base) T
    refine def_I T.size_put.F sc_size_put (fun es r ⟨_, _, _, _, _, _, _, _, _, _, _, e, _⟩ => by subst e; rfl) (by decide) (fun cdv A outer s H E hr => ?_)
    have hu := hu_of hr
    have hr_size_put := hr
    have hr_parts_in := hr.mono (show 1 ≤ n + 1 by omega)
    have hr_without := hr.mono (show 1 ≤ n + 1 by omega)
    refine ⟨_, (pss_cons (ps_if (pt_cmpR op_eq (pe_ix ix_tup (pv 0) pe_int (fun _ _ => rfl)) pe_str (nomark _)) (pss_one (ps_ret (pe_dget2 hu (pv 1) (pe_ix ix_tup (pv 0) pe_int (fun _ _ => rfl)) pe_int (by first | exact ⟨rfl, rfl, rfl, rfl, rfl⟩ | exact ⟨rfl, rfl, rfl, rfl⟩ | exact ⟨rfl, rfl, rfl⟩)))) pss_nil)
  (pss_cons (ps_set (i := 2) sc_size_put.nd rfl (by first | exact Or.inl rfl | exact Or.inr rfl) pe_int)
  (pss_cons (ps_for PassesOwn.never rfl (pi_enumT (by rfl) T.nenumerate (pa_cons (pe_call G_parts_in hr_parts_in (by rfl) T.parts_in.g T.parts_in.F.kp T.parts_in.b .nil pass0 (pa_cons (pv 0) pa_nil)) pa_nil)) (pg_tup (by rfl) (pgs_cons (pg_name (i := 3) sc_size_put.nd rfl (by first | exact Or.inl rfl | exact Or.inr rfl)) (pgs_cons (pg_name (i := 4) sc_size_put.nd rfl (by first | exact Or.inl rfl | exact Or.inr rfl)) pgs_nil))) (pss_cons (ps_set (i := 5) sc_size_put.nd rfl (by first | exact Or.inl rfl | exact Or.inr rfl) (pv 1))
  (pss_cons (ps_if (PW.pt (pw_and (pt_cmpR op_eq (pe_ix ix_tup (pv 0) pe_int (fun _ _ => rfl)) pe_str (nomark _)) (pw_and1 (pt_cmpR op_eq (pv 3) pe_int (nomark _))))) (pss_one (ps_set (i := 5) sc_size_put.nd rfl (by first | exact Or.inl rfl | exact Or.inr rfl) (pe_call G_without hr_without (by rfl) T.without.g T.without.F.kp T.without.b .nil pass0 (pa_cons (pv 1) (pa_cons (pe_ix ix_tup (pv 0) pe_int (fun _ _ => rfl)) pa_nil))))) pss_nil)
  (pss_cons (ps_if (PW.pt (pw_and (pt_cmpR op_eq (pe_ix ix_tup (pv 0) pe_int (fun _ _ => rfl)) pe_str (nomark _)) (pw_and1 (pt_cmpR op_eq (pv 3) pe_int (nomark _))))) (pss_one (ps_set (i := 5) sc_size_put.nd rfl (by first | exact Or.inl rfl | exact Or.inr rfl) (pe_call G_without hr_without (by rfl) T.without.g T.without.F.kp T.without.b .nil pass0 (pa_cons (pv 1) (pa_cons (pe_ix ix_tup (pv 0) pe_int (fun _ _ => rfl)) pa_nil))))) pss_nil)
  (pss_one (ps_set (i := 2) sc_size_put.nd rfl (by first | exact Or.inl rfl | exact Or.inr rfl) (pe_op op_add (pv 2) (pe_call G_size_put hr_size_put (by rfl) T.size_put.g T.size_put.F.kp T.size_put.b .nil pass0 (pa_cons (pv 4) (pa_cons (pv 5) pa_nil))))))))))
  (pss_one (ps_ret (pv 2)))))), ?_⟩
    dsimp only [cxOf]
    rintro es r ⟨⟨h, ks⟩, s, m, f, kk, dd, wf, hd, hz, S, hm, rfl, rfl⟩
    obtain ⟨rest, he⟩ := enc_tag wf
    have h0 : atI (.str (tag h) :: rest) 0 = some (.str (tag h)) := at0
    have isn : (∃ x, h = .name x) ∨ (¬ tag h = "name" ∧ sizePut f (.mk h ks) = 1 + sizePutL h 0 f ks) := by
      by_cases c : tag h = "name"
      · exact .inl (tag_name c)
      · refine .inr ⟨c, ?_⟩
        cases h with
        | name x => exact absurd rfl c
        | _ => rfl
    rcases isn with ⟨x, rfl⟩ | ⟨hnn, hsz⟩
    · obtain ⟨sg, X, C, wf⟩ := wf
      cases wf with
      | name _ =>
        walk_at "ev"
        refine ⟨_, _, rfl, ?_⟩
        walk_at "ev"
        rw [S.at']
        show _ ∧ _ = D.int (((f x).getD 1 : Nat) : Int)
        unfold szD
        cases f x with
        | none => exact ⟨rfl, rfl⟩
        | some u => exact ⟨rfl, rfl⟩
    · walk_at "ev"
      refine wr_ixT he h0 ?_
      walk_at "ev"
      refine if_f (by rw [decide_eq_false hnn]; exact Bool.false_ne_true) ?_
      walk_at "ev"
      refine ws_for (wi_enumT tk_rel ?_)
      walk_at "ev"
      refine ⟨_, ⟨_, _, wf, hz, rfl, rfl⟩, encL_im ks, ?_⟩
      walk_at "ev"
      refine ⟨_, _, rfl, rfl, encL_im ks, ?_⟩
      refine ⟨fun i Γ' _ => ∃ x y z, Γ' = [some (.d (enc (.mk h ks))), some (.d (.dict kk dd)), some (.d (.int ((1 + sizePutL h 0 f (ks.take i) : Nat) : Int))), x, y, z], ⟨none, none, none, rfl⟩, fun i Γ' g' hlt ⟨x, y, z, e⟩ => ?_, fun Γ' g' ⟨x, y, z, e⟩ => ?_⟩
      · subst e
        rw [encL_len] at hlt
        have ht : ks[i]? = some ks[i] := List.getElem?_eq_getElem hlt
        rw [encL_getD ht]
        refine wg_tup rfl rfl (wgs_cons rfl rfl (wgs_cons rfl rfl (wgs_nil ?_)))
        obtain ⟨s', wk⟩ := kids_wfx wf (List.getElem_mem hlt)
        have tk := sizePutL_snoc h f (ks.take i) ks[i] 0
        rw [← take_snoc ht, List.length_take, Nat.min_eq_left (Nat.le_of_lt hlt), Nat.zero_add] at tk
        have fin : ∀ kn dn, SubD m (szD (minus f (bT h i))) kn dn → R_szput n [enc ks[i], .dict kn dn] (.int (sizePut (minus f (bT h i)) ks[i] : Nat)) := fun kn dn S' => ⟨ks[i], s', m, _, kn, dn, wk, kid_dp hd (List.getElem_mem hlt), kid_sz hz (List.getElem_mem hlt), S', hm, rfl, rfl⟩
        have sum : D.int (((1 + sizePutL h 0 f (ks.take i) : Nat) : Int) + ((sizePut (minus f (bT h i)) ks[i] : Nat) : Int)) = .int ((1 + sizePutL h 0 f (ks.take (i + 1)) : Nat) : Int) := by
          rw [tk]; congr 1; omega
        have cases3 : (∃ x, h = .letv x ∧ i = 1) ∨ (∃ j x, h = .loop j x ∧ i = 2) ∨ (bT h i = none ∧ ¬ (tag h = "let" ∧ i = 1) ∧ ¬ (tag h = "loop" ∧ i = 2)) := by
          by_cases c1 : tag h = "let" ∧ i = 1
          · obtain ⟨x, e⟩ := tag_let c1.1
            exact .inl ⟨x, e, c1.2⟩
          · by_cases c2 : tag h = "loop" ∧ i = 2
            · obtain ⟨j, x, e⟩ := tag_loop c2.1
              exact .inr (.inl ⟨j, x, e, c2.2⟩)
            · refine .inr (.inr ⟨?_, c1, c2⟩)
              unfold bT
              split
              · exact absurd ⟨rfl, rfl⟩ c1
              · exact absurd ⟨rfl, rfl⟩ c2
              · rfl
        rcases cases3 with ⟨x1, rfl, rfl⟩ | ⟨j1, x1, rfl, rfl⟩ | ⟨hb, c1, c2⟩
        · walk_at "ev"
          refine we_without ?_
          walk_at "ev"
          refine ⟨m, _, kk, dd, x1, rfl, S, hm, fun kn dn S' => ?_⟩
          rw [szD_minus] at S'
          walk_at "ev"
          refine ⟨_, fin kn dn S', rfl, ?_⟩
          walk_at "ev"
          exact ⟨_, _, _, by rw [← sum]; rfl⟩
        · obtain ⟨sg, X, CC, wf⟩ := wf
          cases wf with
          | loop _ _ _ =>
            walk_at "ev"
            refine we_without ?_
            walk_at "ev"
            refine ⟨m, _, kk, dd, x1, rfl, S, hm, fun kn dn S' => ?_⟩
            rw [szD_minus] at S'
            walk_at "ev"
            refine ⟨_, fin kn dn S', rfl, ?_⟩
            walk_at "ev"
            exact ⟨_, _, _, by rw [← sum]; rfl⟩
        · have S' : SubD m (szD (minus f (bT h i))) kk dd := by rw [hb]; exact S
          walk_at "ev"
          refine wr_ixT he h0 ?_
          walk_at "ev"
          refine if_both (fun d1 => ?_) (fun d1 => ?_)
          · walk_at "ev"
            refine if_f (fun q => c1 ⟨of_decide_eq_true d1, by have := of_decide_eq_true q; omega⟩) ?_
            walk_at "ev"
            refine wr_ixT he h0 ?_
            walk_at "ev"
            refine if_f (fun q => absurd ((of_decide_eq_true d1).symm.trans (of_decide_eq_true q)) (by decide +kernel)) ?_
            walk_at "ev"
            refine ⟨_, fin kk dd S', rfl, ?_⟩
            walk_at "ev"
            exact ⟨_, _, _, by rw [← sum]; rfl⟩
          · refine if_f Bool.false_ne_true ?_
            walk_at "ev"
            refine wr_ixT he h0 ?_
            walk_at "ev"
            refine if_both (fun d2 => ?_) (fun d2 => ?_)
            · walk_at "ev"
              refine if_f (fun q => c2 ⟨of_decide_eq_true d2, by have := of_decide_eq_true q; omega⟩) ?_
              walk_at "ev"
              refine ⟨_, fin kk dd S', rfl, ?_⟩
              walk_at "ev"
              exact ⟨_, _, _, by rw [← sum]; rfl⟩
            · refine if_f Bool.false_ne_true ?_
              walk_at "ev"
              refine ⟨_, fin kk dd S', rfl, ?_⟩
              walk_at "ev"
              exact ⟨_, _, _, by rw [← sum]; rfl⟩
      · subst e
        rw [encL_len, List.take_length] 
        walk_at "ev"
        exact ⟨rfl, by rw [hsz]⟩
end
end Sf
end
section
set_option Elab.async false
set_option linter.all false
set_option maxRecDepth 100000
set_option maxHeartbeats 1000000
namespace Sf
open PySem L2
open PyProof.Rows (envOfC)
local macro_rules | `(tactic| walk_at "evS") => `(tactic| first
  | with_reducible refine ws_seq ?_
  | with_reducible refine ws_if ?_
  | with_reducible refine ws_ret ?_
  | ((with_reducible refine' ws_newL ?hi ?_); (case hi => exact rfl))
  | ((with_reducible refine' ws_newD ?hi ?_); (case hi => exact rfl))
  | ((with_reducible refine' ws_listT ?hi ?_); (case hi => exact rfl))
  | ((with_reducible refine' ws_set ?hi ?_); (case hi => exact rfl))
  | with_reducible refine ws_next ?_)
local macro_rules | `(tactic| walk_at "evE2") => `(tactic| first
  | with_reducible refine we_tup ?_
  | ((with_reducible refine' we_lenO ?hv ?_); (case hv => exact rfl))
  | ((with_reducible refine' we_tupO ?hv ?_); (case hv => exact rfl))
  | with_reducible refine we_cb ?_
  | with_reducible refine we_callI ?_
  | with_reducible refine we_callL ?_
  | with_reducible refine we_sl ?_
  | with_reducible refine we_dget ?_
  | with_reducible refine we_get2 ?_
  | with_reducible refine we_ifE ?_
  | with_reducible refine we_andV ?_
  | with_reducible refine we_chain ?_
  | with_reducible refine we_dnewK ?_
  | with_reducible refine we_bl ?_
  | with_reducible refine we_non ?_)
local macro_rules | `(tactic| walk_at "evE") => `(tactic| first
  | ((with_reducible refine' we_var ?hv ?_); (case hv => exact rfl))
  | with_reducible refine we_int ?_
  | with_reducible refine we_str ?_
  | ((with_reducible refine' we_ixO ?hv ?_); (case hv => exact rfl))
  | with_reducible refine we_op ?_
  | walk_at "evE2")
local macro_rules | `(tactic| walk_at "evW") => `(tactic| first
  | ((with_reducible refine' wr_ixT ?hx ?he ?_); (case hx => exact rfl); (case he => first | exact rfl | exact at0 | exact at1 | exact at2 | exact at3))
  | with_reducible refine wr_eqS ?_
  | with_reducible refine wr_i0 ?_
  | with_reducible refine wr_b0 ?_
  | with_reducible refine wr_eqI ?_
  | with_reducible refine wr_neS ?_
  | ((with_reducible refine' wr_ixL ?he ?_); (case he => first | exact rfl | exact at0 | exact at1 | exact at2 | exact at3)))
local macro_rules | `(tactic| walk_at "evT") => `(tactic| first
  | with_reducible refine wt_test ?_
  | with_reducible refine wt_and ?_
  | with_reducible refine wt_or ?_
  | with_reducible refine wt_not ?_
  | with_reducible refine wt_b ?_)
local macro_rules | `(tactic| walk_at "evM") => `(tactic| first
  | ((with_reducible refine' sl_and ?hs ?_); (case hs => exact rfl))
  | ((with_reducible refine if_t ?hc ?_); (case hc => decide +kernel))
  | ((with_reducible refine if_f ?hc ?_); (case hc => decide +kernel))
  | with_reducible refine wo_none ?_
  | with_reducible refine wo_some ?_
  | ((with_reducible refine' wsl_T ?hx ?_); (case hx => exact rfl))
  | with_reducible refine wsl_L ?_
  | ((with_reducible refine' Exists.intro _ (And.intro ?hx ?_)); (case hx => exact rfl))
  | dsimp only)
local macro_rules | `(tactic| walk_at "ev1") => `(tactic| first
  | with_reducible refine wa_cons ?_
  | with_reducible refine wa_nil ?_
  | ((with_reducible show WE _ _ _ _ _); walk_at "evE")
  | ((with_reducible show WR _ _ _ _ _ _); walk_at "evW")
  | ((with_reducible show WS _ _ _ _ _); walk_at "evS")
  | ((with_reducible show WT _ _ _ _ _); walk_at "evT")
  | walk_at "evM")
local macro_rules | `(tactic| walk_at "ev") => `(tactic| repeat walk_at "ev1")

structure StepOk (n : Nat) (ds : List Df) (t : Sf.T) : Prop where
  ex : ∃ sg X C, PrgOk sg ds ∧ Wf sg X C true t
  can : canStep t = true
  dp : t.dp < n
  sz : t.sz ≤ LIM
  dl : ds.length ≤ LIM
  bod : ∀ d ∈ ds, d.b.dp < n ∧ d.b.sz ≤ LIM
def R_stepof (n : Nat) (es : List D) (r : D) : Prop := ∃ ds t, StepOk n ds t ∧ es = [defsD ds, enc t] ∧ r = enc (stepOf ds t)
def R_ssize (n : Nat) (es : List D) (r : D) : Prop := ∃ ds t, StepOk n ds t ∧ es = [defsD ds, enc t] ∧ r = .int (stepSize ds t : Nat)
def R_spl (n : Nat) (es : List D) (dd : List D) : Prop := ∃ x t s, Wfx s t ∧ t.dp < n ∧ t.sz ≤ LIM ∧ es = [x, enc t] ∧ dd = (stepPl t).map plD
theorem subD_one (x : Str) (e : D) (he : e.im = true) : SubD 1 (plus (fun _ => none) x e) [x] [e] := ⟨List.nodup_cons.mpr ⟨by simp, .nil⟩, rfl, Nat.le_refl _, by show (e.im && true) = true; rw [he]; rfl, fun s => by
  show (if x = s then some e else none) = (if s = x then some e else none)
  by_cases c : x = s
  · rw [if_pos c, if_pos c.symm]
  · rw [if_neg c, if_neg (fun q => c q.symm)]⟩
theorem look_mem {ds : List Df} {f : Str} {d : Df} (h : look ds f = some d) : d ∈ ds := List.mem_of_find?_eq_some h
theorem StepOk.call {n : Nat} {ds : List Df} {f : Str} {ts : List Sf.T} (S : StepOk n ds (.mk (.call f) ts)) : ∃ d, CallOk n ds f ts d := by
  obtain ⟨sg, X, C, P, wf⟩ := S.ex
  cases wf with
  | @call _ _ _ _ ss hf hl hk =>
    obtain ⟨d, e1, e2⟩ := P.sig f ss hf
    have hm := S.bod d (look_mem e1)
    exact ⟨d, e1, S.dl, by rw [hl, ← e2, List.length_map], fun j t s h1 h2 => ⟨_, _, _, hk j t s h1 (by rw [← e2]; exact h2)⟩, S.can, S.dp, S.sz, ⟨_, _, _, P.body f d e1⟩, hm.1, hm.2⟩
theorem part_wfx : ∀ (p : List Nat) (t u : Sf.T) (s : Bool), Wfx s t → partAt t p = some u → (∃ s', Wfx s' u) ∧ u.dp ≤ t.dp ∧ u.sz ≤ t.sz
  | [], t, u, s, w, e => by obtain rfl := Option.some.inj e; exact ⟨⟨s, w⟩, Nat.le_refl _, Nat.le_refl _⟩
  | j :: p, .mk h ks, u, s, w, e => by
    cases e2 : ks[j]? with
    | none => simp [partAt, e2] at e
    | some k =>
      simp only [partAt, e2] at e
      have hm := List.mem_of_getElem? e2
      obtain ⟨s', wk⟩ := kids_wfx w hm
      obtain ⟨q1, q2, q3⟩ := part_wfx p k u s' wk e
      have h2 := dpL_mem hm
      have h3 := szL_mem hm
      refine ⟨q1, ?_, ?_⟩
      · show u.dp ≤ dpL ks; omega
      · show u.sz ≤ 1 + szL ks; omega
theorem szD_one (x : Str) (n : Nat) : plus (fun _ => none) x (.int (n : Int)) = szD (plus (fun _ => none) x n) := by
  rw [← szD_plus]; rfl
section
variable {P : Program} {w : World} {K : PySem.W.Frag} {mg : Str → Option Value} {base : Heap} (T : Tx K mg)
theorem ok_step_of (n : Nat) : FnOk P w K mg base CX0 (2 * n + 3) T.step_of.a T.step_of.fd ["defs", "term"] (spI K (R_stepof n)) := by
  have G_put_for := ok_put_for (P := P) (w := w) (base := base) T n
  have G_loop_step := ok_loop_step (P := P) (w := w) (base := base) T n
  have G_chosen_in := ok_chosen_in (P := P) (w := w) (base := base) T n
  have G_call_step := ok_call_step (P := P) (w := w) (base := base) T n
  refine def_I T.step_of.F sc_step_of (fun es r ⟨_, _, _, e, _⟩ => by subst e; rfl) (by decide) (fun cdv A outer s H E hr => ?_)
  have hr_put_for := hr.mono (show 2 * n + 1 ≤ 2 * n + 2 by omega)
  have hr_chosen_in := hr.mono (show n + 2 ≤ 2 * n + 2 by omega)
  have hr_loop_step := hr
  have hr_call_step := hr
  refine ⟨_, (pss_cons (ps_set (i := 2) sc_step_of.nd rfl (by first | exact Or.inl rfl | exact Or.inr rfl) (pe_ix ix_tup (pv 1) pe_int (fun _ _ => rfl)))
  (pss_cons (ps_if (pt_cmpR op_eq (pv 2) pe_str (nomark _)) (pss_one (ps_ret (pe_call G_put_for hr_put_for (by rfl) T.put_for.g T.put_for.F.kp T.put_for.b .nil pass0 (pa_cons (pe_ix ix_tup (pv 1) pe_int (fun _ _ => rfl)) (pa_cons (pe_disp (pps_cons (pe_ix ix_tup (pv 1) pe_int (fun _ _ => rfl)) (pe_ix ix_tup (pv 1) pe_int (fun _ _ => rfl)) pps_nil) (by rfl) (by rfl) (fun z => by cases z) (by decide)) (pa_cons pe_dnewK pa_nil)))))) pss_nil)
  (pss_cons (ps_if (pt_cmpR op_eq (pv 2) pe_str (nomark _)) (pss_one (ps_ret (pe_call G_loop_step hr_loop_step (by rfl) T.loop_step.g T.loop_step.F.kp T.loop_step.b .nil pass0 (pa_cons (pv 1) pa_nil)))) pss_nil)
  (pss_cons (ps_if (pt_cmpR op_eq (pv 2) pe_str (nomark _)) (pss_one (ps_ret (pe_call G_chosen_in hr_chosen_in (by rfl) T.chosen_in.g T.chosen_in.F.kp T.chosen_in.b .nil pass0 (pa_cons (pv 1) pa_nil)))) pss_nil)
  (pss_one (ps_ret (pe_call G_call_step hr_call_step (by rfl) T.call_step.g T.call_step.F.kp T.call_step.b .nil pass0 (pa_cons (pv 0) (pa_cons (pv 1) pa_nil))))))))), ?_⟩
  dsimp only [cxOf]
  rintro es r ⟨ds, t, S, rfl, rfl⟩
  obtain ⟨sg, X, C, PO, wf⟩ := S.ex
  have hs := S.can
  cases wf with
  | name _ => cases hs
  | fixed => cases hs
  | input => cases hs
  | dov _ => cases hs
  | @letv _ _ x a b w1 w2 =>
    walk_at "ev"
    refine we_disp1 ?_
    walk_at "ev"
    refine ⟨enc_im a, ?_⟩
    walk_at "ev"
    have hm : b ∈ [a, b] := List.mem_cons_of_mem _ List.mem_cons_self
    exact ⟨_, ⟨b, one x a, none', 1, 0, _, _, _, _, ⟨_, _, _, w2⟩, Nat.lt_trans (dpL_mem hm) S.dp, kid_sz S.sz hm, sb_one x a, by decide, sb_none 0, by decide, rfl, rfl⟩, enc_im _, enc_im _, rfl⟩
  | loop w0 w1 w2 =>
    walk_at "ev"
    exact ⟨_, ⟨ds, _, _, _, _, _, ⟨_, _, _, .loop w0 w1 w2⟩, hs, S.dp, S.sz, rfl, rfl⟩, enc_im _, enc_im _, rfl⟩
  | pick w0 hne hk =>
    walk_at "ev"
    exact ⟨_, ⟨ds, _, _, ⟨_, _, _, .pick w0 hne hk⟩, hs, S.dp, S.sz, rfl, rfl⟩, enc_im _, enc_im _, rfl⟩
  | call hf hl hk =>
    obtain ⟨d, CO⟩ := S.call
    walk_at "ev"
    exact ⟨_, ⟨ds, _, _, d, CO, rfl, rfl⟩, enc_im _, enc_im _, rfl⟩
theorem ok_step_size (n : Nat) : FnOk P w K mg base CX0 (n + 3) T.step_size.a T.step_size.fd ["defs", "term"] (spI K (R_ssize n)) := by
  have G_size_put := ok_size_put (P := P) (w := w) (base := base) T n
  have G_parts := ok_parts (P := P) (w := w) (base := base) T n
  have G_chosen_in := ok_chosen_in (P := P) (w := w) (base := base) T n
  have G_value_of := ok_value_of (P := P) (w := w) (base := base) T n
  have G_def_of := ok_def_of (P := P) (w := w) (base := base) T
  refine def_I T.step_size.F sc_step_size (fun es r ⟨_, _, _, e, _⟩ => by subst e; rfl) (by decide) (fun cdv A outer s H E hr => ?_)
  have hu := hu_of hr
  have hr_size_put := hr.mono (show n + 1 ≤ n + 2 by omega)
  have hr_parts := hr.mono (show n + 1 ≤ n + 2 by omega)
  have hr_value_of := hr.mono (show n + 1 ≤ n + 2 by omega)
  have hr_def_of := hr.mono (show 1 ≤ n + 2 by omega)
  have hr_chosen_in := hr
  refine ⟨_, (pss_cons (ps_set (i := 2) sc_step_size.nd rfl (by first | exact Or.inl rfl | exact Or.inr rfl) (pe_ix ix_tup (pv 1) pe_int (fun _ _ => rfl)))
  (pss_cons (ps_if (pt_cmpR op_eq (pv 2) pe_str (nomark _)) (pss_one (ps_ret (pe_call G_size_put hr_size_put (by rfl) T.size_put.g T.size_put.F.kp T.size_put.b .nil pass0 (pa_cons (pe_ix ix_tup (pv 1) pe_int (fun _ _ => rfl)) (pa_cons (pe_disp (pps_cons (pe_ix ix_tup (pv 1) pe_int (fun _ _ => rfl)) (pe_callB call_len (by rfl) T.nlen PySem.boot_len (pa_cons (pe_call G_parts hr_parts (by rfl) T.parts.g T.parts.F.kp T.parts.b .nil pass0 (pa_cons (pe_ix ix_tup (pv 1) pe_int (fun _ _ => rfl)) pa_nil)) pa_nil)) pps_nil) (by rfl) (by rfl) (fun z => by cases z) (by decide)) pa_nil))))) pss_nil)
  (pss_cons (ps_if (PW.pt (pw_and (pt_cmpR op_eq (pv 2) pe_str (nomark _)) (pw_and1 (pt_cmpR op_eq (pe_call G_value_of hr_value_of (by rfl) T.value_of.g T.value_of.F.kp T.value_of.b .nil pass0 (pa_cons (pe_ix ix_tup (pv 1) pe_int (fun _ _ => rfl)) (pa_cons pe_dnewK pa_nil))) pe_int (nomark _))))) (pss_one (ps_ret (pe_callB call_len (by rfl) T.nlen PySem.boot_len (pa_cons (pe_call G_parts hr_parts (by rfl) T.parts.g T.parts.F.kp T.parts.b .nil pass0 (pa_cons (pe_ix ix_tup (pv 1) pe_int (fun _ _ => rfl)) pa_nil)) pa_nil)))) pss_nil)
  (pss_cons (ps_if (pt_cmpR op_eq (pv 2) pe_str (nomark _)) (pss_one (ps_ret (pe_op op_add (pe_op op_add pe_int (pe_callB call_len (by rfl) T.nlen PySem.boot_len (pa_cons (pe_call G_parts hr_parts (by rfl) T.parts.g T.parts.F.kp T.parts.b .nil pass0 (pa_cons (pe_ix ix_tup (pv 1) pe_int (fun _ _ => rfl)) pa_nil)) pa_nil))) (pe_op op_mul pe_int (pe_callB call_len (by rfl) T.nlen PySem.boot_len (pa_cons (pe_call G_parts hr_parts (by rfl) T.parts.g T.parts.F.kp T.parts.b .nil pass0 (pa_cons (pe_ix ix_tup (pv 1) pe_int (fun _ _ => rfl)) pa_nil)) pa_nil)))))) pss_nil)
  (pss_cons (ps_if (pt_cmpR op_eq (pv 2) pe_str (nomark _)) (pss_one (ps_ret (pe_callB call_len (by rfl) T.nlen PySem.boot_len (pa_cons (pe_call G_parts hr_parts (by rfl) T.parts.g T.parts.F.kp T.parts.b .nil pass0 (pa_cons (pe_call G_chosen_in hr_chosen_in (by rfl) T.chosen_in.g T.chosen_in.F.kp T.chosen_in.b .nil pass0 (pa_cons (pv 1) pa_nil)) pa_nil)) pa_nil)))) pss_nil)
  (pss_cons (ps_asg (pe_call G_def_of hr_def_of (by rfl) T.def_of.g T.def_of.F.kp T.def_of.b .nil pass0 (pa_cons (pv 0) (pa_cons (pe_ix ix_tup (pv 1) pe_int (fun _ _ => rfl)) pa_nil))) (pg_tup (by rfl) (pgs_cons (pg_name (i := 3) sc_step_size.nd rfl (by first | exact Or.inl rfl | exact Or.inr rfl)) (pgs_cons (pg_name (i := 4) sc_step_size.nd rfl (by first | exact Or.inl rfl | exact Or.inr rfl)) pgs_nil))))
  (pss_cons (ps_set (i := 5) sc_step_size.nd rfl (by first | exact Or.inl rfl | exact Or.inr rfl) pe_dnewK)
  (pss_cons (ps_for PassesOwn.never rfl (RZ.pi_zipA (by rfl) T.nzip (pa_cons (pv 3) (pa_cons (pe_ix ix_tup (pv 1) pe_int (fun _ _ => rfl)) pa_nil))) (pg_tup (by rfl) (pgs_cons (pg_name (i := 6) sc_step_size.nd rfl (by first | exact Or.inl rfl | exact Or.inr rfl)) (pgs_cons (pg_name (i := 7) sc_step_size.nd rfl (by first | exact Or.inl rfl | exact Or.inr rfl)) pgs_nil))) (pss_one (ps_if (pt_cmpR op_eq (pe_ix ix_tup (pv 6) pe_int (fun _ _ => rfl)) pe_str (nomark _)) (pss_one (ps_dput hu (pv 5) (pe_ix ix_tup (pv 6) pe_int (fun _ _ => rfl)) (pe_callB call_len (by rfl) T.nlen PySem.boot_len (pa_cons (pe_call G_parts hr_parts (by rfl) T.parts.g T.parts.F.kp T.parts.b .nil pass0 (pa_cons (pv 7) pa_nil)) pa_nil)) rfl)) pss_nil)))
  (pss_one (ps_ret (pe_call G_size_put hr_size_put (by rfl) T.size_put.g T.size_put.F.kp T.size_put.b .nil pass0 (pa_cons (pv 4) (pa_cons (pv 5) pa_nil))))))))))))), ?_⟩
  dsimp only [cxOf]
  rintro es r ⟨ds, t, S, rfl, rfl⟩
  obtain ⟨sg, X, C, PO, wf⟩ := S.ex
  have hs := S.can
  have pl : ∀ (t : Sf.T), t.sz = (t.parts.map enc).length := fun t => by rw [List.length_map, parts_len]
  cases wf with
  | name _ => cases hs
  | fixed => cases hs
  | input => cases hs
  | dov _ => cases hs
  | @letv _ _ x a b w1 w2 =>
    have hm : b ∈ [a, b] := List.mem_cons_of_mem _ List.mem_cons_self
    walk_at "ev"
    refine we_disp1 ?_
    walk_at "ev"
    refine ⟨_, ⟨a, _, ⟨_, _, _, w1⟩, Nat.lt_trans (dpL_mem List.mem_cons_self) S.dp, kid_sz S.sz List.mem_cons_self, rfl, rfl⟩, ?_⟩
    walk_at "ev"
    refine wc_len (n := a.sz) (pl a) ?_
    refine ⟨rfl, ?_⟩
    walk_at "ev"
    exact ⟨_, ⟨b, _, 1, plus (fun _ => none) x a.sz, _, _, ⟨_, _, _, w2⟩, Nat.lt_trans (dpL_mem hm) S.dp, kid_sz S.sz hm, by rw [← szD_one]; exact subD_one x _ rfl, by decide, rfl, rfl⟩, rfl, rfl, rfl⟩
  | @loop _ _ i x nn a b w0 w1 w2 =>
    have hma : a ∈ [nn, a, b] := List.mem_cons_of_mem _ List.mem_cons_self
    have hm : b ∈ [nn, a, b] := List.mem_cons_of_mem _ (List.mem_cons_of_mem _ List.mem_cons_self)
    obtain ⟨e1, a1, b1⟩ := nv0_wf w0 hs
    walk_at "ev"
    refine ⟨.int (nv0 nn), ⟨nn, _, ⟨_, _, _, w0⟩, hs, e1, a1, b1, Nat.lt_trans (dpL_mem List.mem_cons_self) S.dp, rfl, rfl⟩, rfl, ?_⟩
    walk_at "ev"
    refine if_both (fun c => ?_) (fun c => ?_)
    · walk_at "ev"
      refine ⟨_, ⟨a, _, ⟨_, _, _, w1⟩, Nat.lt_trans (dpL_mem hma) S.dp, kid_sz S.sz hma, rfl, rfl⟩, ?_⟩
      walk_at "ev"
      refine wc_len (n := a.sz) (pl a) ⟨rfl, ?_⟩
      show _ = D.int ((if nv0 nn = 0 then a.sz else _ : Nat) : Int)
      rw [if_pos (of_decide_eq_true c)]
    · walk_at "ev"
      refine ⟨_, ⟨a, _, ⟨_, _, _, w1⟩, Nat.lt_trans (dpL_mem hma) S.dp, kid_sz S.sz hma, rfl, rfl⟩, ?_⟩
      walk_at "ev"
      refine wc_len (n := a.sz) (pl a) ?_
      walk_at "ev"
      refine ⟨_, ⟨b, _, ⟨_, _, _, w2⟩, Nat.lt_trans (dpL_mem hm) S.dp, kid_sz S.sz hm, rfl, rfl⟩, ?_⟩
      walk_at "ev"
      refine wc_len (n := b.sz) (pl b) ?_
      have hb : b.sz ≤ 1000000 := kid_sz S.sz hm
      refine wr_iC (.inl ⟨by omega, by omega⟩) ?_
      walk_at "ev"
      refine ⟨rfl, ?_⟩
      show _ = D.int ((if nv0 nn = 0 then a.sz else 3 + a.sz + 2 * b.sz : Nat) : Int)
      rw [if_neg (of_decide_eq_false (Bool.eq_false_iff.mpr c))]
      congr 1
  | @pick _ _ nn ts w0 hne hk =>
    walk_at "ev"
    refine ⟨_, ⟨ds, _, _, ⟨_, _, _, .pick w0 hne hk⟩, hs, S.dp, S.sz, rfl, rfl⟩, enc_im _, ?_⟩
    walk_at "ev"
    have hpos : 0 < ts.length := by cases ts with | nil => exact absurd rfl hne | cons => exact Nat.succ_pos _
    have hm1 : 0 ≤ nv0 nn % (ts.length : Int) := Int.emod_nonneg _ (by omega)
    have hm2 : nv0 nn % (ts.length : Int) < ts.length := Int.emod_lt_of_pos _ (by omega)
    have hj : (nv0 nn % (ts.length : Int)).toNat < ts.length := by omega
    have ej : ts[(nv0 nn % (ts.length : Int)).toNat]? = some ts[(nv0 nn % (ts.length : Int)).toNat] := List.getElem?_eq_getElem hj
    have es : stepOf ds (.mk .pick (nn :: ts)) = ts[(nv0 nn % (ts.length : Int)).toNat] := by
      show (ts[(nv0 nn % (ts.length : Int)).toNat]?).getD nn = _
      rw [ej]; rfl
    have es2 : stepSize ds (.mk .pick (nn :: ts)) = (ts[(nv0 nn % (ts.length : Int)).toNat]).sz := by
      show ((ts[(nv0 nn % (ts.length : Int)).toNat]?).getD nn).sz = _
      rw [ej]; rfl
    have hmem : ts[(nv0 nn % (ts.length : Int)).toNat] ∈ nn :: ts := List.mem_cons_of_mem _ (List.getElem_mem hj)
    rw [es, es2]
    refine ⟨_, ⟨_, _, ⟨_, _, _, hk _ (List.getElem_mem hj)⟩, Nat.lt_trans (dpL_mem hmem) S.dp, kid_sz S.sz hmem, rfl, rfl⟩, ?_⟩
    walk_at "ev"
    exact wc_len (n := (ts[(nv0 nn % (ts.length : Int)).toNat]).sz) (pl _) ⟨rfl, rfl⟩
  | @call _ _ f ts ss hf hl hk =>
    obtain ⟨d, CO⟩ := S.call
    have tl : ts.length ≤ LIM := ts_len CO.sz
    walk_at "ev"
    refine ws_asg ?_
    walk_at "ev"
    refine ⟨_, ⟨ds, f, d, CO.lk, CO.dl, rfl, rfl⟩, ?_, ?_⟩
    · show (imL (d.ps.map parD) && ((enc d.b).im && true)) = true
      rw [parsD_im, enc_im]; rfl
    refine wg_tup rfl rfl (wgs_cons rfl rfl (wgs_cons rfl rfl (wgs_nil ?_)))
    walk_at "ev"
    refine ws_for (wi_zipT tk_rel ?_)
    walk_at "ev"
    refine ⟨_, _, _, _, rfl, rfl, rfl, parsD_im _, encL_im ts, ?_⟩
    rw [List.length_map, encL_len, CO.len, Nat.min_self]
    refine ⟨fun i Γ' _ => ∃ ks1 ds1 x y, Γ' = [some (.d (defsD ds)), some (.d (enc (.mk (.call f) ts))), some (.d (.str "call")), some (.d (parsD d.ps)), some (.d (enc d.b)), some (.ownd ks1 ds1), x, y] ∧
      SubD i (szD (bindS (d.ps.take i) (ts.take i) fun _ => none)) ks1 ds1, ⟨[], [], none, none, rfl, .nil 0⟩, fun i Γ' g' hlt ⟨ks1, ds1, x, y, e, S1⟩ => ?_, fun Γ' g' ⟨ks1, ds1, x, y, e, S1⟩ => ?_⟩
    · subst e
      have hlt2 : i < ts.length := by rw [CO.len]; exact hlt
      have hp : d.ps[i]? = some d.ps[i] := List.getElem?_eq_getElem hlt
      have ht : ts[i]? = some ts[i] := List.getElem?_eq_getElem hlt2
      have hk : (d.ps.map parD).getD i .non = parD d.ps[i] := by rw [List.getD_eq_getElem?_getD, List.getElem?_map, hp]; rfl
      rw [hk, encL_getD ht]
      have sn := bindS_snoc (d.ps.take i) (ts.take i) d.ps[i] ts[i] (fun _ => none) (by rw [List.length_take, List.length_take, CO.len])
      rw [← take_snoc hp, ← take_snoc ht] at sn
      have hw := CO.wf i ts[i] (d.ps[i]).2 ht (by rw [List.getElem?_map, hp]; rfl)
      have l1 : ks1.length < sizeLine := lim_lt (by have := S1.le; omega)
      generalize hpe : d.ps[i] = p at sn hw hk
      obtain ⟨px, pb⟩ := p
      refine wg_tup rfl rfl (wgs_cons rfl rfl (wgs_cons rfl rfl (wgs_nil ?_)))
      cases pb with
      | true =>
        walk_at "ev"
        refine ws_dput rfl ?_
        walk_at "ev"
        have hm := List.getElem_mem hlt2
        refine ⟨_, ⟨ts[i], _, hw, Nat.lt_trans (dpL_mem hm) CO.dp, kid_sz CO.sz hm, rfl, rfl⟩, ?_⟩
        walk_at "ev"
        refine wc_len (n := (ts[i]).sz) (pl _) ?_
        walk_at "ev"
        refine ⟨rfl, l1, _, _, _, _, rfl, ?_⟩
        rw [sn]
        have := S1.put (s := px) (e := .int ((ts[i]).sz : Nat)) rfl
        rw [szD_plus] at this
        exact this
      | false =>
        walk_at "ev"
        refine if_f (show ¬ (decide (("number" : Str) = "thing") = true) by decide +kernel) ?_
        walk_at "ev"
        refine ⟨_, _, _, _, rfl, ?_⟩
        rw [sn]
        exact S1.mono (Nat.le_succ i)
    · subst e
      rw [List.take_length] at S1
      rw [← CO.len, List.take_length] at S1
      refine ws_share (i := 5) rfl rfl ?_
      walk_at "ev"
      refine ⟨_, ⟨d.b, _, _, _, ks1, ds1, CO.bwf, CO.bdp, CO.bsz, S1, lim_lt tl, rfl, rfl⟩, rfl, rfl, ?_⟩
      show _ = D.int ((match look ds f with | some d => _ | none => _ : Nat) : Int)
      rw [CO.lk]
theorem ok_step_places (n : Nat) : FnOk P w K mg base CX0 (n + 4) T.step_places.a T.step_places.fd ["defs", "term"] (spL K (R_spl n)) := by
  have G_places := ok_places (P := P) (w := w) (base := base) T n
  have G_parts := ok_parts (P := P) (w := w) (base := base) T n
  have G_can_step := ok_can_step (P := P) (w := w) (base := base) T n
  refine def_L T.step_places.F sc_step_places (fun es r ⟨_, _, _, _, _, _, e, _⟩ => by subst e; rfl) (by decide) (fun cdv A outer s H E hr => ?_)
  have hr_places := hr.mono (show n + 1 ≤ n + 3 by omega)
  have hr_parts := hr.mono (show n + 1 ≤ n + 3 by omega)
  have hr_can_step := hr
  refine ⟨_, (pss_one (ps_ret (pe_lc (own := [("place", 2), ("part", 3)]) (by rfl) sc_step_places.nd (RZ.pi_zipA (by rfl) T.nzip (pa_cons (pe_call G_places hr_places (by rfl) T.places.g T.places.F.kp T.places.b .nil pass0 (pa_cons (pv 1) pa_nil)) (pa_cons (pe_call G_parts hr_parts (by rfl) T.parts.g T.parts.F.kp T.parts.b .nil pass0 (pa_cons (pv 1) pa_nil)) pa_nil))) (blkOk_by (own := [("place", 2), ("part", 3)]) (N := ["defs", "term", "place", "part"]) (sc := defScope (topS 26)) (by decide +kernel)) (fun _ _ _ _ _ => (show PG _ _ (gTup K 2 (gCons (gName 2) (gCons (gName 3) gNil))) from by exact (pg_tup (by rfl) (pgs_cons (pg_name (i := 2) sc_step_places.nd rfl (by first | exact Or.inl rfl | exact Or.inr rfl)) (pgs_cons (pg_name (i := 3) sc_step_places.nd rfl (by first | exact Or.inl rfl | exact Or.inr rfl)) pgs_nil))))) (fun _ _ _ _ _ => (pts_one (pt_val (pe_call G_can_step hr_can_step (by rfl) T.can_step.g T.can_step.F.kp T.can_step.b .nil pass0 (pa_cons (pv 3) pa_nil))))) (fun _ _ _ _ _ => (pv 2))))), ?_⟩
  dsimp only [cxOf]
  rintro es r ⟨x, t, s, wf, hd, hz, rfl, rfl⟩
  refine ws_retN (wn_lc (wi_zipL ?_))
  walk_at "ev"
  refine ⟨_, ⟨t, s, wf, hd, hz, rfl, rfl⟩, ?_⟩
  walk_at "ev"
  refine ⟨_, ⟨t, s, wf, hd, hz, rfl, rfl⟩, ?_⟩
  walk_at "ev"
  refine ⟨_, _, rfl, plL_im _, by rw [← encL_map]; exact encL_im _, ?_⟩
  rw [List.length_map, List.length_map, places_len, parts_len, Nat.min_self]
  refine ⟨lim_lt hz, fun i acc _ => acc = (((pp t).take i).filter fun q => canStep q.2).map (fun q => plD q.1), rfl, fun i acc g' hlt _ e => ?_, fun acc g' _ him e => ?_⟩
  · have hlt2 : i < (pp t).length := by rw [pp_len]; exact hlt
    have hq : (pp t)[i]? = some (pp t)[i] := List.getElem?_eq_getElem hlt2
    have h1 : (t.places.map plD).getD i .non = plD ((pp t)[i]).1 := plL_getD (by unfold Sf.T.places; rw [List.getElem?_map, hq]; rfl)
    have h2 : (t.parts.map enc).getD i .non = enc ((pp t)[i]).2 := by
      rw [List.getD_eq_getElem?_getD]
      unfold Sf.T.parts
      rw [List.getElem?_map, List.getElem?_map, hq]; rfl
    rw [h1, h2]
    obtain ⟨⟨s', w'⟩, hd', hz'⟩ := part_wfx _ _ _ s wf (pp_at t ((pp t)[i]).1 ((pp t)[i]).2 (List.getElem_mem hlt2))
    have tk : ((pp t).take (i + 1)).filter (fun q => canStep q.2) = ((pp t).take i).filter (fun q => canStep q.2) ++ (if canStep ((pp t)[i]).2 = true then [(pp t)[i]] else []) := by
      rw [take_snoc hq, List.filter_append]
      congr 1
      rw [List.filter_cons]
      split <;> rfl
    refine wg_tup rfl rfl (wgs_cons rfl rfl (wgs_cons rfl rfl (wgs_nil ?_)))
    walk_at "ev"
    refine ⟨_, ⟨_, s', w', Nat.lt_of_le_of_lt hd' hd, Nat.le_trans hz' hz, rfl, rfl⟩, rfl, _, rfl, ?_⟩
    rw [tk]
    refine if_both (fun c => ?_) (fun c => ?_)
    · walk_at "ev"
      refine ⟨plD_im _, ?_⟩
      rw [if_pos c, List.map_append, e]; rfl
    · rw [if_neg c, List.append_nil]; exact e
  · rw [← pp_len, List.take_length] at e
    rw [e]
    unfold stepPl
    rw [List.map_map]; rfl
end
end Sf
end
section
set_option Elab.async false
set_option linter.all false
set_option maxRecDepth 100000
set_option maxHeartbeats 2000000
/-! Exceptions: TooMany(most) (lines of a worked proof of the kit turned to this class). -/
namespace PySem
namespace TooX
open PySem.W PySem.Calls PyProof.Rows PySem.HandSPX
/-! ### the text of __init__ -/
def iA (p1 p2 : Pos) : Arguments := { posonlyargs := [], args := [{ arg := "self", annotation := none, pos := p1 }, { arg := "most", annotation := none, pos := p2 }], vararg := none, kwonlyargs := [], kw_defaults := [], kwarg := none, defaults := [] }
def iB (q1 q2 q3 q4 : Pos) : List Stmt := [.Assign [.Attribute (.Name "self" q1) "most" q2] (.Name "most" q3) q4]
def iS : Scope := { kind := .function, names := [(PySem.Str.ofString "self", .local), (PySem.Str.ofString "most", .local)], isGenerator := false, isCoroutine := false, more := [] }
/-- what the written part says of TooMany, at C, and of its __init__, at fI -/
structure TooTxt (K : Frag) (mg : Str → Option Value) (C fI : Addr) : Prop where
  gC : mg "TooMany" = some (.ref C)
  cls : ∃ nm q N bs bm sn sub ab col dd k0 k1 k2 k3 k5, K.lookup C = some (excClassObj nm q C N bs bm true sn sub ab col dd k0 k1 k2 k3 k5 "ValueError.__new__") ∧ refsVE bm = true
  sa : findIn K (.ref C) "__setattr__" = some (some (.builtin "object.__setattr__"))
  ga : findIn K (.ref C) "__getattribute__" = some (some (.builtin "BaseException.__getattribute__"))
  gg : findIn K (.ref C) "__getattr__" = some none
  noN : findIn K (.ref C) "most" = some none
  iC : findIn K (.ref C) "__init__" = some (some (.ref fI))
  tC : typeIn K (.ref fI) = some (.type "function")
  kC : keepIn K (.ref C) = true
  exC : subIn K (.ref C) (.type "BaseException") = some true
  tyC : typeIn K (.ref C) = some (.type "type")
  hdC : hasDictIn K C = true
  te : exmOne K (.ref C) (.ref C) = some true
  fn : ∃ (oc : Value) (od : Option Addr) (doc pm : Value) (an : Option Addr) (cdv ct : Value) (osl : Array (Option Value)) (p1 p2 q1 q2 q3 q4 : Pos),
    K.lookup fI = some ⟨oc, od, .func (fnOf "__init__" "TooMany.__init__" (iA p1 p2) (iB q1 q2 q3 q4) iS .none .none doc pm an cdv ct), osl⟩ ∧ codeIn K cdv "TooMany.__init__" = true
theorem one_size (v : Value) : [v].length ≤ sizeLine := by
  rw [sizeLine_eq]
  exact (by decide : 1 ≤ 16777216)
theorem kept_but {K : Frag} {h h' : Heap} {x : Addr} (X : K.In h) (hx : K.lookup x = none) (k : ∀ b o, b ≠ x → h.get? b = some o → h'.get? b = some o) : K.In h' := fun a o e =>
  k a o (fun z => by rw [z, hx] at e; cases e) (X a o e)
theorem ldC {M : Model} {s : Shared} {name : Str} {scope : Scope} {L a : Addr} {cd : Value} {m : Str → Option Value} {x : Str} {pos : Pos} {v : Value} {Q : Value → Shared → Prop} {A : Around} {E : Value → Shared → Prop} (hn : s.heap.Ns L m) (hv : m x = some v) (h : Q v s)
    (hk : scope.kind = .function := by rfl) (hl : (envOfC name scope L a cd).kindOf x = some .local := by rfl) (hd : (x == ("__debug__" : Str)) = false := by decide) :
    wpAny M A (eval (.Name x pos) (envOfC name scope L a cd)) Q E s := wpAny_Name (wpAny_loadName_local hk hl hn hv h) hd
/-- what __init__ leaves of a fresh exception at x -/
structure InitEnd (h h' : Heap) (x C dx t1 : Addr) (v : Value) : Prop where
  keep : ∀ b o, b ≠ x → h.get? b = some o → h'.get? b = some o
  obj : h'.get? x = some { cls := .ref C, dict := some dx, data := .fields #[.ref t1, .none, .none, .none, .bool false, .none] }
  dbig : h.objs.size ≤ dx
  dne : dx ≠ x
  ns : h'.Ns1 dx (fun y => if y = "most" then some v else none)
/-- a made TooMany -/
structure OwnMade (h h' : Heap) (e C d : Addr) (v : Value) : Prop where
  keep : ∀ b o, h.get? b = some o → h'.get? b = some o
  new : h.objs.size ≤ e
  obj : ∃ oe vs, h'.get? e = some oe ∧ oe.cls = .ref C ∧ oe.dict = some d ∧ oe.data = .fields vs ∧ vs[1]? = some .none
  dbig : h.objs.size ≤ d
  dne : d ≠ e
  ns : h'.Ns1 d (fun y => if y = "most" then some v else none)
section
variable {prog : Program} {w : World} {A : Around} {E : Value → Shared → Prop} {R : Result → Shared → Prop} {s : Shared} {K : Frag} {mg : Str → Option Value} {C fI : Addr}
theorem too_init (T : TooTxt K mg C fI) {x t0 : Addr} {v : Value} (X : K.In s.heap) (hlim : s.heap.NoLimit) (hx : s.heap.get? x = some (excO C t0)) (hnx : K.lookup x = none) (hroom : A.depth < recursionLimit)
    (hq : ∀ h' tk dx, InitEnd s.heap h' x C dx t0 v → R (.ok (.ret .none)) { s with heap := h', toks := tk }) :
    codeAny (model prog w) A (.call (.ref fI) ⟨[.ref x, v], []⟩) R s := by
  obtain ⟨oc, od, doc, pm, an, cdv, ct, osl, p1, p2, q1, q2, q3, q4, ho, hcd⟩ := T.fn
  obtain ⟨nm, q, N, bs, bm, sn, sub, ab, col, dd, k0, k1, k2, k3, k5, hC, hbm⟩ := T.cls
  have hcl : clsIn K C = some { name := nm, bases := bs, mro := .ref C :: bm, ns := N, qualname := q, hasDict := true, slotNames := sn, subclasses := sub, abstract := ab, collection := col, hasDel := false } := by unfold clsIn; rw [hC] <;> rfl
  refine Att.call_fn (binds := [("self", .ref x), ("most", v)]) X hlim ho hcd hroom (BindsTo.of_eq (by first | rfl | with_unfolding_all rfl)) (by first | rfl | decide | with_unfolding_all rfl) (fun s₁ IC => ?_) rfl rfl rfl
  obtain ⟨h₁, tk₁, rfl⟩ := IC.toInCall.same
  have k : ∀ b o, s.heap.get? b = some o → h₁.get? b = some o := IC.toInCall.keep
  have hn := IC.toInCall.ns
  have hxL : s.heap.objs.size ≠ x := Nat.ne_of_gt (Heap.lt_size hx)
  have X₁ : K.In h₁ := X.keeps k
  have hx₁ := k _ _ hx
  -- self.by = by
  show wpAny _ _ (execs _ _) _ _ _
  refine wpAny_execs_cons (plainObj_wpAny_Assign_Attribute ?_)
  refine ldC (v := v) hn (by first | rfl | with_unfolding_all rfl | kernel_rfl) (ldC (v := .ref x) hn (by first | rfl | with_unfolding_all rfl | kernel_rfl) ?_)
  refine set_plain X₁ (ox := excO C t0) (od := none) ⟨hx₁, rfl, rfl, trivial⟩ T.sa ?_
  refine exc_osa X₁ hx₁ hcl (show refsVE (.ref C :: bm) = true from hbm) rfl T.noN (fun h₃ tk₃ dx k₃ dn dne hx₃ hn₃ => ?_)
  show wpAny _ _ (execs _ _) _ _ _
  have z : s.heap.objs.size < h₁.objs.size := hn.lt
  exact wpAny_execs_nil (hq h₃ tk₃ dx ⟨fun b o hb e => k₃ b o hb (k b o e), hx₃, Nat.le_of_lt (Nat.lt_of_lt_of_le z dn), dne, hn₃⟩)
theorem too_made (T : TooTxt K mg C fI) {v : Value} (X : K.In s.heap) (hlim : s.heap.NoLimit) (hroom : A.depth + 1 < recursionLimit)
    (hq : ∀ h' tk e d, OwnMade s.heap h' e C d v → R (.ok (.ret (.ref e))) { s with heap := h', toks := tk }) :
    codeAny (model prog w) A (.call (.ref C) ⟨[v], []⟩) R s := by
  obtain ⟨nm, q, N, bs, bm, sn, sub, ab, col, dd, k0, k1, k2, k3, k5, hC, hbm⟩ := T.cls
  obtain ⟨hp, g, dr, tk, os⟩ := s
  have k : ∀ b o, hp.get? b = some o → ((hp.push (kdv_tup [v])).push (excO C hp.objs.size)).get? b = some o := fun b o e => Heap.get?_push_of_some _ (Heap.get?_push_of_some _ e)
  have hget : ((hp.push (kdv_tup [v])).push (excO C hp.objs.size)).get? (hp.objs.size + 1) = some (excO C hp.objs.size) := by heap_get
  have hnx : K.lookup (hp.objs.size + 1) = none := by
    cases e : K.lookup (hp.objs.size + 1) with
    | none => rfl
    | some o =>
      have z : hp.get? (hp.objs.size + 1) = some o := X _ _ e
      exact absurd (Nat.lt_of_succ_lt (Heap.lt_size z)) (Nat.lt_irrefl _)
  refine call_own F.excBase_ValueError (fun X => refsVE_contains X bm hbm) (X _ _ hC) (looks_findIn X T.iC) (fun self => bind_fn X self T.tC) (one_size v) ?_
  refine too_init (s := ⟨(hp.push (kdv_tup [v])).push (excO C hp.objs.size), g, dr, tk, os⟩) T (X.keeps k) (hlim.keeps k) hget hnx ?_ fun h' tk' dx ⟨k', hx, dn, dne, hns⟩ => ?_
  · show A.depth + 1 < recursionLimit
    exact hroom
  · have old : ∀ b o, hp.get? b = some o → h'.get? b = some o := fun b o e => k' b o (Nat.ne_of_lt (Nat.lt_succ_of_lt (Heap.lt_size e))) (k b o e)
    have z : hp.objs.size + 1 + 1 ≤ dx := by
      first
        | (simpa only [Heap.size_push] using dn)
        | exact dn
        | (have q := dn; rw [Heap.size_push, Heap.size_push] at q; exact q)
    exact ⟨rfl, hq h' tk' (hp.objs.size + 1) dx ⟨old, Nat.le_succ _, ⟨_, _, hx, rfl, rfl, rfl, rfl⟩, Nat.le_trans (Nat.le_trans (Nat.le_succ _) (Nat.le_succ _)) z, dne, hns⟩⟩
end
end TooX
end PySem
namespace L2
open PySem PySem.Spec PyProof.Rows
theorem relO_too {v : V} {v' : Value} (r : RelV v v') (f : Str) : RelO (List.lookup f [(("most" : Str), v)]) (if f = "most" then some v' else none) := by
  by_cases hw : f = "most"
  · subst hw
    rw [if_pos rfl]
    have q : List.lookup ("most" : Str) [(("most" : Str), v)] = some v := by simp [List.lookup]
    rw [q]
    exact r
  · rw [if_neg hw]
    have qw : (f == ("most" : Str)) = false := by simpa using hw
    have q2 : List.lookup f [(("most" : Str), v)] = none := by simp [List.lookup, qw]
    rw [q2]
    trivial
section
variable {X : Cx} {C fI : Addr}
/-- TooMany(e) -/
def tMkToo (C : Addr) (ta : TA) : St → Hp → XK → Prop := fun σ H Q => ta σ H fun vs H1 => ∃ v, vs = [v] ∧ ∀ d, H1 d = none → Q (.ref C) (some d) (upd H1 d (.xd [(("most" : Str), v)]))
theorem pmk_too {a : Expr} {ta : TA} {p pos : Pos} {k : Nat} (T : PySem.TooX.TooTxt X.K X.mg C fI) (hr : Room k X.A) (ha : PA X [a] ta) (hg : Gl X "TooMany" := by rfl)
    (he : starEach (a :: []) X.env = (false, eval a X.env) :: starEach [] X.env := by rfl) (hpl : (backTo pos (starEach [] X.env)).any (·.1) = false := by rfl) :
    PMk X (.Call (.Name "TooMany" p) [a] [] pos) (tMkToo C ta) := by
  intro pins s σ H Q I h
  refine wpAny_Call_Name_kw (ld_glob I hg T.gC ?_)
  refine PySem.W.callWith_K (h₀ := X.base) I.ok.mod.kin T.kC (thn (ha.run pos pins s σ H _ I h) fun us s1 hh => ?_) he hpl
  obtain ⟨vs, H1, I1, r1, v, ev, q1⟩ := hh
  subst ev
  refine ⟨I1.kIn, ?_⟩
  cases r1 with
  | cons rv rn =>
    rename_i v' us'
    cases rn
    show wpAny _ _ (call (.ref C) [v']) _ _ _
    have hlim := I1.nolimit
    obtain ⟨hp, g, dr, tk, os⟩ := s1
    refine wpAny_call (PySem.TooX.too_made T I1.kIn hlim (by have := hr.dp; omega) fun h' tk' e d M => ?_)
    show MkP X pins σ Q (.ref e) ⟨h', g, dr, tk', os⟩
    obtain ⟨oe, fv, hoe, hc, hd, hdat, h1⟩ := M.obj
    have hns := M.ns
    obtain ⟨G', g1, g2⟩ := restrict h' fun b => decide (b ≠ e)
    have gk : ∀ b, b ≠ e → G'.get? b = h'.get? b := fun b hb => g1 b (decide_eq_true hb)
    have ge : G'.get? e = none := g2 e (by simp)
    have old : ∀ b o, hp.get? b = some o → G'.get? b = some o := fun b o q => (gk b (Nat.ne_of_lt (Nat.lt_of_lt_of_le (Heap.lt_size q) M.new))).trans (M.keep b o q)
    have ob : ObjOk X.prog X.w (upd H1 d (.xd [(("most" : Str), v)])) G' d (.xd [(("most" : Str), v)]) :=
      ⟨_, hns.at (fun o q => (gk d M.dne).trans q), fun f => relO_too rv f⟩
    have J : Inv X pins σ (upd H1 d (.xd [(("most" : Str), v)])) ⟨G', g, dr, tk', os⟩ := I1.laid (t' := tk') old M.dbig ob
    refine ⟨e, oe, fv, ⟨G', g, dr, tk', os⟩, _, .ref C, some d, rfl, J, fun b o q => ?_, ge, hoe, ⟨hc, hd⟩, hdat, h1, ?_, rfl, I1.bare, raises_own T.exC T.tyC, q1 d (I1.hok.fresh M.dbig)⟩
    · by_cases hb : b = e
      · have q' : G'.get? b = some o := q
        rw [hb, ge] at q'; cases q'
      · exact (gk b hb).symm.trans q
    · rw [upd_ne (Ne.symm M.dne)]
      exact I1.hok.fresh M.new
/-- raise TooMany(e) -/
def tRaiseToo (C : Addr) (W : WX) (ta : TA) : TS := fun _ σ H => tMkToo C ta σ H fun cls d H' => W cls d σ H'
theorem ps_raiseToo {a : Expr} {ta : TA} {W : WX} {p pos pos2 : Pos} {k : Nat} (hc : X.calm = true) (T : PySem.TooX.TooTxt X.K X.mg C fI) (hr : Room k X.A) (tk : Takes X W) (ha : PA X [a] ta) (hg : Gl X "TooMany" := by rfl)
    (he : starEach (a :: []) X.env = (false, eval a X.env) :: starEach [] X.env := by rfl) (hpl : (backTo pos (starEach [] X.env)).any (·.1) = false := by rfl) :
    PS X (.Raise (some (.Call (.Name "TooMany" p) [a] [] pos)) none pos2) (tRaiseToo C W ta) := ps_raise hc tk (pmk_too T hr ha hg he hpl)
end
end L2
end
section
set_option Elab.async false
set_option linter.all false
set_option maxRecDepth 100000
set_option maxHeartbeats 2000000
/-! Exceptions 2: promises with an error way, promises of many outcomes, while, try. -/
namespace Sf
open PySem L2
open PyProof.Rows (envOfC)
/-- data in; data come back, as R tells, or an error of the class at C -/
def spX (K : PySem.W.Frag) (C : Addr) {α : Type} (Pre : α → List D → Prop) (R : α → D → Prop) : Sp := fun vs H Q E => ∃ a es, IsL K AF AF H vs es ∧ Pre a es ∧ (∀ r, R a r → r.im = true → ∀ v H', Same H H' → Is K AT AT H' v r → Q v H') ∧ ∀ d H', Same H H' → E (.ref C) d H'
/-- data in; data come back, as R tells -/
def spN (K : PySem.W.Frag) {α : Type} (Pre : α → List D → Prop) (R : α → D → Prop) : Sp := fun vs H Q _ => ∃ a es, IsL K AF AF H vs es ∧ Pre a es ∧ ∀ r, R a r → r.im = true → ∀ v H', Same H H' → Is K AT AT H' v r → Q v H'
section
variable {M : Frm} {Γ : Ga} {g : M.G} {Q : QE M} {ta tb te tc : TE} {tt tu : TT} {tr : TA} {E : AE M} {ts t1 t2 : TS}
/-- what is wished of an error of the class at C holds -/
def WXo (M : Frm) (C : Addr) (W : WX) (Γ : Ga) (g : M.G) : Prop := ∀ σ H d, Ok M Γ σ H → M.J g H → W (.ref C) d σ H
theorem we_callX {C : Addr} {α : Type} {Pre : α → List D → Prop} {R : α → D → Prop} {W : WX} (h : WA M tr Γ g fun es g1 => ∃ a, Pre a es ∧ (∀ r, R a r → r.im = true → Q r g1) ∧ WXo M C W Γ g1) : WE M (tCallS (spX M.K C Pre R) (L2.WE W) tr) Γ g Q := fun σ H o j Q' p =>
  h σ H o j _ fun vs H1 es g1 k1 j1 i1 ⟨a, h1, q, x⟩ =>
    ⟨a, es, i1.down (fun _ z => z.elim) (fun _ z => z.elim), h1, fun r hr him v H2 sm iv => p v H2 r g1 (k1.trans (.of_same sm)) (M.same j1 sm) (iv.down (fun _ _ => trivial) (fun _ _ => trivial)) (q r hr him),
      fun d H2 sm => x σ H2 d (o.kp (k1.trans (.of_same sm))) (M.same j1 sm)⟩
theorem we_callN {α : Type} {Pre : α → List D → Prop} {R : α → D → Prop} {X0 : XK} (h : WA M tr Γ g fun es g1 => ∃ a, Pre a es ∧ ∀ r, R a r → r.im = true → Q r g1) : WE M (tCall (spN M.K Pre R) [] X0 tr) Γ g Q := fun σ H o j Q' p =>
  h σ H o j _ fun vs H1 es g1 k1 j1 i1 ⟨a, h1, q⟩ => by
    show spN M.K Pre R (vs ++ []) H1 Q' X0
    rw [List.append_nil]
    exact ⟨a, es, i1.down (fun _ z => z.elim) (fun _ z => z.elim), h1, fun r hr him v H2 sm iv => p v H2 r g1 (k1.trans (.of_same sm)) (M.same j1 sm) (iv.down (fun _ _ => trivial) (fun _ _ => trivial)) (q r hr him)⟩
theorem ws_raise {C : Addr} {W : WX} (h : WA M tr Γ g fun es g1 => (∃ e, es = [e]) ∧ WXo M C W Γ g1) : WS M (tRaiseToo C W tr) Γ g E := fun σ H o j D' p =>
  h σ H o j _ fun vs H1 es g1 k1 j1 i1 ⟨⟨e, e1⟩, x⟩ => by
    subst e1
    obtain ⟨v, rfl, _⟩ := vals_one i1
    exact ⟨v, rfl, fun d hd => x σ _ (some d) ((o.kp k1).kp (.of_same (same_new hd))) (M.same j1 (same_new hd))⟩
theorem ws_tryC {C : Addr} {α : Type} {Pre : α → List D → Prop} {R : α → D → Prop} {i : Nat} {Wout : WX} (hi : Nat.blt i Γ.length = true) (he : PySem.W.exmOne M.K (.ref C) (.ref C) = some true)
    (h : WA M tr Γ g fun es g1 => ∃ a, Pre a es ∧ (∀ r, R a r → r.im = true → E.nx (Γ.set i (some (.d r))) g1) ∧ E.nx (Γ.set i (some (.d .non))) g1) :
    WS M (fun D σ H => tAsg (tCallS (spX M.K C Pre R) (L2.WE (wOnly M.K (.ref C) (fun _ _ _ => tAsg (tC .non) (gName i)) Wout D)) tr) (gName i) D σ H) Γ g E := fun σ H o j D' p =>
  h σ H o j _ fun vs H1 es g1 k1 j1 i1 ⟨a, h1, q, x⟩ =>
    ⟨a, es, i1.down (fun _ z => z.elim) (fun _ z => z.elim), h1, fun r hr him v H2 sm iv => by
      have k2 : Kp M.F H1 H2 := .of_same sm
      exact p.nx _ H2 _ g1 (k1.tk.trans k2.tk) ((o.kp (k1.trans k2)).set (Nat.le_of_ble_eq_true hi) (iv.down (fun _ _ => trivial) (fun _ _ => trivial))) (M.same j1 sm) (q r hr him),
      fun d H2 sm => ⟨true, he, fun _ a _ => by
        have k2 : Kp M.F H1 H2 := .of_same sm
        exact p.nx _ H2 _ g1 (k1.tk.trans k2.tk) ((o.kp (k1.trans k2)).set (Nat.le_of_ble_eq_true hi) (d := .non) rfl) (M.same j1 sm) x, fun z => nomatch z⟩⟩
theorem ws_while (I : Nat → Ga → M.G → Prop) (m0 : Nat) (h0 : I m0 Γ g) (hs : ∀ m Γ' g', I m Γ' g' → WT M tt Γ' g' fun b g2 => if b = true then WS M ts Γ' g2 { E with nx := fun Γ2 g3 => ∃ m', m' < m ∧ I m' Γ2 g3, ct := fun Γ2 g3 => ∃ m', m' < m ∧ I m' Γ2 g3, bk := E.nx } else E.nx Γ' g2) :
    WS M (tWhile tt ts) Γ g E := fun σ H o j D' p => by
  refine ⟨fun m σ' H' => ∃ Γ' g', TK H H' ∧ Ok M Γ' σ' H' ∧ M.J g' H' ∧ I m Γ' g', ⟨m0, Γ, g, TK.refl _, o, j, h0⟩, ?_⟩
  rintro m σ' H' ⟨Γ', g', t1, o', j', q⟩
  refine hs m Γ' g' q σ' H' o' j' _ fun b H2 g2 k2 j2 q2 => ?_
  cases b with
  | false => exact p.nx σ' H2 Γ' g2 (t1.trans k2.tk) (o'.kp k2) j2 q2
  | true =>
    refine ⟨fun σ2 H3 => ∃ m', m' < m ∧ ∃ Γ2 g3, TK H H3 ∧ Ok M Γ2 σ2 H3 ∧ M.J g3 H3 ∧ I m' Γ2 g3, fun σ2 H3 q => q, ?_⟩
    have t2 := t1.trans k2.tk
    exact q2 σ' H2 (o'.kp k2) j2 _ ⟨fun σ3 H3 Γ3 g3 t3 o3 j3 ⟨m', hm, q3⟩ => ⟨m', hm, Γ3, g3, t2.trans t3, o3, j3, q3⟩, fun σ3 H3 Γ3 g3 t3 o3 j3 q3 => p.nx σ3 H3 Γ3 g3 (t2.trans t3) o3 j3 q3, fun σ3 H3 Γ3 g3 t3 o3 j3 ⟨m', hm, q3⟩ => ⟨m', hm, Γ3, g3, t2.trans t3, o3, j3, q3⟩, p.rt, p.rtN⟩
end
/-- a statement that is never reached -/
theorem ps_dead {X : Cx} {st : Stmt} : PS X st (fun _ _ _ => False) := ⟨fun _ _ _ _ _ _ h => h.elim⟩
section
variable {P : Program} {w : World} {K : PySem.W.Frag} {mg : Str → Option Value} {base : Heap}
theorem def_N {x qual : Str} {st : Stmt} {f : Addr} {fd : FuncData} {N ps : List Str} {k : Nat} {α : Type} {Pre : α → List D → Prop} {R : α → D → Prop} (F : Fun K x qual st f fd) (S : FnScope N ps (defScope st)) (hl : ∀ a es, Pre a es → es.length = ps.length) (hN : ps.length ≤ N.length)
    (hb : ∀ (cdv : Value) (A : Around) (outer : List PySem.Env) (s : Shared) (H : Hp) (E : XK), Room k (A.deeper (envOfC qual (defScope st) s.heap.objs.size f cdv)) →
      ∃ t, PSs (cxOf CX0 P w K mg base N qual (defScope st) f cdv A outer s H E).nox (defBody st) t ∧ ∀ a es, Pre a es → WS (frm0 K H) t (ga0 N es) () { nx := fun _ _ => R a .non, rt := fun d _ => d.im = true ∧ R a d }) : FnOk P w K mg base CX0 (k + 1) f fd ps (spN K Pre R) := by
  refine F.ok S (fun vs H Q E h => ?_) (fun cdv A outer s H vs Q E hr h => ?_)
  · obtain ⟨a, es, il, h1, _⟩ := h
    rw [il.len]; exact hl a es h1
  · obtain ⟨a, es, il, h1, q⟩ := h
    obtain ⟨t, ht, hw⟩ := hb cdv A outer s H E hr
    refine ⟨t, ht, ?_⟩
    refine hw a es h1 _ H (ok_start rfl (by rw [hl a es h1]; exact hN) rfl il) trivial _ ⟨fun σ' H' Γ' g' _ o' _ e => ?_, fun _ _ _ _ _ _ _ z => z.elim, fun _ _ _ _ _ _ _ z => z.elim, fun v H' d g' kk _ iv e => ?_, fun _ _ _ _ _ _ _ _ _ _ _ z => z.elim⟩
    · exact q _ e rfl .non H' o'.base.same rfl
    · exact q d e.2 e.1 v H' kk.same (Is.up d v e.1 iv)
theorem def_X {C : Addr} {x qual : Str} {st : Stmt} {f : Addr} {fd : FuncData} {N ps : List Str} {k : Nat} {α : Type} {Pre : α → List D → Prop} {R : α → D → Prop} (F : Fun K x qual st f fd) (S : FnScope N ps (defScope st)) (hl : ∀ a es, Pre a es → es.length = ps.length) (hN : ps.length ≤ N.length)
    (hb : ∀ (cdv : Value) (A : Around) (outer : List PySem.Env) (s : Shared) (H : Hp) (E : XK), Room k (A.deeper (envOfC qual (defScope st) s.heap.objs.size f cdv)) →
      ∃ t, PSs (cxOf (L2.CX P w) P w K mg base N qual (defScope st) f cdv A outer s H E) (defBody st) t ∧ ((∀ d H', Same H H' → E (.ref C) d H') → ∀ a es, Pre a es → WS (frm0 K H) t (ga0 N es) () { nx := fun _ _ => R a .non, rt := fun d _ => d.im = true ∧ R a d })) : FnOk P w K mg base (L2.CX P w) (k + 1) f fd ps (spX K C Pre R) := by
  refine F.okX S (fun vs H Q E h => ?_) (fun cdv A outer s H vs Q E hr h => ?_)
  · obtain ⟨a, es, il, h1, _⟩ := h
    rw [il.len]; exact hl a es h1
  · obtain ⟨a, es, il, h1, q, hx⟩ := h
    obtain ⟨t, ht, hw⟩ := hb cdv A outer s H E hr
    refine ⟨t, ht, ?_⟩
    refine hw hx a es h1 _ H (ok_start rfl (by rw [hl a es h1]; exact hN) rfl il) trivial _ ⟨fun σ' H' Γ' g' _ o' _ e => ?_, fun _ _ _ _ _ _ _ z => z.elim, fun _ _ _ _ _ _ _ z => z.elim, fun v H' d g' kk _ iv e => ?_, fun _ _ _ _ _ _ _ _ _ _ _ z => z.elim⟩
    · exact q _ e rfl .non H' o'.base.same rfl
    · exact q d e.2 e.1 v H' kk.same (Is.up d v e.1 iv)
end
end Sf
end
section
set_option Elab.async false
set_option linter.all false
set_option maxRecDepth 100000
set_option maxHeartbeats 1000000
namespace Sf
open PySem L2
open PyProof.Rows (envOfC)
local macro_rules | `(tactic| walk_at "evS") => `(tactic| first
  | with_reducible refine ws_seq ?_
  | with_reducible refine ws_if ?_
  | with_reducible refine ws_ret ?_
  | ((with_reducible refine' ws_newL ?hi ?_); (case hi => exact rfl))
  | ((with_reducible refine' ws_newD ?hi ?_); (case hi => exact rfl))
  | ((with_reducible refine' ws_listT ?hi ?_); (case hi => exact rfl))
  | ((with_reducible refine' ws_set ?hi ?_); (case hi => exact rfl))
  | with_reducible refine ws_next ?_)
local macro_rules | `(tactic| walk_at "evE2") => `(tactic| first
  | with_reducible refine we_tup ?_
  | ((with_reducible refine' we_lenO ?hv ?_); (case hv => exact rfl))
  | ((with_reducible refine' we_tupO ?hv ?_); (case hv => exact rfl))
  | with_reducible refine we_cb ?_
  | with_reducible refine we_callI ?_
  | with_reducible refine we_callL ?_
  | with_reducible refine we_sl ?_
  | with_reducible refine we_dget ?_
  | with_reducible refine we_get2 ?_
  | with_reducible refine we_ifE ?_
  | with_reducible refine we_andV ?_
  | with_reducible refine we_chain ?_
  | with_reducible refine we_dnewK ?_
  | with_reducible refine we_bl ?_
  | with_reducible refine we_non ?_)
local macro_rules | `(tactic| walk_at "evE") => `(tactic| first
  | ((with_reducible refine' we_var ?hv ?_); (case hv => exact rfl))
  | with_reducible refine we_int ?_
  | with_reducible refine we_str ?_
  | ((with_reducible refine' we_ixO ?hv ?_); (case hv => exact rfl))
  | with_reducible refine we_op ?_
  | walk_at "evE2")
local macro_rules | `(tactic| walk_at "evW") => `(tactic| first
  | ((with_reducible refine' wr_ixT ?hx ?he ?_); (case hx => exact rfl); (case he => first | exact rfl | exact at0 | exact at1 | exact at2 | exact at3))
  | with_reducible refine wr_eqS ?_
  | with_reducible refine wr_i0 ?_
  | with_reducible refine wr_b0 ?_
  | with_reducible refine wr_eqI ?_
  | with_reducible refine wr_neS ?_
  | ((with_reducible refine' wr_ixL ?he ?_); (case he => first | exact rfl | exact at0 | exact at1 | exact at2 | exact at3)))
local macro_rules | `(tactic| walk_at "evT") => `(tactic| first
  | with_reducible refine wt_test ?_
  | with_reducible refine wt_and ?_
  | with_reducible refine wt_or ?_
  | with_reducible refine wt_not ?_
  | with_reducible refine wt_b ?_)
local macro_rules | `(tactic| walk_at "evM") => `(tactic| first
  | ((with_reducible refine' sl_and ?hs ?_); (case hs => exact rfl))
  | ((with_reducible refine if_t ?hc ?_); (case hc => decide +kernel))
  | ((with_reducible refine if_f ?hc ?_); (case hc => decide +kernel))
  | with_reducible refine wo_none ?_
  | with_reducible refine wo_some ?_
  | ((with_reducible refine' wsl_T ?hx ?_); (case hx => exact rfl))
  | with_reducible refine wsl_L ?_
  | ((with_reducible refine' Exists.intro _ (And.intro ?hx ?_)); (case hx => exact rfl))
  | dsimp only)
local macro_rules | `(tactic| walk_at "ev1") => `(tactic| first
  | with_reducible refine wa_cons ?_
  | with_reducible refine wa_nil ?_
  | ((with_reducible show WE _ _ _ _ _); walk_at "evE")
  | ((with_reducible show WR _ _ _ _ _ _); walk_at "evW")
  | ((with_reducible show WS _ _ _ _ _); walk_at "evS")
  | ((with_reducible show WT _ _ _ _ _); walk_at "evT")
  | walk_at "evM")
local macro_rules | `(tactic| walk_at "ev") => `(tactic| repeat walk_at "ev1")

theorem sc_stepped : FnScope ["defs", "term", "place", "most", "part"] ["defs", "term", "place", "most"] (defScope (topS 34)) := ⟨rfl, rfl, rfl, by decide +kernel, rfl, by decide +kernel, by decide +kernel⟩
theorem sc_walked : FnScope ["defs", "term", "most", "steps", "left"] ["defs", "term", "most"] (defScope (topS 35)) := ⟨rfl, rfl, rfl, by decide +kernel, rfl, by decide +kernel, by decide +kernel⟩
theorem sc_law_on : FnScope ["_law_defs", "_law_term_here", "_law_place", "_law_found"] ["_law_defs", "_law_term_here", "_law_place"] (defScope (topS 58)) := ⟨rfl, rfl, rfl, by decide +kernel, rfl, by decide +kernel, by decide +kernel⟩
theorem sc_law_to_end : FnScope ["_law_defs", "_law_term_here", "_law_found"] ["_law_defs", "_law_term_here"] (defScope (topS 59)) := ⟨rfl, rfl, rfl, by decide +kernel, rfl, by decide +kernel, by decide +kernel⟩
/-- t evaluates to v; what is known of sizes -/
structure Run (n : Nat) (ds : List Df) (t v : Sf.T) : Prop where
  ex : ∃ sg, PrgOk sg ds ∧ Wf sg Fa Fa true t
  ev : ∃ c, Ev ds c (fun _ => none) (fun _ => none) (.e t v)
  big : 101 ≤ n
  dp : t.dp < n
  sz : t.sz ≤ LIM
  dl : ds.length ≤ LIM
  bod : ∀ d ∈ ds, d.b.dp < n ∧ d.b.sz ≤ LIM
theorem wf_part {sg : Str → Option (List Bool)} : ∀ (p : List Nat) (t u : Sf.T) (X C : Str → Prop) (s : Bool), Wf sg X C s t → partAt t p = some u → canStep u = true → ∃ X' C', Wf sg X' C' true u
  | [], t, u, X, C, s, w, e, hc => by
    obtain rfl := Option.some.inj e
    cases s with
    | true => exact ⟨X, C, w⟩
    | false => cases w <;> cases hc
  | j :: p, .mk h ks, u, X, C, s, w, e, hc => by
    cases e2 : ks[j]? with
    | none => simp [partAt, e2] at e
    | some k =>
      simp only [partAt, e2] at e
      have hm := List.mem_of_getElem? e2
      have : ∃ X' C' s', Wf sg X' C' s' k := by
        cases w with
        | num _ _ => cases hm
        | count _ => cases hm
        | name _ => cases hm
        | fixed => cases hm
        | input => cases hm
        | op _ w1 w2 =>
          rcases List.mem_cons.mp hm with rfl | hm
          · exact ⟨_, _, _, w1⟩
          · rcases List.mem_cons.mp hm with rfl | hm
            · exact ⟨_, _, _, w2⟩
            · cases hm
        | dov h => exact ⟨_, _, _, h k hm⟩
        | letv w1 w2 =>
          rcases List.mem_cons.mp hm with rfl | hm
          · exact ⟨_, _, _, w1⟩
          · rcases List.mem_cons.mp hm with rfl | hm
            · exact ⟨_, _, _, w2⟩
            · cases hm
        | loop w0 w1 w2 =>
          rcases List.mem_cons.mp hm with rfl | hm
          · exact ⟨_, _, _, w0⟩
          · rcases List.mem_cons.mp hm with rfl | hm
            · exact ⟨_, _, _, w1⟩
            · rcases List.mem_cons.mp hm with rfl | hm
              · exact ⟨_, _, _, w2⟩
              · cases hm
        | pick w0 _ h =>
          rcases List.mem_cons.mp hm with rfl | hm
          · exact ⟨_, _, _, w0⟩
          · exact ⟨_, _, _, h k hm⟩
        | call hf hl h =>
          have hlt := (List.getElem?_eq_some_iff.mp e2).1
          rw [hl] at hlt
          exact ⟨_, _, _, h j k _ e2 (List.getElem?_eq_getElem hlt)⟩
      obtain ⟨X', C', s', wk⟩ := this
      exact wf_part p k u X' C' s' wk e hc
theorem Run.step {n : Nat} {ds : List Df} {t v u : Sf.T} {p : List Nat} (R : Run n ds t v) (hp : partAt t p = some u) (hc : canStep u = true) (hz : (replAt t p (stepOf ds u)).sz ≤ 100) : Run n ds (replAt t p (stepOf ds u)) v := by
  obtain ⟨sg, P, w⟩ := R.ex
  obtain ⟨c, ev⟩ := R.ev
  have hd := dp_lt_sz (replAt t p (stepOf ds u))
  have hb := R.big
  exact ⟨⟨sg, P, wf_at P hc p t _ _ _ w hp⟩, sim_step hc p t hp c _ _ v ev, R.big, by omega, by show _ ≤ 1000000; omega, R.dl, R.bod⟩
theorem Run.stepOk {n : Nat} {ds : List Df} {t v u : Sf.T} {p : List Nat} (R : Run n ds t v) (hp : partAt t p = some u) (hc : canStep u = true) : StepOk n ds u ∧ (replAt t p (stepOf ds u)).sz + u.sz = t.sz + stepSize ds u ∧ u.sz ≤ t.sz := by
  obtain ⟨sg, P, w⟩ := R.ex
  obtain ⟨X', C', wu⟩ := wf_part p t u _ _ _ w hp hc
  obtain ⟨_, q2, q3⟩ := part_wfx p t u true ⟨_, _, _, w⟩ hp
  refine ⟨⟨⟨sg, X', C', P, wu⟩, hc, Nat.lt_of_le_of_lt q2 R.dp, Nat.le_trans q3 R.sz, R.dl, R.bod⟩, ?_, q3⟩
  rw [replAt_sz p t u _ hp, step_sz P wu hc]
abbrev PreSt (n : Nat) (a : List Df × Sf.T × Sf.T × List Nat) (es : List D) : Prop := Run n a.1 a.2.1 a.2.2.1 ∧ (∃ u, partAt a.2.1 a.2.2.2 = some u ∧ canStep u = true) ∧ es = [defsD a.1, enc a.2.1, plD a.2.2.2, .int 100]
abbrev RSt (n : Nat) (a : List Df × Sf.T × Sf.T × List Nat) (r : D) : Prop := ∃ u, partAt a.2.1 a.2.2.2 = some u ∧ canStep u = true ∧ (replAt a.2.1 a.2.2.2 (stepOf a.1 u)).sz ≤ 100 ∧ r = enc (replAt a.2.1 a.2.2.2 (stepOf a.1 u))
abbrev PreWk (n : Nat) (a : List Df × Sf.T × Sf.T) (es : List D) : Prop := Run n a.1 a.2.1 a.2.2 ∧ es = [defsD a.1, enc a.2.1, .int 100]
abbrev RWk (n : Nat) (a : List Df × Sf.T × Sf.T) (r : D) : Prop := ∃ k : Int, plainB a.2.2 = true ∧ a.2.2.dp < n ∧ a.2.2.sz ≤ LIM ∧ r = .tup [.int k, enc a.2.2]
abbrev PreOn (n : Nat) (a : List Df × Sf.T × Sf.T × List Nat) (es : List D) : Prop := Run n a.1 a.2.1 a.2.2.1 ∧ (∃ u, partAt a.2.1 a.2.2.2 = some u ∧ canStep u = true) ∧ es = [defsD a.1, enc a.2.1, plD a.2.2.2]
abbrev ROn (n : Nat) (a : List Df × Sf.T × Sf.T × List Nat) (r : D) : Prop := r = .non ∨ ∃ t', r = enc t' ∧ Run n a.1 t' a.2.2.1
abbrev PreTo (n : Nat) (a : List Df × Sf.T × Sf.T) (es : List D) : Prop := Run n a.1 a.2.1 a.2.2 ∧ es = [defsD a.1, enc a.2.1]
abbrev RTo (n : Nat) (a : List Df × Sf.T × Sf.T) (r : D) : Prop := r = .non ∨ RWk n a r
theorem isNon_enc {s : Bool} {t : Sf.T} (w : Wfx s t) : isNonB (enc t) = false := by
  obtain ⟨h, ks⟩ := t
  obtain ⟨rest, e⟩ := enc_tag w
  rw [e]; rfl
section
variable {P : Program} {w : World} {K : PySem.W.Frag} {mg : Str → Option Value} {base : Heap} (T : Tx K mg) {C fI : Addr} (hToo : PySem.TooX.TooTxt K mg C fI)
include hToo
theorem ok_stepped (n : Nat) : FnOk P w K mg base (L2.CX P w) (2 * n + 4) T.stepped.a T.stepped.fd ["defs", "term", "place", "most"] (spX K C (PreSt n) (RSt n)) := by
  have G_part_at := ok_part_at (P := P) (w := w) (base := base) T
  have G_can_step := ok_can_step (P := P) (w := w) (base := base) T n
  have G_parts := ok_parts (P := P) (w := w) (base := base) T n
  have G_step_size := ok_step_size (P := P) (w := w) (base := base) T n
  have G_step_of := ok_step_of (P := P) (w := w) (base := base) T n
  have G_replaced := ok_replaced (P := P) (w := w) (base := base) T n
  refine def_X T.stepped.F sc_stepped (fun a es ⟨_, _, e⟩ => by subst e; rfl) (by decide) (fun cdv A outer s H E hr => ?_)
  have hr_part_at := hr.mono (show 2 ≤ 2 * n + 3 by omega)
  have hr_can_step := hr.mono (show n + 3 ≤ 2 * n + 3 by omega)
  have hr_parts := hr.mono (show n + 1 ≤ 2 * n + 3 by omega)
  have hr_step_size := hr.mono (show n + 3 ≤ 2 * n + 3 by omega)
  have hr_step_of := hr
  have hr_replaced := hr.mono (show n + 1 ≤ 2 * n + 3 by omega)
  refine ⟨_, (pss_cons (ps_set (i := 4) sc_stepped.nd rfl (by first | exact Or.inl rfl | exact Or.inr rfl) (pe_call G_part_at hr_part_at (by rfl) T.part_at.g T.part_at.F.kp T.part_at.b .nil pass0 (pa_cons (pv 1) (pa_cons (pv 2) pa_nil))))
  (pss_cons (ps_if (PW.pt (pw_or (pt_cmpR op_isN (pv 4) pe_non (nomark _)) (pw_or1 (pt_not (pt_val (pe_call G_can_step hr_can_step (by rfl) T.can_step.g T.can_step.F.kp T.can_step.b .nil pass0 (pa_cons (pv 4) pa_nil))))))) (pss_one ps_dead) pss_nil)
  (pss_cons (ps_if (pt_cmpR op_gt (pe_op op_add (pe_op op_sub (pe_callB call_len (by rfl) T.nlen PySem.boot_len (pa_cons (pe_call G_parts hr_parts (by rfl) T.parts.g T.parts.F.kp T.parts.b .nil pass0 (pa_cons (pv 1) pa_nil)) pa_nil)) (pe_callB call_len (by rfl) T.nlen PySem.boot_len (pa_cons (pe_call G_parts hr_parts (by rfl) T.parts.g T.parts.F.kp T.parts.b .nil pass0 (pa_cons (pv 4) pa_nil)) pa_nil))) (pe_call G_step_size hr_step_size (by rfl) T.step_size.g T.step_size.F.kp T.step_size.b .nil pass0 (pa_cons (pv 0) (pa_cons (pv 4) pa_nil)))) (pv 3) (nomark _)) (pss_one (ps_raiseToo rfl hToo hr (takes_of rfl rfl rfl rfl) (by exact (pa_cons (pv 3) pa_nil)))) pss_nil)
  (pss_one (ps_ret (pe_call G_replaced hr_replaced (by rfl) T.replaced.g T.replaced.F.kp T.replaced.b .nil pass0 (pa_cons (pv 1) (pa_cons (pv 2) (pa_cons (pe_call G_step_of hr_step_of (by rfl) T.step_of.g T.step_of.F.kp T.step_of.b .nil pass0 (pa_cons (pv 0) (pa_cons (pv 4) pa_nil))) pa_nil))))))))), ?_⟩
  dsimp only [cxOf]
  rintro hE ⟨ds, t, v, p⟩ es ⟨R, ⟨u, hp, hc⟩, rfl⟩
  obtain ⟨sg, PO, wf⟩ := R.ex
  obtain ⟨SO, hsz, hle⟩ := R.stepOk hp hc
  obtain ⟨⟨s', wu⟩, _, _⟩ := part_wfx p t u true ⟨_, _, _, wf⟩ hp
  have pl : ∀ (t : Sf.T), t.sz = (t.parts.map enc).length := fun t => by rw [List.length_map, parts_len]
  have hpl : p.length < n := Nat.lt_of_le_of_lt (part_len p t u hp) R.dp
  walk_at "ev"
  refine ⟨_, ⟨t, true, p, u, ⟨_, _, _, wf⟩, R.sz, hp, rfl, rfl⟩, enc_im _, ?_⟩
  walk_at "ev"
  refine wr_isN ?_
  rw [isNon_enc wu]
  walk_at "ev"
  refine ⟨_, ⟨u, s', wu, SO.dp, SO.sz, rfl, rfl⟩, rfl, ?_⟩
  rw [hc]
  walk_at "ev"
  refine ⟨_, ⟨t, true, ⟨_, _, _, wf⟩, R.dp, R.sz, rfl, rfl⟩, ?_⟩
  walk_at "ev"
  refine wc_len (n := t.sz) (pl t) ?_
  walk_at "ev"
  refine ⟨_, ⟨u, s', wu, SO.dp, SO.sz, rfl, rfl⟩, ?_⟩
  walk_at "ev"
  refine wc_len (n := u.sz) (pl u) ?_
  walk_at "ev"
  refine ⟨_, ⟨ds, u, SO, rfl, rfl⟩, rfl, ?_⟩
  walk_at "ev"
  refine if_both (fun c => ?_) (fun c => ?_)
  · refine ws_raise ?_
    walk_at "ev"
    exact ⟨⟨_, rfl⟩, fun σ H' d o j => hE d H' o.base.same⟩
  · walk_at "ev"
    refine ⟨_, ⟨ds, u, SO, rfl, rfl⟩, enc_im _, ?_⟩
    walk_at "ev"
    have hz : (replAt t p (stepOf ds u)).sz ≤ 100 := by
      have c' := of_decide_eq_false (Bool.eq_false_iff.mpr c)
      have h1 : (replAt t p (stepOf ds u)).sz + u.sz = t.sz + stepSize ds u := hsz
      have h2 : ¬ (100 : Int) < (t.sz : Int) - u.sz + (stepSize ds u : Nat) := c'
      omega
    exact ⟨_, ⟨t, true, p, u, _, ⟨_, _, _, wf⟩, R.sz, hpl, hp, rfl, rfl⟩, enc_im _, enc_im _, enc_im _, u, hp, hc, hz, rfl⟩
theorem ok_walked (n : Nat) : FnOk P w K mg base (L2.CX P w) (2 * n + 5) T.walked.a T.walked.fd ["defs", "term", "most"] (spX K C (PreWk n) (RWk n)) := by
  have G_step_places := ok_step_places (P := P) (w := w) (base := base) T n
  have G_stepped := ok_stepped (P := P) (w := w) (base := base) T hToo n
  refine def_X T.walked.F sc_walked (fun a es ⟨_, e⟩ => by subst e; rfl) (by decide) (fun cdv A outer s H E hr => ?_)
  have hr_step_places := hr.mono (show n + 4 ≤ 2 * n + 4 by omega)
  have hr_stepped := hr
  refine ⟨_, (pss_cons (ps_set (i := 3) sc_walked.nd rfl (by first | exact Or.inl rfl | exact Or.inr rfl) pe_int)
  (pss_cons (ps_set (i := 4) sc_walked.nd rfl (by first | exact Or.inl rfl | exact Or.inr rfl) (pe_call G_step_places hr_step_places (by rfl) T.step_places.g T.step_places.F.kp T.step_places.b .nil pass0 (pa_cons (pv 0) (pa_cons (pv 1) pa_nil))))
  (pss_cons (ps_while (passes_of rfl) (pt_cmpR op_gt (pe_callB call_len (by rfl) T.nlen PySem.boot_len (pa_cons (pv 4) pa_nil)) pe_int (nomark _)) (pss_cons (ps_set (i := 1) sc_walked.nd rfl (by first | exact Or.inl rfl | exact Or.inr rfl) (pe_callS G_stepped hr_stepped (by rfl) T.stepped.g T.stepped.F.kp T.stepped.b (fun σ => passAt (takes_of rfl rfl rfl rfl) σ) (by exact (pa_cons (pv 0) (pa_cons (pv 1) (pa_cons (pe_ix ix_list (pv 4) pe_int (fun _ _ => rfl)) (pa_cons (pv 2) pa_nil)))))))
  (pss_cons (ps_set (i := 3) sc_walked.nd rfl (by first | exact Or.inl rfl | exact Or.inr rfl) (pe_op op_add (pv 3) pe_int))
  (pss_one (ps_set (i := 4) sc_walked.nd rfl (by first | exact Or.inl rfl | exact Or.inr rfl) (pe_call G_step_places hr_step_places (by rfl) T.step_places.g T.step_places.F.kp T.step_places.b .nil pass0 (pa_cons (pv 0) (pa_cons (pv 1) pa_nil))))))))
  (pss_one (ps_ret (pe_tup (pa_cons (pv 3) (pa_cons (pv 1) pa_nil)))))))), ?_⟩
  dsimp only [cxOf]
  rintro hE ⟨ds, t, v⟩ es ⟨R, rfl⟩
  obtain ⟨sg, PO, wf⟩ := R.ex
  obtain ⟨c, ev⟩ := R.ev
  walk_at "ev"
  refine ⟨_, ⟨_, t, true, ⟨_, _, _, wf⟩, R.dp, R.sz, rfl, rfl⟩, ?_⟩
  refine ws_seq ?_
  refine ws_while (fun m Γ' _ => ∃ (t' : Sf.T) (k : Int), Run n ds t' v ∧ Ev ds m (fun _ => none) (fun _ => none) (.e t' v) ∧ Γ' = [some (.d (defsD ds)), some (.d (enc t')), some (.d (.int 100)), some (.d (.int k)), some (.d (.lst ((stepPl t').map plD)))]) c ⟨t, 0, R, ev, rfl⟩ ?_
  rintro m Γ' g' ⟨t', k, R', ev', rfl⟩
  obtain ⟨sg', PO', wf'⟩ := R'.ex
  walk_at "ev"
  refine wc_len (n := (stepPl t').length) (by show _ = ((stepPl t').map plD).length; rw [List.length_map]) ?_
  walk_at "ev"
  refine if_both (fun c => ?_) (fun c => ?_)
  · have c' : 0 < (stepPl t').length := by
      have : (0 : Int) < ((stepPl t').length : Nat) := of_decide_eq_true c
      omega
    rcases first PO' (fun _ h => h) (fun _ h => h) t' wf' m v ev' with hpl | ⟨p, u, e1, e2, e3, m', hm, ev2⟩
    · rw [plain_nopl t' hpl] at c'
      exact absurd c' (Nat.lt_irrefl 0)
    · have e0 : (stepPl t')[0]? = some p := by rw [← List.head?_eq_getElem?]; exact e1
      walk_at "ev"
      refine we_callX ?_
      walk_at "ev"
      refine wr_ixL (d := plD p) (atI_nat (j := 0) (by rw [List.getElem?_map, e0]; rfl)) ?_
      walk_at "ev"
      refine ⟨(ds, t', v, p), ⟨R', ⟨u, e2, e3⟩, rfl⟩, ?_, fun σ H' d o j => hE d H' o.base.same⟩
      rintro r ⟨u', f1, f2, f3, rfl⟩ him
      obtain rfl : u = u' := Option.some.inj (e2.symm.trans f1)
      have R2 := R'.step e2 e3 f3
      obtain ⟨sg2, PO2, wf2⟩ := R2.ex
      walk_at "ev"
      refine ⟨_, ⟨_, _, true, ⟨_, _, _, wf2⟩, R2.dp, R2.sz, rfl, rfl⟩, ?_⟩
      walk_at "ev"
      exact ⟨m', hm, _, k + 1, R2, ev2, rfl⟩
  · have c' : stepPl t' = [] := by
      have : ¬ (0 : Int) < ((stepPl t').length : Nat) := of_decide_eq_false (Bool.eq_false_iff.mpr c)
      exact List.length_eq_zero_iff.mp (by omega)
    obtain ⟨q1, q2⟩ := no_step_left PO' wf' ev' c'
    subst q2
    walk_at "ev"
    have him : (D.tup [.int k, enc t']).im = true := by show (true && ((enc t').im && true)) = true; rw [enc_im]; rfl
    exact ⟨him, him, k, q1, R'.dp, R'.sz, rfl⟩
theorem ok_law_on (n : Nat) : FnOk P w K mg base CX0 (2 * n + 5) T.law_on.a T.law_on.fd ["_law_defs", "_law_term_here", "_law_place"] (spN K (PreOn n) (ROn n)) := by
  have G_stepped := ok_stepped (P := P) (w := w) (base := base) T hToo n
  refine def_N T.law_on.F sc_law_on (fun a es ⟨_, _, e⟩ => by subst e; rfl) (by decide) (fun cdv A outer s H E hr => ?_)
  have hr_stepped := hr
  refine ⟨_, (pss_cons (ps_set (i := 3) sc_law_on.nd rfl (by first | exact Or.inl rfl | exact Or.inr rfl) pe_non)
  (pss_cons (ps_try_only (tb := fun W => tAsg (tCallS (spX K C (PreSt n) (RSt n)) (L2.WE W) (tCons (tVar 0) (tCons (tVar 1) (tCons (tVar 2) (tCons (tC (.int 100)) tNil))))) (gName 3)) (ts := fun _ _ _ => tAsg (tC .non) (gName 3)) (Wout := fun _ _ _ _ => False) rfl rfl ⟨rfl, by decide, Or.inl hToo.gC⟩ takes0 (fun W pn xe tk _ => (pss_one (ps_set (i := 3) sc_law_on.nd rfl (by first | exact Or.inl rfl | exact Or.inr rfl) (pe_callS G_stepped hr_stepped (by rfl) T.stepped.g T.stepped.F.kp T.stepped.b (fun σ => passAt tk σ) (by exact (pa_cons (pv 0) (pa_cons (pv 1) (pa_cons (pv 2) (pa_cons pe_int pa_nil))))))))) (fun a oe cls d pn hz hf => (pss_one (ps_set (i := 3) sc_law_on.nd rfl (by first | exact Or.inl rfl | exact Or.inr rfl) pe_non))))
  (pss_one (ps_ret (pv 3))))), ?_⟩
  dsimp only [cxOf]
  rintro ⟨ds, t, v, p⟩ es ⟨R, ⟨u, hp, hc⟩, rfl⟩
  walk_at "ev"
  refine ws_tryC rfl hToo.te ?_
  walk_at "ev"
  refine ⟨(ds, t, v, p), ⟨R, ⟨u, hp, hc⟩, rfl⟩, ?_, ?_⟩
  · rintro r ⟨u', f1, f2, f3, rfl⟩ him
    walk_at "ev"
    exact ⟨him, him, .inr ⟨_, rfl, R.step f1 f2 f3⟩⟩
  · walk_at "ev"
    exact ⟨rfl, rfl, .inl rfl⟩
theorem ok_law_to_end (n : Nat) : FnOk P w K mg base CX0 (2 * n + 6) T.law_to_end.a T.law_to_end.fd ["_law_defs", "_law_term_here"] (spN K (PreTo n) (RTo n)) := by
  have G_walked := ok_walked (P := P) (w := w) (base := base) T hToo n
  refine def_N T.law_to_end.F sc_law_to_end (fun a es ⟨_, e⟩ => by subst e; rfl) (by decide) (fun cdv A outer s H E hr => ?_)
  have hr_walked := hr
  refine ⟨_, (pss_cons (ps_set (i := 2) sc_law_to_end.nd rfl (by first | exact Or.inl rfl | exact Or.inr rfl) pe_non)
  (pss_cons (ps_try_only (tb := fun W => tAsg (tCallS (spX K C (PreWk n) (RWk n)) (L2.WE W) (tCons (tVar 0) (tCons (tVar 1) (tCons (tC (.int 100)) tNil)))) (gName 2)) (ts := fun _ _ _ => tAsg (tC .non) (gName 2)) (Wout := fun _ _ _ _ => False) rfl rfl ⟨rfl, by decide, Or.inl hToo.gC⟩ takes0 (fun W pn xe tk _ => (pss_one (ps_set (i := 2) sc_law_to_end.nd rfl (by first | exact Or.inl rfl | exact Or.inr rfl) (pe_callS G_walked hr_walked (by rfl) T.walked.g T.walked.F.kp T.walked.b (fun σ => passAt tk σ) (by exact (pa_cons (pv 0) (pa_cons (pv 1) (pa_cons pe_int pa_nil)))))))) (fun a oe cls d pn hz hf => (pss_one (ps_set (i := 2) sc_law_to_end.nd rfl (by first | exact Or.inl rfl | exact Or.inr rfl) pe_non))))
  (pss_one (ps_ret (pv 2))))), ?_⟩
  dsimp only [cxOf]
  rintro ⟨ds, t, v⟩ es ⟨R, rfl⟩
  walk_at "ev"
  refine ws_tryC rfl hToo.te ?_
  walk_at "ev"
  refine ⟨(ds, t, v), ⟨R, rfl⟩, ?_, ?_⟩
  · rintro r ⟨k, hk, h1, h2, rfl⟩ him
    walk_at "ev"
    exact ⟨him, him, .inr ⟨k, hk, h1, h2, rfl⟩⟩
  · walk_at "ev"
    exact ⟨rfl, rfl, .inl rfl⟩
end
end Sf
end
section
set_option Elab.async false
set_option linter.all false
set_option maxRecDepth 100000
set_option maxHeartbeats 2000000
/-! Nested keys 1: tuple(d) of a dict by its raw entries. -/
namespace PySem
open Sem (wp)
theorem sub_dict_self : isSubtype (.type "dict") (.type "dict") = pure true := by rw [isSubtype_type]; kernel_rfl
section
variable {prog : Program} {w : World} {A : Around} {E : Value → Shared → Prop} {s : Shared}
theorem collect_dict_raw {d : Addr} {es : Array DictEntry} {ep : Nat} {Q : List Value → Shared → Prop} (hh : A.handled = none) (hd : (d == sysModules) = false) (hm : s.heap.DictRaw d es ep) (hn : es.size ≤ sizeLine)
    (hQ : ∀ (h' : Heap) (tk : Nat), (∀ b o, s.heap.get? b = some o → h'.get? b = some o) → Q (es.toList.map (·.key)) { s with heap := h', toks := tk }) : wpAny (model prog w) A (collect (.ref d)) Q E s := by
  obtain ⟨o, ho, hc, hdat⟩ := id hm
  have hlt : d < s.heap.objs.size := Heap.lt_size ho
  have hSd : s.heap.objs.size ≠ d := Nat.ne_of_gt hlt
  unfold collect
  refine wpAny_bind (wpAny_runValue (codeAny_builtin F.entry_proto_collect ?_))
  rw [Around.under_plainId F.plain_proto_collect _]
  show wpAny _ A.in1 (newList [] >>= fun l => again (.builtin "list.__iadd__" ⟨[l, .ref d], []⟩)) _ _ s
  refine wpAny_bind (wpAny_newObj_type ?_)
  refine wpAny_pure ⟨plainId_quiet F.plain_list_iadd _, codeAny_builtin F.entry_list_iadd ?_⟩
  rw [Around.under_plainId F.plain_list_iadd _]
  have hS : (s.heap.push { cls := .type "list", data := .seq ([] : List Value).toArray }).get? s.heap.objs.size = some { cls := .type "list", data := .seq ([] : List Value).toArray } := Heap.get?_push_size _ rfl
  have hm1 : (s.heap.push { cls := .type "list", data := .seq ([] : List Value).toArray }).DictRaw d es ep := hm.at fun u e => Heap.get?_push_of_some _ e
  have hz1 : (s.heap.push { cls := .type "list", data := .seq ([] : List Value).toArray }).objs.size = s.heap.objs.size + 1 := Heap.size_push ..
  show wpAny _ A.in1 (Builtin.List.listExtendWith (.ref s.heap.objs.size) (.ref d) (.ref s.heap.objs.size)) _ _ _
  unfold Builtin.List.listExtendWith
  refine wpAny_bind (wpAny_typeOf (T := "dict") hm1.typeIs ?_)
  have h1 : Builtin.List.listSameRef (.ref s.heap.objs.size) (.ref d) = false := by simp [Builtin.List.listSameRef, hSd]
  have h2 : (Value.type "dict" == Value.type "list") = false := by decide
  have h3 : (Value.type "dict" == Value.type "tuple") = false := by decide
  simp only [h1, h2, h3, Bool.or_false, Bool.false_eq_true, if_false]
  refine wpAny_bind (wpAny_pyIter_dict_raw (s := { s with heap := s.heap.push { cls := .type "list", data := .seq ([] : List Value).toArray } }) hd hm1 ?_)
  rw [show ({ s with heap := s.heap.push { cls := .type "list", data := .seq ([] : List Value).toArray } } : Shared).heap.objs.size = s.heap.objs.size + 1 from hz1]
  generalize hh2 : (s.heap.push { cls := .type "list", data := .seq ([] : List Value).toArray }).push { cls := .type "dict_keyiterator", data := .fields #[.ref d, .int 0 0, .int es.size 0, .int ep 0] } = g2
  have k2 : ∀ b u, (s.heap.push { cls := .type "list", data := .seq ([] : List Value).toArray }).get? b = some u → g2.get? b = some u := fun b u e => by rw [← hh2]; exact Heap.get?_push_of_some _ e
  have hit : g2.IsKeyIter (s.heap.objs.size + 1) d 0 es.size ep := by
    rw [← hh2]
    refine ⟨_, by rw [← hz1]; exact Heap.get?_push_size _ rfl, rfl, ?_⟩
    first | rfl | exact ⟨_, _, _, rfl⟩ | exact ⟨_, _, _, rfl, rfl⟩
  have hm2 : g2.DictRaw d es ep := hm1.at fun u e => k2 _ _ e
  have hm2' : Heap.DictRaw ({ s with heap := g2 } : Shared).heap d es ep := hm2
  show wpAny _ _ _ _ _ { s with heap := g2 }
  refine wpAny_bind (wpAny_holding ?_)
  unfold Builtin.List.listLengthHint
  refine wpAny_bind (wpAny_specialOf hm2'.typeIs F.slot_dict_len.lookup ?_)
  (generalize hid : ("dict.__len__" : String) = id0; (fail_if_success (clear hid id0)); wp_delta; rw [show splitId id0 = some ("dict", "__len__") from by subst hid; decide +kernel]; subst hid)
  refine wpAny_bind (wpAny_isInstance (b := true) hm2'.typeIs sub_dict_self ?_)
  show wpAny _ A.in1 (typeOf (.ref d) >>= _) _ _ _
  refine wpAny_bind (wpAny_typeOf hm2'.typeIs ?_)
  refine wpAny_pure ?_
  show wpAny _ A.in1 (rule "list.extend.makes-room" >>= fun _ => Builtin.List.listTouch (.ref s.heap.objs.size) >>= fun _ =>
    again (.builtin "list.extend.loop" ⟨[.ref s.heap.objs.size, .ref (s.heap.objs.size + 1), .ref s.heap.objs.size], []⟩)) _ _ _
  refine wpAny_bind (wpAny_rule ?_)
  have hS2 : ({ s with heap := g2 } : Shared).heap.get? s.heap.objs.size = _ := k2 _ _ hS
  refine wpAny_bind ?_
  show wpAny _ A.in1 (updateSeq s.heap.objs.size (·.push .none) >>= fun _ => updateSeq s.heap.objs.size (·.pop)) _ _ _
  refine wpAny_bind (wpAny_updateSeq hS2 rfl ?_)
  have hS3 := Heap.get?_update_self (Obj.mapSeq (·.push Value.none)) hS2 rfl
  refine wpAny_updateSeq hS3 rfl ?_
  have hS4 := Heap.get?_update_self (Obj.mapSeq (·.pop)) hS3 rfl
  have oth : ∀ b u, b ≠ s.heap.objs.size → g2.get? b = some u → ((g2.update s.heap.objs.size (Obj.mapSeq (·.push Value.none))).update s.heap.objs.size (Obj.mapSeq (·.pop))).get? b = some u :=
    fun b u hb e => (Heap.get?_update_other _ _ (Ne.symm hb)).trans ((Heap.get?_update_other _ _ (Ne.symm hb)).trans e)
  have hne : d ≠ s.heap.objs.size + 1 := Nat.ne_of_lt (Nat.lt_succ_of_lt hlt)
  have W := Walks.rawKeys (prog := prog) (w := w) (A := A.in1) hh (s.heap.objs.size + 1) d hne es ep
  have hSf : s.heap.objs.size ∉ [s.heap.objs.size + 1, d] := by
    intro hm
    rcases List.mem_cons.mp hm with z | hm
    · exact absurd z (Nat.ne_of_lt (Nat.lt_succ_self _))
    · exact hSd (List.mem_singleton.mp hm)
  have hst2 : ((g2.update s.heap.objs.size (Obj.mapSeq (·.push Value.none))).update s.heap.objs.size (Obj.mapSeq (·.pop))).IsKeyIter (s.heap.objs.size + 1) d 0 es.size ep ∧ ((g2.update s.heap.objs.size (Obj.mapSeq (·.push Value.none))).update s.heap.objs.size (Obj.mapSeq (·.pop))).DictRaw d es ep :=
    W.frame 0 _ _ ⟨hit, hm2⟩ fun b hb u e => oth b u (fun z => hSf (z ▸ hb)) e
  refine wpAny_pure ⟨plainId_quiet F.plain_extend_loop _, codeAny_extend_loopS W.toS hn _ hSf _ es.size 0 _ _ _ rfl (Nat.zero_le _) hst2 hS4 (ItemsOf.nil _) fun s' acc' c' hm hS' hacc => ?_⟩
  show wpAny _ A (load s.heap.objs.size >>= _) _ _ s'
  refine wpAny_bind (wpAny_load hS' ?_)
  refine wpAny_pure ?_
  show Q acc'.toList s'
  have eo : acc'.toList = es.toList.map (·.key) := by
    apply List.ext_getElem?
    intro i
    rw [List.getElem?_map, Array.getElem?_toList, Array.getElem?_toList]
    by_cases hi : i < es.size
    · obtain ⟨h1, h2⟩ := hacc
      have hi' : i < acc'.size := by rw [h1]; exact hi
      obtain ⟨_, q⟩ := h2 i _ (Array.getElem?_eq_getElem hi')
      rw [Array.getElem?_eq_getElem hi', Array.getElem?_eq_getElem hi, q]; rfl
    · rw [Array.getElem?_eq_none (by rw [hacc.1]; omega), Array.getElem?_eq_none (by omega)]; rfl
  rw [eo, Moved.eq_with hm]
  refine hQ s'.heap s'.toks fun b u e => ?_
  have hbl : b < s.heap.objs.size := Heap.lt_size e
  refine hm.heap b u (fun z => ?_) (oth b u (Nat.ne_of_lt hbl) (k2 b u (Heap.get?_push_of_some _ e)))
  rcases List.mem_cons.mp z with z | z
  · exact absurd hbl (by rw [z]; exact Nat.lt_irrefl _)
  · have z' := List.mem_singleton.mp z
    exact Nat.lt_irrefl _ (Nat.lt_trans (Nat.lt_succ_self s.heap.objs.size) (by rw [z'] at hbl; exact hbl))
end
section
variable {prog : Program} {w : World} {A : Around} {E : Value → Shared → Prop} {s : Shared}
theorem code_tuple_new_dict {d : Addr} {es : Array DictEntry} {ep : Nat} {Q₁ : Value → Shared → Prop} (hh : A.handled = none) (hd : (d == sysModules) = false) (hm : s.heap.DictRaw d es ep) (hn : es.size ≤ sizeLine)
    (h : ∀ (h' : Heap) (tk : Nat), (∀ b o, s.heap.get? b = some o → h'.get? b = some o) → Q₁ (.ref h'.objs.size) { s with heap := h'.push { cls := .type "tuple", data := .seq (es.toList.map (·.key)).toArray }, toks := tk }) :
    codeAny (model prog w) A (.call (.builtin "tuple.__new__") ⟨[.type "tuple", .ref d], []⟩) (wants Q₁ E) s := by
  refine codeAny_of_tree ?_
  show wpAny _ A.in1 (do checkBuiltinCall "tuple.__new__" ⟨[.type "tuple", .ref d], []⟩; again (.builtin "tuple.__new__" ⟨[.type "tuple", .ref d], []⟩)) _ _ s
  refine wpAny_bind (wpAny_of_eq (F.newCall_tuple_1 _) (wpAny_pure ⟨plainId_quiet F.plain_tuple_new _, codeAny_builtin F.entry_tuple_new ?_⟩))
  rw [Around.under_plainId F.plain_tuple_new _]
  have hsub := sub_tuple_self
  have hinit := init_tuple_lookup
  have hmh := madeHere_tuple
  have hTI : s.TypeIs (.ref d) "dict" := hm.typeIs
  have hh1 : A.in1.handled = none := hh
  wp_walk using wpAny_typeOf hTI, collect_dict_raw (A := A.in1) hh1 hd hm hn
  intro h' tk hk
  show wpAny _ _ (Builtin.Tuple.tupleExact (es.toList.map (·.key)).toArray >>= fun v => ret v) _ _ _
  unfold Builtin.Tuple.tupleExact
  refine wpAny_bind (wpAny_newObj_type ?_ (by show (es.toList.map (·.key)).toArray.size ≤ sizeLine; rw [List.size_toArray, List.length_map, Array.length_toList]; exact hn))
  refine wpAny_pure ?_
  exact h h' tk hk
theorem call_tuple_dict {d : Addr} {es : Array DictEntry} {ep : Nat} {Q : Value → Shared → Prop} (hh : A.handled = none) (hd : (d == sysModules) = false) (hm : s.heap.DictRaw d es ep) (hn : es.size ≤ sizeLine)
    (hQ : ∀ (h' : Heap) (tk : Nat), (∀ b o, s.heap.get? b = some o → h'.get? b = some o) → Q (.ref h'.objs.size) { s with heap := h'.push { cls := .type "tuple", data := .seq (es.toList.map (·.key)).toArray }, toks := tk }) :
    wpAny (model prog w) A (call (.type "tuple") [.ref d]) Q E s := by
  refine callType_codes (Q₁ := fun obj s₁ => s₁.TypeIs obj "tuple" ∧ Q obj s₁) F.called_tuple (F.typeCall_tuple_1 _) F.entry_object_init
    (code_tuple_new_dict (A := A.in1) hh hd hm hn fun h' tk hk => ⟨⟨_, Heap.get?_push_size _ rfl, rfl⟩, hQ h' tk hk⟩) fun obj s₁ h₁ => ?_
  exact ⟨h₁.1, F.args_object_init_2 obj _, object_init_meets F.called_tuple.init.lookup F.called_tuple.made (by decide) prog w A.in1 _ s₁ ⟨h₁.1, rfl, h₁.2⟩⟩
end
end PySem
end
section
set_option Elab.async false
set_option linter.all false
set_option maxRecDepth 100000
set_option maxHeartbeats 2000000
/-! Nested keys 2: a dict whose keys are nested tuples and whose i-th key has the number i. -/
namespace L2
open PySem PySem.Spec PyProof.Rows
mutual
/-- the value is the key -/
def NkV (K : PySem.W.Frag) (H : Hp) : NestedKey → V → Prop
  | .num i, v => v = .int i
  | .text s, v => v = .str s
  | .tup ks, v => ∃ b vs, v = .ref b ∧ SqT K H b vs ∧ NkL K H ks vs
  | .none, _ => False
def NkL (K : PySem.W.Frag) (H : Hp) : List NestedKey → List V → Prop
  | [], [] => True
  | k :: ks, v :: vs => NkV K H k v ∧ NkL K H ks vs
  | _, _ => False
end
mutual
theorem NkV.mono {K : PySem.W.Frag} {H H' : Hp} (h : ∀ b xs, SqT K H b xs → SqT K H' b xs) : ∀ (k : NestedKey) (v : V), NkV K H k v → NkV K H' k v
  | .num _, _, q => q
  | .text _, _, q => q
  | .tup ks, _, ⟨b, vs, e, s, l⟩ => ⟨b, vs, e, h b vs s, NkL.mono h ks vs l⟩
  | .none, _, q => q.elim
theorem NkL.mono {K : PySem.W.Frag} {H H' : Hp} (h : ∀ b xs, SqT K H b xs → SqT K H' b xs) : ∀ (ks : List NestedKey) (vs : List V), NkL K H ks vs → NkL K H' ks vs
  | [], [], q => q
  | [], _ :: _, q => q.elim
  | _ :: _, [], q => q.elim
  | k :: ks, v :: vs, q => ⟨NkV.mono h k v q.1, NkL.mono h ks vs q.2⟩
end
section
variable {X : Cx} {pins : List (Addr × Obj)} {σ : St} {H : Hp} {s : Shared}
mutual
theorem NkV.is (I : Inv X pins σ H s) : ∀ (k : NestedKey) (v : V) (u : Value), NkV X.K H k v → RelV v u → NestedIs s.heap k u
  | .num i, _, u, q, r => by
    subst q
    obtain ⟨t, rfl⟩ := r
    exact .int i t
  | .text x, _, u, q, r => by
    subst q
    obtain ⟨t, rfl⟩ := r
    exact .text x t
  | .tup ks, _, u, ⟨b, vs, e, hs, l⟩, r => by
    subst e
    obtain rfl : u = .ref b := r
    obtain ⟨its, rv, ⟨o, ho, hc, n, hd⟩, _⟩ := I.tuple hs
    exact .tup ho hc hd (NkL.is I ks vs its l rv)
  | .none, _, _, q, _ => q.elim
theorem NkL.is (I : Inv X pins σ H s) : ∀ (ks : List NestedKey) (vs : List V) (us : List Value), NkL X.K H ks vs → Vals vs us → NestedAll s.heap ks us
  | [], [], us, _, r => by cases r; exact .nil
  | [], _ :: _, _, q, _ => q.elim
  | _ :: _, [], _, q, _ => q.elim
  | k :: ks, v :: vs, us, q, r => by
    cases r with
    | cons r1 r2 => exact .cons (NkV.is I k v _ q.1 r1) (NkL.is I ks vs _ q.2 r2)
end
end
def ndφ (P : Program) (w : World) (a : Addr) (xs : List (NestedKey × Addr × Value)) (h : Heap) : Prop := (a == sysModules) = false ∧ (xs.map (·.1)).Nodup ∧ ∃ o es ep, h.get? a = some o ∧ o.ExactDict ∧ o.data = .dict es ep ∧ es.toList = xs.map (entryOfKey (nestedKind P w))
def NdO (P : Program) (w : World) (a : Addr) (xs : List (NestedKey × Addr × Value)) : HO := .ext (ndφ P w a xs)
/-- at a: the dict of the keys, each with its number -/
def NdAt (P : Program) (w : World) (K : PySem.W.Frag) (H : Hp) (a : Addr) (ks : List NestedKey) : Prop := ks.length ≤ sizeLine ∧ ∃ xs : List (NestedKey × Addr × Value), H a = some (NdO P w a xs) ∧ xs.map (·.1) = ks ∧
  ∀ (i : Nat) (x : NestedKey × Addr × Value), xs[i]? = some x → (∃ t, x.2.2 = .int (i : Int) t) ∧ NkV K H x.1 (.ref x.2.1) ∧ x.1.depth ≤ 8
section
variable {X : Cx} {pins : List (Addr × Obj)} {σ : St} {H : Hp} {s : Shared} {a : Addr} {ks : List NestedKey}
theorem nd_obj {P : Program} {w : World} {H : Hp} {h : Heap} {a : Addr} {xs : List (NestedKey × Addr × Value)} (hp : ndφ P w a xs h) : ObjOk P w H h a (NdO P w a xs) :=
  ⟨hp, let ⟨_, _, o, _, _, e, _⟩ := hp; ⟨o, e⟩, fun h1 h2 ⟨q1, q2, o, es, ep, e1, e2, e3, e4⟩ k => ⟨q1, q2, o, es, ep, k o e1, e2, e3, e4⟩⟩
theorem nd_of (I : Inv X pins σ H s) (N : NdAt X.prog X.w X.K H a ks) : ∃ xs : List (NestedKey × Addr × Value), (a == sysModules) = false ∧ s.heap.DictOfH (nestedKind X.prog X.w) a xs ∧ xs.map (·.1) = ks ∧ ks.length ≤ sizeLine ∧ ks.Nodup ∧ H a = some (NdO X.prog X.w a xs) ∧
    ∀ (i : Nat) (x : NestedKey × Addr × Value), xs[i]? = some x → (∃ t, x.2.2 = .int (i : Int) t) ∧ NkV X.K H x.1 (.ref x.2.1) ∧ x.1.depth ≤ 8 := by
  obtain ⟨hl, xs, e, ek, hx⟩ := N
  obtain ⟨⟨q1, q2, o, es, ep, e1, e2, e3, e4⟩, _⟩ := (show ObjOk X.prog X.w H s.heap a (NdO X.prog X.w a xs) from I.hok a _ e)
  refine ⟨xs, q1, ⟨o, es, ep, e1, e2, e3, e4, fun x hm => ?_, q2⟩, ek, hl, by rw [← ek]; exact q2, e, hx⟩
  obtain ⟨i, hi⟩ := List.mem_iff_getElem?.mp hm
  obtain ⟨_, n, d⟩ := hx i x hi
  exact ⟨NkV.is I _ _ _ n rfl, d⟩
theorem nd_at {xs : List (NestedKey × Addr × Value)} (hn : (xs.map (·.1)).Nodup) {k : NestedKey} : (atKey xs k).isSome = decide (k ∈ xs.map (·.1)) := by
  by_cases h : k ∈ xs.map (·.1)
  · rw [decide_eq_true h]
    obtain ⟨x, hx, e⟩ := List.mem_map.mp h
    obtain ⟨i, hi⟩ := List.mem_iff_getElem?.mp hx
    obtain ⟨k', p⟩ := x
    obtain rfl : k' = k := e
    rw [atKey_of_get hn hi]; rfl
  · rw [decide_eq_false h, atKey_none_of_get fun j p e => h (List.mem_map.mpr ⟨_, List.mem_of_getElem? e, rfl⟩)]; rfl
/-- k (not) in d -/
def rNdIn (P : Program) (w : World) (K : PySem.W.Frag) (neg : Bool) : R2 := fun x y H Q => ∃ a ks ls, y = .ref a ∧ NdAt P w K H a ks ∧ NkV K H (.tup ls) x ∧ (NestedKey.tup ls).depth ≤ 8 ∧ Q (.bl (neg != decide (NestedKey.tup ls ∈ ks))) H
theorem nd_room (hu : X.A.units + 64 < cLine) : (nestedKind X.prog X.w).room X.A.in1 := by
  show X.A.units + 1 + 8 < cLine
  omega
theorem op_ndnot (hu : X.A.units + 64 < cLine) : OpR X (compareOp .NotIn) (rNdIn X.prog X.w X.K true) := by
  intro pins s σ H x y v u Q I rx ry h
  obtain ⟨a, ks, ls, rfl, N, nk, hd, q⟩ := h
  obtain rfl : u = .ref a := ry
  obtain ⟨b, vs, rfl, _, _⟩ := id nk
  obtain rfl : v = .ref b := rx
  obtain ⟨xs, hs, dd, ek, hl, nd, e, hx⟩ := nd_of I N
  refine wpAny_notIn_heap (nd_room hu) ⟨NkV.is I _ _ _ nk rfl, hd⟩ hs dd ?_
  rw [nd_at (by rw [ek]; exact nd), ek]
  exact ⟨.bl _, H, I.tok _, rfl, by simpa using q⟩
/-- d[k], k the i-th key -/
def tNdGet (P : Program) (w : World) (K : PySem.W.Frag) (td ty : TE) : TE := fun σ H Q => td σ H fun x H1 => ty σ H1 fun y H2 => ∃ a ks ls i, x = .ref a ∧ NdAt P w K H2 a ks ∧ NkV K H2 (.tup ls) y ∧ (NestedKey.tup ls).depth ≤ 8 ∧ ks[i]? = some (.tup ls) ∧ Q (.int (i : Nat)) H2
theorem pe_ndget {o i : Expr} {pos : Pos} {td ty : TE} (hu : X.A.units + 64 < cLine) (ho : PE X o td) (hi : PE X i ty) (hs : NoSl i) : PE X (.Subscript o i pos) (tNdGet X.prog X.w X.K td ty) := by
  refine ⟨fun pins s σ H Q I h => ?_⟩
  refine subD_of PySem.F.slot_dict_getitem.lookup hs (thn (ho.run pins s σ H _ I h) fun u s1 ⟨x, H1, I1, rx, q1⟩ => thn (hi.run pins s1 σ H1 _ I1 q1) fun iv s2 ⟨y, H2, I2, ry, a, ks, ls, j, ex, N, nk, hd, hj, q2⟩ => ?_)
  subst ex
  obtain rfl : u = Value.ref a := rx
  obtain ⟨b, vs, rfl, _, _⟩ := id nk
  obtain rfl : iv = .ref b := ry
  obtain ⟨xs, hsy, dd, ek, hl, nd, e, hx⟩ := nd_of I2 N
  refine ⟨dd.typeIs, ?_⟩
  have hj' : xs[j]?.map (·.1) = some (.tup ls) := by rw [← List.getElem?_map, ek]; exact hj
  obtain ⟨⟨k', p⟩, hj2, ek'⟩ := Option.map_eq_some_iff.mp hj'
  obtain rfl : k' = .tup ls := ek'
  obtain ⟨⟨t, et⟩, _, _⟩ := hx j _ hj2
  refine wpAny_getItem_heap (nd_room hu) ⟨NkV.is I2 _ _ _ nk rfl, hd⟩ dd (atKey_of_get (by rw [ek]; exact nd) hj2) ?_
  exact ⟨.int (j : Nat), H2, I2.tok _, ⟨t, et⟩, q2⟩
/-- d[k] = len(d), k new -/
def sNdPut (P : Program) (w : World) (K : PySem.W.Frag) (td ty tv : TE) : TS := fun D σ H => tv σ H fun v H1 => td σ H1 fun x H2 => ty σ H2 fun y H3 => ∃ a ks ls, x = .ref a ∧ NdAt P w K H3 a ks ∧ NkV K H3 (.tup ls) y ∧ (NestedKey.tup ls).depth ≤ 8 ∧ NestedKey.tup ls ∉ ks ∧
  v = .int (ks.length : Nat) ∧ ks.length < sizeLine ∧ (∃ φ, H3 a = some (.ext φ)) ∧ ∀ φ, NdAt P w K (upd H3 a (.ext φ)) a (ks ++ [.tup ls]) → D.nx σ (upd H3 a (.ext φ))
theorem ext_sqT {K : PySem.W.Frag} {H : Hp} {a : Addr} {φ ψ : Heap → Prop} (e : H a = some (.ext φ)) {b : Addr} {xs : List V} (q : SqT K H b xs) : SqT K (upd H a (.ext ψ)) b xs := by
  rcases q with (q | ⟨o, q⟩) | q
  · exact .inl (.inl (by rw [upd_ne (fun z => by rw [z, e] at q; cases q)]; exact q))
  · exact .inl (.inr ⟨o, by rw [upd_ne (fun z => by rw [z, e] at q; cases q)]; exact q⟩)
  · exact .inr q
theorem ps_ndput {o i value : Expr} {pos pos' : Pos} {td ty tv : TE} (hu : X.A.units + 64 < cLine) (ho : PE X o td) (hi : PE X i ty) (hv : PE X value tv) (hs : swapsWith value (some (.Subscript o i pos')) pos.line X.env = pure false) :
    PS X (.Assign [.Subscript o i pos'] value pos) (sNdPut X.prog X.w X.K td ty tv) := by
  refine ⟨fun pins s σ H D I h => ?_⟩
  refine wpAny_Assign_Subscript (thn (hv.run pins s σ H _ I h) fun r s1 ⟨v, H1, I1, rv, q1⟩ => thn (ho.run pins s1 σ H1 _ I1 q1) fun u s2 ⟨x, H2, I2, rx, q2⟩ => thn (hi.run pins s2 σ H2 _ I2 q2) fun iv s3 ⟨y, H3, I3, ry, a, ks, ls, ex, N, nk, hd, hni, ev, hlt, _, q3⟩ => ?_) hs
  subst ex ev
  obtain rfl : u = Value.ref a := rx
  obtain ⟨b, vs, rfl, hb1, hb2⟩ := id nk
  obtain rfl : iv = .ref b := ry
  obtain ⟨t, rfl⟩ := rv
  obtain ⟨xs, hsy, dd, ek, hl, nd, e, hx⟩ := nd_of I3 N
  have hxl : xs.length = ks.length := by rw [← ek, List.length_map]
  refine wpAny_setItem_heap (hsz := by rw [hxl]; exact hl) (nd_room hu) ⟨NkV.is I3 _ _ _ nk rfl, hd⟩ dd fun h' dd' hs' => ?_
  have hnone : atKey xs (.tup ls) = none := by
    have := nd_at (xs := xs) (k := .tup ls) (by rw [ek]; exact nd)
    rw [ek, decide_eq_false hni] at this
    cases q : atKey xs (.tup ls) with
    | none => rfl
    | some p => rw [q] at this; cases this
  rw [storedH_new hnone] at dd'
  obtain ⟨o', es, ep, g1, g2, g3, g4, _, g5⟩ := dd'
  have ph : ndφ X.prog X.w a (xs ++ [(.tup ls, b, .int (ks.length : Nat) t)]) h' := ⟨hsy, g5, o', es, ep, g1, g2, g3, g4⟩
  have I4 := d_write (t' := s3.toks + (nestedKind X.prog X.w).draws (.tup ls)) I3 (by rw [e]; exact True.intro) hs' ⟨o', g1⟩ (nd_obj (H := upd H3 a (NdO X.prog X.w a (xs ++ [(.tup ls, b, .int (ks.length : Nat) t)]))) ph)
  refine ⟨σ, _, I4, q3 _ ⟨?_, _, upd_same, ?_, fun j x hj => ?_⟩⟩
  · rw [List.length_append]; exact hlt
  · rw [List.map_append, ek]; rfl
  · have mono : ∀ c ys, SqT X.K H3 c ys → SqT X.K (upd H3 a (NdO X.prog X.w a (xs ++ [(.tup ls, b, .int (ks.length : Nat) t)]))) c ys := fun c ys q => ext_sqT e q
    by_cases hc : j < xs.length
    · rw [List.getElem?_append_left hc] at hj
      obtain ⟨h1, h2, h3⟩ := hx j x hj
      exact ⟨h1, h2.mono mono, h3⟩
    · rw [List.getElem?_append_right (by omega)] at hj
      have hj0 : j - xs.length = 0 := by
        cases q : j - xs.length with
        | zero => rfl
        | succ m => rw [q] at hj; simp at hj
      rw [hj0] at hj
      obtain rfl := Option.some.inj hj
      exact ⟨⟨t, by rw [show j = ks.length by omega]⟩, nk.mono mono, hd⟩
def rNdLen (P : Program) (w : World) (K : PySem.W.Frag) : List V → Hp → VK → Prop := fun xs H Q => ∃ a ks, xs = [.ref a] ∧ NdAt P w K H a ks ∧ Q (.int (ks.length : Nat)) H
theorem call_lenNd : CallR X (.builtin "len") (rNdLen X.prog X.w X.K) := by
  intro pins s σ H xs us Q I r h
  obtain ⟨a, ks, rfl, N, q⟩ := h
  obtain ⟨u, rfl, rx⟩ := vals1 r
  obtain rfl : u = .ref a := rx
  obtain ⟨ys, hsy, dd, ek, hl, nd, e, hx⟩ := nd_of I N
  have hxl : ys.length = ks.length := by rw [← ek, List.length_map]
  refine call_len_dictH hsy dd (by rw [hxl]; rw [sizeLine_eq] at hl; omega) ?_
  rw [hxl]
  exact ⟨.int (ks.length : Nat), H, I.tok _, ⟨_, rfl⟩, q⟩
def rNdTup (P : Program) (w : World) (K : PySem.W.Frag) : List V → Hp → VK → Prop := fun xs H Q => ∃ a ks, xs = [.ref a] ∧ NdAt P w K H a ks ∧ ∀ p vs, H p = none → NkL K H ks vs → Q (.ref p) (upd H p (.tup vs))
theorem nd_vals {K : PySem.W.Frag} {H : Hp} : ∀ (xs : List (NestedKey × Addr × Value)), (∀ x ∈ xs, NkV K H x.1 (.ref x.2.1)) → NkL K H (xs.map (·.1)) (xs.map fun x => V.ref x.2.1)
  | [], _ => trivial
  | x :: xs, h => ⟨h x List.mem_cons_self, nd_vals xs fun y hy => h y (List.mem_cons_of_mem _ hy)⟩
theorem nd_refs : ∀ (xs : List (NestedKey × Addr × Value)), Vals (xs.map fun x => V.ref x.2.1) (xs.map fun x => Value.ref x.2.1)
  | [] => .nil
  | _ :: xs => .cons rfl (nd_refs xs)
theorem call_tupleNd (hc : X.calm = true) : CallR X (.type "tuple") (rNdTup X.prog X.w X.K) := by
  intro pins s σ H xs us Q I r h
  obtain ⟨a, ks, rfl, N, q⟩ := h
  obtain ⟨u, rfl, rx⟩ := vals1 r
  obtain rfl : u = .ref a := rx
  obtain ⟨ys, hsy, dd, ek, hl, nd, e, hx⟩ := nd_of I N
  obtain ⟨o, es, ep, g1, g2, g3, g4, _, _⟩ := dd
  have hkeys : es.toList.map (·.key) = ys.map fun x => Value.ref x.2.1 := by rw [g4, List.map_map]; rfl
  have hsz : es.size ≤ sizeLine := by
    have : es.toList.length = ys.length := by rw [g4, List.length_map]
    rw [Array.length_toList] at this
    have hxl : ys.length = ks.length := by rw [← ek, List.length_map]
    omega
  refine call_tuple_dict (I.ok.hd hc) hsy ⟨o, g1, g2, g3⟩ hsz fun h' tk hk => ?_
  have I1 : Inv X pins σ H { s with heap := h', toks := tk } := I.kept (t' := tk) hk
  rw [hkeys]
  have nk : NkL X.K H ks (ys.map fun x => V.ref x.2.1) := by
    rw [← ek]
    refine nd_vals ys fun x hm => ?_
    obtain ⟨i, hi⟩ := List.mem_iff_getElem?.mp hm
    exact (hx i x hi).2.1
  have hsize : (ys.map fun x => V.ref x.2.1).length ≤ sizeLine := by
    have hxl : ys.length = ks.length := by rw [← ek, List.length_map]
    rw [List.length_map]; omega
  have I2 : Inv X pins σ (upd H h'.objs.size (.tup (ys.map fun x => V.ref x.2.1))) { s with heap := h'.push { cls := .type "tuple", data := .seq (ys.map fun x => Value.ref x.2.1).toArray }, toks := tk } :=
    I1.laid (t' := tk) (fun b o e => Heap.get?_push_of_some _ e) (Nat.le_refl _) (show ObjOk X.prog X.w _ _ _ (.tup (ys.map fun x => V.ref x.2.1)) from ⟨hsize, _, nd_refs ys, IsTup.new _ _⟩)
  exact ⟨.ref h'.objs.size, _, I2, rfl, q _ _ (I1.hok.fresh (Nat.le_refl _)) nk⟩
/-- {}, to be such a dict -/
def tDNewN (P : Program) (w : World) (K : PySem.W.Frag) : TE := fun _ H Q => ∀ p φ, H p = none → NdAt P w K (upd H p (.ext φ)) p [] → Q (.ref p) (upd H p (.ext φ))
theorem pe_dnewN {pos : Pos} : PE X (.Dict [] [] pos) (tDNewN X.prog X.w X.K) := ⟨fun pins s σ H Q I h => by
  have hb := I.big
  refine wpAny_Dict_empty ⟨.ref s.heap.objs.size, _, I.laid (a := s.heap.objs.size) (o := NdO X.prog X.w s.heap.objs.size []) (h' := s.heap.push { cls := .type "dict", data := .dict #[] }) (t' := s.toks) (fun _ _ q => Heap.get?_push_of_some _ q) (Nat.le_refl _) (nd_obj ⟨beq_eq_false_iff_ne.mpr (Ne.symm (Nat.ne_of_lt hb)), .nil, _, #[], 0, Heap.get?_push_size _ rfl, ⟨rfl, rfl, rfl⟩, rfl, rfl⟩), rfl,
    h _ _ (I.hok.fresh (Nat.le_refl _)) ⟨Nat.zero_le _, [], upd_same, rfl, fun i x e => by simp at e⟩⟩⟩
end
end L2
end
section
set_option Elab.async false
set_option linter.all false
set_option maxRecDepth 100000
set_option maxHeartbeats 2000000
/-! Nested keys 3: nodes, keep, lay; rules over what is known. -/
namespace Sf
open PySem L2
/-! ### keys as data -/
mutual
def kD : NestedKey → D
  | .none => .non
  | .num i => .int i
  | .text s => .str s
  | .tup ks => .tup (kDL ks)
def kDL : List NestedKey → List D
  | [] => []
  | k :: ks => kD k :: kDL ks
end
mutual
def kOk : NestedKey → Bool
  | .none => false
  | .num _ => true
  | .text _ => true
  | .tup ks => kOkL ks
def kOkL : List NestedKey → Bool
  | [] => true
  | k :: ks => kOk k && kOkL ks
end
theorem kDL_map : ∀ ks : List NestedKey, kDL ks = ks.map kD
  | [] => rfl
  | k :: ks => by show kD k :: kDL ks = kD k :: ks.map kD; rw [kDL_map ks]
section
variable {K : PySem.W.Frag} {F O : Aset} {H : Hp}
mutual
theorem nk_of : ∀ (k : NestedKey) (v : V), kOk k = true → Is K F O H v (kD k) → NkV K H k v
  | .none, _, h, _ => by cases h
  | .num _, _, _, h => h
  | .text _, _, _, h => h
  | .tup ks, _, h, ⟨b, vs, e, s, l⟩ => ⟨b, vs, e, s, nkL_of ks vs h l⟩
theorem nkL_of : ∀ (ks : List NestedKey) (vs : List V), kOkL ks = true → IsL K F O H vs (kDL ks) → NkL K H ks vs
  | [], [], _, _ => trivial
  | [], _ :: _, _, h => False.elim h
  | _ :: _, [], _, h => False.elim h
  | k :: ks, v :: vs, h, l => by
    have h' : (kOk k && kOkL ks) = true := h
    rw [Bool.and_eq_true] at h'
    exact ⟨nk_of k v h'.1 l.1, nkL_of ks vs h'.2 l.2⟩
end
mutual
theorem nk_is : ∀ (k : NestedKey) (v : V), NkV K H k v → Is K F O H v (kD k)
  | .none, _, h => False.elim h
  | .num _, _, h => h
  | .text _, _, h => h
  | .tup ks, _, ⟨b, vs, e, s, l⟩ => ⟨b, vs, e, s, nkL_is ks vs l⟩
theorem nkL_is : ∀ (ks : List NestedKey) (vs : List V), NkL K H ks vs → IsL K F O H vs (kDL ks)
  | [], [], _ => trivial
  | [], _ :: _, h => False.elim h
  | _ :: _, [], h => False.elim h
  | k :: ks, v :: vs, l => ⟨nk_is k v l.1, nkL_is ks vs l.2⟩
end
end
mutual
theorem kD_im : ∀ k : NestedKey, (kD k).im = true
  | .none => rfl
  | .num _ => rfl
  | .text _ => rfl
  | .tup ks => kDL_im ks
theorem kDL_im : ∀ ks : List NestedKey, imL (kDL ks) = true
  | [] => rfl
  | k :: ks => by show ((kD k).im && imL (kDL ks)) = true; rw [kD_im k, kDL_im ks]; rfl
end

/-! ### nodes -/
def nIn (k : Int) : NestedKey := .tup [.text "input", .num k]
def nFx (c : Str) : NestedKey := .tup [.text "fixed", .text c]
def nDo (d : Str) (is : List Nat) : NestedKey := .tup [.text "do", .text d, .tup (is.map fun (i : Nat) => .num (i : Int))]
def keep (ks : List NestedKey) (k : NestedKey) : List NestedKey × Nat := if k ∈ ks then (ks, ks.idxOf k) else (ks ++ [k], ks.length)
mutual
def lay : T → List NestedKey → List NestedKey × Nat
  | .mk h ts, ks => match h with
    | .dov d => keep (layL ts ks).1 (nDo d (layL ts ks).2)
    | .input k => keep ks (nIn k)
    | .fixed c => keep ks (nFx c)
    | _ => (ks, 0)
def layL : List T → List NestedKey → List NestedKey × List Nat
  | [], ks => (ks, [])
  | t :: r, ks => ((layL r (lay t ks).1).1, (lay t ks).2 :: (layL r (lay t ks).1).2)
end
def form (t : T) : List NestedKey × Nat := lay t []
theorem kD_do (d : Str) (is : List Nat) : kD (nDo d is) = .tup [.str "do", .str d, .tup (is.map fun (i : Nat) => .int (i : Int))] := by
  show D.tup [.str "do", .str d, .tup (kDL (is.map fun (i : Nat) => .num (i : Int)))] = _
  rw [kDL_map, List.map_map]; rfl
theorem kOk_do (d : Str) (is : List Nat) : kOk (nDo d is) = true := by
  show (true && (true && (kOkL (is.map fun (i : Nat) => NestedKey.num (i : Int)) && true))) = true
  have : ∀ is : List Nat, kOkL (is.map fun (i : Nat) => NestedKey.num (i : Int)) = true := by
    intro is
    induction is with
    | nil => rfl
    | cons i is ih => show (true && kOkL (is.map fun (i : Nat) => NestedKey.num (i : Int))) = true; rw [ih]; rfl
  rw [this]; rfl
theorem dp_do (d : Str) (is : List Nat) : (nDo d is).depth ≤ 8 := by
  have h0 : ∀ is : List Nat, NestedKey.depthAll (is.map fun (i : Nat) => NestedKey.num (i : Int)) = 0 := by
    intro is
    induction is with
    | nil => rfl
    | cons i is ih => show max 0 (NestedKey.depthAll (is.map fun (i : Nat) => NestedKey.num (i : Int))) = 0; rw [ih]; rfl
  show max 0 (max 0 (max (NestedKey.depthAll (is.map fun (i : Nat) => NestedKey.num (i : Int)) + 1) 0)) + 1 ≤ 8
  rw [h0]; decide
theorem keep_at (ks : List NestedKey) (k : NestedKey) : (keep ks k).1[(keep ks k).2]? = some k := by
  unfold keep
  by_cases h : k ∈ ks
  · rw [if_pos h]
    show ks[ks.idxOf k]? = some k
    rw [List.getElem?_eq_getElem (List.idxOf_lt_length_of_mem h), List.getElem_idxOf]
  · rw [if_neg h]
    show (ks ++ [k])[ks.length]? = some k
    rw [List.getElem?_append_right (Nat.le_refl _), Nat.sub_self]; rfl
theorem keep_len (ks : List NestedKey) (k : NestedKey) : (keep ks k).1.length ≤ ks.length + 1 := by
  unfold keep
  split
  · exact Nat.le_succ _
  · show (ks ++ [k]).length ≤ _; rw [List.length_append]; exact Nat.le_refl _
mutual
theorem lay_len : ∀ (t : T) (ks : List NestedKey), (lay t ks).1.length ≤ ks.length + t.sz
  | .mk h ts, ks => by
    have e : (T.mk h ts).sz = 1 + szL ts := rfl
    cases h with
    | dov d =>
      have h1 := keep_len (layL ts ks).1 (nDo d (layL ts ks).2)
      have h2 := layL_len ts ks
      show (keep (layL ts ks).1 (nDo d (layL ts ks).2)).1.length ≤ _
      omega
    | input k => have h1 := keep_len ks (nIn k); show (keep ks (nIn k)).1.length ≤ _; omega
    | fixed c => have h1 := keep_len ks (nFx c); show (keep ks (nFx c)).1.length ≤ _; omega
    | _ => exact Nat.le_add_right _ _
theorem layL_len : ∀ (ts : List T) (ks : List NestedKey), (layL ts ks).1.length ≤ ks.length + szL ts
  | [], ks => Nat.le_refl _
  | t :: r, ks => by
    have h1 := lay_len t ks
    have h2 := layL_len r (lay t ks).1
    show (layL r (lay t ks).1).1.length ≤ ks.length + (t.sz + szL r)
    omega
end
theorem layL_snoc : ∀ (a : List T) (t : T) (ks : List NestedKey), layL (a ++ [t]) ks = ((lay t (layL a ks).1).1, (layL a ks).2 ++ [(lay t (layL a ks).1).2])
  | [], t, ks => rfl
  | u :: r, t, ks => by
    have ih := layL_snoc r t (lay u ks).1
    show ((layL (r ++ [t]) (lay u ks).1).1, (lay u ks).2 :: (layL (r ++ [t]) (lay u ks).1).2) = _
    rw [ih]; rfl
theorem layL_length : ∀ (a : List T) (ks : List NestedKey), (layL a ks).2.length = a.length
  | [], _ => rfl
  | t :: r, ks => congrArg (· + 1) (layL_length r (lay t ks).1)

/-! ### rules -/
/-- a frame in which the dict of the keys stands at a -/
structure NdIn (P : Program) (w : World) (M : Frm) (a : Addr) (gk : M.G → List NestedKey) (pu : M.G → List NestedKey → M.G) : Prop where
  f : M.F a
  j : ∀ g H, M.J g H → NdAt P w M.K H a (gk g)
  p : ∀ g H φ ks, M.J g H → NdAt P w M.K (upd H a (.ext φ)) a ks → M.J (pu g ks) (upd H a (.ext φ))
section
variable {P : Program} {w : World} {M : Frm} {a : Addr} {gk : M.G → List NestedKey} {pu : M.G → List NestedKey → M.G} {Γ : Ga} {g : M.G} {Q : QE M} {ta tb te tv : TE} {E : AE M}
theorem wr_ndnot (N : NdIn P w M a gk pu) {k : NestedKey} {x : D} (ls : List NestedKey) (hx : x = kD k) (ek : k = .tup ls) (hk : kOk k = true) (hd : k.depth ≤ 8) (q : Q (.bl (!decide (k ∈ gk g))) g) : WR M (rNdIn P w M.K true) x (.adr a) g Q := fun v u H O o j0 h1 h2 Q' p => by
  subst hx ek
  obtain rfl : u = .ref a := h2
  refine ⟨a, gk g, ls, rfl, N.j g H j0, nk_of _ _ hk h1, hd, ?_⟩
  have : (true != decide (NestedKey.tup ls ∈ gk g)) = !decide (NestedKey.tup ls ∈ gk g) := by cases decide (NestedKey.tup ls ∈ gk g) <;> rfl
  rw [this]
  exact p _ H (.bl _) g (Kp.refl H) j0 rfl q
theorem we_ndget (N : NdIn P w M a gk pu) (h : WE M ta Γ g fun x g1 => x = .adr a ∧ WE M tb Γ g1 fun y g2 => ∃ k ls i, y = kD k ∧ k = .tup ls ∧ kOk k = true ∧ k.depth ≤ 8 ∧ (gk g2)[i]? = some k ∧ Q (.int (i : Nat)) g2) : WE M (tNdGet P w M.K ta tb) Γ g Q := fun σ H o j Q' p =>
  h σ H o j _ fun v H1 x g1 k1 j1 i1 ⟨e, h1⟩ => by
    subst e
    obtain rfl : v = .ref a := i1
    refine h1 σ H1 (o.kp k1) j1 _ fun u H2 y g2 k2 j2 i2 ⟨k, ls, i, ey, ek, hk, hd, hi, q⟩ => ?_
    subst ey ek
    exact ⟨a, gk g2, ls, i, rfl, N.j g2 H2 j2, nk_of _ _ hk i2, hd, hi, p _ H2 (.int (i : Nat)) g2 (k1.trans k2) j2 rfl q⟩
theorem ws_ndput (N : NdIn P w M a gk pu) (h : WE M tv Γ g fun z g1 => WE M ta Γ g1 fun x g2 => x = .adr a ∧ WE M tb Γ g2 fun y g3 => ∃ k ls, y = kD k ∧ k = .tup ls ∧ kOk k = true ∧ k.depth ≤ 8 ∧ k ∉ gk g3 ∧ z = .int ((gk g3).length : Nat) ∧ (gk g3).length < sizeLine ∧ E.nx Γ (pu g3 (gk g3 ++ [k]))) : WS M (sNdPut P w M.K ta tb tv) Γ g E := fun σ H o j D' p =>
  h σ H o j _ fun v H1 z g1 k1 j1 i1 h1 => h1 σ H1 (o.kp k1) j1 _ fun vx H2 x g2 k2 j2 i2 ⟨ex, h2⟩ => by
    subst ex
    obtain rfl : vx = .ref a := i2
    refine h2 σ H2 ((o.kp k1).kp k2) j2 _ fun u H3 y g3 k3 j3 i3 ⟨k, ls, ey, ek, hk, hd, hn, ez, hl, q⟩ => ?_
    subst ey ek ez
    obtain rfl : v = .int ((gk g3).length : Nat) := i1
    have hN := N.j g3 H3 j3
    have hx : ∃ φ, H3 a = some (.ext φ) := by obtain ⟨_, xs, e, _⟩ := hN; exact ⟨_, e⟩
    refine ⟨a, gk g3, ls, rfl, hN, nk_of _ _ hk i3, hd, hn, rfl, hl, hx, fun φ hφ => ?_⟩
    obtain ⟨ψ, e⟩ := hx
    have k4 : Kp M.F H3 (upd H3 a (.ext φ)) := ⟨fun b ob n eb => by rw [upd_ne (fun z => n (by rw [z]; exact N.f))]; exact eb, fun b xs eb => by rw [upd_ne (fun z => by rw [z, e] at eb; cases eb)]; exact eb, fun b ob u eb => by rw [upd_ne (fun z => by rw [z, e] at eb; cases eb)]; exact eb⟩
    have kk := ((k1.trans k2).trans k3).trans k4
    exact p.nx _ _ _ _ kk.tk (o.kp kk) (N.p g3 H3 φ _ j3 hφ) q
theorem wc_ndlen (N : NdIn P w M a gk pu) (q : Q (.int ((gk g).length : Nat)) g) : WC M (rNdLen P w M.K) [.adr a] g Q := fun vs H O o j0 h Q' p => by
  obtain ⟨v, rfl, e⟩ := vals_one h
  obtain rfl : v = .ref a := e
  exact ⟨a, gk g, rfl, N.j g H j0, p _ H (.int _) g (Kp.refl H) j0 rfl q⟩
theorem wc_ndtup (N : NdIn P w M a gk pu) (q : Q (.tup ((gk g).map kD)) g) : WC M (rNdTup P w M.K) [.adr a] g Q := fun vs H O o j0 h Q' p => by
  obtain ⟨v, rfl, e⟩ := vals_one h
  obtain rfl : v = .ref a := e
  refine ⟨a, gk g, rfl, N.j g H j0, fun b us hb nk => ?_⟩
  refine p _ _ (.tup _) g (Kp.new hb) (M.same j0 (same_new hb)) ⟨b, us, rfl, .of upd_same, ?_⟩ q
  rw [← kDL_map]
  exact nkL_is _ us (nk.mono fun c xs e => Kp.sqT (F := AF) (Kp.new hb) e)
end
/-- the frame of the numbers' dict at a -/
@[reducible] def frmN (P : Program) (w : World) (K : PySem.W.Frag) (H0 : Hp) (a : Addr) : Frm where
  K := K
  H0 := H0
  F := fun b => b = a
  G := List NestedKey
  J := fun ks H => NdAt P w K H a ks
  stab := fun ks H H' ⟨hl, xs, e, ek, hx⟩ h1 h2 h3 => ⟨hl, xs, h1 a _ rfl e, ek, fun i x hi => by
    obtain ⟨q1, q2, q3⟩ := hx i x hi
    refine ⟨q1, q2.mono fun b ys q => ?_, q3⟩
    rcases q with (q | ⟨o, q⟩) | q
    · exact .inl (.inl (h2 _ _ q))
    · exact .inl (.inr ⟨o, h3 _ _ _ q⟩)
    · exact .inr q⟩
  trk := fun ks H b ⟨_, xs, e, _⟩ hb he => by rw [hb, e] at he; cases he
theorem ndIn_N (P : Program) (w : World) (K : PySem.W.Frag) (H0 : Hp) (a : Addr) : NdIn P w (frmN P w K H0 a) a (fun g => g) (fun _ ks => ks) :=
  ⟨rfl, fun g H j => j, fun g H φ ks _ h => h⟩
/-- numbers = {}: from here on the frame holds it -/
theorem ws_newN {P : Program} {w : World} {K : PySem.W.Frag} {H0 : Hp} {Γ : Ga} {i : Nat} {ts : TS} {E : AE (frm0 K H0)} (hi : Nat.blt i Γ.length = true) (him : ∀ (j : Nat) (d : SD), Γ[j]? = some (some d) → ∃ x, d = .d x ∧ x.im = true)
    (h : ∀ a, WS (frmN P w K H0 a) ts (Γ.set i (some (.d (.adr a)))) [] { nx := fun _ _ => False, rt := fun d _ => d.im = true ∧ E.rt d () }) : WS (frm0 K H0) (tSeq (tAsg (tDNewN P w K) (gName i)) ts) Γ () E := fun σ H o j D' p => by
  intro a φ ha hN
  have hb := o.base
  have H0a : H0 a = none := by
    cases e : H0 a with
    | none => rfl
    | some u => rw [hb.same a u e] at ha; cases ha
  have hiΓ := Nat.le_of_ble_eq_true hi
  have hiσ : i < σ.length := by rw [o.len]; exact hiΓ
  have sm := same_new (o := .ext φ) ha
  have noOw : ∀ (Γ' : Ga) (σ' : St), (∀ (j : Nat) (d : SD), Γ'[j]? = some (some d) → ∃ x, d = .d x ∧ x.im = true) → ∀ b, ¬ Ow Γ' σ' b := fun Γ' σ' h b ⟨k, d, h1, h2, h3⟩ => by
    obtain ⟨x, rfl, _⟩ := h k d h1
    cases h2
  have him' : ∀ (j : Nat) (d : SD), (Γ.set i (some (.d (.adr a))))[j]? = some (some d) → ∃ x, d = .d x ∧ x.im = true := fun j d e => by
    by_cases q : j = i
    · subst q
      rw [List.getElem?_set_self hiΓ] at e
      cases Option.some.inj (Option.some.inj e)
      exact ⟨_, rfl, rfl⟩
    · rw [List.getElem?_set_ne (Ne.symm q)] at e
      exact him j d e
  have o2 : Ok (frmN P w K H0 a) (Γ.set i (some (.d (.adr a)))) (σ.set i (some (.ref a))) (upd H a (.ext φ)) := by
    refine ⟨by rw [List.length_set, List.length_set]; exact o.len, ((Kp.of_same hb.same).trans (.of_same sm)).mono fun _ z => False.elim z, fun j d e => ?_, fun j d e n => ?_, fun b hb => absurd hb (noOw _ _ him' b), fun j k d e b h1 h2 => ?_⟩
    · by_cases q : j = i
      · subst q
        rw [List.getElem?_set_self hiΓ] at e
        cases Option.some.inj (Option.some.inj e)
        exact ⟨_, List.getElem?_set_self hiσ, rfl⟩
      · rw [List.getElem?_set_ne (Ne.symm q)] at e
        obtain ⟨v, e1, e2⟩ := o.at' j d e
        obtain ⟨x, ex, xim⟩ := him j _ e
        cases ex
        exact ⟨v, by rw [List.getElem?_set_ne (Ne.symm q)]; exact e1, Is.up _ _ xim (e2.kp (Kp.of_same sm))⟩
    · obtain ⟨x, rfl, _⟩ := him' j d e
      cases n
    · obtain ⟨x, rfl, _⟩ := him' j d h1
      cases h2
  refine h a _ _ o2 hN _ ⟨fun _ _ _ _ _ _ _ z => False.elim z, fun _ _ _ _ _ _ _ z => False.elim z, fun _ _ _ _ _ _ _ z => False.elim z, fun v H2 d g kk _ iv ⟨dim, q⟩ => ?_, fun _ _ _ _ _ _ _ _ _ _ _ z => False.elim z⟩
  refine p.rt v H2 d () ⟨fun b ob n e => kk.k b ob (fun z => by have e' : H0 b = some ob := e; rw [z, H0a] at e'; cases e') e, kk.t, kk.z⟩ trivial (Is.up d v dim iv) q
end Sf
end
section
set_option Elab.async false
set_option linter.all false
set_option maxRecDepth 100000
set_option maxHeartbeats 1000000
namespace Sf
open PySem L2
open PyProof.Rows (envOfC)
local macro_rules | `(tactic| walk_at "evS") => `(tactic| first
  | with_reducible refine ws_seq ?_
  | with_reducible refine ws_if ?_
  | with_reducible refine ws_ret ?_
  | ((with_reducible refine' ws_newL ?hi ?_); (case hi => exact rfl))
  | ((with_reducible refine' ws_newD ?hi ?_); (case hi => exact rfl))
  | ((with_reducible refine' ws_listT ?hi ?_); (case hi => exact rfl))
  | ((with_reducible refine' ws_set ?hi ?_); (case hi => exact rfl))
  | with_reducible refine ws_next ?_)
local macro_rules | `(tactic| walk_at "evE2") => `(tactic| first
  | with_reducible refine we_tup ?_
  | ((with_reducible refine' we_lenO ?hv ?_); (case hv => exact rfl))
  | ((with_reducible refine' we_tupO ?hv ?_); (case hv => exact rfl))
  | with_reducible refine we_cb ?_
  | with_reducible refine we_callI ?_
  | with_reducible refine we_callL ?_
  | with_reducible refine we_sl ?_
  | with_reducible refine we_dget ?_
  | with_reducible refine we_get2 ?_
  | with_reducible refine we_ifE ?_
  | with_reducible refine we_andV ?_
  | with_reducible refine we_chain ?_
  | with_reducible refine we_dnewK ?_
  | with_reducible refine we_bl ?_
  | with_reducible refine we_non ?_)
local macro_rules | `(tactic| walk_at "evE") => `(tactic| first
  | ((with_reducible refine' we_var ?hv ?_); (case hv => exact rfl))
  | with_reducible refine we_int ?_
  | with_reducible refine we_str ?_
  | ((with_reducible refine' we_ixO ?hv ?_); (case hv => exact rfl))
  | with_reducible refine we_op ?_
  | walk_at "evE2")
local macro_rules | `(tactic| walk_at "evW") => `(tactic| first
  | ((with_reducible refine' wr_ixT ?hx ?he ?_); (case hx => exact rfl); (case he => first | exact rfl | exact at0 | exact at1 | exact at2 | exact at3))
  | with_reducible refine wr_eqS ?_
  | with_reducible refine wr_i0 ?_
  | with_reducible refine wr_b0 ?_
  | with_reducible refine wr_eqI ?_
  | with_reducible refine wr_neS ?_
  | ((with_reducible refine' wr_ixL ?he ?_); (case he => first | exact rfl | exact at0 | exact at1 | exact at2 | exact at3)))
local macro_rules | `(tactic| walk_at "evT") => `(tactic| first
  | with_reducible refine wt_test ?_
  | with_reducible refine wt_and ?_
  | with_reducible refine wt_or ?_
  | with_reducible refine wt_not ?_
  | with_reducible refine wt_b ?_)
local macro_rules | `(tactic| walk_at "evM") => `(tactic| first
  | ((with_reducible refine' sl_and ?hs ?_); (case hs => exact rfl))
  | ((with_reducible refine if_t ?hc ?_); (case hc => decide +kernel))
  | ((with_reducible refine if_f ?hc ?_); (case hc => decide +kernel))
  | with_reducible refine wo_none ?_
  | with_reducible refine wo_some ?_
  | ((with_reducible refine' wsl_T ?hx ?_); (case hx => exact rfl))
  | with_reducible refine wsl_L ?_
  | ((with_reducible refine' Exists.intro _ (And.intro ?hx ?_)); (case hx => exact rfl))
  | dsimp only)
local macro_rules | `(tactic| walk_at "ev1") => `(tactic| first
  | with_reducible refine wa_cons ?_
  | with_reducible refine wa_nil ?_
  | ((with_reducible show WE _ _ _ _ _); walk_at "evE")
  | ((with_reducible show WR _ _ _ _ _ _); walk_at "evW")
  | ((with_reducible show WS _ _ _ _ _); walk_at "evS")
  | ((with_reducible show WT _ _ _ _ _); walk_at "evT")
  | walk_at "evM")
local macro_rules | `(tactic| walk_at "ev") => `(tactic| repeat walk_at "ev1")

theorem sc_laid_down : FnScope ["term", "numbers", "node", "part"] ["term", "numbers"] (defScope (topS 37)) := ⟨rfl, rfl, rfl, by decide +kernel, rfl, by decide +kernel, by decide +kernel⟩
theorem sc_form_of : FnScope ["term", "numbers", "top"] ["term"] (defScope (topS 38)) := ⟨rfl, rfl, rfl, by decide +kernel, rfl, by decide +kernel, by decide +kernel⟩
/-- the nodes of t are laid into the dict at a -/
def spLay (P : Program) (w : World) (K : PySem.W.Frag) (n : Nat) : Sp := fun vs H Q _ => ∃ t ks v a, vs = [v, .ref a] ∧ Is K AF AF H v (enc t) ∧ plainB t = true ∧ t.dp < n ∧ t.sz ≤ LIM ∧ ks.length + t.sz ≤ LIM ∧ NdAt P w K H a ks ∧
  ∀ H', Kp (fun b => b = a) H H' → NdAt P w K H' a (lay t ks).1 → Q (.int ((lay t ks).2 : Nat)) H'
section
variable {P : Program} {w : World} {K : PySem.W.Frag} {H0 : Hp} {a : Addr} {Γ : Ga} {g : List NestedKey} {Q : QE (frmN P w K H0 a)} {tr : TA} {X0 : XK} {n : Nat}
theorem we_callLay (h : WA (frmN P w K H0 a) tr Γ g fun es g1 => ∃ t, es = [enc t, .adr a] ∧ plainB t = true ∧ t.dp < n ∧ t.sz ≤ LIM ∧ g1.length + t.sz ≤ LIM ∧ Q (.int ((lay t g1).2 : Nat)) (lay t g1).1) : WE (frmN P w K H0 a) (tCall (spLay P w K n) [] X0 tr) Γ g Q := fun σ H o j Q' p =>
  h σ H o j _ fun vs H1 es g1 k1 j1 i1 ⟨t, e, h1, h2, h3, h4, q⟩ => by
    subst e
    show spLay P w K n (vs ++ []) H1 Q' X0
    rw [List.append_nil]
    obtain ⟨v, u, rfl, i2, e2⟩ := vals_two i1
    obtain rfl : u = .ref a := e2
    exact ⟨t, g1, v, a, rfl, Is.up _ _ (enc_im t) i2, h1, h2, h3, h4, j1, fun H2 k2 n2 => p _ H2 (.int _) _ (k1.trans k2) n2 rfl q⟩
end
theorem plain_cases {t : Sf.T} (h : plainB t = true) : (∃ d ts, t = .mk (.dov d) ts ∧ plainLB ts = true) ∨ (∃ k, t = .mk (.input k) []) ∨ (∃ c, t = .mk (.fixed c) []) := by
  obtain ⟨hd, ks⟩ := t
  cases hd with
  | dov d => exact .inl ⟨d, ks, rfl, h⟩
  | input k => cases ks with | nil => exact .inr (.inl ⟨k, rfl⟩) | cons => cases h
  | fixed c => cases ks with | nil => exact .inr (.inr ⟨c, rfl⟩) | cons => cases h
  | _ => cases h
theorem szL_take_get {ts : List Sf.T} {i : Nat} {t : Sf.T} (h : ts[i]? = some t) : szL (ts.take i) + t.sz ≤ szL ts := by
  have h1 := szL_take_le ts (i + 1)
  rw [take_snoc h, szL_append] at h1
  have : szL [t] = t.sz + 0 := rfl
  omega
section
variable {P : Program} {w : World} {K : PySem.W.Frag} {mg : Str → Option Value} {base : Heap} (T : Tx K mg)
/-- the tail: the node is kept -/
theorem keep_not {ks : List NestedKey} {k : NestedKey} (h : k ∉ ks) : keep ks k = (ks ++ [k], ks.length) := by unfold keep; rw [if_neg h]
theorem keep_in {ks : List NestedKey} {k : NestedKey} (h : k ∈ ks) : keep ks k = (ks, ks.idxOf k) := by unfold keep; rw [if_pos h]
theorem ok_laid_down : ∀ n : Nat, FnOk P w K mg base CX0 (n + 1) T.laid_down.a T.laid_down.fd ["term", "numbers"] (spLay P w K n)
  | 0 => ⟨fun _ _ _ _ ⟨t, _, _, _, _, _, _, h, _⟩ => absurd h (Nat.not_lt_zero _), fun _ _ _ _ _ _ _ _ _ _ _ _ _ ⟨t, _, _, _, _, _, _, h, _⟩ => absurd h (Nat.not_lt_zero _)⟩
  | n + 1 => by
    have G_laid_down := ok_laid_down n
    refine T.laid_down.F.ok sc_laid_down (fun vs H Q E ⟨t, ks, v, a, e, _⟩ => by subst e; rfl) (fun cdv A outer s H vs Q E hr h => ?_)
    have hu := hu_of hr
    have hr_laid_down := hr
    obtain ⟨t, ks, v, a, rfl, iv, hpl, hd, hz, hlk, hN, q⟩ := h
    refine ⟨_, (pss_cons (ps_set (i := 2) sc_laid_down.nd rfl (by first | exact Or.inl rfl | exact Or.inr rfl) (pv 0))
  (pss_cons (ps_if (pt_cmpR op_eq (pe_ix ix_tup (pv 0) pe_int (fun _ _ => rfl)) pe_str (nomark _)) (pss_one (ps_set (i := 2) sc_laid_down.nd rfl (by first | exact Or.inl rfl | exact Or.inr rfl) (pe_tup (pa_cons pe_str (pa_cons (pe_ix ix_tup (pv 0) pe_int (fun _ _ => rfl)) (pa_cons (pe_callTy call_tuple_of (by rfl) T.ntuple (by decide +kernel) (pa_cons (pe_lc (own := [("part", 3)]) (by rfl) sc_laid_down.nd (pi_tup (pe_ix ix_tup (pv 0) pe_int (fun _ _ => rfl))) (blkOk_by (own := [("part", 3)]) (N := ["term", "numbers", "node", "part"]) (sc := defScope (topS 37)) (by decide +kernel)) (fun _ _ _ _ _ => (pg_name (i := 3) sc_laid_down.nd rfl (by first | exact Or.inl rfl | exact Or.inr rfl))) (fun _ _ _ _ _ => pts_nil) (fun _ _ _ _ _ => (pe_call G_laid_down hr_laid_down (by rfl) T.laid_down.g T.laid_down.F.kp T.laid_down.b .nil pass0 (pa_cons (pv 3) (pa_cons (pv 1) pa_nil))))) pa_nil)) pa_nil)))))) pss_nil)
  (pss_cons (ps_if (pt_cmpR (op_ndnot hr.units) (pv 2) (pv 1) (by rfl)) (pss_one (ps_ndput hr.units (pv 1) (pv 2) (pe_callB call_lenNd (by rfl) T.nlen PySem.boot_len (pa_cons (pv 1) pa_nil)) rfl)) pss_nil)
  (pss_one (ps_ret (pe_ndget hr.units (pv 1) (pv 2) (fun _ _ => rfl))))))), ?_⟩
    dsimp only [cxOf]
    have st : Ok (frmN P w K H a) (ga0 ["term", "numbers", "node", "part"] [enc t, .adr a]) (L2.start ["term", "numbers", "node", "part"] [v, .ref a]) H :=
      ok_start rfl (Nat.le_add_right 2 2) rfl ⟨Is.up _ _ (enc_im t) iv, rfl, trivial⟩
    have NI := ndIn_N P w K H a
    refine (?_ : WS (frmN P w K H a) _ (ga0 ["term", "numbers", "node", "part"] [enc t, .adr a]) ks { nx := fun _ _ => False, rt := fun d g => d = .int ((lay t ks).2 : Nat) ∧ g = (lay t ks).1 }) _ H st hN _ ⟨fun _ _ _ _ _ _ _ z => False.elim z, fun _ _ _ _ _ _ _ z => False.elim z, fun _ _ _ _ _ _ _ z => False.elim z, fun v' H' d g' kk j iv' ⟨e1, e2⟩ => ?_, fun _ _ _ _ _ _ _ _ _ _ _ z => False.elim z⟩
    rotate_left
    · subst e1 e2
      obtain rfl : v' = .int _ := iv'
      exact q H' kk j
    have fin : ∀ (g : List NestedKey) (Γ : Ga) (k : NestedKey) (ls : List NestedKey), k = .tup ls → kOk k = true → k.depth ≤ 8 → g.length < sizeLine → Γ[1]? = some (some (.d (.adr a))) → Γ[2]? = some (some (.d (kD k))) → keep g k = lay t ks →
        WR (frmN P w K H a) (rNdIn P w K true) (kD k) (.adr a) g fun e g3 => ∃ b, e = .bl b ∧ if b = true then
          WS (frmN P w K H a) (sNdPut P w K (tVar 1) (tVar 2) (tCB (rNdLen P w K) (tCons (tVar 1) tNil))) Γ g3 { nx := fun Γ' g' => WS (frmN P w K H a) (tRet (tNdGet P w K (tVar 1) (tVar 2))) Γ' g' { nx := fun _ _ => False, rt := fun d g => d = .int ((lay t ks).2 : Nat) ∧ g = (lay t ks).1 }, rt := fun d g => d = .int ((lay t ks).2 : Nat) ∧ g = (lay t ks).1 }
        else WS (frmN P w K H a) tNext Γ g3 { nx := fun Γ' g' => WS (frmN P w K H a) (tRet (tNdGet P w K (tVar 1) (tVar 2))) Γ' g' { nx := fun _ _ => False, rt := fun d g => d = .int ((lay t ks).2 : Nat) ∧ g = (lay t ks).1 }, rt := fun d g => d = .int ((lay t ks).2 : Nat) ∧ g = (lay t ks).1 } := by
      intro g Γ k ls ek hk hdk hlen g1 g2 hkeep
      refine wr_ndnot NI ls rfl ek hk hdk ⟨_, rfl, ?_⟩
      have last : ∀ g' : List NestedKey, g' = (lay t ks).1 → g'[(lay t ks).2]? = some k → WS (frmN P w K H a) (tRet (tNdGet P w K (tVar 1) (tVar 2))) Γ g' { nx := fun _ _ => False, rt := fun d g => d = .int ((lay t ks).2 : Nat) ∧ g = (lay t ks).1 } := fun g' e1 e2 =>
        ws_ret (we_ndget NI (we_var g1 ⟨rfl, we_var g2 ⟨k, ls, (lay t ks).2, rfl, ek, hk, hdk, e2, rfl, rfl, e1⟩⟩))
      have hat := keep_at g k
      rw [hkeep] at hat
      by_cases c : k ∈ g
      · refine if_f (by rw [decide_eq_true c]; decide) ?_
        rw [keep_in c] at hkeep
        refine ws_next (last g ?_ ?_)
        · rw [← hkeep]
        · rw [← hkeep] at hat ⊢; exact hat
      · refine if_t (by rw [decide_eq_false c]; decide) ?_
        rw [keep_not c] at hkeep
        refine ws_ndput NI (we_cb (wa_cons (we_var g1 (wa_nil (wc_ndlen NI (we_var g1 ⟨rfl, we_var g2 ⟨k, ls, rfl, ek, hk, hdk, c, rfl, hlen, last _ ?_ ?_⟩⟩))))))
        · rw [← hkeep]
        · rw [← hkeep] at hat ⊢; exact hat
    rcases plain_cases hpl with ⟨d, ts, rfl, hts⟩ | ⟨k, rfl⟩ | ⟨c, rfl⟩
    · walk_at "ev"
      refine we_lc (wi_tup kp_rel ?_)
      walk_at "ev"
      refine ⟨encL_im ts, lim_lt (by rw [encL_len]; exact ts_len hz), fun i acc g' => g' = (layL (ts.take i) ks).1 ∧ acc = (layL (ts.take i) ks).2.map fun (j : Nat) => D.int (j : Int), ⟨rfl, rfl⟩, fun i acc g' hlt _ ⟨eg, ea⟩ => ?_, fun acc g' _ him ⟨eg, ea⟩ => ?_⟩
      · rw [encL_len] at hlt
        have ht : ts[i]? = some ts[i] := List.getElem?_eq_getElem hlt
        rw [encL_getD ht]
        refine wg_name rfl rfl ?_
        refine wt_yes (if_t rfl ?_)
        refine we_callLay ?_
        walk_at "ev"
        have hsn := layL_snoc (ts.take i) ts[i] ks
        rw [← take_snoc ht] at hsn
        have hsz := szL_take_get ht
        have hll := layL_len (ts.take i) ks
        have e1 : (Sf.T.mk (.dov d) ts).sz = 1 + szL ts := rfl
        subst eg
        refine ⟨plainLB_iff.mp hts _ (List.getElem_mem hlt), kid_dp hd (List.getElem_mem hlt), kid_sz hz (List.getElem_mem hlt), by omega, rfl, ?_, ?_⟩
        · rw [hsn]
        · rw [hsn, ea, List.map_append]; rfl
      · rw [encL_len, List.take_length] at eg ea
        subst eg ea
        walk_at "ev"
        refine wc_tupL ?_
        walk_at "ev"
        rw [← kD_do]
        refine fin _ _ (nDo d (layL ts ks).2) _ rfl (kOk_do d _) (dp_do d _) ?_ rfl ?_ rfl
        · have hll := layL_len ts ks
          have e1 : (Sf.T.mk (.dov d) ts).sz = 1 + szL ts := rfl
          exact lim_lt (by show _ ≤ 1000000; have : ks.length + (Sf.T.mk (.dov d) ts).sz ≤ 1000000 := hlk; omega)
        · rfl
    · walk_at "ev"
      refine fin ks _ (nIn k) _ rfl rfl (show (nIn k).depth ≤ 8 from Nat.le_trans (show 1 ≤ 1 from Nat.le_refl 1) (by decide)) (lim_lt (by show _ ≤ 1000000; have : ks.length + 1 ≤ 1000000 := hlk; omega)) rfl rfl rfl
    · walk_at "ev"
      refine fin ks _ (nFx c) _ rfl rfl (show (nFx c).depth ≤ 8 from Nat.le_trans (show 1 ≤ 1 from Nat.le_refl 1) (by decide)) (lim_lt (by show _ ≤ 1000000; have : ks.length + 1 ≤ 1000000 := hlk; omega)) rfl rfl rfl
def formD (t : Sf.T) : D := .tup [.tup ((form t).1.map kD), .int ((form t).2 : Nat)]
def R_form (n : Nat) (es : List D) (r : D) : Prop := ∃ t, plainB t = true ∧ t.dp < n ∧ t.sz ≤ LIM ∧ es = [enc t] ∧ r = formD t
theorem ok_form_of (n : Nat) : FnOk P w K mg base CX0 (n + 2) T.form_of.a T.form_of.fd ["term"] (spI K (R_form n)) := by
  have G_laid_down := ok_laid_down (P := P) (w := w) (base := base) T n
  refine def_I T.form_of.F sc_form_of (fun es r ⟨_, _, _, _, e, _⟩ => by subst e; rfl) (by decide) (fun cdv A outer s H E hr => ?_)
  have hr_laid_down := hr
  refine ⟨_, (pss_cons (ps_set (i := 1) sc_form_of.nd rfl (by first | exact Or.inl rfl | exact Or.inr rfl) pe_dnewN)
  (pss_cons (ps_set (i := 2) sc_form_of.nd rfl (by first | exact Or.inl rfl | exact Or.inr rfl) (pe_call G_laid_down hr_laid_down (by rfl) T.laid_down.g T.laid_down.F.kp T.laid_down.b .nil pass0 (pa_cons (pv 0) (pa_cons (pv 1) pa_nil))))
  (pss_one (ps_ret (pe_tup (pa_cons (pe_callTy (call_tupleNd rfl) (by rfl) T.ntuple (by decide +kernel) (pa_cons (pv 1) pa_nil)) (pa_cons (pv 2) pa_nil))))))), ?_⟩
  dsimp only [cxOf]
  rintro es r ⟨t, hpl, hd, hz, rfl, rfl⟩
  refine ws_newN rfl (fun j d e => ?_) (fun a => ?_)
  · cases j with
    | zero => cases Option.some.inj (Option.some.inj e); exact ⟨_, rfl, enc_im t⟩
    | succ j => cases j with
      | zero => cases e
      | succ j => cases j with
        | zero => cases e
        | succ j => cases e
  · have NI := ndIn_N P w K H a
    walk_at "ev"
    refine we_callLay ?_
    walk_at "ev"
    refine ⟨hpl, hd, hz, by show 0 + t.sz ≤ LIM; omega, ?_⟩
    walk_at "ev"
    refine wc_ndtup NI ?_
    walk_at "ev"
    have him : (formD t).im = true := by
      show (imL ((form t).1.map kD) && (true && true)) = true
      rw [← kDL_map, kDL_im]; rfl
    exact ⟨him, him, rfl⟩
end
end Sf
end
section
set_option Elab.async false
set_option linter.all false
set_option maxRecDepth 100000
set_option maxHeartbeats 1000000
/-! Mathematics 4: tables of nodes; the ordering machine lays as form does. -/
namespace Sf
open PySem
mutual
/-- the table's i-th entry stands for the tree -/
def Tr (us : List NestedKey) : T → Nat → Prop
  | .mk h ts, i => match h with
    | .input k => ts = [] ∧ us[i]? = some (nIn k)
    | .fixed c => ts = [] ∧ us[i]? = some (nFx c)
    | .dov d => ∃ is, us[i]? = some (nDo d is) ∧ TrL us ts is
    | _ => False
def TrL (us : List NestedKey) : List T → List Nat → Prop
  | [], [] => True
  | t :: ts, i :: is => Tr us t i ∧ TrL us ts is
  | _, _ => False
end
def Pfx (us vs : List NestedKey) : Prop := ∀ (i : Nat) k, us[i]? = some k → vs[i]? = some k
theorem Pfx.refl (us : List NestedKey) : Pfx us us := fun _ _ h => h
theorem Pfx.trans {us vs ws : List NestedKey} (a : Pfx us vs) (b : Pfx vs ws) : Pfx us ws := fun i k h => b i k (a i k h)
theorem Pfx.app (us vs : List NestedKey) : Pfx us (us ++ vs) := fun i k h => by
  rw [List.getElem?_append_left (List.getElem?_eq_some_iff.mp h).1]; exact h
mutual
theorem Tr.mono {us vs : List NestedKey} (p : Pfx us vs) : ∀ (t : T) (i : Nat), Tr us t i → Tr vs t i
  | .mk h ts, i, q => by
    cases h with
    | input k => exact ⟨q.1, p _ _ q.2⟩
    | fixed c => exact ⟨q.1, p _ _ q.2⟩
    | dov d => obtain ⟨is, h1, h2⟩ := q; exact ⟨is, p _ _ h1, TrL.mono p ts is h2⟩
    | _ => exact q
theorem TrL.mono {us vs : List NestedKey} (p : Pfx us vs) : ∀ (ts : List T) (is : List Nat), TrL us ts is → TrL vs ts is
  | [], [], _ => trivial
  | [], _ :: _, q => q.elim
  | _ :: _, [], q => q.elim
  | t :: ts, i :: is, q => ⟨Tr.mono p t i q.1, TrL.mono p ts is q.2⟩
end
theorem nums_inj : ∀ {a b : List Nat}, (a.map fun (i : Nat) => NestedKey.num (i : Int)) = b.map (fun (i : Nat) => NestedKey.num (i : Int)) → a = b
  | [], [], _ => rfl
  | [], _ :: _, h => by cases h
  | _ :: _, [], h => by cases h
  | x :: a, y :: b, h => by
    have h1 := (List.cons.inj h).1
    have h2 := nums_inj (List.cons.inj h).2
    rw [h2, Int.ofNat.inj (NestedKey.num.inj h1)]
theorem nDo_inj {d e : Str} {is js : List Nat} (h : nDo d is = nDo e js) : d = e ∧ is = js := by
  have h1 := NestedKey.tup.inj h
  have h2 := (List.cons.inj h1).2
  exact ⟨NestedKey.text.inj (List.cons.inj h2).1, nums_inj (NestedKey.tup.inj (List.cons.inj (List.cons.inj h2).2).1)⟩
theorem nIn_inj {j k : Int} (h : nIn j = nIn k) : j = k := NestedKey.num.inj (List.cons.inj (List.cons.inj (NestedKey.tup.inj h)).2).1
theorem nFx_inj {j k : Str} (h : nFx j = nFx k) : j = k := NestedKey.text.inj (List.cons.inj (List.cons.inj (NestedKey.tup.inj h)).2).1
theorem nIn_nFx {k : Int} {c : Str} : nIn k ≠ nFx c := fun h => absurd (NestedKey.text.inj (List.cons.inj (NestedKey.tup.inj h)).1) (by decide +kernel)
theorem nIn_nDo {k : Int} {d : Str} {is : List Nat} : nIn k ≠ nDo d is := fun h => absurd (NestedKey.text.inj (List.cons.inj (NestedKey.tup.inj h)).1) (by decide +kernel)
theorem nFx_nDo {c d : Str} {is : List Nat} : nFx c ≠ nDo d is := fun h => absurd (NestedKey.text.inj (List.cons.inj (NestedKey.tup.inj h)).1) (by decide +kernel)
mutual
/-- an entry stands for one tree -/
theorem Tr.det {us : List NestedKey} : ∀ (t u : T) (i : Nat), Tr us t i → Tr us u i → t = u
  | .mk h ts, .mk h' ts', i, q, q' => by
    cases h with
    | input k =>
      obtain ⟨rfl, e⟩ := q
      cases h' with
      | input k' => obtain ⟨rfl, e'⟩ := q'; rw [e] at e'; rw [nIn_inj (Option.some.inj e')]
      | fixed c' => obtain ⟨rfl, e'⟩ := q'; rw [e] at e'; exact absurd (Option.some.inj e') nIn_nFx
      | dov d' => obtain ⟨is', e', _⟩ := q'; rw [e] at e'; exact absurd (Option.some.inj e') nIn_nDo
      | _ => exact q'.elim
    | fixed c =>
      obtain ⟨rfl, e⟩ := q
      cases h' with
      | input k' => obtain ⟨rfl, e'⟩ := q'; rw [e] at e'; exact absurd (Option.some.inj e').symm nIn_nFx
      | fixed c' => obtain ⟨rfl, e'⟩ := q'; rw [e] at e'; rw [nFx_inj (Option.some.inj e')]
      | dov d' => obtain ⟨is', e', _⟩ := q'; rw [e] at e'; exact absurd (Option.some.inj e') nFx_nDo
      | _ => exact q'.elim
    | dov d =>
      obtain ⟨is, e, l⟩ := q
      cases h' with
      | input k' => obtain ⟨rfl, e'⟩ := q'; rw [e] at e'; exact absurd (Option.some.inj e').symm nIn_nDo
      | fixed c' => obtain ⟨rfl, e'⟩ := q'; rw [e] at e'; exact absurd (Option.some.inj e').symm nFx_nDo
      | dov d' =>
        obtain ⟨is', e', l'⟩ := q'
        rw [e] at e'
        obtain ⟨e1, e2⟩ := nDo_inj (Option.some.inj e')
        subst e1 e2
        rw [TrL.det ts ts' is l l']
      | _ => exact q'.elim
    | _ => exact q.elim
theorem TrL.det {us : List NestedKey} : ∀ (ts us' : List T) (is : List Nat), TrL us ts is → TrL us us' is → ts = us'
  | [], [], _, _, _ => rfl
  | [], _ :: _, [], _, q => q.elim
  | [], _ :: _, _ :: _, q, _ => q.elim
  | _ :: _, [], [], q, _ => q.elim
  | _ :: _, [], _ :: _, _, q => q.elim
  | _ :: _, _ :: _, [], q, _ => q.elim
  | t :: ts, u :: us', i :: is, q, q' => by rw [Tr.det t u i q.1 q'.1, TrL.det ts us' is q.2 q'.2]
end
theorem nodup_ix {us : List NestedKey} (hn : us.Nodup) {i j : Nat} {k : NestedKey} (h1 : us[i]? = some k) (h2 : us[j]? = some k) : i = j := by
  obtain ⟨l1, e1⟩ := List.getElem?_eq_some_iff.mp h1
  obtain ⟨l2, e2⟩ := List.getElem?_eq_some_iff.mp h2
  exact (List.getElem_inj hn).mp (e1.trans e2.symm)
mutual
/-- where no entry stands twice, a tree has one entry -/
theorem Tr.inj {us : List NestedKey} (hn : us.Nodup) : ∀ (t : T) (i j : Nat), Tr us t i → Tr us t j → i = j
  | .mk h ts, i, j, q, q' => by
    cases h with
    | input k => exact nodup_ix hn q.2 q'.2
    | fixed c => exact nodup_ix hn q.2 q'.2
    | dov d =>
      obtain ⟨is, e, l⟩ := q
      obtain ⟨js, e', l'⟩ := q'
      have := TrL.inj hn ts is js l l'
      subst this
      exact nodup_ix hn e e'
    | _ => exact q.elim
theorem TrL.inj {us : List NestedKey} (hn : us.Nodup) : ∀ (ts : List T) (is js : List Nat), TrL us ts is → TrL us ts js → is = js
  | [], [], [], _, _ => rfl
  | [], [], _ :: _, _, q => q.elim
  | [], _ :: _, _, q, _ => q.elim
  | _ :: _, [], _, q, _ => q.elim
  | _ :: _, _ :: _, [], _, q => q.elim
  | t :: ts, i :: is, j :: js, q, q' => by rw [Tr.inj hn t i j q.1 q'.1, TrL.inj hn ts is js q.2 q'.2]
end
theorem TrL.length {us : List NestedKey} : ∀ {ts : List T} {is : List Nat}, TrL us ts is → is.length = ts.length
  | [], [], _ => rfl
  | [], _ :: _, q => q.elim
  | _ :: _, [], q => q.elim
  | t :: ts, i :: is, q => congrArg (· + 1) (TrL.length q.2)
theorem TrL.get {us : List NestedKey} : ∀ {ts : List T} {is : List Nat} {j : Nat} {t : T}, TrL us ts is → ts[j]? = some t → ∃ i, is[j]? = some i ∧ Tr us t i
  | [], _, _, _, _, e => by simp at e
  | _ :: _, [], _, _, q, _ => q.elim
  | t :: ts, i :: is, 0, t', q, e => by obtain rfl := Option.some.inj e; exact ⟨i, rfl, q.1⟩
  | t :: ts, i :: is, j + 1, t', q, e => TrL.get (j := j) q.2 e
theorem keep_pfx (ks : List NestedKey) (k : NestedKey) : Pfx ks (keep ks k).1 := by
  unfold keep
  split
  · exact Pfx.refl _
  · exact Pfx.app _ _
theorem keep_nodup {ks : List NestedKey} (hn : ks.Nodup) (k : NestedKey) : (keep ks k).1.Nodup := by
  unfold keep
  split
  · exact hn
  · rename_i h
    show (ks ++ [k]).Nodup
    rw [List.nodup_append]
    exact ⟨hn, List.nodup_cons.mpr ⟨by simp, .nil⟩, fun a ha b hb e => h (by rw [← List.mem_singleton.mp hb, ← e]; exact ha)⟩
mutual
/-- what lay leaves -/
theorem lay_tr : ∀ (t : T) (ks : List NestedKey), plainB t = true → ks.Nodup → Tr (lay t ks).1 t (lay t ks).2 ∧ Pfx ks (lay t ks).1 ∧ (lay t ks).1.Nodup
  | .mk h ts, ks, hp, hn => by
    cases h with
    | input k =>
      cases ts with
      | nil => exact ⟨⟨rfl, keep_at ks (nIn k)⟩, keep_pfx ks _, keep_nodup hn _⟩
      | cons => cases hp
    | fixed c =>
      cases ts with
      | nil => exact ⟨⟨rfl, keep_at ks (nFx c)⟩, keep_pfx ks _, keep_nodup hn _⟩
      | cons => cases hp
    | dov d =>
      obtain ⟨h1, h2, h3⟩ := layL_tr ts ks hp hn
      have hpf := keep_pfx (layL ts ks).1 (nDo d (layL ts ks).2)
      exact ⟨⟨(layL ts ks).2, keep_at _ _, TrL.mono hpf ts _ h1⟩, h2.trans hpf, keep_nodup h3 _⟩
    | _ => cases hp
theorem layL_tr : ∀ (ts : List T) (ks : List NestedKey), plainLB ts = true → ks.Nodup → TrL (layL ts ks).1 ts (layL ts ks).2 ∧ Pfx ks (layL ts ks).1 ∧ (layL ts ks).1.Nodup
  | [], ks, _, hn => ⟨trivial, Pfx.refl _, hn⟩
  | t :: r, ks, hp, hn => by
    have hp' : (plainB t && plainLB r) = true := hp
    rw [Bool.and_eq_true] at hp'
    obtain ⟨h1, h2, h3⟩ := lay_tr t ks hp'.1 hn
    obtain ⟨g1, g2, g3⟩ := layL_tr r (lay t ks).1 hp'.2 h3
    exact ⟨⟨Tr.mono g2 t _ h1, g1⟩, h2.trans g2, g3⟩
end
theorem idx_nodup {ks : List NestedKey} (hn : ks.Nodup) {i : Nat} {k : NestedKey} (h : ks[i]? = some k) : keep ks k = (ks, i) := by
  have hm : k ∈ ks := List.mem_of_getElem? h
  unfold keep
  rw [if_pos hm]
  have h2 : ks[ks.idxOf k]? = some k := by rw [List.getElem?_eq_getElem (List.idxOf_lt_length_of_mem hm), List.getElem_idxOf]
  rw [nodup_ix hn h2 h]
mutual
/-- what is laid is not laid again -/
theorem lay_again {ks : List NestedKey} (hn : ks.Nodup) : ∀ (t : T) (i : Nat), Tr ks t i → lay t ks = (ks, i)
  | .mk h ts, i, q => by
    cases h with
    | input k => exact idx_nodup hn q.2
    | fixed c => exact idx_nodup hn q.2
    | dov d =>
      obtain ⟨is, e, l⟩ := q
      show keep (layL ts ks).1 (nDo d (layL ts ks).2) = (ks, i)
      rw [layL_again hn ts is l]
      exact idx_nodup hn e
    | _ => exact q.elim
theorem layL_again {ks : List NestedKey} (hn : ks.Nodup) : ∀ (ts : List T) (is : List Nat), TrL ks ts is → layL ts ks = (ks, is)
  | [], [], _ => rfl
  | [], _ :: _, q => q.elim
  | _ :: _, [], q => q.elim
  | t :: r, i :: is, q => by
    show ((layL r (lay t ks).1).1, (lay t ks).2 :: (layL r (lay t ks).1).2) = _
    rw [lay_again hn t i q.1, layL_again hn r is q.2]
end
end Sf
end
section
set_option Elab.async false
set_option linter.all false
set_option maxRecDepth 100000
set_option maxHeartbeats 1000000
/-! Mathematics 5: the ordering machine. -/
namespace Sf
open PySem
/-- every entry stands for a tree -/
def Cl (f : List NestedKey) : Prop := ∀ (n : Nat) k, f[n]? = some k → ∃ u, Tr f u n
theorem Cl.nil : Cl [] := fun n k h => by simp at h
theorem snoc_get {f : List NestedKey} {k k' : NestedKey} {n : Nat} (h : (f ++ [k])[n]? = some k') : (n < f.length ∧ f[n]? = some k') ∨ (n = f.length ∧ k' = k) := by
  by_cases c : n < f.length
  · rw [List.getElem?_append_left c] at h; exact .inl ⟨c, h⟩
  · rw [List.getElem?_append_right (by omega)] at h
    have : n - f.length = 0 := by
      cases e : n - f.length with
      | zero => rfl
      | succ m => rw [e] at h; simp at h
    rw [this] at h
    exact .inr ⟨by omega, (Option.some.inj h).symm⟩
theorem Cl.snoc {f : List NestedKey} (c : Cl f) {k : NestedKey} {u : T} (h : Tr (f ++ [k]) u f.length) : Cl (f ++ [k]) := fun n k' e => by
  rcases snoc_get e with ⟨_, e'⟩ | ⟨rfl, _⟩
  · obtain ⟨u', h'⟩ := c n k' e'
    exact ⟨u', h'.mono (Pfx.app f [k])⟩
  · exact ⟨u, h⟩
theorem tr_root {us : List NestedKey} : ∀ {u : T} {n : Nat}, Tr us u n → ∃ k, us[n]? = some k
  | .mk h ts, n, q => by
    cases h with
    | input k => exact ⟨_, q.2⟩
    | fixed c => exact ⟨_, q.2⟩
    | dov d => obtain ⟨is, e, _⟩ := q; exact ⟨_, e⟩
    | _ => exact q.elim
/-- an entry ahead of the last stood for its tree before -/
theorem tr_snoc {f : List NestedKey} (c : Cl f) {k : NestedKey} {u u' : T} {n : Nat} (h : Tr (f ++ [k]) u f.length) (q : Tr (f ++ [k]) u' n) : Tr f u' n ∨ (u' = u ∧ n = f.length) := by
  obtain ⟨k', e⟩ := tr_root q
  rcases snoc_get e with ⟨_, e'⟩ | ⟨rfl, _⟩
  · obtain ⟨u2, h2⟩ := c n k' e'
    have := Tr.det u' u2 n q (h2.mono (Pfx.app f [k]))
    exact .inl (this ▸ h2)
  · exact .inr ⟨Tr.det u' u _ q h, rfl⟩
theorem keep_cases (f : List NestedKey) (k : NestedKey) : (k ∈ f ∧ (keep f k).1 = f) ∨ (k ∉ f ∧ keep f k = (f ++ [k], f.length)) := by
  unfold keep
  by_cases h : k ∈ f
  · exact .inl ⟨h, by rw [if_pos h]⟩
  · exact .inr ⟨h, by rw [if_neg h]⟩
mutual
theorem lay_cl : ∀ (t : T) (f : List NestedKey), plainB t = true → f.Nodup → Cl f → Cl (lay t f).1 ∧ ∀ u m, Tr (lay t f).1 u m → Tr f u m ∨ u.sz ≤ t.sz
  | .mk h ts, f, hp, hn, c => by
    cases h with
    | input k =>
      cases ts with
      | nil =>
        show Cl (keep f (nIn k)).1 ∧ ∀ u m, Tr (keep f (nIn k)).1 u m → _
        rcases keep_cases f (nIn k) with ⟨_, e⟩ | ⟨_, e⟩
        · rw [e]; exact ⟨c, fun u m q => .inl q⟩
        · rw [e]
          have hr : Tr (f ++ [nIn k]) (.mk (.input k) []) f.length := ⟨rfl, by rw [List.getElem?_append_right (Nat.le_refl _), Nat.sub_self]; rfl⟩
          exact ⟨c.snoc hr, fun u m q => (tr_snoc c hr q).imp id fun ⟨e1, _⟩ => by rw [e1]; exact Nat.le_refl _⟩
      | cons => cases hp
    | fixed k =>
      cases ts with
      | nil =>
        show Cl (keep f (nFx k)).1 ∧ ∀ u m, Tr (keep f (nFx k)).1 u m → _
        rcases keep_cases f (nFx k) with ⟨_, e⟩ | ⟨_, e⟩
        · rw [e]; exact ⟨c, fun u m q => .inl q⟩
        · rw [e]
          have hr : Tr (f ++ [nFx k]) (.mk (.fixed k) []) f.length := ⟨rfl, by rw [List.getElem?_append_right (Nat.le_refl _), Nat.sub_self]; rfl⟩
          exact ⟨c.snoc hr, fun u m q => (tr_snoc c hr q).imp id fun ⟨e1, _⟩ => by rw [e1]; exact Nat.le_refl _⟩
      | cons => cases hp
    | dov d =>
      obtain ⟨c1, h1⟩ := layL_cl ts f hp hn c
      obtain ⟨l1, l2, l3⟩ := layL_tr ts f hp hn
      have hs : (T.mk (.dov d) ts).sz = 1 + szL ts := rfl
      show Cl (keep (layL ts f).1 (nDo d (layL ts f).2)).1 ∧ ∀ u m, Tr (keep (layL ts f).1 (nDo d (layL ts f).2)).1 u m → _
      rcases keep_cases (layL ts f).1 (nDo d (layL ts f).2) with ⟨_, e⟩ | ⟨_, e⟩
      · rw [e]
        exact ⟨c1, fun u m q => (h1 u m q).imp id fun z => by omega⟩
      · rw [e]
        have hr : Tr ((layL ts f).1 ++ [nDo d (layL ts f).2]) (.mk (.dov d) ts) (layL ts f).1.length := ⟨_, by rw [List.getElem?_append_right (Nat.le_refl _), Nat.sub_self]; rfl, TrL.mono (Pfx.app _ _) ts _ l1⟩
        refine ⟨c1.snoc hr, fun u m q => ?_⟩
        rcases tr_snoc c1 hr q with q | ⟨e1, _⟩
        · exact (h1 u m q).imp id fun z => by omega
        · rw [e1]; exact .inr (Nat.le_refl _)
    | _ => cases hp
theorem layL_cl : ∀ (ts : List T) (f : List NestedKey), plainLB ts = true → f.Nodup → Cl f → Cl (layL ts f).1 ∧ ∀ u m, Tr (layL ts f).1 u m → Tr f u m ∨ u.sz ≤ szL ts
  | [], f, _, _, c => ⟨c, fun u m q => .inl q⟩
  | t :: r, f, hp, hn, c => by
    have hp' : (plainB t && plainLB r) = true := hp
    rw [Bool.and_eq_true] at hp'
    obtain ⟨c1, h1⟩ := lay_cl t f hp'.1 hn c
    obtain ⟨_, _, hn1⟩ := lay_tr t f hp'.1 hn
    obtain ⟨c2, h2⟩ := layL_cl r (lay t f).1 hp'.2 hn1 c1
    refine ⟨c2, fun u m q => ?_⟩
    have hs : szL (t :: r) = t.sz + szL r := rfl
    rcases h2 u m q with q | q
    · exact (h1 u m q).imp id fun z => by omega
    · exact .inr (by omega)
end
/-- a tree that is not laid is not laid by its kids -/
theorem kids_not {d : Str} {ts : List T} {f : List NestedKey} (hp : plainLB ts = true) (hn : f.Nodup) (c : Cl f) (h : ∀ n, ¬ Tr f (.mk (.dov d) ts) n) : ∀ n, ¬ Tr (layL ts f).1 (.mk (.dov d) ts) n := fun n q => by
  rcases (layL_cl ts f hp hn c).2 _ n q with q | q
  · exact h n q
  · have hs : (T.mk (.dov d) ts).sz = 1 + szL ts := rfl
    omega
theorem do_not {d : Str} {ts : List T} {f : List NestedKey} (hp : plainLB ts = true) (hn : f.Nodup) (c : Cl f) (h : ∀ n, ¬ Tr f (.mk (.dov d) ts) n) : keep (layL ts f).1 (nDo d (layL ts f).2) = ((layL ts f).1 ++ [nDo d (layL ts f).2], (layL ts f).1.length) := by
  rcases keep_cases (layL ts f).1 (nDo d (layL ts f).2) with ⟨hm, _⟩ | ⟨_, e⟩
  · obtain ⟨n, hn2⟩ := List.mem_iff_getElem?.mp hm
    exact absurd ⟨_, hn2, (layL_tr ts f hp hn).1⟩ (kids_not hp hn c h n)
  · exact e

/-! ### the machine -/
def lkz (sp : List (Nat × Nat)) (i : Nat) : Option Nat := (sp.find? fun p => decide (p.1 = i)).map (·.2)
theorem lkz_app (sp : List (Nat × Nat)) (i n j : Nat) : lkz (sp ++ [(i, n)]) j = (lkz sp j).orElse fun _ => if i = j then some n else none := by
  unfold lkz
  rw [List.find?_append]
  cases e : sp.find? fun p => decide (p.1 = j) with
  | some p => rfl
  | none =>
    show Option.map _ ((none : Option (Nat × Nat)).or ([(i, n)].find? fun p => decide (p.1 = j))) = (none : Option Nat).orElse _
    by_cases c : i = j
    · simp [c]
    · simp [c]
abbrev MS := List NestedKey × List (Nat × Nat) × List (Nat × Bool)
inductive Ms (us : List NestedKey) : MS → MS → Prop
  | skip {f sp i b stk n} : lkz sp i = some n → Ms us (f, sp, (i, b) :: stk) (f, sp, stk)
  | leaf {f sp i b stk k} : lkz sp i = none → us[i]? = some k → ((∃ z, k = nIn z) ∨ ∃ z, k = nFx z) → Ms us (f, sp, (i, b) :: stk) (f ++ [k], sp ++ [(i, f.length)], stk)
  | opn {f sp i stk d is} : lkz sp i = none → us[i]? = some (nDo d is) → Ms us (f, sp, (i, false) :: stk) (f, sp, (is.map fun j => (j, false)) ++ (i, true) :: stk)
  | cls {f sp i stk d is js} : lkz sp i = none → us[i]? = some (nDo d is) → js.length = is.length → (∀ (p : Nat) x y, is[p]? = some x → js[p]? = some y → lkz sp x = some y) → Ms us (f, sp, (i, true) :: stk) (f ++ [nDo d js], sp ++ [(i, f.length)], stk)
/-- many turns, the stack at most B -/
inductive Runs (us : List NestedKey) (B : Nat) : Nat → MS → MS → Prop
  | refl {S : MS} : S.2.2.length ≤ B → Runs us B 0 S S
  | step {n S S1 S2} : S.2.2.length ≤ B → Ms us S S1 → Runs us B n S1 S2 → Runs us B (n + 1) S S2
theorem Runs.trans {us : List NestedKey} {B n m : Nat} {S S1 S2 : MS} (a : Runs us B n S S1) (b : Runs us B m S1 S2) : ∃ k, Runs us B k S S2 := by
  induction a with
  | refl => exact ⟨m, b⟩
  | step hb h _ ih => obtain ⟨k, q⟩ := ih b; exact ⟨k + 1, .step hb h q⟩
mutual
/-- how high the stack grows -/
def wd : T → Nat
  | .mk _ ts => 1 + ts.length + wdL ts
def wdL : List T → Nat
  | [] => 0
  | t :: r => Nat.max (wd t) (wdL r)
end
theorem wd_pos : ∀ t : T, 1 ≤ wd t
  | .mk _ ts => by show 1 ≤ 1 + ts.length + wdL ts; omega
structure Gd (us f : List NestedKey) (sp : List (Nat × Nat)) : Prop where
  nd : f.Nodup
  cl : Cl f
  fw : ∀ i n, lkz sp i = some n → ∃ u, Tr us u i ∧ Tr f u n
  bw : ∀ u n, Tr f u n → ∃ i, lkz sp i = some n ∧ Tr us u i
def Mn (sp sp' : List (Nat × Nat)) : Prop := ∀ j m, lkz sp j = some m → lkz sp' j = some m
theorem Gd.snoc {us f : List NestedKey} {sp : List (Nat × Nat)} (g : Gd us f sp) {k : NestedKey} {u : T} {i : Nat} (hk : k ∉ f) (hi : lkz sp i = none) (hu : Tr us u i) (h : Tr (f ++ [k]) u f.length) :
    Gd us (f ++ [k]) (sp ++ [(i, f.length)]) ∧ lkz (sp ++ [(i, f.length)]) i = some f.length ∧ Mn sp (sp ++ [(i, f.length)]) := by
  have mn : Mn sp (sp ++ [(i, f.length)]) := fun j m e => by rw [lkz_app, e]; rfl
  have hii : lkz (sp ++ [(i, f.length)]) i = some f.length := by rw [lkz_app, hi]; show (if i = i then some f.length else none) = _; rw [if_pos rfl]
  refine ⟨⟨?_, g.cl.snoc h, fun j n e => ?_, fun u' n q => ?_⟩, hii, mn⟩
  · rw [List.nodup_append]
    exact ⟨g.nd, List.nodup_cons.mpr ⟨by simp, .nil⟩, fun a ha b hb e => hk (by rw [← List.mem_singleton.mp hb, ← e]; exact ha)⟩
  · rw [lkz_app] at e
    cases e1 : lkz sp j with
    | some m =>
      rw [e1] at e
      obtain rfl : m = n := Option.some.inj e
      obtain ⟨u', q1, q2⟩ := g.fw j m e1
      exact ⟨u', q1, q2.mono (Pfx.app f [k])⟩
    | none =>
      rw [e1] at e
      have e' : (if i = j then some f.length else none) = some n := e
      by_cases c : i = j
      · rw [if_pos c] at e'
        obtain rfl := Option.some.inj e'
        subst c
        exact ⟨u, hu, h⟩
      · rw [if_neg c] at e'; cases e'
  · rcases tr_snoc g.cl h q with q | ⟨rfl, rfl⟩
    · obtain ⟨j, q1, q2⟩ := g.bw u' n q
      exact ⟨j, mn j n q1, q2⟩
    · exact ⟨i, hii, hu⟩
/-- what one entry makes the machine do -/
def Does (us : List NestedKey) (u : T) : Prop := plainB u = true → ∀ B f sp i stk, stk.length + wd u ≤ B → Gd us f sp → Tr us u i →
  ∃ n sp', Runs us B n (f, sp, (i, false) :: stk) ((lay u f).1, sp', stk) ∧ Gd us (lay u f).1 sp' ∧ lkz sp' i = some (lay u f).2 ∧ Mn sp sp'
theorem does_l {us : List NestedKey} : ∀ (ts : List T) (is : List Nat), (∀ t ∈ ts, Does us t) → plainLB ts = true → TrL us ts is → ∀ B f sp stk, stk.length + ts.length + wdL ts ≤ B → Gd us f sp →
    ∃ n sp', Runs us B n (f, sp, (is.map fun j => (j, false)) ++ stk) ((layL ts f).1, sp', stk) ∧ Gd us (layL ts f).1 sp' ∧ (∀ (p : Nat) x y, is[p]? = some x → (layL ts f).2[p]? = some y → lkz sp' x = some y) ∧ Mn sp sp'
  | [], [], _, _, _, B, f, sp, stk, hB, g => ⟨0, sp, .refl (show stk.length ≤ B from Nat.le_trans (Nat.le_add_right _ _) (Nat.le_trans (Nat.le_add_right _ _) hB)), g, fun p x y e => by simp at e, fun _ _ e => e⟩
  | [], _ :: _, _, _, q, _, _, _, _, _, _ => q.elim
  | _ :: _, [], _, _, q, _, _, _, _, _, _ => q.elim
  | t :: ts, i :: is, hd, hp, q, B, f, sp, stk, hB, g => by
    have hw : wdL (t :: ts) = max (wd t) (wdL ts) := rfl
    have hl1 : (t :: ts).length = ts.length + 1 := rfl
    have hl2 := TrL.length q.2
    have hl3 : ((is.map fun j => (j, false)) ++ stk).length = is.length + stk.length := by rw [List.length_append, List.length_map]
    have hp' : (plainB t && plainLB ts) = true := hp
    rw [Bool.and_eq_true] at hp'
    obtain ⟨n1, sp1, r1, g1, l1, m1⟩ := hd t List.mem_cons_self hp'.1 B f sp i ((is.map fun j => (j, false)) ++ stk) (by omega) g q.1
    obtain ⟨n2, sp2, r2, g2, l2, m2⟩ := does_l ts is (fun u hu => hd u (List.mem_cons_of_mem _ hu)) hp'.2 q.2 B (lay t f).1 sp1 stk (by omega) g1
    obtain ⟨k, r⟩ := r1.trans r2
    refine ⟨k, sp2, r, g2, fun p x y e1 e2 => ?_, fun j m e => m2 j m (m1 j m e)⟩
    cases p with
    | zero =>
      obtain rfl := Option.some.inj e1
      obtain rfl := Option.some.inj e2
      exact m2 _ _ l1
    | succ p => exact l2 p x y e1 e2
theorem does {us : List NestedKey} (hn : us.Nodup) : ∀ u : T, Does us u := T.ind fun h ts ih hp B f sp i stk hB g q => by
  have hw : wd (.mk h ts) = 1 + ts.length + wdL ts := rfl
  have hs0 : (((i, false) :: stk : List (Nat × Bool))).length = stk.length + 1 := rfl
  cases e : lkz sp i with
  | some m =>
    obtain ⟨u', q1, q2⟩ := g.fw i m e
    have := Tr.det u' _ i q1 q
    subst this
    rw [lay_again g.nd _ m q2]
    exact ⟨1, sp, .step (by show stk.length + 1 ≤ B; omega) (.skip e) (.refl (by show stk.length ≤ B; omega)), g, e, fun _ _ z => z⟩
  | none =>
    have nl : ∀ n, ¬ Tr f (.mk h ts) n := fun n q2 => by
      obtain ⟨j, q3, q4⟩ := g.bw _ n q2
      have := Tr.inj hn _ j i q4 q
      rw [this, e] at q3; cases q3
    cases h with
    | input k =>
      cases ts with
      | cons => cases hp
      | nil =>
        have hk : nIn k ∉ f := fun hm => by
          obtain ⟨n, h2⟩ := List.mem_iff_getElem?.mp hm
          exact nl n ⟨rfl, h2⟩
        have hl : lay (.mk (.input k) []) f = (f ++ [nIn k], f.length) := by show keep f (nIn k) = _; unfold keep; rw [if_neg hk]
        rw [hl]
        obtain ⟨g', l', m'⟩ := g.snoc hk e q (u := .mk (.input k) []) ⟨rfl, by rw [List.getElem?_append_right (Nat.le_refl _), Nat.sub_self]; rfl⟩
        exact ⟨1, _, .step (by show stk.length + 1 ≤ B; omega) (.leaf e q.2 (.inl ⟨k, rfl⟩)) (.refl (by show stk.length ≤ B; omega)), g', l', m'⟩
    | fixed k =>
      cases ts with
      | cons => cases hp
      | nil =>
        have hk : nFx k ∉ f := fun hm => by
          obtain ⟨n, h2⟩ := List.mem_iff_getElem?.mp hm
          exact nl n ⟨rfl, h2⟩
        have hl : lay (.mk (.fixed k) []) f = (f ++ [nFx k], f.length) := by show keep f (nFx k) = _; unfold keep; rw [if_neg hk]
        rw [hl]
        obtain ⟨g', l', m'⟩ := g.snoc hk e q (u := .mk (.fixed k) []) ⟨rfl, by rw [List.getElem?_append_right (Nat.le_refl _), Nat.sub_self]; rfl⟩
        exact ⟨1, _, .step (by show stk.length + 1 ≤ B; omega) (.leaf e q.2 (.inr ⟨k, rfl⟩)) (.refl (by show stk.length ≤ B; omega)), g', l', m'⟩
    | dov d =>
      obtain ⟨is, hi, hl⟩ := id q
      obtain ⟨n1, sp1, r1, g1, l1, m1⟩ := does_l ts is ih hp hl B f sp ((i, true) :: stk) (by show stk.length + 1 + ts.length + wdL ts ≤ B; omega) g
      have nk := kids_not hp g.nd g.cl nl
      have hkeep := do_not hp g.nd g.cl nl
      have e1 : lkz sp1 i = none := by
        cases e2 : lkz sp1 i with
        | none => rfl
        | some m =>
          obtain ⟨u', q1, q2⟩ := g1.fw i m e2
          have := Tr.det u' _ i q1 q
          subst this
          exact absurd q2 (nk m)
      have hnm : nDo d (layL ts f).2 ∉ (layL ts f).1 := fun hm => by
        obtain ⟨n, h2⟩ := List.mem_iff_getElem?.mp hm
        exact nk n ⟨_, h2, (layL_tr ts f hp g.nd).1⟩
      have hly : lay (.mk (.dov d) ts) f = ((layL ts f).1 ++ [nDo d (layL ts f).2], (layL ts f).1.length) := hkeep
      rw [hly]
      obtain ⟨g', l', m'⟩ := g1.snoc hnm e1 q (u := .mk (.dov d) ts) ⟨_, by rw [List.getElem?_append_right (Nat.le_refl _), Nat.sub_self]; rfl, TrL.mono (Pfx.app _ _) ts _ (layL_tr ts f hp g.nd).1⟩
      have len : (layL ts f).2.length = is.length := by rw [layL_length, hl.length]
      obtain ⟨k, r⟩ := r1.trans (Runs.step (by show stk.length + 1 ≤ B; omega) (Ms.cls e1 hi len l1) (Runs.refl (by show stk.length ≤ B; omega)))
      exact ⟨k + 1, _, .step (by show stk.length + 1 ≤ B; omega) (.opn e hi) r, g', l', fun j m z => m' j m (m1 j m z)⟩
    | _ => cases hp
/-- from the start -/
theorem ordered_runs {us : List NestedKey} (hn : us.Nodup) {u : T} (hp : plainB u = true) {i : Nat} (q : Tr us u i) {B : Nat} (hB : wd u ≤ B) : ∃ n sp', Runs us B n ([], [], [(i, false)]) ((form u).1, sp', []) ∧ (form u).1.length = (form u).2 + 1 := by
  have g0 : Gd us [] [] := ⟨.nil, Cl.nil, fun i n e => (nomatch (show (none : Option Nat) = some n from e)), fun u n q => by obtain ⟨k, e⟩ := tr_root q; simp at e⟩
  obtain ⟨n, sp', r, _, _, _⟩ := does hn u hp B [] [] i [] (by show 0 + wd u ≤ B; omega) g0 q
  refine ⟨n, sp', r, ?_⟩
  have nl : ∀ n, ¬ Tr [] u n := fun n q => by obtain ⟨k, e⟩ := tr_root q; simp at e
  obtain ⟨h, ts⟩ := u
  cases h with
  | input k => rfl
  | fixed k => rfl
  | dov d =>
    have : lay (.mk (.dov d) ts) [] = ((layL ts []).1 ++ [nDo d (layL ts []).2], (layL ts []).1.length) := do_not hp .nil Cl.nil nl
    show (lay (.mk (.dov d) ts) []).1.length = (lay (.mk (.dov d) ts) []).2 + 1
    rw [this, List.length_append]; rfl
  | _ => cases hp
/-! ### bounds -/
/-- kids stand ahead of their node, at most two -/
structure Wo (us : List NestedKey) : Prop where
  nd : us.Nodup
  w : ∀ (i : Nat) d is, us[i]? = some (nDo d is) → is.length ≤ 2 ∧ ∀ j ∈ is, j < i
mutual
theorem wd_le {us : List NestedKey} (w : Wo us) : ∀ (t : T) (i : Nat), Tr us t i → wd t ≤ 3 * (i + 1)
  | .mk h ts, i, q => by
    cases h with
    | input k => obtain ⟨rfl, _⟩ := q; show 1 + 0 + 0 ≤ 3 * (i + 1); omega
    | fixed k => obtain ⟨rfl, _⟩ := q; show 1 + 0 + 0 ≤ 3 * (i + 1); omega
    | dov d =>
      obtain ⟨is, e, l⟩ := q
      obtain ⟨w1, w2⟩ := w.w i d is e
      have h1 := wdL_le w ts is i l w2
      have h2 := l.length
      show 1 + ts.length + wdL ts ≤ 3 * (i + 1)
      omega
    | _ => exact q.elim
theorem wdL_le {us : List NestedKey} (w : Wo us) : ∀ (ts : List T) (is : List Nat) (n : Nat), TrL us ts is → (∀ j ∈ is, j < n) → wdL ts ≤ 3 * n
  | [], [], n, _, _ => Nat.zero_le _
  | [], _ :: _, _, q, _ => q.elim
  | _ :: _, [], _, q, _ => q.elim
  | t :: ts, i :: is, n, q, h => by
    have h1 := wd_le w t i q.1
    have h2 := wdL_le w ts is n q.2 fun j hj => h j (List.mem_cons_of_mem _ hj)
    have h3 := h i List.mem_cons_self
    show max (wd t) (wdL ts) ≤ 3 * n
    omega
end
theorem pigeon : ∀ (N : Nat) (l : List Nat), l.Nodup → (∀ x ∈ l, x < N) → l.length ≤ N
  | 0, l, _, h => by cases l with
    | nil => exact Nat.le_refl _
    | cons x r => exact absurd (h x List.mem_cons_self) (Nat.not_lt_zero _)
  | N + 1, l, hn, h => by
    have h1 := pigeon N (l.erase N) (hn.erase N) fun x hx => by
      have h2 := h x (List.mem_of_mem_erase hx)
      have h3 : x ≠ N := fun e => by subst e; exact (List.Nodup.not_mem_erase hn) hx
      omega
    by_cases c : N ∈ l
    · rw [List.length_erase_of_mem c] at h1; omega
    · rw [List.erase_of_not_mem c] at h1; omega
/-- what every turn keeps -/
structure SIn (us : List NestedKey) (S : MS) : Prop where
  len : S.2.1.length = S.1.length
  nd : (S.2.1.map (·.1)).Nodup
  lt : ∀ x ∈ S.2.1.map (·.1), x < us.length
theorem lkz_mem {sp : List (Nat × Nat)} {i : Nat} (h : lkz sp i = none) : i ∉ sp.map (·.1) := fun hm => by
  obtain ⟨p, hp, rfl⟩ := List.mem_map.mp hm
  unfold lkz at h
  rw [Option.map_eq_none_iff, List.find?_eq_none] at h
  exact h p hp (decide_eq_true rfl)
theorem SIn.add {us f : List NestedKey} {sp : List (Nat × Nat)} {stk stk' : List (Nat × Bool)} {i : Nat} {k k' : NestedKey} (h : SIn us (f, sp, stk)) (hi : lkz sp i = none) (hu : us[i]? = some k) : SIn us (f ++ [k'], sp ++ [(i, f.length)], stk') := by
  refine ⟨?_, ?_, fun x hx => ?_⟩
  · show (sp ++ [(i, f.length)]).length = (f ++ [k']).length
    rw [List.length_append, List.length_append]
    have : sp.length = f.length := h.len
    rw [this]; rfl
  · show ((sp ++ [(i, f.length)]).map (·.1)).Nodup
    rw [List.map_append, List.nodup_append]
    refine ⟨h.nd, List.nodup_cons.mpr ⟨by simp, .nil⟩, fun a ha b hb e => lkz_mem hi ?_⟩
    have : b = i := List.mem_singleton.mp hb
    rw [← this, ← e]; exact ha
  · have hx' : x ∈ (sp ++ [(i, f.length)]).map (·.1) := hx
    rw [List.map_append] at hx'
    rcases List.mem_append.mp hx' with q | q
    · exact h.lt x q
    · have : x = i := List.mem_singleton.mp q
      rw [this]; exact (List.getElem?_eq_some_iff.mp hu).1
theorem SIn.ms {us : List NestedKey} {S S1 : MS} (h : SIn us S) (m : Ms us S S1) : SIn us S1 := by
  cases m with
  | skip _ => exact ⟨h.len, h.nd, h.lt⟩
  | leaf hi hu _ => exact h.add hi hu
  | opn _ _ => exact ⟨h.len, h.nd, h.lt⟩
  | cls hi hu _ _ => exact h.add hi hu
theorem SIn.le {us : List NestedKey} {S : MS} (h : SIn us S) : S.1.length ≤ us.length := by
  have := pigeon us.length _ h.nd h.lt
  rw [List.length_map, h.len] at this
  exact this
end Sf
end
section
set_option Elab.async false
set_option linter.all false
set_option maxRecDepth 100000
set_option maxHeartbeats 2000000
/-! Extra 4: t[::-1] of a tuple. -/
namespace L2
open PySem PySem.Spec PyProof.Rows
section
variable {prog : Program} {w : World} {A : Around} {E : Value → Shared → Prop} {s : Shared}
theorem sliceApplied_rev {sl : Addr} {vk : Value} {n : Nat} {Q : Int × Int × Nat → Shared → Prop} (hs : s.heap.IsSliceOf sl .none .none vk) (pk : IsPart vk (some (-1)))
    (h : Q ((n : Int) - 1, -1, n) s) : wpAny (model prog w) A (Builtin.Slice.sliceApplied (.ref sl) (pure (n : Int))) Q E s := by
  obtain ⟨os, hos, hcs, hds⟩ := id hs
  unfold Builtin.Slice.sliceApplied Builtin.Slice.sliceFields
  refine wpAny_bind (wpAny_bind (wpAny_field hos hds (x := .none) rfl (wpAny_bind (wpAny_field hos hds (x := .none) rfl (wpAny_bind (wpAny_field hos hds (x := vk) rfl (wpAny_pure ?_)))))))
  refine wpAny_bind (HT.slicePart_ pk ?_)
  show wpAny _ _ (if ((-1 : Int) == 0) = true then _ else _) _ _ s
  rw [if_neg (by decide)]
  refine wpAny_bind (HT.slicePart_ .none (wpAny_bind (HT.slicePart_ .none (wpAny_bind (wpAny_pure ?_)))))
  have e : Builtin.Slice.sliceAdjust none none (-1) (n : Int) = ((n : Int) - 1, -1) := by
    unfold Builtin.Slice.sliceAdjust
    simp
  show wpAny _ _ (match Builtin.Slice.sliceAdjust none none (-1) (n : Int) with | (lo, hi) => pure (lo, (-1 : Int), Builtin.Slice.slicePlaces lo hi (-1))) _ _ s
  rw [e]
  have e2 : Builtin.Slice.slicePlaces ((n : Int) - 1) (-1) (-1) = n := by
    unfold Builtin.Slice.slicePlaces
    simp
    try omega
  show wpAny _ _ (pure ((n : Int) - 1, (-1 : Int), Builtin.Slice.slicePlaces ((n : Int) - 1) (-1) (-1))) _ _ s
  rw [e2]
  exact wpAny_pure h
theorem fm_map {α β : Type} {f : α → Option β} {g : α → β} : ∀ l : List α, (∀ a ∈ l, f a = some (g a)) → l.filterMap f = l.map g
  | [], _ => rfl
  | a :: l, h => by
    rw [List.filterMap_cons, h a List.mem_cons_self, fm_map l fun b hb => h b (List.mem_cons_of_mem _ hb)]; rfl
theorem pick_rev (xs : Array Value) : ((List.range xs.size).filterMap fun (k : Nat) => xs[(((xs.size : Nat) : Int) - 1 + (k : Int) * -1).toNat]?).toArray = xs.toList.reverse.toArray := by
  congr 1
  apply List.ext_getElem?
  intro i
  have e : ((List.range xs.size).filterMap fun (k : Nat) => xs[(((xs.size : Nat) : Int) - 1 + (k : Int) * -1).toNat]?) = (List.range xs.size).map fun k => xs.getD (xs.size - 1 - k) .none := by
    apply fm_map
    intro k hk
    have hk' := List.mem_range.mp hk
    have : (((xs.size : Nat) : Int) - 1 + (k : Int) * -1).toNat = xs.size - 1 - k := by omega
    rw [this]
    have hlt : xs.size - 1 - k < xs.size := by omega
    rw [Array.getElem?_eq_getElem hlt]
    simp [Array.getD, hlt]
  rw [e]
  by_cases hi : i < xs.size
  · rw [List.getElem?_map, List.getElem?_range hi, List.getElem?_reverse (by rw [Array.length_toList]; exact hi), Array.length_toList, Array.getElem?_toList]
    have hlt : xs.size - 1 - i < xs.size := by omega
    rw [Array.getElem?_eq_getElem hlt]
    simp [Array.getD, hlt]
  · rw [List.getElem?_eq_none (by rw [List.length_map, List.length_range]; omega), List.getElem?_eq_none (by rw [List.length_reverse, Array.length_toList]; omega)]
theorem getItem_tuple_rev {t sl : Addr} {items : Array Value} {vk : Value} {Q : Value → Shared → Prop} (ht : IsTup s.heap t items) (hs : s.heap.IsSliceOf sl .none .none vk) (pk : IsPart vk (some (-1)))
    (h : Q (.ref s.heap.objs.size) { s with heap := s.heap.push { cls := .type "tuple", data := .seq items.toList.reverse.toArray } })
    (hsz : items.size ≤ sizeLine) : wpAny (model prog w) A (getItem (.ref t) (.ref sl)) Q E s := by
  have htake : sizeOk (.seq items.toList.reverse.toArray) := by
    show items.toList.reverse.toArray.size ≤ sizeLine
    rw [List.size_toArray, List.length_reverse, Array.length_toList]
    exact hsz
  obtain ⟨os, hos, hcs, hds⟩ := id hs
  have hTs : s.TypeIs (.ref sl) "slice" := ⟨os, hos, hcs⟩
  unfold getItem
  try with_reducible refine wpAny_holding ?_
  first | refine wpAny_bind (wpAny_pure ?_) | skip
  refine wpAny_bind (wpAny_sequenceKey ht.typeIs (by decide) ?_)
  refine wpAny_bind (wpAny_callSpecial?_slot (name := Str.ofString "__getitem__") ht.typeIs PyProof.Rows.slot_tuple_getitem
    (wpAny_call_entry PyProof.Rows.slot_tuple_getitem ht.typeIs PyProof.Rows.entry_tuple_getitem ?_ (PyProof.Rows.args_tuple_getitem _ _)))
  show wpAny _ _ (Builtin.Tuple.tupleItemsOf (.ref t) >>= _) _ _ s
  refine wpAny_bind (tupleItemsOf_ ht ?_)
  refine wpAny_bind (wpAny_typeOf hTs ?_)
  rw [if_pos (by decide)]
  refine wpAny_bind (sliceApplied_rev hs pk ?_)
  have hno : ¬ ((((items.size : Nat) : Int) - 1 == 0 && (-1 : Int) == 1 && items.size == items.size) = true) := by simp
  show wpAny _ _ (if (((items.size : Nat) : Int) - 1 == 0 && (-1 : Int) == 1 && items.size == items.size) = true then _ else _) _ _ s
  rw [if_neg hno, pick_rev]
  first
    | exact wpAny_bind (m := Builtin.Tuple.tupleExact _) (wpAny_newObj_type (wpAny_pure ⟨_, rfl, wpAny_pure h⟩) htake)
    | exact wpAny_bind (m := Builtin.Tuple.tupleExact _) (wpAny_newObj_type (wpAny_bind (wpAny_pure (wpAny_pure ⟨_, rfl, wpAny_pure h⟩))) htake)
    | exact wpAny_bind (wpAny_bind (m := Builtin.Tuple.tupleExact _) (wpAny_newObj_type (wpAny_pure (wpAny_pure ⟨_, rfl, wpAny_pure h⟩)) htake))
    | exact wpAny_bind (wpAny_bind (m := Builtin.Tuple.tupleExact _) (wpAny_newObj_type (wpAny_pure ⟨_, rfl, wpAny_pure h⟩) htake))
end
def tRevT (K : PySem.W.Frag) (te : TE) : TE := fun σ H Q => te σ H fun x H1 => ∃ a xs, x = .ref a ∧ SqT K H1 a xs ∧ ∀ p, H1 p = none → Q (.ref p) (upd H1 p (.tup xs.reverse))
section
variable {X : Cx}
theorem pe_revT {e : Expr} {te : TE} {k : Nat} {p1 p2 p3 pos : Pos} (he : PE X e te) : PE X (.Subscript e (.Slice none none (some (.UnaryOp .USub (.Constant (.int 1) k p1) p2)) p3) pos) (tRevT X.K te) := by
  refine ⟨fun pins s σ H Q I h => ?_⟩
  refine Subscript_ (thn (he.run pins s σ H _ I h) fun v s1 ⟨x, H1, I1, r1, q1⟩ => ?_)
  obtain ⟨a, xs, ex, hx, q⟩ := q1
  subst ex
  cases r1
  have hst : PO X (some (.UnaryOp .USub (.Constant (.int 1) k p1) p2)) (tPart (tUn (rU fun i => .int (-i)) (tC (.int 1)))) := po_some (pe_un un_neg pe_int)
  refine wpAny_Slice (thn (po_none.run pins s1 σ H1 (fun o H2 => o = none ∧ H2 = H1) I1 ⟨rfl, rfl⟩) fun vl s2 ⟨l, H2, I2, pl, el, e2⟩ => ?_)
  subst el e2
  refine thn (po_none.run pins s2 σ H2 (fun o H3 => o = none ∧ H3 = H2) I2 ⟨rfl, rfl⟩) fun vu s3 ⟨u, H3, I3, pu, eu, e3⟩ => ?_
  subst eu e3
  refine thn (hst.run pins s3 σ H3 (fun o H4 => o = some (-1) ∧ H4 = H3) I3 ⟨1, rfl, -1, rfl, rfl, rfl⟩) fun vs s4 ⟨o, H4, I4, ps, eo, e4⟩ => ?_
  subst eo e4
  cases pl
  cases pu
  have I5 : Inv X pins σ H4 { s4 with heap := s4.heap.push { cls := .type "slice", data := .fields #[.none, .none, vs] } } := I4.kept (t' := s4.toks) fun b ob q => Heap.get?_push_of_some _ q
  obtain ⟨its, r, ht, hz⟩ := I5.tuple hx
  have hlen := r.length
  show wpAny (model X.prog X.w) X.A (subscriptTail e (.Slice none none (some (.UnaryOp .USub (.Constant (.int 1) k p1) p2)) p3) (.ref a) (.ref s4.heap.objs.size)) (EP X pins σ Q) X.xe { s4 with heap := s4.heap.push { cls := .type "slice", data := .fields #[.none, .none, vs] } }
  refine tail_any (ops := [.ref a, .ref s4.heap.objs.size]) ht.typeIs (PyProof.Rows.slot_tuple_getitem.lookup) ?_ (by with_unfolding_all rfl)
  refine getItem_tuple_rev ht (Heap.IsSliceOf.new _ .none .none vs) ps ?_ (by rw [List.size_toArray]; omega)
  exact ⟨.ref _, _, I5.laid (t' := s4.toks) (o := .tup xs.reverse) (fun b ob q => Heap.get?_push_of_some _ q) (Nat.le_refl _) ⟨by rw [List.length_reverse]; exact hz, _, r.reverse, IsTup.new _ _⟩, rfl, q _ (I5.hok.fresh (Nat.le_refl _))⟩
end
end L2
end
section
set_option Elab.async false
set_option linter.all false
set_option maxRecDepth 100000
set_option maxHeartbeats 2000000
/-! Extra 5: an owned dict of numbers by numbers, pop, t[::-1], asked of what is known. -/
namespace Sf
open PySem L2
def zK (ws : List (Nat × Nat)) : List (Key × V) := ws.map fun p => (Sum.inl (p.1 : Int), V.int (p.2 : Int))
theorem zK_val (ws : List (Nat × Nat)) (n : Nat) : valV (zK ws) (Sum.inl (n : Int)) = (lkz ws n).map fun (m : Nat) => V.int (m : Int) := by
  induction ws with
  | nil => rfl
  | cons p r ih =>
    have e : lkz (p :: r) n = if p.1 = n then some p.2 else lkz r n := by
      unfold lkz
      rw [List.find?_cons]
      by_cases c : p.1 = n
      · rw [decide_eq_true c, if_pos c]; rfl
      · rw [decide_eq_false c, if_neg c]
    rw [e]
    by_cases c : p.1 = n
    · rw [if_pos c]
      exact valV_pos (p := (Sum.inl (p.1 : Int), V.int (p.2 : Int))) (by rw [c])
    · rw [if_neg c]
      show valV ((Sum.inl (p.1 : Int), V.int (p.2 : Int)) :: zK r) _ = _
      rw [valV_neg (fun q => c (Int.ofNat.inj (Sum.inl.inj q)))]
      exact ih
theorem zK_put {ws : List (Nat × Nat)} {n m : Nat} (h : lkz ws n = none) : putK (zK ws) (Sum.inl (n : Int)) (V.int (m : Int)) = zK (ws ++ [(n, m)]) := by
  unfold putK
  rw [valV_any, zK_val, h]
  show (if false = true then _ else zK ws ++ [(Sum.inl (n : Int), V.int (m : Int))]) = _
  rw [if_neg Bool.false_ne_true]
  unfold zK
  rw [List.map_append]; rfl
section
variable {M : Frm} {Γ : Ga} {g : M.G} {Q : QE M} {ta tb te tc : TE} {E : AE M}
theorem ws_newZ {i : Nat} (hi : Nat.blt i Γ.length = true) (q : E.nx (Γ.set i (some (.ownz []))) g) : WS M (tAsg tDNewK (gName i)) Γ g E := fun σ H o j D' p a ha => have h3 := Nat.le_of_ble_eq_true hi;
  p.nx _ _ _ g (Kp.new (F := M.F) ha).tk (o.newOwn (d := .ownz []) j h3 ha rfl upd_same) (M.same j (same_new ha)) q
theorem we_dinZ {i : Nat} {ws : List (Nat × Nat)} (hi : Γ[i]? = some (some (.ownz ws))) (h : WE M ta Γ g fun y g1 => ∃ n : Nat, y = .int (n : Int) ∧ Q (.bl (lkz ws n).isSome) g1) : WE M (tDIn ta (tVar i)) Γ g Q := fun σ H o j Q' p => by
  obtain ⟨a, e0, hH⟩ := o.own' i _ hi rfl
  have nn := o.own a ⟨i, _, hi, rfl, e0⟩
  refine h σ H o j _ fun u H1 y g1 k1 j1 i1 ⟨n, e, q⟩ => ?_
  subst e
  obtain rfl : u = .int (n : Int) := i1
  have hH1 : H1 a = some (.dK (zK ws)) := k1.k _ _ nn.1 hH
  refine ⟨_, e0, a, valV (zK ws) (Sum.inl (n : Int)), rfl, DGet.k (k := Sum.inl (n : Int)) hH1, ?_⟩
  rw [zK_val, Option.isSome_map]
  exact p _ H1 (.bl _) g1 k1 j1 rfl q
theorem we_dgetZ {i : Nat} {ws : List (Nat × Nat)} (hi : Γ[i]? = some (some (.ownz ws))) (h : WE M tb Γ g fun y g1 => ∃ n m : Nat, y = .int (n : Int) ∧ lkz ws n = some m ∧ Q (.int (m : Int)) g1) : WE M (tDGet (tVar i) tb) Γ g Q := fun σ H o j Q' p => by
  obtain ⟨a, e0, hH⟩ := o.own' i _ hi rfl
  have nn := o.own a ⟨i, _, hi, rfl, e0⟩
  refine ⟨_, e0, h σ H o j _ fun u H1 y g1 k1 j1 i1 ⟨n, m, e, e1, q⟩ => ?_⟩
  subst e
  obtain rfl : u = .int (n : Int) := i1
  have hH1 : H1 a = some (.dK (zK ws)) := k1.k _ _ nn.1 hH
  refine ⟨a, .int (m : Int), rfl, ?_, p _ H1 (.int (m : Int)) g1 k1 j1 rfl q⟩
  have := DGet.k (k := Sum.inl (n : Int)) hH1
  rw [zK_val, e1] at this
  exact this
theorem ws_dputZ {i : Nat} {ws : List (Nat × Nat)} {ty tv : TE} (hi : Γ[i]? = some (some (.ownz ws))) (h : WE M tv Γ g fun e g1 => WE M ty Γ g1 fun y g2 => ∃ n m : Nat, e = .int (m : Int) ∧ y = .int (n : Int) ∧ lkz ws n = none ∧ ws.length < sizeLine ∧ E.nx (Γ.set i (some (.ownz (ws ++ [(n, m)])))) g2) : WS M (sDPut (tVar i) ty tv) Γ g E := fun σ H o j D' p => by
  obtain ⟨a, e0, hH⟩ := o.own' i _ hi rfl
  have nn := o.own a ⟨i, _, hi, rfl, e0⟩
  refine h σ H o j _ fun v H1 e g1 k1 j1 i1 h1 => ⟨_, e0, h1 σ H1 (o.kp k1) j1 _ fun u H2 y g2 k2 j2 i2 ⟨n, m, e1, e2, e3, e4, q⟩ => ?_⟩
  subst e1 e2
  obtain rfl : v = .int (m : Int) := i1
  obtain rfl : u = .int (n : Int) := i2
  have hH2 : H2 a = some (.dK (zK ws)) := k2.k _ _ nn.1 (k1.k _ _ nn.1 hH)
  have eput := zK_put (m := m) e3
  obtain ⟨o2, t2, j3⟩ := (o.kp (k1.trans k2)).mut (ob' := .dK (zK (ws ++ [(n, m)]))) (d' := .ownz (ws ++ [(n, m)])) hi rfl rfl e0 hH2 trivial upd_same
  have hp := DPut.k (k := Sum.inl (n : Int)) (v := V.int (m : Int)) hH2 (by unfold zK; rw [List.length_map]; exact e4)
  rw [eput] at hp
  exact ⟨a, _, rfl, hp, p.nx _ _ _ g2 ((k1.trans k2).tk.trans t2) o2 (j3 g2 j2) q⟩
/-- t = x.pop() of an owned list -/
theorem ws_pop {i : Nat} {ds : List D} {d : D} {t : TG} (hi : Γ[i]? = some (some (.own (ds ++ [d])))) (him : d.im = true) (h : WG M allV t d (Γ.set i (some (.own ds))) g fun Γ' g' => E.nx Γ' g') : WS M (tAsg (tBM0 M.K "list" rPop (tVar i)) t) Γ g E := fun σ H o j D' p => by
  obtain ⟨a, e0, vs, hH, hl⟩ := o.own' i _ hi rfl
  have hlen := hl.len
  rw [List.length_append] at hlen
  have hlt : vs.length - 1 < vs.length := by
    have : ([d] : List D).length = 1 := rfl
    omega
  obtain ⟨d', e1, id'⟩ := hl.get' (List.getElem?_eq_getElem hlt)
  have hd' : d' = d := by
    have : vs.length - 1 = ds.length := by
      have : ([d] : List D).length = 1 := rfl
      omega
    rw [this, List.getElem?_append_right (Nat.le_refl _), Nat.sub_self] at e1
    exact (Option.some.inj e1).symm
  subst hd'
  have hdl : IsL M.K AT AT H vs.dropLast ds := by
    have h1 := hl.take (vs.length - 1)
    rw [← List.dropLast_eq_take] at h1
    have : (ds ++ [d']).take (vs.length - 1) = ds := by
      have : vs.length - 1 = ds.length := by
        have : ([d'] : List D).length = 1 := rfl
        omega
      rw [this, List.take_left']
      rfl
    rw [this] at h1; exact h1
  obtain ⟨o2, t2, j2⟩ := o.mut (ob' := .lst vs.dropLast) (d' := .own ds) hi rfl rfl e0 hH trivial ⟨_, upd_same, IsL.monoT (fun b xs => wrT hH trivial) _ _ hdl⟩
  refine ⟨_, e0, .inl ⟨rfl, _, .of hH⟩, a, vs, vs[vs.length - 1], rfl, rfl, hH, List.getElem?_eq_getElem hlt, ?_⟩
  exact h σ _ _ o2 (j2 g j) (Is.up d' _ him (Is.monoT (fun b xs => wrT hH trivial) _ _ id')) _ fun σ' Γ' o' _ q => p.nx σ' _ Γ' g t2 o' (j2 g j) q
theorem we_revT (h : WE M te Γ g fun x g1 => ∃ ds, x = .tup ds ∧ Q (.tup ds.reverse) g1) : WE M (tRevT M.K te) Γ g Q := fun σ H o j Q' p =>
  h σ H o j _ fun v H1 x g1 k1 j1 i1 ⟨ds, e, q⟩ => by
    subst e
    obtain ⟨a, vs, rfl, hS, hl⟩ := i1
    exact ⟨a, vs, rfl, hS, fun b hb => p _ _ (.tup ds.reverse) g1 (k1.trans (Kp.new hb)) (M.same j1 (same_new hb)) ⟨b, vs.reverse, rfl, .of upd_same, (hl.kp (Kp.new hb)).reverse⟩ q⟩
end
end Sf
end
section
set_option Elab.async false
set_option linter.all false
set_option maxRecDepth 100000
set_option maxHeartbeats 1000000
namespace Sf
open PySem L2
open PyProof.Rows (envOfC)
local macro_rules | `(tactic| walk_at "evS") => `(tactic| first
  | with_reducible refine ws_seq ?_
  | with_reducible refine ws_if ?_
  | with_reducible refine ws_ret ?_
  | ((with_reducible refine' ws_newL ?hi ?_); (case hi => exact rfl))
  | ((with_reducible refine' ws_newD ?hi ?_); (case hi => exact rfl))
  | ((with_reducible refine' ws_listT ?hi ?_); (case hi => exact rfl))
  | ((with_reducible refine' ws_set ?hi ?_); (case hi => exact rfl))
  | with_reducible refine ws_next ?_)
local macro_rules | `(tactic| walk_at "evE2") => `(tactic| first
  | with_reducible refine we_tup ?_
  | ((with_reducible refine' we_lenO ?hv ?_); (case hv => exact rfl))
  | ((with_reducible refine' we_tupO ?hv ?_); (case hv => exact rfl))
  | with_reducible refine we_cb ?_
  | with_reducible refine we_callI ?_
  | with_reducible refine we_callL ?_
  | with_reducible refine we_sl ?_
  | with_reducible refine we_dget ?_
  | with_reducible refine we_get2 ?_
  | with_reducible refine we_ifE ?_
  | with_reducible refine we_andV ?_
  | with_reducible refine we_chain ?_
  | with_reducible refine we_dnewK ?_
  | with_reducible refine we_bl ?_
  | with_reducible refine we_non ?_)
local macro_rules | `(tactic| walk_at "evE") => `(tactic| first
  | ((with_reducible refine' we_var ?hv ?_); (case hv => exact rfl))
  | with_reducible refine we_int ?_
  | with_reducible refine we_str ?_
  | ((with_reducible refine' we_ixO ?hv ?_); (case hv => exact rfl))
  | with_reducible refine we_op ?_
  | walk_at "evE2")
local macro_rules | `(tactic| walk_at "evW") => `(tactic| first
  | ((with_reducible refine' wr_ixT ?hx ?he ?_); (case hx => exact rfl); (case he => first | exact rfl | exact at0 | exact at1 | exact at2 | exact at3))
  | with_reducible refine wr_eqS ?_
  | with_reducible refine wr_i0 ?_
  | with_reducible refine wr_b0 ?_
  | with_reducible refine wr_eqI ?_
  | with_reducible refine wr_neS ?_
  | ((with_reducible refine' wr_ixL ?he ?_); (case he => first | exact rfl | exact at0 | exact at1 | exact at2 | exact at3)))
local macro_rules | `(tactic| walk_at "evT") => `(tactic| first
  | with_reducible refine wt_test ?_
  | with_reducible refine wt_and ?_
  | with_reducible refine wt_or ?_
  | with_reducible refine wt_not ?_
  | with_reducible refine wt_b ?_)
local macro_rules | `(tactic| walk_at "evM") => `(tactic| first
  | ((with_reducible refine' sl_and ?hs ?_); (case hs => exact rfl))
  | ((with_reducible refine if_t ?hc ?_); (case hc => decide +kernel))
  | ((with_reducible refine if_f ?hc ?_); (case hc => decide +kernel))
  | with_reducible refine wo_none ?_
  | with_reducible refine wo_some ?_
  | ((with_reducible refine' wsl_T ?hx ?_); (case hx => exact rfl))
  | with_reducible refine wsl_L ?_
  | ((with_reducible refine' Exists.intro _ (And.intro ?hx ?_)); (case hx => exact rfl))
  | dsimp only)
local macro_rules | `(tactic| walk_at "ev1") => `(tactic| first
  | with_reducible refine wa_cons ?_
  | with_reducible refine wa_nil ?_
  | ((with_reducible show WE _ _ _ _ _); walk_at "evE")
  | ((with_reducible show WR _ _ _ _ _ _); walk_at "evW")
  | ((with_reducible show WS _ _ _ _ _); walk_at "evS")
  | ((with_reducible show WT _ _ _ _ _); walk_at "evT")
  | walk_at "evM")
local macro_rules | `(tactic| walk_at "ev") => `(tactic| repeat walk_at "ev1")

theorem sc_law_ordered : FnScope ["_law_nodes", "_law_top", "_law_found", "_law_spots", "_law_left", "_law_at", "_law_behind_it", "_law_node", "_law_share"] ["_law_nodes", "_law_top"] (defScope (topS 51)) := ⟨rfl, rfl, rfl, by decide +kernel, rfl, by decide +kernel, by decide +kernel⟩
def stD (p : Nat × Bool) : D := .tup [.int (p.1 : Int), .bl p.2]
def R_ord (es : List D) (r : D) : Prop := ∃ us u i, us.Nodup ∧ Wo us ∧ us.length ≤ 100000 ∧ plainB u = true ∧ Tr us u i ∧ es = [.lst (us.map kD), .int (i : Nat)] ∧ r = formD u
theorem st_snoc (p : Nat × Bool) (stk : List (Nat × Bool)) : (p :: stk).reverse.map stD = stk.reverse.map stD ++ [stD p] := by rw [List.reverse_cons, List.map_append]; rfl
theorem st_open (is : List Nat) (i : Nat) (stk : List (Nat × Bool)) : ((is.map fun j => (j, false)) ++ (i, true) :: stk).reverse.map stD = (stk.reverse.map stD ++ [stD (i, true)]) ++ is.reverse.map fun j => stD (j, false) := by
  rw [List.reverse_append, List.reverse_cons, List.map_append, List.map_append, ← List.map_reverse, List.map_map]; rfl
theorem stL_im (l : List (Nat × Bool)) : imL (l.map stD) = true := imL_iff.mpr fun d hd => by obtain ⟨k, _, rfl⟩ := List.mem_map.mp hd; rfl
theorem kdL_im (l : List NestedKey) : imL (l.map kD) = true := by rw [← kDL_map]; exact kDL_im l
theorem numL_im (l : List Nat) : imL (l.map fun (j : Nat) => D.int (j : Int)) = true := imL_iff.mpr fun d hd => by obtain ⟨k, _, rfl⟩ := List.mem_map.mp hd; rfl
section
variable {P : Program} {w : World} {K : PySem.W.Frag} {mg : Str → Option Value} {base : Heap} (T : Tx K mg)
theorem ok_law_ordered : FnOk P w K mg base CX0 1 T.law_ordered.a T.law_ordered.fd ["_law_nodes", "_law_top"] (spI K R_ord) := by
  refine def_I T.law_ordered.F sc_law_ordered (fun es r ⟨_, _, _, _, _, _, _, _, e, _⟩ => by subst e; rfl) (by decide) (fun cdv A outer s H E hr => ?_)
  have hu := hu_of hr
  refine ⟨_, (pss_cons (ps_set (i := 2) sc_law_ordered.nd rfl (by first | exact Or.inl rfl | exact Or.inr rfl) (pe_lst pa_nil))
  (pss_cons (ps_set (i := 3) sc_law_ordered.nd rfl (by first | exact Or.inl rfl | exact Or.inr rfl) pe_dnewK)
  (pss_cons (ps_set (i := 4) sc_law_ordered.nd rfl (by first | exact Or.inl rfl | exact Or.inr rfl) (pe_lst (pa_cons (pe_tup (pa_cons (pv 1) (pa_cons pe_bl pa_nil))) pa_nil)))
  (pss_cons (ps_while PassesOwn.never (pt_cmpR op_gt (pe_callB call_len (by rfl) T.nlen PySem.boot_len (pa_cons (pv 4) pa_nil)) pe_int (nomark _)) (pss_cons (ps_asg (pe_bm0 PySem.F.plainAttrs_list PySem.F.slot_list_pop PySem.F.type_list_pop mt_pop (pv 4)) (pg_tup (by rfl) (pgs_cons (pg_name (i := 5) sc_law_ordered.nd rfl (by first | exact Or.inl rfl | exact Or.inr rfl)) (pgs_cons (pg_name (i := 6) sc_law_ordered.nd rfl (by first | exact Or.inl rfl | exact Or.inr rfl)) pgs_nil))))
  (pss_cons (ps_if (pt_cmp (pc_din hu (pv 5) (pv 3))) (pss_one ps_continue) pss_nil)
  (pss_cons (ps_set (i := 7) sc_law_ordered.nd rfl (by first | exact Or.inl rfl | exact Or.inr rfl) (pe_ix ix_list (pv 0) (pv 5) (fun _ _ => rfl)))
  (pss_one (ps_if (pt_cmpR op_ne (pe_ix ix_tup (pv 7) pe_int (fun _ _ => rfl)) pe_str (nomark _)) (pss_cons (ps_dput hu (pv 3) (pv 5) (pe_callB call_len (by rfl) T.nlen PySem.boot_len (pa_cons (pv 2) pa_nil)) rfl)
  (pss_one (ps_expr (pe_bm PySem.F.plainAttrs_list PySem.F.slot_list_append PySem.F.type_list_append mt_append (pv 2) (pa_cons (pv 7) pa_nil))))) (pss_one (ps_if (pt_val (pv 6)) (pss_cons (ps_dput hu (pv 3) (pv 5) (pe_callB call_len (by rfl) T.nlen PySem.boot_len (pa_cons (pv 2) pa_nil)) rfl)
  (pss_one (ps_expr (pe_bm PySem.F.plainAttrs_list PySem.F.slot_list_append PySem.F.type_list_append mt_append (pv 2) (pa_cons (pe_tup (pa_cons (pe_ix ix_tup (pv 7) pe_int (fun _ _ => rfl)) (pa_cons (pe_ix ix_tup (pv 7) pe_int (fun _ _ => rfl)) (pa_cons (pe_callTy call_tuple_of (by rfl) T.ntuple (by decide +kernel) (pa_cons (pe_lc (own := [("_law_share", 8)]) (by rfl) sc_law_ordered.nd (pi_tup (pe_ix ix_tup (pv 7) pe_int (fun _ _ => rfl))) (blkOk_by (own := [("_law_share", 8)]) (N := ["_law_nodes", "_law_top", "_law_found", "_law_spots", "_law_left", "_law_at", "_law_behind_it", "_law_node", "_law_share"]) (sc := defScope (topS 51)) (by decide +kernel)) (fun _ _ _ _ _ => (pg_name (i := 8) sc_law_ordered.nd rfl (by first | exact Or.inl rfl | exact Or.inr rfl))) (fun _ _ _ _ _ => pts_nil) (fun _ _ _ _ _ => (pe_dget hu (pv 3) (pv 8) (fun _ _ => rfl)))) pa_nil)) pa_nil)))) pa_nil))))) (pss_cons (ps_expr (pe_bm PySem.F.plainAttrs_list PySem.F.slot_list_append PySem.F.type_list_append mt_append (pv 4) (pa_cons (pe_tup (pa_cons (pv 5) (pa_cons pe_bl pa_nil))) pa_nil)))
  (pss_one (ps_expr (pe_bm PySem.F.plainAttrs_list PySem.F.slot_list_extend PySem.F.type_list_extend mt_extend (pv 4) (pa_cons (pe_lc (own := [("_law_share", 8)]) (by rfl) sc_law_ordered.nd (pi_tup (pe_revT (pe_ix ix_tup (pv 7) pe_int (fun _ _ => rfl)))) (blkOk_by (own := [("_law_share", 8)]) (N := ["_law_nodes", "_law_top", "_law_found", "_law_spots", "_law_left", "_law_at", "_law_behind_it", "_law_node", "_law_share"]) (sc := defScope (topS 51)) (by decide +kernel)) (fun _ _ _ _ _ => (pg_name (i := 8) sc_law_ordered.nd rfl (by first | exact Or.inl rfl | exact Or.inr rfl))) (fun _ _ _ _ _ => pts_nil) (fun _ _ _ _ _ => (pe_tup (pa_cons (pv 8) (pa_cons pe_bl pa_nil))))) pa_nil)))))))))))))
  (pss_one (ps_ret (pe_tup (pa_cons (pe_callTy call_tuple_of (by rfl) T.ntuple (by decide +kernel) (pa_cons (pv 2) pa_nil)) (pa_cons (pe_op op_sub (pe_callB call_len (by rfl) T.nlen PySem.boot_len (pa_cons (pv 2) pa_nil)) pe_int) pa_nil))))))))), ?_⟩
  dsimp only [cxOf]
  rintro es r ⟨us, u, i, hnd, hwo, hlen, hpl, htr, rfl, rfl⟩
  obtain ⟨n, spE, runs, hfl⟩ := ordered_runs hnd hpl htr (B := 400000) (by
    have h1 := wd_le hwo u i htr
    obtain ⟨k, hk⟩ := tr_root htr
    have := (List.getElem?_eq_some_iff.mp hk).1
    omega)
  walk_at "ev"
  refine ⟨rfl, ?_⟩
  refine ws_seq (ws_newZ rfl ?_)
  walk_at "ev"
  refine ⟨rfl, ?_⟩
  refine ws_seq ?_
  refine ws_while (fun m Γ' _ => ∃ f sp stk x5 x6 x7 x8, Runs us 400000 m (f, sp, stk) ((form u).1, spE, []) ∧ SIn us (f, sp, stk) ∧ Γ' = [some (.d (.lst (us.map kD))), some (.d (.int (i : Nat))), some (.own (f.map kD)), some (.ownz sp), some (.own (stk.reverse.map stD)), x5, x6, x7, x8]) n
    ⟨[], [], [(i, false)], none, none, none, none, runs, ⟨rfl, .nil, fun x hx => nomatch hx⟩, rfl⟩ ?_
  rintro m Γ' g' ⟨f, sp, stk, x5, x6, x7, x8, hR, hS, rfl⟩
  walk_at "ev"
  have hle := hS.le
  have hspl : sp.length = f.length := hS.len
  refine if_both (fun c => ?_) (fun c => ?_)
  · cases stk with
    | nil => exact absurd (of_decide_eq_true c) (by decide)
    | cons p stk =>
      obtain ⟨at0', bh⟩ := p
      rw [st_snoc]
      cases hR with
      | step hB hm hrest =>
        have hS1 := hS.ms hm
        have hB2 : ∀ {n} {S S' : MS}, Runs us 400000 n S S' → S.2.2.length ≤ 400000 := fun h => by cases h with | refl h => exact h | step h _ _ => exact h
        have hB1 := hB2 hrest
        refine ws_seq (ws_pop rfl rfl (wg_tup rfl rfl (wgs_cons rfl rfl (wgs_cons rfl rfl (wgs_nil ?_)))))
        refine ws_seq (ws_if (wt_b (we_dinZ rfl (we_var rfl ⟨at0', rfl, _, rfl, ?_⟩))))
        have fl : f.length < sizeLine := lim_lt (by show _ ≤ 1000000; have : f.length ≤ us.length := hle; omega)
        cases hm with
        | skip e =>
          rw [e]
          exact ws_cont ⟨_, Nat.lt_succ_self _, f, sp, stk, _, _, _, _, hrest, hS1, rfl⟩
        | leaf e hu hk =>
          rw [e]
          refine ws_next ?_
          rcases hk with ⟨z, rfl⟩ | ⟨z, rfl⟩
          · have hat : atI (us.map kD) (at0' : Int) = some (kD (nIn z)) := atI_nat (by rw [List.getElem?_map, hu]; rfl)
            rw [show kD (nIn z) = .tup [.str "input", .int z] from rfl] at hat
            walk_at "ev"
            refine wr_ixL hat ?_
            walk_at "ev"
            refine ws_dputZ rfl ?_
            walk_at "ev"
            rw [List.length_map]
            refine ⟨at0', f.length, rfl, rfl, e, by rw [hspl]; exact fl, ?_⟩
            refine ws_append rfl ?_
            walk_at "ev"
            exact ⟨kD_im (nIn z), by rw [List.length_map]; exact fl, _, Nat.lt_succ_self _, _, _, _, _, _, _, _, hrest, hS1, by rw [List.map_append]; rfl⟩
          · have hat : atI (us.map kD) (at0' : Int) = some (kD (nFx z)) := atI_nat (by rw [List.getElem?_map, hu]; rfl)
            rw [show kD (nFx z) = .tup [.str "fixed", .str z] from rfl] at hat
            walk_at "ev"
            refine wr_ixL hat ?_
            walk_at "ev"
            refine ws_dputZ rfl ?_
            walk_at "ev"
            rw [List.length_map]
            refine ⟨at0', f.length, rfl, rfl, e, by rw [hspl]; exact fl, ?_⟩
            refine ws_append rfl ?_
            walk_at "ev"
            exact ⟨kD_im (nFx z), by rw [List.length_map]; exact fl, _, Nat.lt_succ_self _, _, _, _, _, _, _, _, hrest, hS1, by rw [List.map_append]; rfl⟩
        | opn e hu =>
          rename_i d is
          rw [e]
          refine ws_next ?_
          have hat : atI (us.map kD) (at0' : Int) = some (kD (nDo d is)) := atI_nat (by rw [List.getElem?_map, hu]; rfl)
          rw [kD_do] at hat
          walk_at "ev"
          refine wr_ixL hat ?_
          walk_at "ev"
          have hB3 : stk.length + 1 ≤ 400000 := hB
          have hB4 : is.length + (stk.length + 1) ≤ 400000 := by
            have : ((is.map fun j => (j, false)) ++ (at0', true) :: stk).length ≤ 400000 := hB1
            rw [List.length_append, List.length_map, List.length_cons] at this
            exact this
          refine ws_append rfl ?_
          walk_at "ev"
          refine ⟨rfl, lim_lt (by rw [List.length_map, List.length_reverse]; show _ ≤ 1000000; omega), ?_⟩
          refine ws_extend rfl ?_
          refine we_lcR (fun k e => ∃ j, is.reverse[k]? = some j ∧ e = stD (j, false)) ?_
          refine wi_tup kp_rel (we_revT ?_)
          walk_at "ev"
          rw [← List.map_reverse]
          refine ⟨numL_im _, lim_lt (by rw [List.length_map, List.length_reverse]; show _ ≤ 1000000; omega), fun k g' hlt => ?_, fun acc g' e1 e2 e3 => ?_⟩
          · rw [List.length_map] at hlt
            have ht : is.reverse[k]? = some is.reverse[k] := List.getElem?_eq_getElem hlt
            have hk : (is.reverse.map fun (j : Nat) => D.int (j : Int)).getD k .non = .int (is.reverse[k] : Nat) := by rw [List.getD_eq_getElem?_getD, List.getElem?_map, ht]; rfl
            rw [hk]
            refine wg_name rfl rfl ?_
            walk_at "ev"
            exact ⟨rfl, _, ht, rfl⟩
          · have e4 := acc_map (f := fun j => stD (j, false)) (ts := is.reverse) (by rw [e1, List.length_map]) e3
            subst e4
            exact ⟨_, rfl, e2, lim_line (by rw [List.length_append, List.length_map, List.length_map, List.length_reverse, List.length_reverse]; show _ + 1 + _ ≤ 1000000; omega), _, Nat.lt_succ_self _, f, sp, _, _, _, _, _, hrest, hS1, by rw [st_open]; rfl⟩
        | cls e hu hl hjs =>
          rename_i d is js
          rw [e]
          refine ws_next ?_
          have hat : atI (us.map kD) (at0' : Int) = some (kD (nDo d is)) := atI_nat (by rw [List.getElem?_map, hu]; rfl)
          rw [kD_do] at hat
          walk_at "ev"
          refine wr_ixL hat ?_
          walk_at "ev"
          refine ws_dputZ rfl ?_
          walk_at "ev"
          rw [List.length_map]
          refine ⟨at0', f.length, rfl, rfl, e, by rw [hspl]; exact fl, ?_⟩
          refine ws_append rfl ?_
          walk_at "ev"
          refine we_lcR (fun k e => ∃ j, js[k]? = some j ∧ e = .int (j : Nat)) ?_
          refine wi_tup kp_rel ?_
          walk_at "ev"
          have isl : is.length ≤ 2 := (hwo.w _ _ _ hu).1
          refine ⟨numL_im _, lim_lt (by rw [List.length_map]; show _ ≤ 1000000; omega), fun k g' hlt => ?_, fun acc g' e1 e2 e3 => ?_⟩
          · rw [List.length_map] at hlt
            have ht : is[k]? = some is[k] := List.getElem?_eq_getElem hlt
            obtain ⟨jv, hjk⟩ : ∃ jv, js[k]? = some jv := ⟨js[k]'(by omega), List.getElem?_eq_getElem _⟩
            have hk : (is.map fun (j : Nat) => D.int (j : Int)).getD k .non = .int (is[k] : Nat) := by rw [List.getD_eq_getElem?_getD, List.getElem?_map, ht]; rfl
            rw [hk]
            refine wg_name rfl rfl ?_
            refine we_dgetZ rfl (we_var rfl ⟨is[k], jv, rfl, ?_, ?_⟩)
            · rw [lkz_app, hjs k _ _ ht hjk]; rfl
            · exact ⟨rfl, _, hjk, rfl⟩
          · have e4 := acc_map (f := fun (j : Nat) => D.int (j : Int)) (ts := js) (by rw [e1, List.length_map, hl]) e3
            subst e4
            walk_at "ev"
            refine wc_tupL ?_
            walk_at "ev"
            have hkd : D.tup [.str "do", .str d, .tup (js.map fun (j : Nat) => D.int (j : Int))] = kD (nDo d js) := (kD_do d js).symm
            rw [hkd]
            exact ⟨kD_im _, by rw [List.length_map]; exact fl, _, Nat.lt_succ_self _, _, _, _, _, _, _, _, hrest, hS1, by rw [List.map_append]; rfl⟩
  · cases stk with
    | cons p stk => exact absurd (show decide ((0 : Int) < (((p :: stk).reverse.map stD).length : Nat)) = true from decide_eq_true (by rw [List.length_map, List.length_reverse, List.length_cons]; omega)) c
    | nil =>
      cases hR with
      | step _ hm _ => cases hm
      | refl _ =>
        walk_at "ev"
        refine ⟨?_, ?_⟩
        · show (imL ((form u).1.map kD) && true) = true
          rw [kdL_im]; rfl
        · unfold formD
          rw [List.length_map, hfl]
          have : ((((form u).2 + 1 : Nat) : Int) - 1) = ((form u).2 : Nat) := by omega
          rw [this]
end
end Sf
end
section
set_option Elab.async false
set_option linter.all false
set_option maxRecDepth 100000
set_option maxHeartbeats 1000000
/-! Mathematics 6: ranks of defs, arities, what the evaluator needs. -/
namespace Sf
open PySem
def sgr (ds : List Df) (r : Nat) : Str → Option (List Bool) := fun f => (look (ds.take r) f).map fun d => d.ps.map (·.2)
structure RankOk (ds : List Df) : Prop where
  body : ∀ (r : Nat) d, ds[r]? = some d → Wf (sgr ds r) (fun x => (x, true) ∈ d.ps) (fun i => (i, false) ∈ d.ps) true d.b
theorem look_take {ds : List Df} {r : Nat} {f : Str} {d : Df} (h : look (ds.take r) f = some d) : look ds f = some d ∧ ∃ k, k < r ∧ ds[k]? = some d := by
  constructor
  · unfold look at h ⊢
    rw [← List.take_append_drop r ds, List.find?_append, h]; rfl
  · have hm : d ∈ ds.take r := List.mem_of_find?_eq_some h
    obtain ⟨k, hk⟩ := List.mem_iff_getElem?.mp hm
    have hlt := (List.getElem?_eq_some_iff.mp hk).1
    rw [List.length_take] at hlt
    rw [List.getElem?_take_of_lt (by omega)] at hk
    exact ⟨k, by omega, hk⟩
theorem sgr_le {ds : List Df} {r s : Nat} (h : r ≤ s) {f : Str} {ss : List Bool} (e : sgr ds r f = some ss) : sgr ds s f = some ss := by
  unfold sgr at e ⊢
  obtain ⟨d, e1, e2⟩ := Option.map_eq_some_iff.mp e
  have : look (ds.take s) f = some d := by
    unfold look at e1 ⊢
    have : ds.take s = ds.take r ++ (ds.drop r).take (s - r) := by
      rw [← List.take_append_drop r (ds.take s), List.take_take, Nat.min_eq_left h, List.drop_take]
    rw [this, List.find?_append, e1]; rfl
  rw [this, Option.map_some, e2]
theorem Wf.sg {sg sg' : Str → Option (List Bool)} {X C : Str → Prop} {s : Bool} {t : T} (h : Wf sg X C s t) (hs : ∀ f ss, sg f = some ss → sg' f = some ss) : Wf sg' X C s t := by
  induction h with
  | num a b => exact .num a b
  | count a => exact .count a
  | op a _ _ i1 i2 => exact .op a i1 i2
  | name a => exact .name a
  | fixed => exact .fixed
  | input => exact .input
  | dov _ ih => exact .dov ih
  | letv _ _ i1 i2 => exact .letv i1 i2
  | loop _ _ _ i0 i1 i2 => exact .loop i0 i1 i2
  | pick _ hne _ i0 ih => exact .pick i0 hne ih
  | call hf hl _ ih => exact .call (hs _ _ hf) hl ih
theorem RankOk.prg {ds : List Df} (R : RankOk ds) : PrgOk (sgr ds ds.length) ds where
  sig := fun f ss e => by
    unfold sgr at e
    rw [List.take_length] at e
    obtain ⟨d, e1, e2⟩ := Option.map_eq_some_iff.mp e
    exact ⟨d, e1, e2⟩
  body := fun f d e => by
    have hm : d ∈ ds := List.mem_of_find?_eq_some e
    obtain ⟨k, hk⟩ := List.mem_iff_getElem?.mp hm
    have hlt := (List.getElem?_eq_some_iff.mp hk).1
    exact (R.body k d hk).sg fun f ss e => sgr_le (Nat.le_of_lt hlt) e
mutual
/-- acts have at most two kids; no inputs -/
def arB : T → Bool
  | .mk h ts => match h with
    | .dov _ => decide (ts.length ≤ 2) && arL ts
    | .input _ => false
    | _ => arL ts
def arL : List T → Bool
  | [] => true
  | t :: r => arB t && arL r
end
theorem arL_iff : ∀ {ks : List T}, arL ks = true ↔ ∀ k ∈ ks, arB k = true
  | [] => ⟨fun _ _ h => (nomatch h), fun _ => rfl⟩
  | t :: r => by
    show (arB t && arL r) = true ↔ _
    rw [Bool.and_eq_true, arL_iff (ks := r)]
    constructor
    · rintro ⟨h1, h2⟩ k hk
      rcases List.mem_cons.mp hk with e | e
      · subst e; exact h1
      · exact h2 k e
    · intro h
      exact ⟨h t List.mem_cons_self, fun k hk => h k (List.mem_cons_of_mem _ hk)⟩
theorem arB_kids {h : Hd} {ts : List T} (e : arB (.mk h ts) = true) : arL ts = true := by
  cases h with
  | dov d =>
    have e' : (decide (ts.length ≤ 2) && arL ts) = true := e
    rw [Bool.and_eq_true] at e'
    exact e'.2
  | input k => cases e
  | _ => exact e
theorem arB_do {d : Str} {ts : List T} (e : arB (.mk (.dov d) ts) = true) : ts.length ≤ 2 := by
  have e' : (decide (ts.length ≤ 2) && arL ts) = true := e
  rw [Bool.and_eq_true] at e'
  exact of_decide_eq_true e'.1
theorem ev_aT {ds : List Df} {th : Env} {ka : Cnt} {x : Str} {t v : T} {c2 : Nat} (ht : Ev ds c2 th ka (.e t v)) : ∀ (ps : List (Str × Bool)) (ts : List T) {c : Nat} {th0 : Env} {ka0 : Cnt} {th' : Env} {ka' : Cnt},
    Ev ds c th ka (.a ps ts th0 ka0 th' ka') → ∃ c', Ev ds c' th ka (.a (ps ++ [(x, true)]) (ts ++ [t]) th0 ka0 (plus th' x v) ka')
  | [], [], _, _, _, _, _, h => by cases h; exact ⟨_, .aT ht .a0⟩
  | [], _ :: _, _, _, _, _, _, h => by cases h
  | _ :: _, [], _, _, _, _, _, h => by cases h
  | (y, true) :: ps, t0 :: ts, _, _, _, _, _, h => by
    cases h with
    | aT h1 h2 => obtain ⟨c', q⟩ := ev_aT ht ps ts h2; exact ⟨_, .aT h1 q⟩
  | (y, false) :: ps, t0 :: ts, _, _, _, _, _, h => by
    cases h with
    | aN h1 h2 => obtain ⟨c', q⟩ := ev_aT ht ps ts h2; exact ⟨_, .aN h1 q⟩
theorem ev_aN {ds : List Df} {th : Env} {ka : Cnt} {x : Str} {t : T} {v : Int} (ht : nvo ka t = some v) : ∀ (ps : List (Str × Bool)) (ts : List T) {c : Nat} {th0 : Env} {ka0 : Cnt} {th' : Env} {ka' : Cnt},
    Ev ds c th ka (.a ps ts th0 ka0 th' ka') → ∃ c', Ev ds c' th ka (.a (ps ++ [(x, false)]) (ts ++ [t]) th0 ka0 th' (plus ka' x v))
  | [], [], _, _, _, _, _, h => by cases h; exact ⟨_, .aN ht .a0⟩
  | [], _ :: _, _, _, _, _, _, h => by cases h
  | _ :: _, [], _, _, _, _, _, h => by cases h
  | (y, true) :: ps, t0 :: ts, _, _, _, _, _, h => by
    cases h with
    | aT h1 h2 => obtain ⟨c', q⟩ := ev_aN ht ps ts h2; exact ⟨_, .aT h1 q⟩
  | (y, false) :: ps, t0 :: ts, _, _, _, _, _, h => by
    cases h with
    | aN h1 h2 => obtain ⟨c', q⟩ := ev_aN ht ps ts h2; exact ⟨_, .aN h1 q⟩
theorem ev_l_snoc {ds : List Df} {th : Env} {ka : Cnt} {t v : T} {c2 : Nat} (ht : Ev ds c2 th ka (.e t v)) : ∀ (ts vs : List T) {c : Nat}, Ev ds c th ka (.l ts vs) → ∃ c', Ev ds c' th ka (.l (ts ++ [t]) (vs ++ [v]))
  | [], vs, _, h => by cases h; exact ⟨_, .cons ht .nil⟩
  | t0 :: ts, vs, _, h => by
    cases h with
    | cons h1 h2 => obtain ⟨c', q⟩ := ev_l_snoc ht ts _ h2; exact ⟨_, .cons h1 q⟩
theorem TrL.snoc {us : List NestedKey} {t : T} {i : Nat} (h : Tr us t i) : ∀ {ts : List T} {is : List Nat}, TrL us ts is → TrL us (ts ++ [t]) (is ++ [i])
  | [], [], _ => ⟨h, trivial⟩
  | [], _ :: _, q => q.elim
  | _ :: _, [], q => q.elim
  | _ :: _, _ :: _, q => ⟨q.1, TrL.snoc h q.2⟩
theorem tr_lt {us : List NestedKey} {t : T} {i : Nat} (h : Tr us t i) : i < us.length := by
  obtain ⟨k, hk⟩ := tr_root h
  exact (List.getElem?_eq_some_iff.mp hk).1
theorem trL_lt {us : List NestedKey} : ∀ {ts : List T} {is : List Nat}, TrL us ts is → ∀ i ∈ is, i < us.length
  | [], [], _, _, h => nomatch h
  | [], _ :: _, q, _, _ => q.elim
  | _ :: _, [], q, _, _ => q.elim
  | t :: ts, i :: is, q, j, hj => by
    rcases List.mem_cons.mp hj with rfl | hj
    · exact tr_lt q.1
    · exact trL_lt q.2 j hj
theorem Wo.keep {us : List NestedKey} (w : Wo us) {k : NestedKey} (h : ∀ d is, k = nDo d is → is.length ≤ 2 ∧ ∀ j ∈ is, j < us.length) : Wo (keep us k).1 := by
  refine ⟨keep_nodup w.nd k, ?_⟩
  rcases keep_cases us k with ⟨_, e⟩ | ⟨_, e⟩
  · rw [e]; exact w.w
  · rw [e]
    intro i d is hi
    rcases snoc_get hi with ⟨_, hi⟩ | ⟨rfl, e⟩
    · exact w.w i d is hi
    · exact h d is e.symm
end Sf
end
section
set_option Elab.async false
set_option linter.all false
set_option maxRecDepth 100000
set_option maxHeartbeats 2000000
/-! The evaluator's frame: the dict «about» at b, its nodes' list at c, its numbers' dict at a. -/
namespace Sf
open PySem L2
open PyProof.Rows (envOfC)
structure AB where
  a : Addr
  b : Addr
  c : Addr
  ds : List Df
structure GA where
  us : List NestedKey
  ks : List NestedKey
  left : Int
def abtK (A : AB) (vd : V) (l : Int) : List (Key × V) := [(Sum.inr "defs", vd), (Sum.inr "nodes", .ref A.c), (Sum.inr "numbers", .ref A.a), (Sum.inr "left", .int l)]
structure AJ (P : Program) (w : World) (K : PySem.W.Frag) (A : AB) (g : GA) (H : Hp) : Prop where
  b : ∃ vd, H A.b = some (.dK (abtK A vd g.left)) ∧ Is K AT AT H vd (defsD A.ds)
  c : ∃ vs, H A.c = some (.lst vs) ∧ IsL K AT AT H vs (g.us.map kD)
  a : NdAt P w K H A.a g.ks
theorem sqT_of {K : PySem.W.Frag} {H H' : Hp} (h2 : ∀ b xs, H b = some (.tup xs) → H' b = some (.tup xs)) (h3 : ∀ b o u, H b = some (.frz o u) → H' b = some (.frz o u)) : ∀ b ys, SqT K H b ys → SqT K H' b ys := fun b ys q => by
  rcases q with (q | ⟨o, q⟩) | q
  · exact .inl (.inl (h2 _ _ q))
  · exact .inl (.inr ⟨o, h3 _ _ _ q⟩)
  · exact .inr q
@[reducible] def frmA (P : Program) (w : World) (K : PySem.W.Frag) (H0 : Hp) (A : AB) : Frm where
  K := K
  H0 := H0
  F := fun x => x = A.a ∨ x = A.b ∨ x = A.c
  G := GA
  J := AJ P w K A
  stab := fun g H H' j h1 h2 h3 => by
    have sq := sqT_of (K := K) h2 h3
    obtain ⟨⟨vd, e1, e2⟩, ⟨vs, e3, e4⟩, ⟨hl, xs, e, ek, hx⟩⟩ := j
    exact ⟨⟨vd, h1 _ _ (.inr (.inl rfl)) e1, Is.monoT sq _ _ e2⟩, ⟨vs, h1 _ _ (.inr (.inr rfl)) e3, IsL.monoT sq _ _ e4⟩, ⟨hl, xs, h1 _ _ (.inl rfl) e, ek, fun i x hi => by
      obtain ⟨q1, q2, q3⟩ := hx i x hi
      exact ⟨q1, q2.mono sq, q3⟩⟩⟩
  trk := fun g H x j hx he => by
    obtain ⟨⟨vd, e1, e2⟩, ⟨vs, e3, e4⟩, ⟨hl, xs, e, _⟩⟩ := j
    rcases hx with rfl | rfl | rfl
    · rw [e] at he; cases he
    · rw [e1] at he; cases he
    · rw [e3] at he; cases he
section
variable {P : Program} {w : World} {K : PySem.W.Frag} {H0 : Hp} {A : AB} {Γ : Ga} {g : GA} {Q : QE (frmA P w K H0 A)} {ta tb te tv : TE} {tr : TA} {E : AE (frmA P w K H0 A)}
theorem aj_ne {g : GA} {H : Hp} (j : AJ P w K A g H) : A.a ≠ A.b ∧ A.a ≠ A.c ∧ A.b ≠ A.c := by
  obtain ⟨⟨vd, e1, e2⟩, ⟨vs, e3, e4⟩, ⟨hl, xs, e, _⟩⟩ := j
  refine ⟨fun z => ?_, fun z => ?_, fun z => ?_⟩
  · rw [z, e1] at e; cases e
  · rw [z, e3] at e; cases e
  · rw [z, e3] at e1; cases e1
theorem ndIn_A : NdIn P w (frmA P w K H0 A) A.a (fun g => g.ks) (fun g ks => { g with ks := ks }) :=
  ⟨.inl rfl, fun g H j => j.a, fun g H φ ks j h => by
    obtain ⟨n1, n2, n3⟩ := aj_ne j
    obtain ⟨⟨vd, e1, e2⟩, ⟨vs, e3, e4⟩, ⟨hl, xs, e, _⟩⟩ := j
    exact ⟨⟨vd, by rw [upd_ne (Ne.symm n1)]; exact e1, Is.monoT (fun b ys => ext_sqT e) _ _ e2⟩, ⟨vs, by rw [upd_ne (Ne.symm n2)]; exact e3, IsL.monoT (fun b ys => ext_sqT e) _ _ e4⟩, h⟩⟩
def abt (A : AB) (g : GA) (s : Str) : Option D := if s = "defs" then some (defsD A.ds) else if s = "nodes" then some (.adr A.c) else if s = "numbers" then some (.adr A.a) else if s = "left" then some (.int g.left) else none
theorem k1 : ("defs" : Str) ≠ "nodes" := by decide +kernel
theorem k2 : ("defs" : Str) ≠ "numbers" := by decide +kernel
theorem k3 : ("defs" : Str) ≠ "left" := by decide +kernel
theorem k4 : ("nodes" : Str) ≠ "numbers" := by decide +kernel
theorem k5 : ("nodes" : Str) ≠ "left" := by decide +kernel
theorem k6 : ("numbers" : Str) ≠ "left" := by decide +kernel
theorem inr_ne {s t : Str} (h : s ≠ t) : ¬ ((Sum.inr s : Key) = Sum.inr t) := fun e => h (Sum.inr.inj e)
theorem abt_defs : abt A g "defs" = some (defsD A.ds) := if_pos rfl
theorem abt_nodes : abt A g "nodes" = some (.adr A.c) := by unfold abt; rw [if_neg (Ne.symm k1), if_pos rfl]
theorem abt_numbers : abt A g "numbers" = some (.adr A.a) := by unfold abt; rw [if_neg (Ne.symm k2), if_neg (Ne.symm k4), if_pos rfl]
theorem abt_left : abt A g "left" = some (.int g.left) := by unfold abt; rw [if_neg (Ne.symm k3), if_neg (Ne.symm k5), if_neg (Ne.symm k6), if_pos rfl]
theorem we_abt (h : WE (frmA P w K H0 A) ta Γ g fun x g1 => x = .adr A.b ∧ WE (frmA P w K H0 A) tb Γ g1 fun y g2 => ∃ s d, y = .str s ∧ abt A g2 s = some d ∧ Q d g2) : WE (frmA P w K H0 A) (tDGet ta tb) Γ g Q := fun σ H o j Q' p =>
  h σ H o j _ fun v H1 x g1 kp1 j1 i1 ⟨e, h1⟩ => by
    subst e
    obtain rfl : v = .ref A.b := i1
    refine h1 σ H1 (o.kp kp1) j1 _ fun u H2 y g2 kp2 j2 i2 ⟨s, d, e, e1, q⟩ => ?_
    subst e
    obtain rfl : u = .str s := i2
    obtain ⟨⟨vd, b1, b2⟩, _, _⟩ := id j2
    have hg : ∃ z, valV (abtK A vd g2.left) (Sum.inr s) = some z ∧ Is K AT AT H2 z d := by
      unfold abt at e1
      unfold abtK
      by_cases c1 : s = "defs"
      · subst c1
        rw [if_pos rfl] at e1
        obtain rfl := Option.some.inj e1
        exact ⟨vd, valV_pos rfl, b2⟩
      · rw [if_neg c1] at e1
        rw [valV_neg (inr_ne (Ne.symm c1))]
        by_cases c2 : s = "nodes"
        · subst c2
          rw [if_pos rfl] at e1
          obtain rfl := Option.some.inj e1
          exact ⟨_, valV_pos rfl, rfl⟩
        · rw [if_neg c2] at e1
          rw [valV_neg (inr_ne (Ne.symm c2))]
          by_cases c3 : s = "numbers"
          · subst c3
            rw [if_pos rfl] at e1
            obtain rfl := Option.some.inj e1
            exact ⟨_, valV_pos rfl, rfl⟩
          · rw [if_neg c3] at e1
            rw [valV_neg (inr_ne (Ne.symm c3))]
            by_cases c4 : s = "left"
            · subst c4
              rw [if_pos rfl] at e1
              obtain rfl := Option.some.inj e1
              exact ⟨_, valV_pos rfl, rfl⟩
            · rw [if_neg c4] at e1; cases e1
    obtain ⟨z, hz, iz⟩ := hg
    have hd := DGet.k (k := Sum.inr s) b1
    rw [hz] at hd
    exact ⟨A.b, z, rfl, hd, p z H2 d g2 (kp1.trans kp2) j2 (iz.down (fun _ _ => trivial) (fun _ _ => trivial)) q⟩
theorem put_left (vd : V) (l m : Int) : putK (abtK A vd l) (Sum.inr "left") (.int m) = abtK A vd m := by
  unfold putK abtK
  simp only [List.any_cons, List.any_nil, decide_true, Bool.true_or, Bool.or_true, if_true, List.map_cons, List.map_nil]
  rw [if_neg (inr_ne k3), if_neg (inr_ne k5), if_neg (inr_ne k6)]
theorem ws_aLeft (h : WE (frmA P w K H0 A) tv Γ g fun z g1 => WE (frmA P w K H0 A) ta Γ g1 fun x g2 => x = .adr A.b ∧ WE (frmA P w K H0 A) tb Γ g2 fun y g3 => y = .str "left" ∧ ∃ l, z = .int l ∧ E.nx Γ { g3 with left := l }) : WS (frmA P w K H0 A) (sDPut ta tb tv) Γ g E := fun σ H o j D' p =>
  h σ H o j _ fun v H1 z g1 kp1 j1 i1 h1 => h1 σ H1 (o.kp kp1) j1 _ fun vx H2 x g2 kp2 j2 i2 ⟨ex, h2⟩ => by
    subst ex
    obtain rfl : vx = .ref A.b := i2
    refine h2 σ H2 ((o.kp kp1).kp kp2) j2 _ fun u H3 y g3 kp3 j3 i3 ⟨ey, l, ez, q⟩ => ?_
    subst ey ez
    obtain rfl : u = .str "left" := i3
    obtain rfl : v = .int l := i1
    have ne3 := aj_ne j3
    obtain ⟨⟨vd, b1, b2⟩, ⟨vs, c1, c2⟩, ⟨hl, xs, e, ek, hx⟩⟩ := id j3
    have hp := DPut.k (k := Sum.inr "left") (v := V.int l) b1 (by show 4 < sizeLine; decide)
    rw [put_left] at hp
    have sq : ∀ d ys, SqT K H3 d ys → SqT K (upd H3 A.b (.dK (abtK A vd l))) d ys := fun d ys => wrT b1 trivial
    have kp4 : Kp (frmA P w K H0 A).F H3 (upd H3 A.b (.dK (abtK A vd l))) := ⟨fun b ob n eb => by rw [upd_ne (fun z => n (.inr (.inl z)))]; exact eb, fun b ys eb => by rw [upd_ne (fun z => by rw [z, b1] at eb; cases eb)]; exact eb, fun b ob u eb => by rw [upd_ne (fun z => by rw [z, b1] at eb; cases eb)]; exact eb⟩
    have kk := ((kp1.trans kp2).trans kp3).trans kp4
    refine ⟨A.b, _, rfl, hp, p.nx _ _ _ _ kk.tk (o.kp kk) (show AJ P w K A { g3 with left := l } _ from ⟨⟨vd, upd_same, Is.monoT sq _ _ b2⟩, ⟨vs, by rw [upd_ne (Ne.symm ne3.2.2)]; exact c1, IsL.monoT sq _ _ c2⟩, ⟨hl, xs, by rw [upd_ne ne3.1]; exact e, ek, fun i x hi => by
      obtain ⟨q1, q2, q3⟩ := hx i x hi
      exact ⟨q1, q2.mono sq, q3⟩⟩⟩) q⟩
theorem ws_aAppend (h : WE (frmA P w K H0 A) te Γ g fun x g1 => x = .adr A.c ∧ WA (frmA P w K H0 A) tr Γ g1 fun es g2 => ∃ k, es = [kD k] ∧ g2.us.length < sizeLine ∧ E.nx Γ { g2 with us := g2.us ++ [k] }) : WS (frmA P w K H0 A) (tDrop (tBM K "list" rAppend te tr)) Γ g E := fun σ H o j D' p =>
  h σ H o j _ fun vx H1 x g1 kp1 j1 i1 ⟨ex, h1⟩ => by
    subst ex
    obtain rfl : vx = .ref A.c := i1
    refine ⟨.inl ⟨rfl, (let ⟨_, ⟨vs, c1, _⟩, _⟩ := j1; ⟨vs, .of c1⟩)⟩, h1 σ H1 (o.kp kp1) j1 _ fun vs0 H3 es g3 kp3 j3 i3 ⟨k, ee, hlen, q⟩ => ?_⟩
    subst ee
    obtain ⟨v, rfl, iv⟩ := vals_one i3
    have ne3 := aj_ne j3
    obtain ⟨⟨vd, b1, b2⟩, ⟨vs, c1, c2⟩, ⟨hl, xs, e, ek, hx⟩⟩ := id j3
    have sq : ∀ d ys, SqT K H3 d ys → SqT K (upd H3 A.c (.lst (vs ++ [v]))) d ys := fun d ys => wrT c1 trivial
    have kp4 : Kp (frmA P w K H0 A).F H3 (upd H3 A.c (.lst (vs ++ [v]))) := ⟨fun b ob n eb => by rw [upd_ne (fun z => n (.inr (.inr z)))]; exact eb, fun b ys eb => by rw [upd_ne (fun z => by rw [z, c1] at eb; cases eb)]; exact eb, fun b ob u eb => by rw [upd_ne (fun z => by rw [z, c1] at eb; cases eb)]; exact eb⟩
    have kk := (kp1.trans kp3).trans kp4
    have hvl : vs.length = g3.us.length := by rw [c2.len, List.length_map]
    refine ⟨A.c, vs, v, rfl, rfl, c1, by rw [hvl]; exact hlen, p.nx _ _ _ _ kk.tk (o.kp kk) (show AJ P w K A { g3 with us := g3.us ++ [k] } _ from ⟨⟨vd, by rw [upd_ne ne3.2.2]; exact b1, Is.monoT sq _ _ b2⟩, ⟨_, upd_same, ?_⟩, ⟨hl, xs, by rw [upd_ne ne3.2.1]; exact e, ek, fun i x hi => by
      obtain ⟨q1, q2, q3⟩ := hx i x hi
      exact ⟨q1, q2.mono sq, q3⟩⟩⟩) q⟩
    show IsL K AT AT _ (vs ++ [v]) ((g3.us ++ [k]).map kD)
    rw [List.map_append]
    exact (IsL.monoT sq _ _ c2).append (ds := g3.us.map kD) (es := [kD k]) ⟨Is.monoT sq _ _ (Is.up _ _ (kD_im k) iv), trivial⟩
theorem wc_aLen (q : Q (.int (g.us.length : Nat)) g) : WC (frmA P w K H0 A) (fun xs H Q => ∃ x n, xs = [x] ∧ LenV K x H n ∧ Q (.int n) H) [.adr A.c] g Q := fun vs H O o j0 h Q' p => by
  obtain ⟨v, rfl, e⟩ := vals_one h
  obtain rfl : v = .ref A.c := e
  obtain ⟨_, ⟨vs, c1, c2⟩, _⟩ := id j0
  have hvl : vs.length = g.us.length := by rw [c2.len, List.length_map]
  exact ⟨_, g.us.length, rfl, .inl ⟨vs, .of c1, hvl.symm⟩, p _ H (.int _) g (Kp.refl H) j0 rfl q⟩
end
/-- functions that run inside the evaluator's frame -/
def spA (P : Program) (w : World) (K : PySem.W.Frag) {α : Type} (Pre : AB → α → GA → List D → Prop) (R : AB → α → GA → D → GA → Prop) : Sp := fun vs H Q _ => ∃ A x g es, IsL K (frmA P w K H A).F AF H vs es ∧ AJ P w K A g H ∧ Pre A x g es ∧
  ∀ r g' v H', R A x g r g' → r.im = true → Kp (frmA P w K H A).F H H' → AJ P w K A g' H' → Is K AT AT H' v r → Q v H'
section
variable {P : Program} {w : World} {K : PySem.W.Frag} {mg : Str → Option Value} {base : Heap} {H0 : Hp} {A : AB} {Γ : Ga} {g : GA} {Q : QE (frmA P w K H0 A)} {tr : TA} {X0 : XK}
theorem we_callA {α : Type} {Pre : AB → α → GA → List D → Prop} {R : AB → α → GA → D → GA → Prop} (h : WA (frmA P w K H0 A) tr Γ g fun es g1 => ∃ x, Pre A x g1 es ∧ ∀ r g2, R A x g1 r g2 → r.im = true → Q r g2) : WE (frmA P w K H0 A) (tCall (spA P w K Pre R) [] X0 tr) Γ g Q := fun σ H o j Q' p =>
  h σ H o j _ fun vs H1 es g1 kp1 j1 i1 ⟨x, h1, q⟩ => by
    show spA P w K Pre R (vs ++ []) H1 Q' X0
    rw [List.append_nil]
    exact ⟨A, x, g1, es, i1.down (fun _ z => z) (fun _ z => False.elim z), j1, h1, fun r g2 v H2 hr him kp2 j2 iv => p v H2 r g2 (kp1.trans kp2) j2 (iv.down (fun _ _ => trivial) (fun _ _ => trivial)) (q r g2 hr him)⟩
theorem def_A {α : Type} {Pre : AB → α → GA → List D → Prop} {R : AB → α → GA → D → GA → Prop} {x qual : Str} {st : Stmt} {f : Addr} {fd : FuncData} {N ps : List Str} {k : Nat} (F : Fun K x qual st f fd) (S : FnScope N ps (defScope st)) (hl : ∀ A x g es, Pre A x g es → es.length = ps.length) (hN : ps.length ≤ N.length)
    (hb : ∀ (cdv : Value) (A : Around) (outer : List PySem.Env) (s : Shared) (H : Hp) (E : XK), Room k (A.deeper (envOfC qual (defScope st) s.heap.objs.size f cdv)) →
      ∃ t, PSs (cxOf CX0 P w K mg base N qual (defScope st) f cdv A outer s H E).nox (defBody st) t ∧ ∀ AA x g es, Pre AA x g es → WS (frmA P w K H AA) t (ga0 N es) g { nx := fun _ _ => False, rt := fun d g' => d.im = true ∧ R AA x g d g' }) : FnOk P w K mg base CX0 (k + 1) f fd ps (spA P w K Pre R) := by
  refine F.ok S (fun vs H Q E h => ?_) (fun cdv A outer s H vs Q E hr h => ?_)
  · obtain ⟨A, x, g, es, il, _, h1, _⟩ := h
    rw [il.len]; exact hl A x g es h1
  · obtain ⟨AA, x, g, es, il, j, h1, q⟩ := h
    obtain ⟨t, ht, hw⟩ := hb cdv A outer s H E hr
    refine ⟨t, ht, ?_⟩
    refine hw AA x g es h1 _ H (ok_start rfl (by rw [hl AA x g es h1]; exact hN) rfl il) j _ ⟨fun _ _ _ _ _ _ _ z => False.elim z, fun _ _ _ _ _ _ _ z => False.elim z, fun _ _ _ _ _ _ _ z => False.elim z, fun v H' d g' kk j' iv ⟨him, e⟩ => ?_, fun _ _ _ _ _ _ _ _ _ _ _ z => False.elim z⟩
    exact q d g' v H' e him kk j' (Is.up d v him iv)
end
end Sf
end
section
set_option Elab.async false
set_option linter.all false
set_option maxRecDepth 100000
set_option maxHeartbeats 1000000
namespace Sf
open PySem L2
open PyProof.Rows (envOfC)
local macro_rules | `(tactic| walk_at "evS") => `(tactic| first
  | with_reducible refine ws_seq ?_
  | with_reducible refine ws_if ?_
  | with_reducible refine ws_ret ?_
  | ((with_reducible refine' ws_newL ?hi ?_); (case hi => exact rfl))
  | ((with_reducible refine' ws_newD ?hi ?_); (case hi => exact rfl))
  | ((with_reducible refine' ws_listT ?hi ?_); (case hi => exact rfl))
  | ((with_reducible refine' ws_set ?hi ?_); (case hi => exact rfl))
  | with_reducible refine ws_next ?_)
local macro_rules | `(tactic| walk_at "evE2") => `(tactic| first
  | with_reducible refine we_tup ?_
  | ((with_reducible refine' we_lenO ?hv ?_); (case hv => exact rfl))
  | ((with_reducible refine' we_tupO ?hv ?_); (case hv => exact rfl))
  | with_reducible refine we_cb ?_
  | with_reducible refine we_callI ?_
  | with_reducible refine we_callL ?_
  | with_reducible refine we_sl ?_
  | with_reducible refine we_dget ?_
  | with_reducible refine we_get2 ?_
  | with_reducible refine we_ifE ?_
  | with_reducible refine we_andV ?_
  | with_reducible refine we_chain ?_
  | with_reducible refine we_dnewK ?_
  | with_reducible refine we_bl ?_
  | with_reducible refine we_non ?_)
local macro_rules | `(tactic| walk_at "evE") => `(tactic| first
  | ((with_reducible refine' we_var ?hv ?_); (case hv => exact rfl))
  | with_reducible refine we_int ?_
  | with_reducible refine we_str ?_
  | ((with_reducible refine' we_ixO ?hv ?_); (case hv => exact rfl))
  | with_reducible refine we_op ?_
  | walk_at "evE2")
local macro_rules | `(tactic| walk_at "evW") => `(tactic| first
  | ((with_reducible refine' wr_ixT ?hx ?he ?_); (case hx => exact rfl); (case he => first | exact rfl | exact at0 | exact at1 | exact at2 | exact at3))
  | with_reducible refine wr_eqS ?_
  | with_reducible refine wr_i0 ?_
  | with_reducible refine wr_b0 ?_
  | with_reducible refine wr_eqI ?_
  | with_reducible refine wr_neS ?_
  | ((with_reducible refine' wr_ixL ?he ?_); (case he => first | exact rfl | exact at0 | exact at1 | exact at2 | exact at3)))
local macro_rules | `(tactic| walk_at "evT") => `(tactic| first
  | with_reducible refine wt_test ?_
  | with_reducible refine wt_and ?_
  | with_reducible refine wt_or ?_
  | with_reducible refine wt_not ?_
  | with_reducible refine wt_b ?_)
local macro_rules | `(tactic| walk_at "evM") => `(tactic| first
  | ((with_reducible refine' sl_and ?hs ?_); (case hs => exact rfl))
  | ((with_reducible refine if_t ?hc ?_); (case hc => decide +kernel))
  | ((with_reducible refine if_f ?hc ?_); (case hc => decide +kernel))
  | with_reducible refine wo_none ?_
  | with_reducible refine wo_some ?_
  | ((with_reducible refine' wsl_T ?hx ?_); (case hx => exact rfl))
  | with_reducible refine wsl_L ?_
  | ((with_reducible refine' Exists.intro _ (And.intro ?hx ?_)); (case hx => exact rfl))
  | dsimp only)
local macro_rules | `(tactic| walk_at "ev1") => `(tactic| first
  | with_reducible refine wa_cons ?_
  | with_reducible refine wa_nil ?_
  | ((with_reducible show WE _ _ _ _ _); walk_at "evE")
  | ((with_reducible show WR _ _ _ _ _ _); walk_at "evW")
  | ((with_reducible show WS _ _ _ _ _); walk_at "evS")
  | ((with_reducible show WT _ _ _ _ _); walk_at "evT")
  | walk_at "evM")
local macro_rules | `(tactic| walk_at "ev") => `(tactic| repeat walk_at "ev1")

theorem sc_law_number_at : FnScope ["_law_number_here", "_law_counts", "_law_one", "_law_other"] ["_law_number_here", "_law_counts"] (defScope (topS 52)) := ⟨rfl, rfl, rfl, by decide +kernel, rfl, by decide +kernel, by decide +kernel⟩
theorem sc_law_kept : FnScope ["_law_about", "_law_node"] ["_law_about", "_law_node"] (defScope (topS 53)) := ⟨rfl, rfl, rfl, by decide +kernel, rfl, by decide +kernel, by decide +kernel⟩
def numD (f : Str → Option Int) : Str → Option D := fun x => (f x).map .int
def ixD (f : Str → Option Nat) : Str → Option D := fun x => (f x).map fun (n : Nat) => .int (n : Int)
theorem numD_plus (f : Str → Option Int) (x : Str) (n : Int) : plus (numD f) x (.int n) = numD (plus f x n) := by
  funext y; show (if y = x then some _ else numD f y) = Option.map _ (if y = x then some n else f y); split <;> rfl
theorem ixD_plus (f : Str → Option Nat) (x : Str) (n : Nat) : plus (ixD f) x (.int (n : Int)) = ixD (plus f x n) := by
  funext y; show (if y = x then some _ else ixD f y) = Option.map _ (if y = x then some n else f y); split <;> rfl
def R_nat (n : Nat) (es : List D) (r : D) : Prop := ∃ t sg X C ka v m ks ds, Wf sg X C false t ∧ KaOk C ka ∧ nvo ka t = some v ∧ t.dp < n ∧ SubD m (numD ka) ks ds ∧ es = [enc t, .dict ks ds] ∧ r = .int v
theorem we_sindex {M : Frm} {Γ : Ga} {g : M.G} {Q : QE M} {te : TE} {tr : TA} (h : WE M te Γ g fun x g1 => ∃ a, x = .str a ∧ WA M tr Γ g1 fun es g2 => ∃ b i rest, es = [.str b] ∧ Builtin.Str.occurrences a b 0 a.length 1 = i :: rest ∧ Q (.int (i : Nat)) g2) :
    WE M (tBM M.K "str" (fun x xs H Q => ∃ a b i rest, x = .str a ∧ xs = [.str b] ∧ Builtin.Str.occurrences a b 0 a.length 1 = i :: rest ∧ Q (.int (i : Nat)) H) te tr) Γ g Q := fun σ H o j Q' p =>
  h σ H o j _ fun v H1 x g1 k1 j1 i1 ⟨a, e, h1⟩ => by
    subst e
    obtain rfl : v = .str a := i1
    refine ⟨rfl, h1 σ H1 (o.kp k1) j1 _ fun us H2 es g2 k2 j2 i2 ⟨b, i, rest, e, ho, q⟩ => ?_⟩
    subst e
    obtain ⟨u, rfl, e⟩ := vals_one i2
    obtain rfl : u = .str b := e
    exact ⟨a, b, i, rest, rfl, rfl, ho, p _ H2 (.int _) g2 (k1.trans k2) j2 rfl q⟩
def PreK (A : AB) (k : NestedKey) (g : GA) (es : List D) : Prop := g.us = g.ks ∧ g.us.length < sizeLine ∧ kOk k = true ∧ k.depth ≤ 8 ∧ (∃ ls, k = .tup ls) ∧ es = [.adr A.b, kD k]
def RK (A : AB) (k : NestedKey) (g : GA) (r : D) (g' : GA) : Prop := r = .int ((keep g.us k).2 : Nat) ∧ g' = { us := (keep g.us k).1, ks := (keep g.us k).1, left := g.left }
section
variable {P : Program} {w : World} {K : PySem.W.Frag} {mg : Str → Option Value} {base : Heap} (T : Tx K mg)
theorem ok_law_number_at : ∀ n : Nat, FnOk P w K mg base CX0 (n + 1) T.law_number_at.a T.law_number_at.fd ["_law_number_here", "_law_counts"] (spI K (R_nat n))
  | 0 => none_I fun es r ⟨_, _, _, _, _, _, _, _, _, _, _, _, h, _⟩ => absurd h (Nat.not_lt_zero _)
  | n + 1 => by
    have G_law_number_at := ok_law_number_at n
    refine def_I T.law_number_at.F sc_law_number_at (fun es r ⟨_, _, _, _, _, _, _, _, _, _, _, _, _, _, e, _⟩ => by subst e; rfl) (by decide) (fun cdv A outer s H E hr => ?_)
    have hu := hu_of hr
    have hr_law_number_at := hr
    refine ⟨_, (pss_cons (ps_if (pt_cmpR op_eq (pe_ix ix_tup (pv 0) pe_int (fun _ _ => rfl)) pe_str (nomark _)) (pss_one (ps_ret (pe_ix ix_tup (pv 0) pe_int (fun _ _ => rfl)))) pss_nil)
  (pss_cons (ps_if (pt_cmpR op_eq (pe_ix ix_tup (pv 0) pe_int (fun _ _ => rfl)) pe_str (nomark _)) (pss_one (ps_ret (pe_dget hu (pv 1) (pe_ix ix_tup (pv 0) pe_int (fun _ _ => rfl)) (fun _ _ => rfl)))) pss_nil)
  (pss_cons (ps_set (i := 2) sc_law_number_at.nd rfl (by first | exact Or.inl rfl | exact Or.inr rfl) (pe_call G_law_number_at hr_law_number_at (by rfl) T.law_number_at.g T.law_number_at.F.kp T.law_number_at.b .nil pass0 (pa_cons (pe_ix ix_tup (pv 0) pe_int (fun _ _ => rfl)) (pa_cons (pv 1) pa_nil))))
  (pss_cons (ps_set (i := 3) sc_law_number_at.nd rfl (by first | exact Or.inl rfl | exact Or.inr rfl) (pe_call G_law_number_at hr_law_number_at (by rfl) T.law_number_at.g T.law_number_at.F.kp T.law_number_at.b .nil pass0 (pa_cons (pe_ix ix_tup (pv 0) pe_int (fun _ _ => rfl)) (pa_cons (pv 1) pa_nil))))
  (pss_cons (ps_if (pt_cmpR op_eq (pe_ix ix_tup (pv 0) pe_int (fun _ _ => rfl)) pe_str (nomark _)) (pss_one (ps_ret (pe_ifExp (pt_cmpR op_gt (pv 3) pe_int (nomark _)) (pe_op op_mod (pv 2) (pv 3)) (pv 2)))) pss_nil)
  (pss_one (ps_ret (pe_ix ix_list (pe_lst (pa_cons (pe_op op_mod (pe_op op_add (pv 2) (pv 3)) pe_int) (pa_cons (pe_op op_mod (pe_op op_mul (pv 2) (pv 3)) pe_int) (pa_cons (pe_callTy call_int1 (by rfl) T.nint (by decide +kernel) (pa_cons (pe_cmpR op_lt (pv 2) (pv 3) (nomark _)) pa_nil)) pa_nil)))) (pe_bm PySem.F.plainAttrs_str PySem.F.slot_str_index PySem.F.type_str_index mt_sindex pe_str (pa_cons (pe_ix ix_tup (pv 0) pe_int (fun _ _ => rfl)) pa_nil)) (fun _ _ => rfl))))))))), ?_⟩
    dsimp only [cxOf]
    rintro es r ⟨t, sg, X, C, ka, v, m, ks, ds, wf, hka, hv, hd, S, rfl, rfl⟩
    cases wf with
    | num a b =>
      walk_at "ev"
      exact ⟨rfl, congrArg D.int (Option.some.inj hv)⟩
    | @count _ _ i hi =>
      walk_at "ev"
      refine ⟨_, _, rfl, ?_⟩
      walk_at "ev"
      have hv' : ka i = some v := hv
      refine ⟨i, .int v, rfl, ?_, rfl, rfl⟩
      rw [S.at']
      unfold numD
      rw [hv']; rfl
    | @op _ _ o x y ho wx wy =>
      obtain ⟨a, e1, a1, b1⟩ := nvo_wf wx rfl ka hka
      obtain ⟨b, e2, a2, b2⟩ := nvo_wf wy rfl ka hka
      have ev : v = opv o a b := by
        simp only [nvo, nvoL, e1, e2] at hv
        exact (Option.some.inj hv).symm
      rcases ho with rfl | rfl | rfl | rfl
      · walk_at "ev"
        refine ⟨.int a, ⟨x, sg, X, C, ka, a, m, ks, ds, wx, hka, e1, kid_dp hd List.mem_cons_self, S, rfl, rfl⟩, rfl, ?_⟩
        walk_at "ev"
        refine ⟨.int b, ⟨y, sg, X, C, ka, b, m, ks, ds, wy, hka, e2, kid_dp hd (List.mem_cons_of_mem _ List.mem_cons_self), S, rfl, rfl⟩, rfl, ?_⟩
        walk_at "ev"
        refine we_lst ?_
        walk_at "ev"
        refine wr_iC (by decide) ?_
        walk_at "ev"
        refine wr_iC (.inl ⟨by omega, by omega⟩) ?_
        walk_at "ev"
        refine wr_iC (by decide) ?_
        walk_at "ev"
        refine wc_intB ?_
        walk_at "ev"
        refine we_sindex ?_
        walk_at "ev"
        refine ⟨_, 0, [], rfl, by decide +kernel, ?_⟩
        refine wr_ixL at0 ⟨rfl, ?_⟩
        rw [ev]
        rfl
      · walk_at "ev"
        refine ⟨.int a, ⟨x, sg, X, C, ka, a, m, ks, ds, wx, hka, e1, kid_dp hd List.mem_cons_self, S, rfl, rfl⟩, rfl, ?_⟩
        walk_at "ev"
        refine ⟨.int b, ⟨y, sg, X, C, ka, b, m, ks, ds, wy, hka, e2, kid_dp hd (List.mem_cons_of_mem _ List.mem_cons_self), S, rfl, rfl⟩, rfl, ?_⟩
        walk_at "ev"
        refine we_lst ?_
        walk_at "ev"
        refine wr_iC (by decide) ?_
        walk_at "ev"
        refine wr_iC (.inl ⟨by omega, by omega⟩) ?_
        walk_at "ev"
        refine wr_iC (by decide) ?_
        walk_at "ev"
        refine wc_intB ?_
        walk_at "ev"
        refine we_sindex ?_
        walk_at "ev"
        refine ⟨_, 1, [], rfl, by decide +kernel, ?_⟩
        refine wr_ixL at1 ⟨rfl, ?_⟩
        rw [ev]
        rfl
      · walk_at "ev"
        refine ⟨.int a, ⟨x, sg, X, C, ka, a, m, ks, ds, wx, hka, e1, kid_dp hd List.mem_cons_self, S, rfl, rfl⟩, rfl, ?_⟩
        walk_at "ev"
        refine ⟨.int b, ⟨y, sg, X, C, ka, b, m, ks, ds, wy, hka, e2, kid_dp hd (List.mem_cons_of_mem _ List.mem_cons_self), S, rfl, rfl⟩, rfl, ?_⟩
        walk_at "ev"
        refine if_both (fun c => ?_) (fun c => ?_)
        · walk_at "ev"
          have c' : (0 : Int) < b := of_decide_eq_true c
          refine wr_iC c' ⟨rfl, ?_⟩
          rw [ev]
          show D.int (a % b) = .int (if b = 0 then a else a % b)
          rw [if_neg (by omega)]
        · walk_at "ev"
          have c' : ¬ (0 : Int) < b := of_decide_eq_false (Bool.eq_false_iff.mpr c)
          refine ⟨rfl, ?_⟩
          rw [ev]
          show D.int a = .int (if b = 0 then a else a % b)
          rw [if_pos (by omega)]
      · walk_at "ev"
        refine ⟨.int a, ⟨x, sg, X, C, ka, a, m, ks, ds, wx, hka, e1, kid_dp hd List.mem_cons_self, S, rfl, rfl⟩, rfl, ?_⟩
        walk_at "ev"
        refine ⟨.int b, ⟨y, sg, X, C, ka, b, m, ks, ds, wy, hka, e2, kid_dp hd (List.mem_cons_of_mem _ List.mem_cons_self), S, rfl, rfl⟩, rfl, ?_⟩
        walk_at "ev"
        refine we_lst ?_
        walk_at "ev"
        refine wr_iC (by decide) ?_
        walk_at "ev"
        refine wr_iC (.inl ⟨by omega, by omega⟩) ?_
        walk_at "ev"
        refine wr_iC (by decide) ?_
        walk_at "ev"
        refine wc_intB ?_
        walk_at "ev"
        refine we_sindex ?_
        walk_at "ev"
        refine ⟨_, 2, [], rfl, by decide +kernel, ?_⟩
        refine wr_ixL at2 ⟨rfl, ?_⟩
        rw [ev]
        show D.int (if decide (a < b) = true then 1 else 0) = .int (if a < b then 1 else 0)
        by_cases c : a < b
        · rw [if_pos (decide_eq_true c), if_pos c]
        · rw [if_neg (by simpa using c), if_neg c]
theorem ok_law_kept : FnOk P w K mg base CX0 1 T.law_kept.a T.law_kept.fd ["_law_about", "_law_node"] (spA P w K PreK RK) := by
  refine def_A T.law_kept.F sc_law_kept (fun A x g es ⟨_, _, _, _, _, e⟩ => by subst e; rfl) (by decide) (fun cdv A outer s H E hr => ?_)
  have hu := hu_of hr
  refine ⟨_, (pss_cons (ps_if (pt_cmpR (op_ndnot hr.units) (pv 1) (pe_dget hu (pv 0) pe_str (fun _ _ => rfl)) (by rfl)) (pss_cons (ps_ndput hr.units (pe_dget hu (pv 0) pe_str (fun _ _ => rfl)) (pv 1) (pe_callB call_len (by rfl) T.nlen PySem.boot_len (pa_cons (pe_dget hu (pv 0) pe_str (fun _ _ => rfl)) pa_nil)) rfl)
  (pss_one (ps_expr (pe_bm PySem.F.plainAttrs_list PySem.F.slot_list_append PySem.F.type_list_append mt_append (pe_dget hu (pv 0) pe_str (fun _ _ => rfl)) (pa_cons (pv 1) pa_nil))))) pss_nil)
  (pss_one (ps_ret (pe_ndget hr.units (pe_dget hu (pv 0) pe_str (fun _ _ => rfl)) (pv 1) (fun _ _ => rfl))))), ?_⟩
  dsimp only [cxOf]
  rintro A k g es ⟨he, hl, hk, hd, ⟨ls, ek⟩, rfl⟩
  have NI := ndIn_A (P := P) (w := w) (K := K) (H0 := H) (A := A)
  refine ws_seq (ws_if (wt_test (we_op (we_var rfl (we_abt (we_var rfl ⟨rfl, we_str ⟨_, _, rfl, abt_numbers, ?_⟩⟩))))))
  refine wr_ndnot NI ls rfl ek hk hd ⟨_, rfl, ?_⟩
  have last : ∀ g' : GA, g' = { us := (keep g.us k).1, ks := (keep g.us k).1, left := g.left } → WS (frmA P w K H A) (tRet (tNdGet P w K (tDGet (tVar 0) (tC (.str "numbers"))) (tVar 1))) (ga0 ["_law_about", "_law_node"] [.adr A.b, kD k]) g' { nx := fun _ _ => False, rt := fun d g' => d.im = true ∧ RK A k g d g' } := fun g' e1 =>
    ws_ret (we_ndget NI (we_abt (we_var rfl ⟨rfl, we_str ⟨_, _, rfl, abt_numbers, rfl, we_var rfl ⟨k, ls, (keep g.us k).2, rfl, ek, hk, hd, by rw [e1]; exact keep_at g.us k, rfl, rfl, rfl, e1⟩⟩⟩)))
  by_cases c : k ∈ g.ks
  · refine if_f (by rw [decide_eq_true c]; decide) ?_
    rw [← he] at c
    refine ws_next (last g ?_)
    rw [keep_in c]
    obtain ⟨us, ks, l⟩ := g
    have he' : us = ks := he
    subst he'; rfl
  · refine if_t (by rw [decide_eq_false c]; decide) ?_
    have c' := c
    rw [← he] at c'
    refine ws_seq (ws_ndput NI (we_cb (wa_cons (we_abt (we_var rfl ⟨rfl, we_str ⟨_, _, rfl, abt_nodes, wa_nil (wc_aLen (we_abt (we_var rfl ⟨rfl, we_str ⟨_, _, rfl, abt_numbers, rfl, we_var rfl ⟨k, ls, rfl, ek, hk, hd, c, by rw [he], by rw [← he]; exact hl, ?_⟩⟩⟩)))⟩⟩)))))
    refine ws_aAppend (we_abt (we_var rfl ⟨rfl, we_str ⟨_, _, rfl, abt_nodes, rfl, wa_cons (we_var rfl (wa_nil ⟨k, rfl, hl, last _ ?_⟩))⟩⟩))
    rw [keep_not c']
    obtain ⟨us, ks, l⟩ := g
    have he' : us = ks := he
    subst he'; rfl
end
end Sf
end
section
set_option Elab.async false
set_option linter.all false
set_option maxRecDepth 100000
set_option maxHeartbeats 2000000
/-! What the evaluator is given, what it leaves. -/
namespace Sf
open PySem L2
abbrev SZ : Nat := 3000
abbrev BD : Nat := 12
structure DsOk (ds : List Df) : Prop where
  rk : RankOk ds
  dl : ds.length ≤ 1000
  bd : ∀ d ∈ ds, d.b.dp ≤ BD ∧ d.b.sz ≤ SZ ∧ arB d.b = true
structure GX where
  r : Nat
  t : T
  th : Env
  tx : Str → Option Nat
  ka : Cnt
  X : Str → Prop
  C : Str → Prop
  m1 : Nat
  m2 : Nat
  ks1 : List Str
  ds1 : List D
  ks2 : List Str
  ds2 : List D
structure GPre (n : Nat) (A : AB) (x : GX) (g : GA) : Prop where
  dso : DsOk A.ds
  gi : g.us = g.ks
  wo : 0 ≤ g.left → Wo g.us
  wf : Wf (sgr A.ds x.r) x.X x.C true x.t
  ar : arB x.t = true
  sz : x.t.sz ≤ SZ
  mu : x.t.dp + x.r * (BD + 1) < n
  pot : g.us.length + SZ * g.left.toNat + x.t.sz ≤ 99000
  xs : ∀ y, x.X y → ∃ i, x.tx y = some i
  ev : 0 ≤ g.left → ∀ y, x.X y → ∃ i v, x.tx y = some i ∧ x.th y = some v ∧ Tr g.us v i
  kac : KaOk x.C x.ka
  s1 : SubD x.m1 (ixD x.tx) x.ks1 x.ds1
  s2 : SubD x.m2 (numD x.ka) x.ks2 x.ds2
  b1 : x.m1 + x.t.dp ≤ 7000
  b2 : x.m2 + x.t.dp ≤ 7000
structure GPost (A : AB) (x : GX) (g : GA) (i : Nat) (g' : GA) : Prop where
  gi : g'.us = g'.ks
  wo : 0 ≤ g'.left → Wo g'.us
  pf : Pfx g.us g'.us
  le : g'.left ≤ g.left
  pot : g'.us.length + SZ * g'.left.toNat ≤ g.us.length + SZ * g.left.toNat + x.t.sz
  neg : g.left < 0 → g' = g
  ev : 0 ≤ g'.left → ∃ c v, Ev A.ds c x.th x.ka (.e x.t v) ∧ Tr g'.us v i
def PreG (n : Nat) (A : AB) (x : GX) (g : GA) (es : List D) : Prop := GPre n A x g ∧ es = [.adr A.b, enc x.t, .dict x.ks1 x.ds1, .dict x.ks2 x.ds2]
def PreGl (n : Nat) (A : AB) (x : GX) (g : GA) (es : List D) : Prop := (∃ i y k a b, x.t = .mk (.loop i y) [k, a, b]) ∧ 0 ≤ g.left ∧ PreG n A x g es
def PreGc (n : Nat) (A : AB) (x : GX) (g : GA) (es : List D) : Prop := (∃ f ts, x.t = .mk (.call f) ts) ∧ 0 ≤ g.left ∧ PreG n A x g es
def RG (A : AB) (x : GX) (g : GA) (r : D) (g' : GA) : Prop := ∃ i : Nat, r = .int (i : Int) ∧ GPost A x g i g'
theorem GPost.len {A : AB} {x : GX} {g g' : GA} {i : Nat} (p : GPost A x g i g') : g'.us.length + SZ * g'.left.toNat ≤ g.us.length + SZ * g.left.toNat + x.t.sz := p.pot
section
variable {M : Frm} {Γ : Ga} {g : M.G} {Q : QE M} {ta tb te tv : TE}
/-- dict(list(d.items()) + [(x, v)]) -/
theorem we_dictAdd (h : WE M ta Γ g fun x g1 => ∃ n f ks ds, x = .dict ks ds ∧ SubD n f ks ds ∧ n + 1 ≤ 1000000 ∧ WE M tb Γ g1 fun y g2 => ∃ s, y = .str s ∧ WE M tv Γ g2 fun e g3 => e.im = true ∧ ∀ ks' ds', SubD (n + 1) (plus f s e) ks' ds' → Q (.dict ks' ds') g3) :
    WE M (tCB (fun xs H Q => ∃ (a : Addr) (ps : List Addr) (kvs : List (Key × V)), xs = [.ref a] ∧ SqL M.K H a (ps.map V.ref) ∧ Paired (fun p kv => SqT M.K H p [kV kv.1, kv.2]) ps kvs ∧ ∀ p, H p = none → Q (.ref p) (upd H p (.dK (mergeK [] kvs))))
      (tCons (tOp rCat (LiI.tListItems ta) (tLst (tCons (tTup (tCons tb (tCons tv tNil))) tNil))) tNil)) Γ g Q := by
  refine we_cb (wa_cons (we_op (we_listItems (WE.mono h fun x g1 hh => ?_))))
  obtain ⟨n, f, ks, ds, rfl, S, hn, h2⟩ := hh
  refine ⟨ks, ds, rfl, S.im, we_lst (wa_cons (we_tup (wa_cons (WE.mono h2 fun y g2 hh => ?_))))⟩
  obtain ⟨s, rfl, h3⟩ := hh
  refine wa_cons (WE.mono h3 fun e g3 hh => ?_)
  obtain ⟨him, q⟩ := hh
  have hz : (zipD ks ds).length ≤ n := by
    have := congrArg List.length S.zip_fst
    rw [List.length_map] at this
    rw [this]; exact S.le
  refine wa_nil ⟨show 2 ≤ sizeLine by decide, wa_nil ⟨show 1 ≤ sizeLine by decide, wr_catL (by rw [List.length_map]; exact lim_line (show (zipD ks ds).length + 1 ≤ 1000000 by omega)) (wa_nil ?_)⟩⟩
  have e1 : ((zipD ks ds).map fun p => pairD p.1 p.2) ++ [D.tup [.str s, e]] = (zipD ks ds ++ [(s, e)]).map fun p => pairD p.1 p.2 := by rw [List.map_append]; rfl
  rw [e1]
  refine wc_dict _ ?_ ?_
  · rw [List.map_append, imL_iff]
    intro d hd
    rcases List.mem_append.mp hd with hd | hd
    · exact imL_iff.mp S.zip_im d hd
    · have hd' : d = pairD s e := List.mem_singleton.mp hd
      rw [hd']
      show (true && (e.im && true)) = true
      rw [him]; rfl
  · rw [S.mg]
    exact q _ _ (S.put him)
end
theorem SubD.dget {n : Nat} {f : Str → Option D} {ks : List Str} {ds : List D} (S : SubD n f ks ds) {s : Str} {d : D} (h : f s = some d) : lkD ks ds s = some d := (S.at' s).trans h
end Sf
end
section
set_option Elab.async false
set_option linter.all false
set_option maxRecDepth 100000
set_option maxHeartbeats 1000000
namespace Sf
open PySem L2
open PyProof.Rows (envOfC)
local macro_rules | `(tactic| walk_at "evS") => `(tactic| first
  | with_reducible refine ws_seq ?_
  | with_reducible refine ws_if ?_
  | with_reducible refine ws_ret ?_
  | ((with_reducible refine' ws_newL ?hi ?_); (case hi => exact rfl))
  | ((with_reducible refine' ws_newD ?hi ?_); (case hi => exact rfl))
  | ((with_reducible refine' ws_listT ?hi ?_); (case hi => exact rfl))
  | ((with_reducible refine' ws_set ?hi ?_); (case hi => exact rfl))
  | with_reducible refine ws_next ?_)
local macro_rules | `(tactic| walk_at "evE2") => `(tactic| first
  | with_reducible refine we_tup ?_
  | ((with_reducible refine' we_lenO ?hv ?_); (case hv => exact rfl))
  | ((with_reducible refine' we_tupO ?hv ?_); (case hv => exact rfl))
  | with_reducible refine we_cb ?_
  | with_reducible refine we_callI ?_
  | with_reducible refine we_callL ?_
  | with_reducible refine we_sl ?_
  | with_reducible refine we_dget ?_
  | with_reducible refine we_get2 ?_
  | with_reducible refine we_ifE ?_
  | with_reducible refine we_andV ?_
  | with_reducible refine we_chain ?_
  | with_reducible refine we_dnewK ?_
  | with_reducible refine we_bl ?_
  | with_reducible refine we_non ?_)
local macro_rules | `(tactic| walk_at "evE") => `(tactic| first
  | ((with_reducible refine' we_var ?hv ?_); (case hv => exact rfl))
  | with_reducible refine we_int ?_
  | with_reducible refine we_str ?_
  | ((with_reducible refine' we_abt (we_var ?hv (And.intro ?he ?_))); (case hv => exact rfl); (case he => exact rfl))
  | with_reducible refine we_callOrd ?_
  | with_reducible refine we_dictAdd ?_
  | with_reducible refine we_callA ?_
  | ((with_reducible refine' we_ixO ?hv ?_); (case hv => exact rfl))
  | with_reducible refine we_op ?_
  | walk_at "evE2")
local macro_rules | `(tactic| walk_at "evW") => `(tactic| first
  | ((with_reducible refine' wr_ixT ?hx ?he ?_); (case hx => exact rfl); (case he => first | exact rfl | exact at0 | exact at1 | exact at2 | exact at3))
  | with_reducible refine wr_eqS ?_
  | with_reducible refine wr_i0 ?_
  | with_reducible refine wr_b0 ?_
  | with_reducible refine wr_eqI ?_
  | with_reducible refine wr_neS ?_
  | ((with_reducible refine' wr_ixL ?he ?_); (case he => first | exact rfl | exact at0 | exact at1 | exact at2 | exact at3)))
local macro_rules | `(tactic| walk_at "evT") => `(tactic| first
  | with_reducible refine wt_test ?_
  | with_reducible refine wt_and ?_
  | with_reducible refine wt_or ?_
  | with_reducible refine wt_not ?_
  | with_reducible refine wt_b ?_)
local macro_rules | `(tactic| walk_at "evM") => `(tactic| first
  | with_reducible refine Exists.intro _ (Exists.intro _ (And.intro rfl (And.intro abt_left ?_)))
  | with_reducible refine Exists.intro _ (Exists.intro _ (And.intro rfl (And.intro abt_defs ?_)))
  | with_reducible refine Exists.intro _ (Exists.intro _ (And.intro rfl (And.intro abt_nodes ?_)))
  | with_reducible refine Exists.intro _ (Exists.intro _ (And.intro rfl (And.intro abt_numbers ?_)))
  | ((with_reducible refine' sl_and ?hs ?_); (case hs => exact rfl))
  | ((with_reducible refine if_t ?hc ?_); (case hc => decide +kernel))
  | ((with_reducible refine if_f ?hc ?_); (case hc => decide +kernel))
  | with_reducible refine wo_none ?_
  | with_reducible refine wo_some ?_
  | ((with_reducible refine' wsl_T ?hx ?_); (case hx => exact rfl))
  | with_reducible refine wsl_L ?_
  | ((with_reducible refine' Exists.intro _ (And.intro ?hx ?_)); (case hx => exact rfl))
  | dsimp only)
local macro_rules | `(tactic| walk_at "ev1") => `(tactic| first
  | with_reducible refine wa_cons ?_
  | with_reducible refine wa_nil ?_
  | ((with_reducible show WE _ _ _ _ _); walk_at "evE")
  | ((with_reducible show WR _ _ _ _ _ _); walk_at "evW")
  | ((with_reducible show WS _ _ _ _ _); walk_at "evS")
  | ((with_reducible show WT _ _ _ _ _); walk_at "evT")
  | walk_at "evM")
local macro_rules | `(tactic| walk_at "ev") => `(tactic| repeat walk_at "ev1")

theorem sc_law_gone : FnScope ["_law_about", "_law_term_here", "_law_things", "_law_counts", "_law_word", "_law_below", "_law_one", "_law_at"] ["_law_about", "_law_term_here", "_law_things", "_law_counts"] (defScope (topS 56)) := ⟨rfl, rfl, rfl, by decide +kernel, rfl, by decide +kernel, by decide +kernel⟩
theorem sc_law_rounds : FnScope ["_law_about", "_law_term_here", "_law_things", "_law_counts", "_law_word", "_law_i", "_law_number_here", "_law_x", "_law_begin", "_law_body", "_law_found", "_law_many", "_law_at", "_law_own"] ["_law_about", "_law_term_here", "_law_things", "_law_counts"] (defScope (topS 55)) := ⟨rfl, rfl, rfl, by decide +kernel, rfl, by decide +kernel, by decide +kernel⟩
theorem sc_law_called : FnScope ["_law_about", "_law_term_here", "_law_things", "_law_counts", "_law_name", "_law_params", "_law_body", "_law_one", "_law_own", "_law_numbers", "_law_x", "_law_sort", "_law_arg"] ["_law_about", "_law_term_here", "_law_things", "_law_counts"] (defScope (topS 54)) := ⟨rfl, rfl, rfl, by decide +kernel, rfl, by decide +kernel, by decide +kernel⟩
theorem nFx_enc (c : Str) : enc (.mk (.fixed c) []) = kD (nFx c) := rfl
theorem arB_mem {h : Hd} {ts : List Sf.T} (e : arB (.mk h ts) = true) {k : Sf.T} (hk : k ∈ ts) : arB k = true := arL_iff.mp (arB_kids e) k hk
theorem sz_mem {h : Hd} {ts : List Sf.T} {k : Sf.T} (hk : k ∈ ts) : k.sz + 1 ≤ (Sf.T.mk h ts).sz := by
  have := szL_mem hk
  show k.sz + 1 ≤ 1 + szL ts
  omega
theorem dp_mem {h : Hd} {ts : List Sf.T} {k : Sf.T} (hk : k ∈ ts) : k.dp + 1 ≤ (Sf.T.mk h ts).dp := dpL_mem hk
/-- a kid, with the same known names -/
theorem GPre.kid {n : Nat} {A : AB} {x : GX} {g g' : GA} {h : Hd} {ts : List Sf.T} {k : Sf.T} (p : GPre (n + 1) A x g) (et : x.t = .mk h ts) (hk : k ∈ ts) (wk : Wf (sgr A.ds x.r) x.X x.C true k)
    (gi : g'.us = g'.ks) (wo : 0 ≤ g'.left → Wo g'.us) (pf : Pfx g.us g'.us) (le : g'.left ≤ g.left) (pot : g'.us.length + SZ * g'.left.toNat + k.sz ≤ 99000) : GPre n A { x with t := k } g' := by
  have h1 := dp_mem (h := h) hk
  have h2 := sz_mem (h := h) hk
  rw [← et] at h1 h2
  have hs := p.sz
  have hm := p.mu
  have hb1 := p.b1
  have hb2 := p.b2
  refine ⟨p.dso, gi, wo, wk, arB_mem (h := h) (ts := ts) (by rw [← et]; exact p.ar) hk, ?_, ?_, pot, p.xs, fun hl y hy => ?_, p.kac, p.s1, p.s2, ?_, ?_⟩
  · show k.sz ≤ SZ; omega
  · show k.dp + x.r * (BD + 1) < n; omega
  · obtain ⟨i, v, e1, e2, e3⟩ := p.ev (by omega) y hy
    exact ⟨i, v, e1, e2, e3.mono pf⟩
  · show x.m1 + k.dp ≤ 7000; omega
  · show x.m2 + k.dp ≤ 7000; omega
section
variable {P : Program} {w : World} {K : PySem.W.Frag} {mg : Str → Option Value} {base : Heap} (T : Tx K mg)
theorem ok_gone_of (n : Nat) (G_law_gone : FnOk P w K mg base CX0 (3 * n + 1) T.law_gone.a T.law_gone.fd ["_law_about", "_law_term_here", "_law_things", "_law_counts"] (spA P w K (PreG n) RG))
    (G_law_rounds : FnOk P w K mg base CX0 (3 * n + 3) T.law_rounds.a T.law_rounds.fd ["_law_about", "_law_term_here", "_law_things", "_law_counts"] (spA P w K (PreGl (n + 1)) RG))
    (G_law_called : FnOk P w K mg base CX0 (3 * n + 3) T.law_called.a T.law_called.fd ["_law_about", "_law_term_here", "_law_things", "_law_counts"] (spA P w K (PreGc (n + 1)) RG)) : FnOk P w K mg base CX0 (3 * (n + 1) + 1) T.law_gone.a T.law_gone.fd ["_law_about", "_law_term_here", "_law_things", "_law_counts"] (spA P w K (PreG (n + 1)) RG) := by
  have G_law_kept := ok_law_kept (P := P) (w := w) (base := base) T
  have G_law_number_at := ok_law_number_at (P := P) (w := w) (base := base) T (n + 1)
  refine def_A T.law_gone.F sc_law_gone (fun A x g es ⟨_, e⟩ => by subst e; rfl) (by decide) (fun cdv A outer s H E hr => ?_)
  have hu := hu_of hr
  have hr_law_gone := hr.mono (show 3 * n + 1 ≤ 3 * (n + 1) by omega)
  have hr_law_rounds := hr.mono (show 3 * n + 3 ≤ 3 * (n + 1) by omega)
  have hr_law_called := hr.mono (show 3 * n + 3 ≤ 3 * (n + 1) by omega)
  have hr_law_kept := hr.mono (show 1 ≤ 3 * (n + 1) by omega)
  have hr_law_number_at := hr.mono (show n + 1 + 1 ≤ 3 * (n + 1) by omega)
  refine ⟨_, (pss_cons (ps_set (i := 4) sc_law_gone.nd rfl (by first | exact Or.inl rfl | exact Or.inr rfl) (pe_ix ix_tup (pv 1) pe_int (fun _ _ => rfl)))
  (pss_cons (ps_if (pt_cmpR op_lt (pe_dget hu (pv 0) pe_str (fun _ _ => rfl)) pe_int (nomark _)) (pss_one (ps_ret pe_int)) pss_nil)
  (pss_cons (ps_if (pt_cmpR op_eq (pv 4) pe_str (nomark _)) (pss_one (ps_ret (pe_dget hu (pv 2) (pe_ix ix_tup (pv 1) pe_int (fun _ _ => rfl)) (fun _ _ => rfl)))) pss_nil)
  (pss_cons (ps_if (pt_cmpR op_eq (pv 4) pe_str (nomark _)) (pss_one (ps_ret (pe_call G_law_kept hr_law_kept (by rfl) T.law_kept.g T.law_kept.F.kp T.law_kept.b .nil pass0 (pa_cons (pv 0) (pa_cons (pv 1) pa_nil))))) pss_nil)
  (pss_cons (ps_if (pt_cmpR op_eq (pv 4) pe_str (nomark _)) (pss_cons (ps_set (i := 5) sc_law_gone.nd rfl (by first | exact Or.inl rfl | exact Or.inr rfl) (pe_callTy call_tuple_of (by rfl) T.ntuple (by decide +kernel) (pa_cons (pe_lc (own := [("_law_one", 6)]) (by rfl) sc_law_gone.nd (pi_tup (pe_ix ix_tup (pv 1) pe_int (fun _ _ => rfl))) (blkOk_by (own := [("_law_one", 6)]) (N := ["_law_about", "_law_term_here", "_law_things", "_law_counts", "_law_word", "_law_below", "_law_one", "_law_at"]) (sc := defScope (topS 56)) (by decide +kernel)) (fun _ _ _ _ _ => (pg_name (i := 6) sc_law_gone.nd rfl (by first | exact Or.inl rfl | exact Or.inr rfl))) (fun _ _ _ _ _ => pts_nil) (fun _ _ _ _ _ => (pe_call G_law_gone hr_law_gone (by rfl) T.law_gone.g T.law_gone.F.kp T.law_gone.b .nil pass0 (pa_cons (pv 0) (pa_cons (pv 6) (pa_cons (pv 2) (pa_cons (pv 3) pa_nil))))))) pa_nil)))
  (pss_cons (ps_dput hu (pv 0) pe_str (pe_op op_sub (pe_dget hu (pv 0) pe_str (fun _ _ => rfl)) pe_int) rfl)
  (pss_one (ps_ret (pe_call G_law_kept hr_law_kept (by rfl) T.law_kept.g T.law_kept.F.kp T.law_kept.b .nil pass0 (pa_cons (pv 0) (pa_cons (pe_tup (pa_cons pe_str (pa_cons (pe_ix ix_tup (pv 1) pe_int (fun _ _ => rfl)) (pa_cons (pv 5) pa_nil)))) pa_nil))))))) pss_nil)
  (pss_cons (ps_if (pt_cmpR op_eq (pv 4) pe_str (nomark _)) (pss_cons (ps_set (i := 6) sc_law_gone.nd rfl (by first | exact Or.inl rfl | exact Or.inr rfl) (pe_call G_law_gone hr_law_gone (by rfl) T.law_gone.g T.law_gone.F.kp T.law_gone.b .nil pass0 (pa_cons (pv 0) (pa_cons (pe_ix ix_tup (pv 1) pe_int (fun _ _ => rfl)) (pa_cons (pv 2) (pa_cons (pv 3) pa_nil))))))
  (pss_one (ps_ret (pe_call G_law_gone hr_law_gone (by rfl) T.law_gone.g T.law_gone.F.kp T.law_gone.b .nil pass0 (pa_cons (pv 0) (pa_cons (pe_ix ix_tup (pv 1) pe_int (fun _ _ => rfl)) (pa_cons (pe_callTy (call_dictP rfl) (by rfl) T.ndict (by decide +kernel) (pa_cons (pe_op op_cat (LiI.pe_listItems rfl (pv 2) (by rfl) T.nlist (by decide +kernel)) (pe_lst (pa_cons (pe_tup (pa_cons (pe_ix ix_tup (pv 1) pe_int (fun _ _ => rfl)) (pa_cons (pv 6) pa_nil))) pa_nil))) pa_nil)) (pa_cons (pv 3) pa_nil)))))))) pss_nil)
  (pss_cons (ps_if (pt_cmpR op_eq (pv 4) pe_str (nomark _)) (pss_one (ps_ret (pe_call G_law_rounds hr_law_rounds (by rfl) T.law_rounds.g T.law_rounds.F.kp T.law_rounds.b .nil pass0 (pa_cons (pv 0) (pa_cons (pv 1) (pa_cons (pv 2) (pa_cons (pv 3) pa_nil))))))) pss_nil)
  (pss_cons (ps_if (pt_cmpR op_eq (pv 4) pe_str (nomark _)) (pss_cons (ps_set (i := 7) sc_law_gone.nd rfl (by first | exact Or.inl rfl | exact Or.inr rfl) (pe_op op_mod (pe_call G_law_number_at hr_law_number_at (by rfl) T.law_number_at.g T.law_number_at.F.kp T.law_number_at.b .nil pass0 (pa_cons (pe_ix ix_tup (pv 1) pe_int (fun _ _ => rfl)) (pa_cons (pv 3) pa_nil))) (pe_callB call_len (by rfl) T.nlen PySem.boot_len (pa_cons (pe_ix ix_tup (pv 1) pe_int (fun _ _ => rfl)) pa_nil))))
  (pss_one (ps_ret (pe_call G_law_gone hr_law_gone (by rfl) T.law_gone.g T.law_gone.F.kp T.law_gone.b .nil pass0 (pa_cons (pv 0) (pa_cons (pe_ix ix_tup (pe_ix ix_tup (pv 1) pe_int (fun _ _ => rfl)) (pv 7) (fun _ _ => rfl)) (pa_cons (pv 2) (pa_cons (pv 3) pa_nil)))))))) pss_nil)
  (pss_one (ps_ret (pe_call G_law_called hr_law_called (by rfl) T.law_called.g T.law_called.F.kp T.law_called.b .nil pass0 (pa_cons (pv 0) (pa_cons (pv 1) (pa_cons (pv 2) (pa_cons (pv 3) pa_nil))))))))))))))), ?_⟩
  dsimp only [cxOf]
  rintro A x g es ⟨p, rfl⟩
  obtain ⟨r, t, th, tx, ka, X, C, m1, m2, ks1, ds1, ks2, ds2⟩ := x
  have hw : Wf (sgr A.ds r) X C true t := p.wf
  have zero : g.left < 0 → (D.int 0).im = true ∧ (D.int 0).im = true ∧ RG A ⟨r, t, th, tx, ka, X, C, m1, m2, ks1, ds1, ks2, ds2⟩ g (.int 0) g := fun hl =>
    ⟨rfl, rfl, 0, rfl, p.gi, p.wo, Pfx.refl _, Int.le_refl _, Nat.le_add_right _ _, fun _ => rfl, fun h => absurd h (by omega)⟩
  cases hw with
  | @name _ _ y hy =>
    walk_at "ev"
    refine if_both (fun c => ?_) (fun c => ?_)
    · walk_at "ev"
      exact zero (of_decide_eq_true c)
    · have hl : 0 ≤ g.left := by have : ¬ g.left < 0 := of_decide_eq_false (Bool.eq_false_iff.mpr c); omega
      walk_at "ev"
      refine ⟨_, _, rfl, ?_⟩
      walk_at "ev"
      obtain ⟨i, v, e1, e2, e3⟩ := p.ev hl y hy
      refine ⟨y, .int (i : Nat), rfl, p.s1.dget (by have e1' : tx y = some i := e1; show ixD tx y = _; unfold ixD; rw [e1']; rfl), rfl, rfl, i, rfl, p.gi, p.wo, Pfx.refl _, Int.le_refl _, Nat.le_add_right _ _, fun h => rfl, fun _ => ⟨0, v, .name e2, e3⟩⟩
  | @fixed _ _ c0 =>
    walk_at "ev"
    refine if_both (fun c => ?_) (fun c => ?_)
    · walk_at "ev"
      exact zero (of_decide_eq_true c)
    · have hl : 0 ≤ g.left := by have : ¬ g.left < 0 := of_decide_eq_false (Bool.eq_false_iff.mpr c); omega
      walk_at "ev"
      have hp := p.pot
      refine ⟨nFx c0, ⟨p.gi, lim_lt (by show _ ≤ 1000000; omega), rfl, (by decide : 1 ≤ 8), ⟨_, rfl⟩, rfl⟩, ?_⟩
      rintro _ _ ⟨rfl, rfl⟩ _
      refine ⟨rfl, rfl, (keep g.us (nFx c0)).2, rfl, rfl, fun _ => (p.wo hl).keep fun d is e => absurd e nFx_nDo, keep_pfx _ _, Int.le_refl _, ?_, fun h => by omega, fun _ => ⟨0, .mk (.fixed c0) [], .fixed, rfl, keep_at _ _⟩⟩
      have := keep_len g.us (nFx c0)
      show (keep g.us (nFx c0)).1.length + SZ * g.left.toNat ≤ g.us.length + SZ * g.left.toNat + 1
      omega
  | input => exact absurd p.ar Bool.false_ne_true
  | @dov _ _ d ts hk =>
    walk_at "ev"
    refine if_both (fun c => ?_) (fun c => ?_)
    · walk_at "ev"
      exact zero (of_decide_eq_true c)
    · have hl : 0 ≤ g.left := by have : ¬ g.left < 0 := of_decide_eq_false (Bool.eq_false_iff.mpr c); omega
      have hp := p.pot
      walk_at "ev"
      have hsz : (Sf.T.mk (.dov d) ts).sz = 1 + szL ts := rfl
      have hp' : g.us.length + SZ * g.left.toNat + (1 + szL ts) ≤ 99000 := hp
      have htl : ts.length ≤ 2 := arB_do p.ar
      refine we_lc (wi_tup kp_rel ?_)
      walk_at "ev"
      refine ⟨encL_im ts, lim_lt (by rw [encL_len]; show _ ≤ 1000000; omega), fun i acc g' => ∃ is : List Nat, acc = is.map (fun (j : Nat) => D.int (j : Int)) ∧ g'.us = g'.ks ∧ (0 ≤ g'.left → Wo g'.us) ∧ Pfx g.us g'.us ∧ g'.left ≤ g.left ∧
        g'.us.length + SZ * g'.left.toNat ≤ g.us.length + SZ * g.left.toNat + szL (ts.take i) ∧ (0 ≤ g'.left → ∃ c vs, Ev A.ds c th ka (.l (ts.take i) vs) ∧ TrL g'.us vs is), ⟨[], rfl, p.gi, p.wo, Pfx.refl _, Int.le_refl _, Nat.le_add_right _ _, fun _ => ⟨0, [], .nil, trivial⟩⟩, fun i acc g' hlt _ ⟨is, ea, q1, q2, q3, q4, q5, q6⟩ => ?_, fun acc g' _ him ⟨is, ea, q1, q2, q3, q4, q5, q6⟩ => ?_⟩
      · rw [encL_len] at hlt
        have ht : ts[i]? = some ts[i] := List.getElem?_eq_getElem hlt
        rw [encL_getD ht]
        refine wg_name rfl rfl (wt_yes (if_t rfl ?_))
        walk_at "ev"
        have hg := szL_take_get ht
        refine ⟨⟨r, ts[i], th, tx, ka, X, C, m1, m2, ks1, ds1, ks2, ds2⟩, ⟨p.kid (h := .dov d) (ts := ts) rfl (List.getElem_mem hlt) (hk _ (List.getElem_mem hlt)) q1 q2 q3 q4 (by omega), rfl⟩, ?_⟩
        rintro _ g2 ⟨j, rfl, z⟩ _
        refine ⟨rfl, is ++ [j], by rw [ea, List.map_append]; rfl, z.gi, z.wo, q3.trans z.pf, Int.le_trans z.le q4, ?_, fun h => ?_⟩
        · have h1 := z.pot
          rw [take_snoc ht, szL_append]
          have h2 : szL [ts[i]] = (ts[i]).sz + 0 := rfl
          have h3 : g2.us.length + SZ * g2.left.toNat ≤ g'.us.length + SZ * g'.left.toNat + (ts[i]).sz := h1
          omega
        · obtain ⟨c1, v1, e1, e2⟩ := z.ev h
          have hle := z.le
          obtain ⟨c0, vs, f1, f2⟩ := q6 (by omega)
          obtain ⟨c', e'⟩ := ev_l_snoc e1 _ _ f1
          rw [take_snoc ht]
          exact ⟨c', vs ++ [v1], e', TrL.snoc e2 (f2.mono z.pf)⟩
      · rw [encL_len, List.take_length] at q5 q6
        subst ea
        walk_at "ev"
        refine wc_tupL ?_
        walk_at "ev"
        refine ws_aLeft ?_
        walk_at "ev"
        refine ⟨rfl, ?_⟩
        walk_at "ev"
        refine ⟨rfl, _, rfl, ?_⟩
        walk_at "ev"
        have ul : g'.us.length ≤ 99000 := by omega
        refine ⟨nDo d is, ⟨q1, lim_lt (by show g'.us.length ≤ 1000000; omega), kOk_do d is, dp_do d is, ⟨_, rfl⟩, by rw [kD_do]⟩, ?_⟩
        rintro _ _ ⟨rfl, rfl⟩ _
        have kl := keep_len g'.us (nDo d is)
        refine ⟨rfl, rfl, (keep g'.us (nDo d is)).2, rfl, rfl, fun h => ?_, q3.trans (keep_pfx _ _), ?_, ?_, fun h => by omega, fun h => ?_⟩
        · have h' : (0 : Int) ≤ g'.left - 1 := h
          obtain ⟨c0, vs, f1, f2⟩ := q6 (by omega)
          refine (q2 (by omega)).keep fun d' is' e => ?_
          obtain ⟨_, e2⟩ := nDo_inj e
          subst e2
          have hlen : is.length = ts.length := by
            have := f2.length
            have h3 : vs.length = ts.length := by
              have : ∀ (ts vs : List Sf.T) (c : Nat), Ev A.ds c th ka (.l ts vs) → vs.length = ts.length := by
                intro ts
                induction ts with
                | nil => intro vs c h; cases h; rfl
                | cons t ts ih => intro vs c h; cases h with | cons _ h2 => exact congrArg (· + 1) (ih _ _ h2)
              exact this ts vs c0 f1
            omega
          exact ⟨by omega, trL_lt f2⟩
        · show g'.left - 1 ≤ g.left; omega
        · show (keep g'.us (nDo d is)).1.length + SZ * (g'.left - 1).toNat ≤ g.us.length + SZ * g.left.toNat + (1 + szL ts)
          have : (g'.left - 1).toNat ≤ g'.left.toNat := by omega
          have := Nat.mul_le_mul_left SZ this
          omega
        · have h' : (0 : Int) ≤ g'.left - 1 := h
          obtain ⟨c0, vs, f1, f2⟩ := q6 (by omega)
          exact ⟨c0, .mk (.dov d) vs, .dov f1, is, keep_at _ _, f2.mono (keep_pfx _ _)⟩
  | @letv _ _ y t1 t2 w1 w2 =>
    walk_at "ev"
    refine if_both (fun c => ?_) (fun c => ?_)
    · walk_at "ev"
      exact zero (of_decide_eq_true c)
    · have hl : 0 ≤ g.left := by have : ¬ g.left < 0 := of_decide_eq_false (Bool.eq_false_iff.mpr c); omega
      have hp := p.pot
      walk_at "ev"
      have hsz : (Sf.T.mk (.letv y) [t1, t2]).sz = 1 + (t1.sz + (t2.sz + 0)) := rfl
      have hp' : g.us.length + SZ * g.left.toNat + (1 + (t1.sz + (t2.sz + 0))) ≤ 99000 := hp
      have hm : t2 ∈ [t1, t2] := List.mem_cons_of_mem _ List.mem_cons_self
      refine ⟨⟨r, t1, th, tx, ka, X, C, m1, m2, ks1, ds1, ks2, ds2⟩, ⟨p.kid (h := .letv y) (ts := [t1, t2]) rfl List.mem_cons_self w1 p.gi p.wo (Pfx.refl _) (Int.le_refl _) (by omega), rfl⟩, ?_⟩
      rintro _ g1 ⟨i1, rfl, z1⟩ _
      have z1p : g1.us.length + SZ * g1.left.toNat ≤ g.us.length + SZ * g.left.toNat + t1.sz := z1.pot
      have z1l := z1.le
      walk_at "ev"
      have hb1 : m1 + (Sf.T.mk (.letv y) [t1, t2]).dp ≤ 7000 := p.b1
      refine ⟨m1, _, ks1, ds1, rfl, p.s1, by omega, ?_⟩
      walk_at "ev"
      refine ⟨rfl, fun ks' ds' S' => ?_⟩
      rw [ixD_plus] at S'
      walk_at "ev"
      obtain ⟨th', hth⟩ : ∃ th' : Env, 0 ≤ g1.left → ∃ c va, Ev A.ds c th ka (.e t1 va) ∧ Tr g1.us va i1 ∧ th' = plus th y va := by
        by_cases h : 0 ≤ g1.left
        · obtain ⟨c, va, e1, e2⟩ := z1.ev h
          exact ⟨_, fun _ => ⟨c, va, e1, e2, rfl⟩⟩
        · exact ⟨th, fun h' => absurd h' h⟩
      have k2 := p.kid (h := .letv y) (ts := [t1, t2]) (g' := g1) (k := t2) rfl hm
      have hd2 := dp_mem (h := .letv y) hm
      have hs2 := sz_mem (h := .letv y) hm
      have hmu : (Sf.T.mk (.letv y) [t1, t2]).dp + r * (BD + 1) < n + 1 := p.mu
      have hb2 : m2 + (Sf.T.mk (.letv y) [t1, t2]).dp ≤ 7000 := p.b2
      have hSZ : (Sf.T.mk (.letv y) [t1, t2]).sz ≤ SZ := p.sz
      refine ⟨⟨r, t2, th', plus tx y i1, ka, fun z => z = y ∨ X z, C, m1 + 1, m2, ks', ds', ks2, ds2⟩, ⟨⟨p.dso, z1.gi, z1.wo, w2, arB_mem p.ar hm, by show t2.sz ≤ SZ; omega, by show t2.dp + r * (BD + 1) < n; omega, by show g1.us.length + SZ * g1.left.toNat + t2.sz ≤ 99000; omega, fun z hz => ?_, fun h z hz => ?_, p.kac, S', p.s2, by show m1 + 1 + t2.dp ≤ 7000; omega, by show m2 + t2.dp ≤ 7000; omega⟩, rfl⟩, ?_⟩
      · show ∃ i, plus tx y i1 z = some i
        unfold plus
        by_cases c : z = y
        · rw [if_pos c]; exact ⟨_, rfl⟩
        · rw [if_neg c]; exact p.xs z (hz.resolve_left c)
      · obtain ⟨c, va, e1, e2, e3⟩ := hth h
        subst e3
        show ∃ i v, plus tx y i1 z = some i ∧ plus th y va z = some v ∧ Tr g1.us v i
        unfold plus
        by_cases c : z = y
        · rw [if_pos c, if_pos c]; exact ⟨_, _, rfl, rfl, e2⟩
        · rw [if_neg c, if_neg c]
          obtain ⟨i, v, f1, f2, f3⟩ := p.ev hl z (hz.resolve_left c)
          exact ⟨i, v, f1, f2, f3.mono z1.pf⟩
      · rintro _ g2 ⟨i2, rfl, z2⟩ _
        have z2p : g2.us.length + SZ * g2.left.toNat ≤ g1.us.length + SZ * g1.left.toNat + t2.sz := z2.pot
        have z2l := z2.le
        refine ⟨rfl, rfl, i2, rfl, z2.gi, z2.wo, z1.pf.trans z2.pf, Int.le_trans z2.le z1.le, ?_, fun h => absurd hl (by show ¬ 0 ≤ g.left; omega), fun h => ?_⟩
        · show g2.us.length + SZ * g2.left.toNat ≤ g.us.length + SZ * g.left.toNat + (1 + (t1.sz + (t2.sz + 0))); omega
        · obtain ⟨c1, va, e1, e2, e3⟩ := hth (by omega)
          subst e3
          obtain ⟨c2, v, f1, f2⟩ := z2.ev h
          exact ⟨_, v, .letv e1 f1, f2⟩
  | loop w0 w1 w2 =>
    walk_at "ev"
    refine if_both (fun c => ?_) (fun c => ?_)
    · walk_at "ev"
      exact zero (of_decide_eq_true c)
    · have hl : 0 ≤ g.left := by have : ¬ g.left < 0 := of_decide_eq_false (Bool.eq_false_iff.mpr c); omega
      have hp := p.pot
      walk_at "ev"
      exact ⟨⟨r, _, th, tx, ka, X, C, m1, m2, ks1, ds1, ks2, ds2⟩, ⟨⟨_, _, _, _, _, rfl⟩, hl, p, rfl⟩, fun _ _ h him => ⟨him, him, h⟩⟩
  | @pick _ _ nn ts w0 hne hk =>
    walk_at "ev"
    refine if_both (fun c => ?_) (fun c => ?_)
    · walk_at "ev"
      exact zero (of_decide_eq_true c)
    · have hl : 0 ≤ g.left := by have : ¬ g.left < 0 := of_decide_eq_false (Bool.eq_false_iff.mpr c); omega
      have hp := p.pot
      walk_at "ev"
      obtain ⟨v, hv, v0, v1⟩ := nvo_wf w0 rfl ka p.kac
      have hpos : 0 < ts.length := by cases ts with | nil => exact absurd rfl hne | cons => exact Nat.succ_pos _
      have hmu : (Sf.T.mk .pick (nn :: ts)).dp + r * (BD + 1) < n + 1 := p.mu
      have hdn := dp_mem (h := .pick) (ts := nn :: ts) List.mem_cons_self
      refine ⟨.int v, ⟨nn, _, X, C, ka, v, m2, ks2, ds2, w0, p.kac, hv, by omega, p.s2, rfl, rfl⟩, rfl, ?_⟩
      walk_at "ev"
      refine wc_len (n := ts.length) (encL_len ts).symm ?_
      refine wr_iC (by show 0 < ((ts.length : Nat) : Int); omega) ?_
      walk_at "ev"
      have hm1 : 0 ≤ v % (ts.length : Int) := Int.emod_nonneg _ (by omega)
      have hm2 : v % (ts.length : Int) < ts.length := Int.emod_lt_of_pos _ (by omega)
      have hj : (v % (ts.length : Int)).toNat < ts.length := by omega
      have ej : ts[(v % (ts.length : Int)).toNat]? = some ts[(v % (ts.length : Int)).toNat] := List.getElem?_eq_getElem hj
      have hat := atI_nat (xs := encL ts) (j := (v % (ts.length : Int)).toNat) (v := enc ts[(v % (ts.length : Int)).toNat]) (by rw [encL_get, ej]; rfl)
      rw [Int.toNat_of_nonneg hm1] at hat
      refine wr_ixT rfl hat ?_
      walk_at "ev"
      have hmem : ts[(v % (ts.length : Int)).toNat] ∈ nn :: ts := List.mem_cons_of_mem _ (List.getElem_mem hj)
      have hsk := sz_mem (h := .pick) hmem
      refine ⟨⟨r, ts[(v % (ts.length : Int)).toNat], th, tx, ka, X, C, m1, m2, ks1, ds1, ks2, ds2⟩, ⟨p.kid (h := .pick) (ts := nn :: ts) rfl hmem (hk _ (List.getElem_mem hj)) p.gi p.wo (Pfx.refl _) (Int.le_refl _) (by
        have hp' : g.us.length + SZ * g.left.toNat + (Sf.T.mk .pick (nn :: ts)).sz ≤ 99000 := hp
        omega), rfl⟩, ?_⟩
      rintro _ g2 ⟨i2, rfl, z2⟩ _
      have z2p : g2.us.length + SZ * g2.left.toNat ≤ g.us.length + SZ * g.left.toNat + (ts[(v % (ts.length : Int)).toNat]).sz := z2.pot
      refine ⟨rfl, rfl, i2, rfl, z2.gi, z2.wo, z2.pf, z2.le, ?_, fun h => absurd hl (by show ¬ 0 ≤ g.left; omega), fun h => ?_⟩
      · show g2.us.length + SZ * g2.left.toNat ≤ g.us.length + SZ * g.left.toNat + (Sf.T.mk .pick (nn :: ts)).sz; omega
      · obtain ⟨c2, u, f1, f2⟩ := z2.ev h
        exact ⟨_, u, .pick hv ej f1, f2⟩
  | call hf hl2 hk =>
    walk_at "ev"
    refine if_both (fun c => ?_) (fun c => ?_)
    · walk_at "ev"
      exact zero (of_decide_eq_true c)
    · have hl : 0 ≤ g.left := by have : ¬ g.left < 0 := of_decide_eq_false (Bool.eq_false_iff.mpr c); omega
      have hp := p.pot
      walk_at "ev"
      exact ⟨⟨r, _, th, tx, ka, X, C, m1, m2, ks1, ds1, ks2, ds2⟩, ⟨⟨_, _, rfl⟩, hl, p, rfl⟩, fun _ _ h him => ⟨him, him, h⟩⟩
end
end Sf
end
section
set_option Elab.async false
set_option linter.all false
set_option maxRecDepth 100000
set_option maxHeartbeats 1000000
namespace Sf
open PySem L2
open PyProof.Rows (envOfC)
local macro_rules | `(tactic| walk_at "evS") => `(tactic| first
  | with_reducible refine ws_seq ?_
  | with_reducible refine ws_if ?_
  | with_reducible refine ws_ret ?_
  | ((with_reducible refine' ws_newL ?hi ?_); (case hi => exact rfl))
  | ((with_reducible refine' ws_newD ?hi ?_); (case hi => exact rfl))
  | ((with_reducible refine' ws_listT ?hi ?_); (case hi => exact rfl))
  | ((with_reducible refine' ws_set ?hi ?_); (case hi => exact rfl))
  | with_reducible refine ws_next ?_)
local macro_rules | `(tactic| walk_at "evE2") => `(tactic| first
  | with_reducible refine we_tup ?_
  | ((with_reducible refine' we_lenO ?hv ?_); (case hv => exact rfl))
  | ((with_reducible refine' we_tupO ?hv ?_); (case hv => exact rfl))
  | with_reducible refine we_cb ?_
  | with_reducible refine we_callI ?_
  | with_reducible refine we_callL ?_
  | with_reducible refine we_sl ?_
  | with_reducible refine we_dget ?_
  | with_reducible refine we_get2 ?_
  | with_reducible refine we_ifE ?_
  | with_reducible refine we_andV ?_
  | with_reducible refine we_chain ?_
  | with_reducible refine we_dnewK ?_
  | with_reducible refine we_bl ?_
  | with_reducible refine we_non ?_)
local macro_rules | `(tactic| walk_at "evE") => `(tactic| first
  | ((with_reducible refine' we_var ?hv ?_); (case hv => exact rfl))
  | with_reducible refine we_int ?_
  | with_reducible refine we_str ?_
  | ((with_reducible refine' we_abt (we_var ?hv (And.intro ?he ?_))); (case hv => exact rfl); (case he => exact rfl))
  | with_reducible refine we_callOrd ?_
  | with_reducible refine we_dictAdd ?_
  | with_reducible refine we_callA ?_
  | ((with_reducible refine' we_ixO ?hv ?_); (case hv => exact rfl))
  | with_reducible refine we_op ?_
  | walk_at "evE2")
local macro_rules | `(tactic| walk_at "evW") => `(tactic| first
  | ((with_reducible refine' wr_ixT ?hx ?he ?_); (case hx => exact rfl); (case he => first | exact rfl | exact at0 | exact at1 | exact at2 | exact at3))
  | with_reducible refine wr_eqS ?_
  | with_reducible refine wr_i0 ?_
  | with_reducible refine wr_b0 ?_
  | with_reducible refine wr_eqI ?_
  | with_reducible refine wr_neS ?_
  | ((with_reducible refine' wr_ixL ?he ?_); (case he => first | exact rfl | exact at0 | exact at1 | exact at2 | exact at3)))
local macro_rules | `(tactic| walk_at "evT") => `(tactic| first
  | with_reducible refine wt_test ?_
  | with_reducible refine wt_and ?_
  | with_reducible refine wt_or ?_
  | with_reducible refine wt_not ?_
  | with_reducible refine wt_b ?_)
local macro_rules | `(tactic| walk_at "evM") => `(tactic| first
  | with_reducible refine Exists.intro _ (Exists.intro _ (And.intro rfl (And.intro abt_left ?_)))
  | with_reducible refine Exists.intro _ (Exists.intro _ (And.intro rfl (And.intro abt_defs ?_)))
  | with_reducible refine Exists.intro _ (Exists.intro _ (And.intro rfl (And.intro abt_nodes ?_)))
  | with_reducible refine Exists.intro _ (Exists.intro _ (And.intro rfl (And.intro abt_numbers ?_)))
  | ((with_reducible refine' sl_and ?hs ?_); (case hs => exact rfl))
  | ((with_reducible refine if_t ?hc ?_); (case hc => decide +kernel))
  | ((with_reducible refine if_f ?hc ?_); (case hc => decide +kernel))
  | with_reducible refine wo_none ?_
  | with_reducible refine wo_some ?_
  | ((with_reducible refine' wsl_T ?hx ?_); (case hx => exact rfl))
  | with_reducible refine wsl_L ?_
  | ((with_reducible refine' Exists.intro _ (And.intro ?hx ?_)); (case hx => exact rfl))
  | dsimp only)
local macro_rules | `(tactic| walk_at "ev1") => `(tactic| first
  | with_reducible refine wa_cons ?_
  | with_reducible refine wa_nil ?_
  | ((with_reducible show WE _ _ _ _ _); walk_at "evE")
  | ((with_reducible show WR _ _ _ _ _ _); walk_at "evW")
  | ((with_reducible show WS _ _ _ _ _); walk_at "evS")
  | ((with_reducible show WT _ _ _ _ _); walk_at "evT")
  | walk_at "evM")
local macro_rules | `(tactic| walk_at "ev") => `(tactic| repeat walk_at "ev1")

section
variable {M : Frm} {Γ : Ga} {g : M.G} {E : AE M}
theorem ws_parDD {i j : Nat} (hi : Nat.blt i Γ.length = true) (hj : Nat.blt j Γ.length = true) (q : E.nx ((Γ.set i (some (.ownd [] []))).set j (some (.ownd [] []))) g) : WS M (tPar i j (tCons tDNewK (tCons tDNewK tNil))) Γ g E := fun σ H o j0 D' p a ha b hb => by
  have o1 := o.newOwn (d := .ownd [] []) j0 (Nat.le_of_ble_eq_true hi) ha rfl ⟨[], upd_same, rfl, trivial⟩
  have j1 := M.same j0 (same_new (o := .dK []) ha)
  have o2 := o1.newOwn (d := .ownd [] []) (ob := .dK []) j1 (by rw [List.length_set]; exact Nat.le_of_ble_eq_true hj) hb rfl ⟨[], upd_same, rfl, trivial⟩
  exact ⟨_, _, rfl, p.nx _ _ _ g ((Kp.new (F := M.F) ha).trans (Kp.new hb)).tk o2 (M.same j1 (same_new hb)) q⟩
end
theorem szmul {l : Int} (h : 1 ≤ l) : SZ * l.toNat = SZ * (l - 1).toNat + SZ := by
  have e : l.toNat = (l - 1).toNat + 1 := by omega
  rw [e, Nat.mul_add, Nat.mul_one]
section
variable {P : Program} {w : World} {K : PySem.W.Frag} {mg : Str → Option Value} {base : Heap} (T : Tx K mg)
theorem ok_rounds_of (n : Nat) (G_law_gone : FnOk P w K mg base CX0 (3 * n + 1) T.law_gone.a T.law_gone.fd ["_law_about", "_law_term_here", "_law_things", "_law_counts"] (spA P w K (PreG n) RG)) :
    FnOk P w K mg base CX0 (3 * n + 3) T.law_rounds.a T.law_rounds.fd ["_law_about", "_law_term_here", "_law_things", "_law_counts"] (spA P w K (PreGl (n + 1)) RG) := by
  have G_law_number_at := ok_law_number_at (P := P) (w := w) (base := base) T n
  refine def_A T.law_rounds.F sc_law_rounds (fun A x g es ⟨_, _, _, e⟩ => by subst e; rfl) (by decide) (fun cdv A outer s H E hr => ?_)
  have hu := hu_of hr
  have hr_law_gone := hr.mono (show 3 * n + 1 ≤ 3 * n + 2 by omega)
  have hr_law_number_at := hr.mono (show n + 1 ≤ 3 * n + 2 by omega)
  refine ⟨_, (pss_cons (ps_asg (pv 1) (pg_tup (by rfl) (pgs_cons (pg_name (i := 4) sc_law_rounds.nd rfl (by first | exact Or.inl rfl | exact Or.inr rfl)) (pgs_cons (pg_name (i := 5) sc_law_rounds.nd rfl (by first | exact Or.inl rfl | exact Or.inr rfl)) (pgs_cons (pg_name (i := 6) sc_law_rounds.nd rfl (by first | exact Or.inl rfl | exact Or.inr rfl)) (pgs_cons (pg_name (i := 7) sc_law_rounds.nd rfl (by first | exact Or.inl rfl | exact Or.inr rfl)) (pgs_cons (pg_name (i := 8) sc_law_rounds.nd rfl (by first | exact Or.inl rfl | exact Or.inr rfl)) (pgs_cons (pg_name (i := 9) sc_law_rounds.nd rfl (by first | exact Or.inl rfl | exact Or.inr rfl)) pgs_nil))))))))
  (pss_cons (ps_set (i := 10) sc_law_rounds.nd rfl (by first | exact Or.inl rfl | exact Or.inr rfl) (pe_call G_law_gone hr_law_gone (by rfl) T.law_gone.g T.law_gone.F.kp T.law_gone.b .nil pass0 (pa_cons (pv 0) (pa_cons (pv 8) (pa_cons (pv 2) (pa_cons (pv 3) pa_nil))))))
  (pss_cons (ps_set (i := 11) sc_law_rounds.nd rfl (by first | exact Or.inl rfl | exact Or.inr rfl) (pe_call G_law_number_at hr_law_number_at (by rfl) T.law_number_at.g T.law_number_at.F.kp T.law_number_at.b .nil pass0 (pa_cons (pv 6) (pa_cons (pv 3) pa_nil))))
  (pss_cons (ps_set (i := 12) sc_law_rounds.nd rfl (by first | exact Or.inl rfl | exact Or.inr rfl) pe_int)
  (pss_cons (ps_while PassesOwn.never (PW.pt (pw_and (pt_cmpR op_lt (pv 12) (pv 11) (nomark _)) (pw_and1 (pt_cmpR op_ge (pe_dget hu (pv 0) pe_str (fun _ _ => rfl)) pe_int (nomark _))))) (pss_cons (ps_dput hu (pv 0) pe_str (pe_op op_sub (pe_dget hu (pv 0) pe_str (fun _ _ => rfl)) pe_int) rfl)
  (pss_cons (ps_set (i := 13) sc_law_rounds.nd rfl (by first | exact Or.inl rfl | exact Or.inr rfl) (pe_callTy (call_dictP rfl) (by rfl) T.ndict (by decide +kernel) (pa_cons (pe_op op_cat (LiI.pe_listItems rfl (pv 2) (by rfl) T.nlist (by decide +kernel)) (pe_lst (pa_cons (pe_tup (pa_cons (pv 7) (pa_cons (pv 10) pa_nil))) pa_nil))) pa_nil)))
  (pss_cons (ps_set (i := 10) sc_law_rounds.nd rfl (by first | exact Or.inl rfl | exact Or.inr rfl) (pe_call G_law_gone hr_law_gone (by rfl) T.law_gone.g T.law_gone.F.kp T.law_gone.b .nil pass0 (pa_cons (pv 0) (pa_cons (pv 9) (pa_cons (pv 13) (pa_cons (pe_callTy (call_dictP rfl) (by rfl) T.ndict (by decide +kernel) (pa_cons (pe_op op_cat (LiI.pe_listItems rfl (pv 3) (by rfl) T.nlist (by decide +kernel)) (pe_lst (pa_cons (pe_tup (pa_cons (pv 5) (pa_cons (pv 12) pa_nil))) pa_nil))) pa_nil)) pa_nil))))))
  (pss_one (ps_set (i := 12) sc_law_rounds.nd rfl (by first | exact Or.inl rfl | exact Or.inr rfl) (pe_op op_add (pv 12) pe_int)))))))
  (pss_one (ps_ret (pv 10)))))))), ?_⟩
  dsimp only [cxOf]
  rintro A x g es ⟨⟨li, ly, nn, a, b, et⟩, hl, p, rfl⟩
  obtain ⟨r, t, th, tx, ka, X, C, m1, m2, ks1, ds1, ks2, ds2⟩ := x
  have et' : t = .mk (.loop li ly) [nn, a, b] := et
  subst et'
  have hw : Wf (sgr A.ds r) X C true (.mk (.loop li ly) [nn, a, b]) := p.wf
  cases hw with
  | loop w0 w1 w2 =>
    obtain ⟨v, hv, v0, v1⟩ := nvo_wf w0 rfl ka p.kac
    obtain ⟨kv, rfl⟩ : ∃ kv : Nat, v = (kv : Int) := ⟨v.toNat, by omega⟩
    have hma : a ∈ [nn, a, b] := List.mem_cons_of_mem _ List.mem_cons_self
    have hmb : b ∈ [nn, a, b] := List.mem_cons_of_mem _ (List.mem_cons_of_mem _ List.mem_cons_self)
    have hsz : (Sf.T.mk (.loop li ly) [nn, a, b]).sz = 1 + (nn.sz + (a.sz + (b.sz + 0))) := rfl
    have hp' : g.us.length + SZ * g.left.toNat + (1 + (nn.sz + (a.sz + (b.sz + 0)))) ≤ 99000 := p.pot
    have hb1 : m1 + (Sf.T.mk (.loop li ly) [nn, a, b]).dp ≤ 7000 := p.b1
    have hb2 : m2 + (Sf.T.mk (.loop li ly) [nn, a, b]).dp ≤ 7000 := p.b2
    have hmu : (Sf.T.mk (.loop li ly) [nn, a, b]).dp + r * (BD + 1) < n + 1 := p.mu
    have hSZ : (Sf.T.mk (.loop li ly) [nn, a, b]).sz ≤ SZ := p.sz
    have hd0 := dp_mem (h := .loop li ly) (ts := [nn, a, b]) List.mem_cons_self
    have hdb := dp_mem (h := .loop li ly) hmb
    have hsb : b.sz ≤ SZ := by omega
    walk_at "ev"
    refine ws_asg ?_
    walk_at "ev"
    refine wg_tup rfl rfl (wgs_cons rfl rfl (wgs_cons rfl rfl (wgs_cons rfl rfl (wgs_cons rfl rfl (wgs_cons rfl rfl (wgs_cons rfl rfl (wgs_nil ?_)))))))
    walk_at "ev"
    refine ⟨⟨r, a, th, tx, ka, X, C, m1, m2, ks1, ds1, ks2, ds2⟩, ⟨p.kid (h := .loop li ly) (ts := [nn, a, b]) rfl hma w1 p.gi p.wo (Pfx.refl _) (Int.le_refl _) (by omega), rfl⟩, ?_⟩
    rintro _ g1 ⟨i1, rfl, z1⟩ _
    have z1p : g1.us.length + SZ * g1.left.toNat ≤ g.us.length + SZ * g.left.toNat + a.sz := z1.pot
    have z1l := z1.le
    walk_at "ev"
    refine ⟨.int (kv : Int), ⟨nn, _, X, C, ka, (kv : Int), m2, ks2, ds2, w0, p.kac, hv, by omega, p.s2, rfl, rfl⟩, rfl, ?_⟩
    walk_at "ev"
    refine ws_while (fun m Γ' g' => ∃ (fi k : Nat) (x13 : Option SD), m = kv - k ∧ k ≤ kv ∧ Γ' = [some (.d (.adr A.b)), some (.d (enc (.mk (.loop li ly) [nn, a, b]))), some (.d (.dict ks1 ds1)), some (.d (.dict ks2 ds2)), some (.d (.str "loop")), some (.d (.str li)), some (.d (enc nn)), some (.d (.str ly)), some (.d (enc a)), some (.d (enc b)), some (.d (.int (fi : Int))), some (.d (.int (kv : Int))), some (.d (.int (k : Int))), x13] ∧
      g'.us = g'.ks ∧ (0 ≤ g'.left → Wo g'.us) ∧ Pfx g.us g'.us ∧ g'.left ≤ g.left ∧ g'.us.length + SZ * g'.left.toNat ≤ g.us.length + SZ * g.left.toNat + a.sz ∧
      (0 ≤ g'.left → ∃ c1 va c2 v1, Ev A.ds c1 th ka (.e a va) ∧ Ev A.ds c2 th ka (.r li ly b k va v1) ∧ Tr g'.us v1 fi)) kv
      ⟨i1, 0, none, rfl, Nat.zero_le _, rfl, z1.gi, z1.wo, z1.pf, z1.le, z1p, fun h => by
        obtain ⟨c, va, e1, e2⟩ := z1.ev h
        exact ⟨c, va, 0, va, e1, .r0, e2⟩⟩ ?_
    rintro m Γ' g' ⟨fi, k, x13, hmk, hk, rfl, q1, q2, q3, q4, q5, q6⟩
    have last : (0 ≤ g'.left → k = kv) → WS (frmA P w K H A) (tRet (tVar 10)) [some (.d (.adr A.b)), some (.d (enc (.mk (.loop li ly) [nn, a, b]))), some (.d (.dict ks1 ds1)), some (.d (.dict ks2 ds2)), some (.d (.str "loop")), some (.d (.str li)), some (.d (enc nn)), some (.d (.str ly)), some (.d (enc a)), some (.d (enc b)), some (.d (.int (fi : Int))), some (.d (.int (kv : Int))), some (.d (.int (k : Int))), x13] g'
        { nx := fun _ _ => False, rt := fun d g2 => d.im = true ∧ RG A ⟨r, .mk (.loop li ly) [nn, a, b], th, tx, ka, X, C, m1, m2, ks1, ds1, ks2, ds2⟩ g d g2 } := fun hkk => by
      refine ws_ret (we_var rfl ⟨rfl, rfl, fi, rfl, q1, q2, q3, q4, ?_, fun h => absurd hl (by show ¬ 0 ≤ g.left; omega), fun h => ?_⟩)
      · show g'.us.length + SZ * g'.left.toNat ≤ g.us.length + SZ * g.left.toNat + (1 + (nn.sz + (a.sz + (b.sz + 0)))); omega
      · obtain ⟨c1, va, c2, u, e1, e2, e3⟩ := q6 h
        have := hkk h
        subst this
        exact ⟨_, u, .loop e1 hv e2, e3⟩
    walk_at "ev"
    refine if_both (fun c => ?_) (fun c => ?_)
    · walk_at "ev"
      refine if_both (fun c2 => ?_) (fun c2 => ?_)
      · have hkv : k < kv := by have : (k : Int) < kv := of_decide_eq_true c; omega
        have hg0 : 0 ≤ g'.left := by have : g'.left ≥ 0 := of_decide_eq_true c2; omega
        walk_at "ev"
        refine ws_aLeft ?_
        walk_at "ev"
        refine ⟨rfl, ?_⟩
        walk_at "ev"
        refine ⟨rfl, _, rfl, ?_⟩
        walk_at "ev"
        refine ⟨m1, _, ks1, ds1, rfl, p.s1, by omega, ?_⟩
        walk_at "ev"
        refine ⟨rfl, fun ks' ds' S1' => ?_⟩
        rw [ixD_plus] at S1'
        walk_at "ev"
        refine ⟨m2, _, ks2, ds2, rfl, p.s2, by omega, ?_⟩
        walk_at "ev"
        refine ⟨rfl, fun kc' dc' S2' => ?_⟩
        rw [numD_plus] at S2'
        walk_at "ev"
        obtain ⟨th', hth⟩ : ∃ th' : Env, 0 ≤ g'.left → ∃ c1 va c2 v1, Ev A.ds c1 th ka (.e a va) ∧ Ev A.ds c2 th ka (.r li ly b k va v1) ∧ Tr g'.us v1 fi ∧ th' = plus th ly v1 := by
          obtain ⟨c1, va, c2, u, e1, e2, e3⟩ := q6 hg0
          exact ⟨_, fun _ => ⟨c1, va, c2, u, e1, e2, e3, rfl⟩⟩
        have potB : g'.us.length + SZ * (g'.left - 1).toNat + b.sz ≤ 99000 := by
          by_cases h1 : 1 ≤ g'.left
          · have := szmul h1; omega
          · have : (g'.left - 1).toNat = 0 := by omega
            rw [this]; omega
        refine ⟨⟨r, b, th', plus tx ly fi, plus ka li (k : Int), fun z => z = ly ∨ X z, fun j => j = li ∨ C j, m1 + 1, m2 + 1, ks', ds', kc', dc'⟩, ⟨⟨p.dso, q1, fun h => q2 hg0, w2, arB_mem p.ar hmb, hsb, by show b.dp + r * (BD + 1) < n; omega, potB, fun z hz => ?_, fun h z hz => ?_, fun z hz => ?_, S1', S2', by show m1 + 1 + b.dp ≤ 7000; omega, by show m2 + 1 + b.dp ≤ 7000; omega⟩, rfl⟩, ?_⟩
        · show ∃ i, plus tx ly fi z = some i
          unfold plus
          by_cases c : z = ly
          · rw [if_pos c]; exact ⟨_, rfl⟩
          · rw [if_neg c]; exact p.xs z (hz.resolve_left c)
        · obtain ⟨c1, va, c2, u, e1, e2, e3, e4⟩ := hth hg0
          subst e4
          show ∃ i v, plus tx ly fi z = some i ∧ plus th ly u z = some v ∧ Tr g'.us v i
          unfold plus
          by_cases c : z = ly
          · rw [if_pos c, if_pos c]; exact ⟨_, _, rfl, rfl, e3⟩
          · rw [if_neg c, if_neg c]
            obtain ⟨i, v, f1, f2, f3⟩ := p.ev hl z (hz.resolve_left c)
            exact ⟨i, v, f1, f2, f3.mono q3⟩
        · show ∃ v, plus ka li (k : Int) z = some v ∧ 0 ≤ v ∧ v < 1000000
          unfold plus
          by_cases c : z = li
          · rw [if_pos c]; exact ⟨_, rfl, by omega, by omega⟩
          · rw [if_neg c]; exact p.kac z (hz.resolve_left c)
        · rintro _ g2 ⟨i2, rfl, z2⟩ _
          have z2p : g2.us.length + SZ * g2.left.toNat ≤ g'.us.length + SZ * (g'.left - 1).toNat + b.sz := z2.pot
          have z2l : g2.left ≤ g'.left - 1 := z2.le
          walk_at "ev"
          refine ⟨kv - (k + 1), by omega, i2, k + 1, _, rfl, hkv, by rfl, z2.gi, z2.wo, q3.trans z2.pf, by omega, ?_, fun h => ?_⟩
          · by_cases h1 : 1 ≤ g'.left
            · have := szmul h1; omega
            · have e := z2.neg (by show g'.left - 1 < 0; omega)
              subst e
              show g'.us.length + SZ * (g'.left - 1).toNat ≤ _
              have : (g'.left - 1).toNat = 0 := by omega
              rw [this]; omega
          · obtain ⟨c1, va, c2, u, e1, e2, e3, e4⟩ := hth hg0
            subst e4
            obtain ⟨c3, v', f1, f2⟩ := z2.ev h
            exact ⟨c1, va, _, v', e1, .rS e2 f1, f2⟩
      · refine last fun h => ?_
        have : ¬ g'.left ≥ 0 := of_decide_eq_false (Bool.eq_false_iff.mpr c2)
        omega
    · refine if_f Bool.false_ne_true (last fun h => ?_)
      have : ¬ (k : Int) < kv := of_decide_eq_false (Bool.eq_false_iff.mpr c)
      omega
end
end Sf
end
section
set_option Elab.async false
set_option linter.all false
set_option maxRecDepth 100000
set_option maxHeartbeats 1000000
namespace Sf
open PySem L2
open PyProof.Rows (envOfC)
local macro_rules | `(tactic| walk_at "evS") => `(tactic| first
  | with_reducible refine ws_seq ?_
  | with_reducible refine ws_if ?_
  | with_reducible refine ws_ret ?_
  | ((with_reducible refine' ws_newL ?hi ?_); (case hi => exact rfl))
  | ((with_reducible refine' ws_newD ?hi ?_); (case hi => exact rfl))
  | ((with_reducible refine' ws_listT ?hi ?_); (case hi => exact rfl))
  | ((with_reducible refine' ws_set ?hi ?_); (case hi => exact rfl))
  | with_reducible refine ws_next ?_)
local macro_rules | `(tactic| walk_at "evE2") => `(tactic| first
  | with_reducible refine we_tup ?_
  | ((with_reducible refine' we_lenO ?hv ?_); (case hv => exact rfl))
  | ((with_reducible refine' we_tupO ?hv ?_); (case hv => exact rfl))
  | with_reducible refine we_cb ?_
  | with_reducible refine we_callI ?_
  | with_reducible refine we_callL ?_
  | with_reducible refine we_sl ?_
  | with_reducible refine we_dget ?_
  | with_reducible refine we_get2 ?_
  | with_reducible refine we_ifE ?_
  | with_reducible refine we_andV ?_
  | with_reducible refine we_chain ?_
  | with_reducible refine we_dnewK ?_
  | with_reducible refine we_bl ?_
  | with_reducible refine we_non ?_)
local macro_rules | `(tactic| walk_at "evE") => `(tactic| first
  | ((with_reducible refine' we_var ?hv ?_); (case hv => exact rfl))
  | with_reducible refine we_int ?_
  | with_reducible refine we_str ?_
  | ((with_reducible refine' we_abt (we_var ?hv (And.intro ?he ?_))); (case hv => exact rfl); (case he => exact rfl))
  | with_reducible refine we_callOrd ?_
  | with_reducible refine we_dictAdd ?_
  | with_reducible refine we_callA ?_
  | ((with_reducible refine' we_ixO ?hv ?_); (case hv => exact rfl))
  | with_reducible refine we_op ?_
  | walk_at "evE2")
local macro_rules | `(tactic| walk_at "evW") => `(tactic| first
  | ((with_reducible refine' wr_ixT ?hx ?he ?_); (case hx => exact rfl); (case he => first | exact rfl | exact at0 | exact at1 | exact at2 | exact at3))
  | with_reducible refine wr_eqS ?_
  | with_reducible refine wr_i0 ?_
  | with_reducible refine wr_b0 ?_
  | with_reducible refine wr_eqI ?_
  | with_reducible refine wr_neS ?_
  | ((with_reducible refine' wr_ixL ?he ?_); (case he => first | exact rfl | exact at0 | exact at1 | exact at2 | exact at3)))
local macro_rules | `(tactic| walk_at "evT") => `(tactic| first
  | with_reducible refine wt_test ?_
  | with_reducible refine wt_and ?_
  | with_reducible refine wt_or ?_
  | with_reducible refine wt_not ?_
  | with_reducible refine wt_b ?_)
local macro_rules | `(tactic| walk_at "evM") => `(tactic| first
  | with_reducible refine Exists.intro _ (Exists.intro _ (And.intro rfl (And.intro abt_left ?_)))
  | with_reducible refine Exists.intro _ (Exists.intro _ (And.intro rfl (And.intro abt_defs ?_)))
  | with_reducible refine Exists.intro _ (Exists.intro _ (And.intro rfl (And.intro abt_nodes ?_)))
  | with_reducible refine Exists.intro _ (Exists.intro _ (And.intro rfl (And.intro abt_numbers ?_)))
  | ((with_reducible refine' sl_and ?hs ?_); (case hs => exact rfl))
  | ((with_reducible refine if_t ?hc ?_); (case hc => decide +kernel))
  | ((with_reducible refine if_f ?hc ?_); (case hc => decide +kernel))
  | with_reducible refine wo_none ?_
  | with_reducible refine wo_some ?_
  | ((with_reducible refine' wsl_T ?hx ?_); (case hx => exact rfl))
  | with_reducible refine wsl_L ?_
  | ((with_reducible refine' Exists.intro _ (And.intro ?hx ?_)); (case hx => exact rfl))
  | dsimp only)
local macro_rules | `(tactic| walk_at "ev1") => `(tactic| first
  | with_reducible refine wa_cons ?_
  | with_reducible refine wa_nil ?_
  | ((with_reducible show WE _ _ _ _ _); walk_at "evE")
  | ((with_reducible show WR _ _ _ _ _ _); walk_at "evW")
  | ((with_reducible show WS _ _ _ _ _); walk_at "evS")
  | ((with_reducible show WT _ _ _ _ _); walk_at "evT")
  | walk_at "evM")
local macro_rules | `(tactic| walk_at "ev") => `(tactic| repeat walk_at "ev1")

theorem take_mem {α : Type} {l : List α} {i : Nat} {x p : α} (hp : l[i]? = some p) (h : x ∈ l.take (i + 1)) : x ∈ l.take i ∨ x = p := by
  rw [take_snoc hp] at h
  rcases List.mem_append.mp h with h | h
  · exact .inl h
  · exact .inr (List.mem_singleton.mp h)
section
variable {P : Program} {w : World} {K : PySem.W.Frag} {mg : Str → Option Value} {base : Heap} (T : Tx K mg)
theorem ok_called_of (n : Nat) (G_law_gone : FnOk P w K mg base CX0 (3 * n + 1) T.law_gone.a T.law_gone.fd ["_law_about", "_law_term_here", "_law_things", "_law_counts"] (spA P w K (PreG n) RG)) :
    FnOk P w K mg base CX0 (3 * n + 3) T.law_called.a T.law_called.fd ["_law_about", "_law_term_here", "_law_things", "_law_counts"] (spA P w K (PreGc (n + 1)) RG) := by
  have G_law_number_at := ok_law_number_at (P := P) (w := w) (base := base) T n
  refine def_A T.law_called.F sc_law_called (fun A x g es ⟨_, _, _, e⟩ => by subst e; rfl) (by decide) (fun cdv A outer s H E hr => ?_)
  have hu := hu_of hr
  have hr_law_gone := hr.mono (show 3 * n + 1 ≤ 3 * n + 2 by omega)
  have hr_law_number_at := hr.mono (show n + 1 ≤ 3 * n + 2 by omega)
  refine ⟨_, (pss_cons (ps_asg (pe_ix ix_list (pe_lc (own := [("_law_one", 7)]) (by rfl) sc_law_called.nd (pi_tup (pe_dget hu (pv 0) pe_str (fun _ _ => rfl))) (blkOk_by (own := [("_law_one", 7)]) (N := ["_law_about", "_law_term_here", "_law_things", "_law_counts", "_law_name", "_law_params", "_law_body", "_law_one", "_law_own", "_law_numbers", "_law_x", "_law_sort", "_law_arg"]) (sc := defScope (topS 54)) (by decide +kernel)) (fun _ _ _ _ _ => (pg_name (i := 7) sc_law_called.nd rfl (by first | exact Or.inl rfl | exact Or.inr rfl))) (fun _ _ _ _ _ => (pts_one (pt_cmpR op_eq (pe_ix (ix_tup : IxR _ (rIxT K)) (pv 7) pe_int (fun _ _ => rfl)) (pe_ix (ix_tup : IxR _ (rIxT K)) (pv 1) pe_int (fun _ _ => rfl)) (nomark _)))) (fun _ _ _ _ _ => (pv 7))) pe_int (fun _ _ => rfl)) (pg_tup (by rfl) (pgs_cons (pg_name (i := 4) sc_law_called.nd rfl (by first | exact Or.inl rfl | exact Or.inr rfl)) (pgs_cons (pg_name (i := 5) sc_law_called.nd rfl (by first | exact Or.inl rfl | exact Or.inr rfl)) (pgs_cons (pg_name (i := 6) sc_law_called.nd rfl (by first | exact Or.inl rfl | exact Or.inr rfl)) pgs_nil)))))
  (pss_cons (ps_par (i := 8) (j := 9) (by rfl) sc_law_called.nd rfl rfl (by decide) rfl rfl (pa_cons pe_dnewK (pa_cons pe_dnewK pa_nil)) (by rfl))
  (pss_cons (ps_for PassesOwn.never rfl (RZ.pi_zipA (by rfl) T.nzip (pa_cons (pv 5) (pa_cons (pe_ix ix_tup (pv 1) pe_int (fun _ _ => rfl)) pa_nil))) (pg_tup (by rfl) (pgs_cons (pg_tup (by rfl) (pgs_cons (pg_name (i := 10) sc_law_called.nd rfl (by first | exact Or.inl rfl | exact Or.inr rfl)) (pgs_cons (pg_name (i := 11) sc_law_called.nd rfl (by first | exact Or.inl rfl | exact Or.inr rfl)) pgs_nil))) (pgs_cons (pg_name (i := 12) sc_law_called.nd rfl (by first | exact Or.inl rfl | exact Or.inr rfl)) pgs_nil))) (pss_one (ps_if (pt_cmpR op_eq (pv 11) pe_str (nomark _)) (pss_one (ps_dput hu (pv 9) (pv 10) (pe_call G_law_number_at hr_law_number_at (by rfl) T.law_number_at.g T.law_number_at.F.kp T.law_number_at.b .nil pass0 (pa_cons (pv 12) (pa_cons (pv 3) pa_nil))) rfl)) (pss_one (ps_dput hu (pv 8) (pv 10) (pe_call G_law_gone hr_law_gone (by rfl) T.law_gone.g T.law_gone.F.kp T.law_gone.b .nil pass0 (pa_cons (pv 0) (pa_cons (pv 12) (pa_cons (pv 2) (pa_cons (pv 3) pa_nil))))) rfl)))))
  (pss_cons (ps_dput hu (pv 0) pe_str (pe_op op_sub (pe_dget hu (pv 0) pe_str (fun _ _ => rfl)) pe_int) rfl)
  (pss_cons (ps_if (pt_cmpR op_lt (pe_dget hu (pv 0) pe_str (fun _ _ => rfl)) pe_int (nomark _)) (pss_one (ps_ret pe_int)) pss_nil)
  (pss_one (ps_ret (pe_call G_law_gone hr_law_gone (by rfl) T.law_gone.g T.law_gone.F.kp T.law_gone.b .nil pass0 (pa_cons (pv 0) (pa_cons (pv 6) (pa_cons (pv 8) (pa_cons (pv 9) pa_nil)))))))))))), ?_⟩
  dsimp only [cxOf]
  rintro A x g es ⟨⟨f, ts, et⟩, hl, p, rfl⟩
  obtain ⟨r, t, th, tx, ka, X, C, m1, m2, ks1, ds1, ks2, ds2⟩ := x
  have et' : t = .mk (.call f) ts := et
  subst et'
  have hw : Wf (sgr A.ds r) X C true (.mk (.call f) ts) := p.wf
  cases hw with
  | @call _ _ _ _ ss hf hlen hk =>
    obtain ⟨d, hd1, hd2⟩ := Option.map_eq_some_iff.mp hf
    obtain ⟨hlk, kr, hkr, hdk⟩ := look_take hd1
    subst hd2
    have hdm := List.mem_of_getElem? hdk
    obtain ⟨bd1, bd2, bd3⟩ := p.dso.bd d hdm
    have hbody := p.dso.rk.body kr d hdk
    have hll : ts.length = d.ps.length := by rw [hlen, List.length_map]
    have hsz : (Sf.T.mk (.call f) ts).sz = 1 + szL ts := rfl
    have hp' : g.us.length + SZ * g.left.toNat + (1 + szL ts) ≤ 99000 := p.pot
    have hmu : (Sf.T.mk (.call f) ts).dp + r * (BD + 1) < n + 1 := p.mu
    have hSZ : (Sf.T.mk (.call f) ts).sz ≤ 3000 := p.sz
    have htl := len_le_szL ts
    have hdl := p.dso.dl
    have hBD : d.b.dp ≤ 12 := bd1
    walk_at "ev"
    refine ws_asg ?_
    walk_at "ev"
    refine we_lc (wi_tup kp_rel ?_)
    walk_at "ev"
    refine ⟨defsD_im A.ds, lim_lt (by rw [List.length_map]; show _ ≤ 1000000; omega), fun i acc g' => g' = g ∧ acc = ((A.ds.take i).filter fun d => decide (d.f = f)).map defD, ⟨rfl, rfl⟩, fun i acc g' hlt _ ⟨eg, e⟩ => ?_, fun acc g' _ him ⟨eg, e⟩ => ?_⟩
    · have eg2 := eg.symm
      clear eg
      subst eg2
      rw [List.length_map] at hlt
      have hd : A.ds[i]? = some A.ds[i] := List.getElem?_eq_getElem hlt
      have hkk : (A.ds.map defD).getD i .non = defD A.ds[i] := by rw [List.getD_eq_getElem?_getD, List.getElem?_map, hd]; rfl
      rw [hkk]
      have tk : (A.ds.take (i + 1)).filter (fun d => decide (d.f = f)) = (A.ds.take i).filter (fun d => decide (d.f = f)) ++ (if decide ((A.ds[i]).f = f) = true then [A.ds[i]] else []) := by
        rw [take_snoc hd, List.filter_append]
        congr 1
        rw [List.filter_cons]
        split <;> rfl
      refine wg_name rfl rfl ?_
      walk_at "ev"
      rw [tk]
      refine if_both (fun c => ?_) (fun c => ?_)
      · walk_at "ev"
        refine ⟨?_, rfl, ?_⟩
        · show (imL ((A.ds[i]).ps.map parD) && ((enc (A.ds[i]).b).im && true)) = true
          rw [parsD_im, enc_im]; rfl
        · rw [if_pos c, List.map_append, e]; rfl
      · exact ⟨rfl, by rw [if_neg c, List.append_nil]; exact e⟩
    have eg2 := eg.symm
    clear eg
    subst eg2
    rw [List.length_map, List.take_length] at e
    subst e
    walk_at "ev"
    refine wr_ixL (d := defD d) ?_ ?_
    · have : ((A.ds.filter fun d => decide (d.f = f)).map defD)[0]? = some (defD d) := by
        rw [List.getElem?_map, find_head]
        show (look A.ds f).map defD = _
        rw [hlk]; rfl
      exact atI_nat (j := 0) this
    refine wg_tup rfl rfl (wgs_cons rfl rfl (wgs_cons rfl rfl (wgs_cons rfl rfl (wgs_nil ?_))))
    refine ws_seq (ws_parDD rfl rfl ?_)
    walk_at "ev"
    refine ws_for (wi_zipT tk_rel ?_)
    walk_at "ev"
    refine ⟨_, _, _, _, rfl, rfl, rfl, parsD_im _, encL_im ts, ?_⟩
    rw [List.length_map, encL_len, hll, Nat.min_self]
    refine ⟨fun i Γ' g' => ∃ kn dn kc dc tx' ka' x10 x11 x12, Γ' = [some (.d (.adr A.b)), some (.d (enc (.mk (.call f) ts))), some (.d (.dict ks1 ds1)), some (.d (.dict ks2 ds2)), some (.d (.str d.f)), some (.d (parsD d.ps)), some (.d (enc d.b)), none, some (.ownd kn dn), some (.ownd kc dc), x10, x11, x12] ∧
      SubD i (ixD tx') kn dn ∧ SubD i (numD ka') kc dc ∧ (∀ y, (y, true) ∈ d.ps.take i → ∃ j, tx' y = some j) ∧ (∀ y, (y, false) ∈ d.ps.take i → ∃ v, ka' y = some v ∧ 0 ≤ v ∧ v < 1000000) ∧
      g'.us = g'.ks ∧ (0 ≤ g'.left → Wo g'.us) ∧ Pfx g.us g'.us ∧ g'.left ≤ g.left ∧ g'.us.length + SZ * g'.left.toNat ≤ g.us.length + SZ * g.left.toNat + szL (ts.take i) ∧
      (0 ≤ g'.left → ∃ c th', Ev A.ds c th ka (.a (d.ps.take i) (ts.take i) (fun _ => none) (fun _ => none) th' ka') ∧ ∀ y, (y, true) ∈ d.ps.take i → ∃ j v, tx' y = some j ∧ th' y = some v ∧ Tr g'.us v j),
      ⟨[], [], [], [], fun _ => none, fun _ => none, none, none, none, rfl, .nil 0, .nil 0, fun y h => (nomatch h), fun y h => (nomatch h), p.gi, p.wo, Pfx.refl _, Int.le_refl _, Nat.le_add_right _ _, fun _ => ⟨0, fun _ => none, .a0, fun y h => (nomatch h)⟩⟩,
      fun i Γ' g' hlt ⟨kn, dn, kc, dc, tx', ka', x10, x11, x12, e, S1, S2, a1, a2, q1, q2, q3, q4, q5, q6⟩ => ?_, fun Γ' g' ⟨kn, dn, kc, dc, tx', ka', x10, x11, x12, e, S1, S2, a1, a2, q1, q2, q3, q4, q5, q6⟩ => ?_⟩
    · subst e
      have hlt2 : i < ts.length := by rw [hll]; exact hlt
      have hp : d.ps[i]? = some d.ps[i] := List.getElem?_eq_getElem hlt
      have ht : ts[i]? = some ts[i] := List.getElem?_eq_getElem hlt2
      have hkk : (d.ps.map parD).getD i .non = parD d.ps[i] := by rw [List.getD_eq_getElem?_getD, List.getElem?_map, hp]; rfl
      rw [hkk, encL_getD ht]
      have hwk := hk i ts[i] (d.ps[i]).2 ht (by rw [List.getElem?_map, hp]; rfl)
      have l1 : kn.length < sizeLine := lim_lt (by have := S1.le; show _ ≤ 1000000; omega)
      have l2 : kc.length < sizeLine := lim_lt (by have := S2.le; show _ ≤ 1000000; omega)
      have hg := szL_take_get ht
      have hmem := List.getElem_mem hlt2
      have hdk2 := dp_mem (h := .call f) hmem
      generalize hpe : d.ps[i] = pp at hp hwk
      obtain ⟨px, pb⟩ := pp
      refine wg_tup rfl rfl (wgs_consG (by show ((enc ts[i]).im && true) = true; rw [enc_im]; rfl) (wg_tup rfl rfl (wgs_cons rfl rfl (wgs_cons rfl rfl (wgs_nil (wgs_cons rfl rfl (wgs_nil ?_)))))))
      cases pb with
      | false =>
        walk_at "ev"
        refine if_t (show decide (("number" : Str) = "number") = true by decide +kernel) ?_
        refine ws_dput rfl ?_
        walk_at "ev"
        obtain ⟨v, hv, v0, v1⟩ := nvo_wf hwk rfl ka p.kac
        refine ⟨.int v, ⟨ts[i], _, X, C, ka, v, m2, ks2, ds2, hwk, p.kac, hv, by omega, p.s2, rfl, rfl⟩, rfl, ?_⟩
        walk_at "ev"
        have S2' := S2.put (s := px) (e := .int v) rfl
        rw [numD_plus] at S2'
        refine ⟨rfl, l2, kn, dn, _, _, tx', plus ka' px v, _, _, _, rfl, S1.mono (Nat.le_succ i), S2', fun y hy => ?_, fun y hy => ?_, q1, q2, q3, q4, ?_, fun h => ?_⟩
        · rcases take_mem hp hy with h | h
          · exact a1 y h
          · cases h
        · show ∃ v', plus ka' px v y = some v' ∧ 0 ≤ v' ∧ v' < 1000000
          unfold plus
          by_cases c : y = px
          · rw [if_pos c]; exact ⟨v, rfl, v0, v1⟩
          · rw [if_neg c]
            rcases take_mem hp hy with h | h
            · exact a2 y h
            · cases h; exact absurd rfl c
        · rw [take_snoc ht, szL_append]; omega
        · obtain ⟨c, th', e1, e2⟩ := q6 h
          obtain ⟨c', e'⟩ := ev_aN (x := px) hv _ _ e1
          rw [take_snoc hp, take_snoc ht]
          refine ⟨c', th', e', fun y hy => ?_⟩
          rcases List.mem_append.mp hy with hy | hy
          · exact e2 y hy
          · cases List.mem_singleton.mp hy
      | true =>
        walk_at "ev"
        refine if_f (show ¬ (decide (("thing" : Str) = "number") = true) by decide +kernel) ?_
        refine ws_dput rfl ?_
        walk_at "ev"
        refine ⟨⟨r, ts[i], th, tx, ka, X, C, m1, m2, ks1, ds1, ks2, ds2⟩, ⟨p.kid (h := .call f) (ts := ts) rfl hmem hwk q1 q2 q3 q4 (by omega), rfl⟩, ?_⟩
        rintro _ g2 ⟨j, rfl, z⟩ _
        have zp : g2.us.length + SZ * g2.left.toNat ≤ g'.us.length + SZ * g'.left.toNat + (ts[i]).sz := z.pot
        have zl := z.le
        walk_at "ev"
        have S1' := S1.put (s := px) (e := .int (j : Int)) rfl
        rw [ixD_plus] at S1'
        refine ⟨rfl, l1, _, _, kc, dc, plus tx' px j, ka', _, _, _, rfl, S1', S2.mono (Nat.le_succ i), fun y hy => ?_, fun y hy => ?_, z.gi, z.wo, q3.trans z.pf, Int.le_trans z.le q4, ?_, fun h => ?_⟩
        · show ∃ j', plus tx' px j y = some j'
          unfold plus
          by_cases c : y = px
          · rw [if_pos c]; exact ⟨j, rfl⟩
          · rw [if_neg c]
            rcases take_mem hp hy with h | h
            · exact a1 y h
            · cases h; exact absurd rfl c
        · rcases take_mem hp hy with h | h
          · exact a2 y h
          · cases h
        · rw [take_snoc ht, szL_append]
          have h2 : szL [ts[i]] = (ts[i]).sz + 0 := rfl
          omega
        · obtain ⟨c1, v1, f1, f2⟩ := z.ev h
          obtain ⟨c, th', e1, e2⟩ := q6 (by omega)
          obtain ⟨c', e'⟩ := ev_aT (x := px) f1 _ _ e1
          rw [take_snoc hp, take_snoc ht]
          refine ⟨c', plus th' px v1, e', fun y hy => ?_⟩
          show ∃ j' v, plus tx' px j y = some j' ∧ plus th' px v1 y = some v ∧ Tr g2.us v j'
          unfold plus
          by_cases c : y = px
          · rw [if_pos c, if_pos c]; exact ⟨j, v1, rfl, rfl, f2⟩
          · rw [if_neg c, if_neg c]
            rcases List.mem_append.mp hy with hy | hy
            · obtain ⟨j', v, h1, h2, h3⟩ := e2 y hy
              exact ⟨j', v, h1, h2, h3.mono z.pf⟩
            · cases List.mem_singleton.mp hy; exact absurd rfl c
    · subst e
      rw [List.take_length] at a1 a2
      rw [← hll, List.take_length] at q5
      have q6' : 0 ≤ g'.left → ∃ c th', Ev A.ds c th ka (.a d.ps ts (fun _ => none) (fun _ => none) th' ka') ∧ ∀ y, (y, true) ∈ d.ps → ∃ j v, tx' y = some j ∧ th' y = some v ∧ Tr g'.us v j := fun h => by
        obtain ⟨c, th', e1, e2⟩ := q6 h
        rw [List.take_length] at e1 e2
        rw [← hll, List.take_length] at e1
        exact ⟨c, th', e1, e2⟩
      walk_at "ev"
      refine ws_aLeft ?_
      walk_at "ev"
      refine ⟨rfl, ?_⟩
      walk_at "ev"
      refine ⟨rfl, _, rfl, ?_⟩
      walk_at "ev"
      refine if_both (fun c => ?_) (fun c => ?_)
      · have hneg : g'.left - 1 < 0 := of_decide_eq_true c
        walk_at "ev"
        refine ⟨rfl, rfl, 0, rfl, q1, fun h => absurd h (by show ¬ (0 : Int) ≤ g'.left - 1; omega), q3, by show g'.left - 1 ≤ g.left; omega, ?_, fun h => absurd hl (by show ¬ 0 ≤ g.left; omega), fun h => absurd h (by show ¬ (0 : Int) ≤ g'.left - 1; omega)⟩
        show g'.us.length + SZ * (g'.left - 1).toNat ≤ g.us.length + SZ * g.left.toNat + (1 + szL ts)
        have : (g'.left - 1).toNat = 0 := by omega
        rw [this]; omega
      · have hnn : 0 ≤ g'.left - 1 := by have : ¬ g'.left - 1 < 0 := of_decide_eq_false (Bool.eq_false_iff.mpr c); omega
        refine ws_next ?_
        refine ws_share (i := 8) rfl rfl ?_
        refine ws_share (i := 9) rfl rfl ?_
        walk_at "ev"
        obtain ⟨c1, th', e1, e2⟩ := q6' (by omega)
        have hsm := szmul (l := g'.left) (by omega)
        have hkm : (kr + 1) * (BD + 1) ≤ r * (BD + 1) := Nat.mul_le_mul_right _ hkr
        have hkm2 : (kr + 1) * (BD + 1) = kr * (BD + 1) + (BD + 1) := Nat.succ_mul _ _
        refine ⟨⟨kr, d.b, th', tx', ka', fun y => (y, true) ∈ d.ps, fun y => (y, false) ∈ d.ps, d.ps.length, d.ps.length, kn, dn, kc, dc⟩, ⟨⟨p.dso, q1, fun h => q2 (by omega), hbody, bd3, bd2, by show d.b.dp + kr * (BD + 1) < n; omega, by show g'.us.length + SZ * (g'.left - 1).toNat + d.b.sz ≤ 99000; omega, a1, fun h => e2, a2, S1, S2, by show d.ps.length + d.b.dp ≤ 7000; omega, by show d.ps.length + d.b.dp ≤ 7000; omega⟩, rfl⟩, ?_⟩
        rintro _ g2 ⟨i2, rfl, z2⟩ _
        have z2p : g2.us.length + SZ * g2.left.toNat ≤ g'.us.length + SZ * (g'.left - 1).toNat + d.b.sz := z2.pot
        have z2l : g2.left ≤ g'.left - 1 := z2.le
        refine ⟨rfl, rfl, i2, rfl, z2.gi, z2.wo, q3.trans z2.pf, by show g2.left ≤ g.left; omega, ?_, fun h => absurd hl (by show ¬ 0 ≤ g.left; omega), fun h => ?_⟩
        · show g2.us.length + SZ * g2.left.toNat ≤ g.us.length + SZ * g.left.toNat + (1 + szL ts); omega
        · obtain ⟨c2, u, f1, f2⟩ := z2.ev h
          exact ⟨_, u, .call hlk e1 f1, f2⟩
theorem ok_law_gone : ∀ n : Nat, FnOk P w K mg base CX0 (3 * n + 1) T.law_gone.a T.law_gone.fd ["_law_about", "_law_term_here", "_law_things", "_law_counts"] (spA P w K (PreG n) RG)
  | 0 => ⟨fun _ _ _ _ ⟨A, x, g, es, _, _, ⟨h, _⟩, _⟩ => absurd h.mu (Nat.not_lt_zero _), fun _ _ _ _ _ _ _ _ _ _ _ _ _ ⟨A, x, g, es, _, _, ⟨h, _⟩, _⟩ => absurd h.mu (Nat.not_lt_zero _)⟩
  | n + 1 => ok_gone_of T n (ok_law_gone n) (ok_rounds_of T n (ok_law_gone n)) (ok_called_of T n (ok_law_gone n))
end
end Sf
end
section
set_option Elab.async false
set_option linter.all false
set_option maxRecDepth 100000
set_option maxHeartbeats 2000000
/-! The evaluator's frame begins: about = {'defs': .., 'nodes': [], 'numbers': {}, 'left': ..}. -/
namespace Sf
open PySem L2
theorem putK_new {kvs : List (Key × V)} {k : Key} {v : V} (h : ∀ p ∈ kvs, ¬ p.1 = k) : putK kvs k v = kvs ++ [(k, v)] := by
  unfold putK
  have : (kvs.any fun kv => decide (kv.1 = k)) = false := by
    rw [Bool.eq_false_iff]
    intro q
    obtain ⟨p, hp, e⟩ := List.any_eq_true.mp q
    exact h p hp (of_decide_eq_true e)
  rw [this, if_neg Bool.false_ne_true]
theorem merge_abt (A : AB) (vd : V) (l : Int) : mergeK [] (abtK A vd l) = abtK A vd l := by
  show putK (putK (putK (putK [] (Sum.inr ("defs" : Str) : Key) vd) (Sum.inr ("nodes" : Str) : Key) (.ref A.c)) (Sum.inr ("numbers" : Str) : Key) (.ref A.a)) (Sum.inr ("left" : Str) : Key) (.int l) = _
  rw [putK_new (kvs := []) (fun p hp => nomatch hp)]
  rw [putK_new (kvs := [] ++ [((Sum.inr ("defs" : Str) : Key), vd)]) (fun p hp => by rw [List.mem_singleton.mp hp]; exact inr_ne k1)]
  rw [putK_new (kvs := ([] ++ [((Sum.inr ("defs" : Str) : Key), vd)]) ++ [((Sum.inr ("nodes" : Str) : Key), V.ref A.c)]) (fun p hp => by
    rcases List.mem_append.mp hp with hp | hp
    · rw [List.mem_singleton.mp hp]; exact inr_ne k2
    · rw [List.mem_singleton.mp hp]; exact inr_ne k4)]
  rw [putK_new (fun p hp => by
    rcases List.mem_append.mp hp with hp | hp
    · rcases List.mem_append.mp hp with hp | hp
      · rw [List.mem_singleton.mp hp]; exact inr_ne k3
      · rw [List.mem_singleton.mp hp]; exact inr_ne k5
    · rw [List.mem_singleton.mp hp]; exact inr_ne k6)]
  rfl
section
variable {P : Program} {w : World} {K : PySem.W.Frag} {H0 : Hp} {Γ : Ga} {E : AE (frm0 K H0)} {ts : TS} {te tv : TE}
theorem ws_newA {i : Nat} {ds : List Df} {m : Int} (hi : Nat.blt i Γ.length = true) (him : ∀ (j : Nat) (d : SD), Γ[j]? = some (some d) → ∃ x, d = .d x ∧ x.im = true)
    (hd : WE (frm0 K H0) te Γ () fun e _ => e = defsD ds) (hm : ∀ σ H, Ok (frm0 K H0) Γ σ H → ∀ Q', Q' (.int m) H → tv σ H Q')
    (h : ∀ A : AB, A.ds = ds → WS (frmA P w K H0 A) ts (Γ.set i (some (.d (.adr A.b)))) { us := [], ks := [], left := m } { nx := fun _ _ => False, rt := fun d _ => d.im = true ∧ E.rt d () }) :
    WS (frm0 K H0) (tSeq (tAsg (tDisp [(tC (.str "defs"), te), (tC (.str "nodes"), tLst tNil), (tC (.str "numbers"), tDNewN P w K), (tC (.str "left"), tv)]) (gName i)) ts) Γ () E := fun σ H o j D' p => by
  intro b hb
  have sm1 := same_new (o := .dK []) hb
  refine hd σ _ (o.kp (.of_same sm1)) trivial _ fun vd H1 e g1 kp1 _ iv ee => ?_
  subst ee
  have sm2 : Same (upd H b (.dK [])) H1 := kp1.same
  have hb1 : H1 b = some (.dK []) := sm2 _ _ upd_same
  refine ⟨Nat.zero_le _, fun c hc => ?_⟩
  have hcb : c ≠ b := fun z => by rw [z, hb1] at hc; cases hc
  have sm3 := same_new (o := .lst []) hc
  intro a φ ha hN
  have hab : a ≠ b := fun z => by rw [z, upd_ne (Ne.symm hcb), hb1] at ha; cases ha
  have hac : a ≠ c := fun z => by rw [z, upd_same] at ha; cases ha
  have sm4 := same_new (o := .ext φ) ha
  have smA : Same H (upd (upd H1 c (.lst [])) a (.ext φ)) := ((sm1.trans sm2).trans sm3).trans sm4
  have hbA : upd (upd H1 c (.lst [])) a (.ext φ) b = some (.dK []) := sm4 _ _ (sm3 _ _ hb1)
  refine hm σ _ (o.kp (.of_same smA)) _ ?_
  have eA : (⟨a, b, c, ds⟩ : AB).ds = ds := rfl
  refine ⟨hbA, abtK ⟨a, b, c, ds⟩ vd m, rfl, (by decide : 4 ≤ 15), ?_⟩
  rw [merge_abt]
  have H0b : ∀ x, H x = none → H0 x = none := fun x hx => by
    cases e : H0 x with
    | none => rfl
    | some u => rw [o.base.same x u e] at hx; cases hx
  have Hc : H c = none := by
    cases e : H c with
    | none => rfl
    | some u => rw [sm2 _ _ (sm1 _ _ e)] at hc; cases hc
  have Ha : H a = none := by
    cases e : H a with
    | none => rfl
    | some u => rw [sm3 _ _ (sm2 _ _ (sm1 _ _ e))] at ha; cases ha
  have sqf : ∀ x ys, SqT K (upd (upd H1 c (.lst [])) a (.ext φ)) x ys → SqT K (upd (upd (upd H1 c (.lst [])) a (.ext φ)) b (.dK (abtK ⟨a, b, c, ds⟩ vd m))) x ys := fun x ys => wrT hbA trivial
  have sq1 : ∀ x ys, SqT K H1 x ys → SqT K (upd (upd (upd H1 c (.lst [])) a (.ext φ)) b (.dK (abtK ⟨a, b, c, ds⟩ vd m))) x ys := fun x ys q => sqf x ys (Kp.sqT (F := AF) (.of_same (sm3.trans sm4)) q)
  have sq0 : ∀ x ys, SqT K H x ys → SqT K (upd (upd (upd H1 c (.lst [])) a (.ext φ)) b (.dK (abtK ⟨a, b, c, ds⟩ vd m))) x ys := fun x ys q => sqf x ys (Kp.sqT (F := AF) (.of_same smA) q)
  have J : AJ P w K ⟨a, b, c, ds⟩ { us := [], ks := [], left := m } (upd (upd (upd H1 c (.lst [])) a (.ext φ)) b (.dK (abtK ⟨a, b, c, ds⟩ vd m))) := by
    refine ⟨⟨vd, upd_same, Is.monoT sq1 _ _ (Is.up (F' := AT) (O' := AT) _ _ (defsD_im ds) iv)⟩, ⟨[], ?_, trivial⟩, ?_⟩
    · show upd _ b _ c = _
      rw [upd_ne hcb, upd_ne (Ne.symm hac), upd_same]
    · obtain ⟨hl, xs, e, ek, hx⟩ := hN
      refine ⟨hl, xs, by show upd _ b _ a = _; rw [upd_ne hab]; exact e, ek, fun i x hi => ?_⟩
      have : xs = [] := List.map_eq_nil_iff.mp ek
      subst this
      simp at hi
  have hiΓ := Nat.le_of_ble_eq_true hi
  have hiσ : i < σ.length := by rw [o.len]; exact hiΓ
  have noOw : ∀ (Γ' : Ga) (σ' : St), (∀ (j : Nat) (d : SD), Γ'[j]? = some (some d) → ∃ x, d = .d x ∧ x.im = true) → ∀ b, ¬ Ow Γ' σ' b := fun Γ' σ' h b ⟨k, d, h1, h2, h3⟩ => by
    obtain ⟨x, rfl, _⟩ := h k d h1
    cases h2
  have him' : ∀ (j : Nat) (d : SD), (Γ.set i (some (.d (.adr b))))[j]? = some (some d) → ∃ x, d = .d x ∧ x.im = true := fun j d e => by
    by_cases q : j = i
    · subst q
      rw [List.getElem?_set_self hiΓ] at e
      cases Option.some.inj (Option.some.inj e)
      exact ⟨_, rfl, rfl⟩
    · rw [List.getElem?_set_ne (Ne.symm q)] at e
      exact him j d e
  have kb : Kp (frmA P w K H0 ⟨a, b, c, ds⟩).F H0 (upd (upd (upd H1 c (.lst [])) a (.ext φ)) b (.dK (abtK ⟨a, b, c, ds⟩ vd m))) :=
    ⟨fun x ob n e => by rw [upd_ne (fun z => n (.inr (.inl z)))]; exact smA _ _ (o.base.same _ _ e), fun x ys e => by rw [upd_ne (fun z => by rw [z, H0b b hb] at e; cases e)]; exact smA _ _ (o.base.same _ _ e), fun x ob u e => by rw [upd_ne (fun z => by rw [z, H0b b hb] at e; cases e)]; exact smA _ _ (o.base.same _ _ e)⟩
  have o2 : Ok (frmA P w K H0 ⟨a, b, c, ds⟩) (Γ.set i (some (.d (.adr b)))) (σ.set i (some (.ref b))) (upd (upd (upd H1 c (.lst [])) a (.ext φ)) b (.dK (abtK ⟨a, b, c, ds⟩ vd m))) := by
    refine ⟨by rw [List.length_set, List.length_set]; exact o.len, kb, fun j d e => ?_, fun j d e n => ?_, fun x hx => absurd hx (noOw _ _ him' x), fun j k d e x h1 h2 => ?_⟩
    · by_cases q : j = i
      · subst q
        rw [List.getElem?_set_self hiΓ] at e
        cases Option.some.inj (Option.some.inj e)
        exact ⟨_, List.getElem?_set_self hiσ, rfl⟩
      · rw [List.getElem?_set_ne (Ne.symm q)] at e
        obtain ⟨v, e1, e2⟩ := o.at' j d e
        obtain ⟨x, ex, xim⟩ := him j _ e
        cases ex
        exact ⟨v, by rw [List.getElem?_set_ne (Ne.symm q)]; exact e1, Is.up _ _ xim (Is.monoT sq0 _ _ (Is.up (F' := AT) (O' := AT) _ _ xim e2))⟩
    · obtain ⟨x, rfl, _⟩ := him' j d e
      cases n
    · obtain ⟨x, rfl, _⟩ := him' j d h1
      cases h2
  refine h ⟨a, b, c, ds⟩ rfl _ _ o2 J _ ⟨fun _ _ _ _ _ _ _ z => False.elim z, fun _ _ _ _ _ _ _ z => False.elim z, fun _ _ _ _ _ _ _ z => False.elim z, fun v H2 d g kk _ iv ⟨dim, q⟩ => ?_, fun _ _ _ _ _ _ _ _ _ _ _ z => False.elim z⟩
  have H0x : ∀ x, (frmA P w K H0 ⟨a, b, c, ds⟩).F x → H0 x = none := fun x hx => by
    rcases hx with rfl | rfl | rfl
    · exact H0b _ Ha
    · exact H0b _ hb
    · exact H0b _ Hc
  exact p.rt v H2 d () ⟨fun x ob n e => kk.k x ob (fun z => by have e' : H0 x = some ob := e; rw [H0x x z] at e'; cases e') e, kk.t, kk.z⟩ trivial (Is.up d v dim iv) q
/-- the ordering is called with the nodes' list -/
theorem we_callOrd {A : AB} {g : GA} {Q : QE (frmA P w K H0 A)} {X0 : XK} {te2 : TE} {Γ : Ga} (h : WE (frmA P w K H0 A) te Γ g fun x g1 => x = .adr A.c ∧ WE (frmA P w K H0 A) te2 Γ g1 fun y g2 => ∃ r, R_ord [.lst (g2.us.map kD), y] r ∧ r.im = true ∧ y.im = true ∧ Q r g2) : WE (frmA P w K H0 A) (tCall (spI K R_ord) [] X0 (tCons te (tCons te2 tNil))) Γ g Q := fun σ H o j Q' p =>
  h σ H o j _ fun v H1 x g1 k1 j1 i1 ⟨ex, h1⟩ => by
    subst ex
    obtain rfl : v = .ref A.c := i1
    refine h1 σ H1 (o.kp k1) j1 _ fun u H2 y g2 k2 j2 i2 ⟨r, hr, him, yim, q⟩ => ?_
    show spI K R_ord ([.ref A.c, u] ++ []) H2 Q' X0
    rw [List.append_nil]
    obtain ⟨_, ⟨vs, c1, c2⟩, _⟩ := id j2
    exact ⟨[.lst (g2.us.map kD), y], r, ⟨⟨A.c, vs, rfl, id, id, c1, IsL.up _ _ (kdL_im _) c2⟩, Is.up _ _ yim i2, trivial⟩, hr, him, fun v2 H3 sm iv => p v2 H3 r g2 ((k1.trans k2).trans (.of_same sm)) ((frmA P w K H0 A).same j2 sm) (iv.down (fun _ _ => trivial) (fun _ _ => trivial)) q⟩
end
end Sf
end
section
set_option Elab.async false
set_option linter.all false
set_option maxRecDepth 100000
set_option maxHeartbeats 1000000
namespace Sf
open PySem L2
open PyProof.Rows (envOfC)
local macro_rules | `(tactic| walk_at "evS") => `(tactic| first
  | with_reducible refine ws_seq ?_
  | with_reducible refine ws_if ?_
  | with_reducible refine ws_ret ?_
  | ((with_reducible refine' ws_newL ?hi ?_); (case hi => exact rfl))
  | ((with_reducible refine' ws_newD ?hi ?_); (case hi => exact rfl))
  | ((with_reducible refine' ws_listT ?hi ?_); (case hi => exact rfl))
  | ((with_reducible refine' ws_set ?hi ?_); (case hi => exact rfl))
  | with_reducible refine ws_next ?_)
local macro_rules | `(tactic| walk_at "evE2") => `(tactic| first
  | with_reducible refine we_tup ?_
  | ((with_reducible refine' we_lenO ?hv ?_); (case hv => exact rfl))
  | ((with_reducible refine' we_tupO ?hv ?_); (case hv => exact rfl))
  | with_reducible refine we_cb ?_
  | with_reducible refine we_callI ?_
  | with_reducible refine we_callL ?_
  | with_reducible refine we_sl ?_
  | with_reducible refine we_dget ?_
  | with_reducible refine we_get2 ?_
  | with_reducible refine we_ifE ?_
  | with_reducible refine we_andV ?_
  | with_reducible refine we_chain ?_
  | with_reducible refine we_dnewK ?_
  | with_reducible refine we_bl ?_
  | with_reducible refine we_non ?_)
local macro_rules | `(tactic| walk_at "evE") => `(tactic| first
  | ((with_reducible refine' we_var ?hv ?_); (case hv => exact rfl))
  | with_reducible refine we_int ?_
  | with_reducible refine we_str ?_
  | ((with_reducible refine' we_abt (we_var ?hv (And.intro ?he ?_))); (case hv => exact rfl); (case he => exact rfl))
  | with_reducible refine we_callOrd ?_
  | with_reducible refine we_dictAdd ?_
  | with_reducible refine we_callA ?_
  | ((with_reducible refine' we_ixO ?hv ?_); (case hv => exact rfl))
  | with_reducible refine we_op ?_
  | walk_at "evE2")
local macro_rules | `(tactic| walk_at "evW") => `(tactic| first
  | ((with_reducible refine' wr_ixT ?hx ?he ?_); (case hx => exact rfl); (case he => first | exact rfl | exact at0 | exact at1 | exact at2 | exact at3))
  | with_reducible refine wr_eqS ?_
  | with_reducible refine wr_i0 ?_
  | with_reducible refine wr_b0 ?_
  | with_reducible refine wr_eqI ?_
  | with_reducible refine wr_neS ?_
  | ((with_reducible refine' wr_ixL ?he ?_); (case he => first | exact rfl | exact at0 | exact at1 | exact at2 | exact at3)))
local macro_rules | `(tactic| walk_at "evT") => `(tactic| first
  | with_reducible refine wt_test ?_
  | with_reducible refine wt_and ?_
  | with_reducible refine wt_or ?_
  | with_reducible refine wt_not ?_
  | with_reducible refine wt_b ?_)
local macro_rules | `(tactic| walk_at "evM") => `(tactic| first
  | with_reducible refine Exists.intro _ (Exists.intro _ (And.intro rfl (And.intro abt_left ?_)))
  | with_reducible refine Exists.intro _ (Exists.intro _ (And.intro rfl (And.intro abt_defs ?_)))
  | with_reducible refine Exists.intro _ (Exists.intro _ (And.intro rfl (And.intro abt_nodes ?_)))
  | with_reducible refine Exists.intro _ (Exists.intro _ (And.intro rfl (And.intro abt_numbers ?_)))
  | ((with_reducible refine' sl_and ?hs ?_); (case hs => exact rfl))
  | ((with_reducible refine if_t ?hc ?_); (case hc => decide +kernel))
  | ((with_reducible refine if_f ?hc ?_); (case hc => decide +kernel))
  | with_reducible refine wo_none ?_
  | with_reducible refine wo_some ?_
  | ((with_reducible refine' wsl_T ?hx ?_); (case hx => exact rfl))
  | with_reducible refine wsl_L ?_
  | ((with_reducible refine' Exists.intro _ (And.intro ?hx ?_)); (case hx => exact rfl))
  | dsimp only)
local macro_rules | `(tactic| walk_at "ev1") => `(tactic| first
  | with_reducible refine wa_cons ?_
  | with_reducible refine wa_nil ?_
  | ((with_reducible show WE _ _ _ _ _); walk_at "evE")
  | ((with_reducible show WR _ _ _ _ _ _); walk_at "evW")
  | ((with_reducible show WS _ _ _ _ _); walk_at "evS")
  | ((with_reducible show WT _ _ _ _ _); walk_at "evT")
  | walk_at "evM")
local macro_rules | `(tactic| walk_at "ev") => `(tactic| repeat walk_at "ev1")

theorem sc_law_plain : FnScope ["_law_program_here", "_law_most", "_law_about", "_law_things", "_law_k", "_law_top"] ["_law_program_here", "_law_most"] (defScope (topS 57)) := ⟨rfl, rfl, rfl, by decide +kernel, rfl, by decide +kernel, by decide +kernel⟩
def txF : List Str → Nat → (Str → Option Nat) → Str → Option Nat
  | [], _, f => f
  | x :: r, k, f => txF r (k + 1) (plus f x k)
theorem txF_snoc : ∀ (l : List Str) (x : Str) (k : Nat) (f : Str → Option Nat), txF (l ++ [x]) k f = plus (txF l k f) x (k + l.length)
  | [], x, k, f => rfl
  | y :: l, x, k, f => by
    show txF (l ++ [x]) (k + 1) (plus f y k) = plus (txF l (k + 1) (plus f y k)) x (k + (l.length + 1))
    rw [txF_snoc l x (k + 1), show k + 1 + l.length = k + (l.length + 1) by omega]
theorem tx_in : ∀ (l : List Str) (k n : Nat) (f : Str → Option Nat) (a : Sub), k + l.length ≤ n → (∀ y, (f y = none ∧ a y = none) ∨ ∃ i, i < n ∧ f y = some i ∧ a y = some (.mk (.input (i : Int)) [])) →
    ∀ y, ((txF l k f y = none ∧ inSub l k a y = none) ∨ ∃ i, i < n ∧ txF l k f y = some i ∧ inSub l k a y = some (.mk (.input (i : Int)) [])) ∧ (y ∈ l → ∃ i, txF l k f y = some i)
  | [], k, n, f, a, hn, h, y => ⟨h y, fun q => nomatch q⟩
  | x :: l, k, n, f, a, hn, h, y => by
    have hl : (x :: l).length = l.length + 1 := rfl
    have h' : ∀ y, (plus f x k y = none ∧ plus a x (.mk (.input (k : Int)) []) y = none) ∨ ∃ i, i < n ∧ plus f x k y = some i ∧ plus a x (.mk (.input (k : Int)) []) y = some (.mk (.input (i : Int)) []) := fun y => by
      unfold plus
      by_cases c : y = x
      · rw [if_pos c, if_pos c]; exact .inr ⟨k, by omega, rfl, rfl⟩
      · rw [if_neg c, if_neg c]; exact h y
    obtain ⟨q1, q2⟩ := tx_in l (k + 1) n (plus f x k) (plus a x (.mk (.input (k : Int)) [])) (by omega) h' y
    refine ⟨q1, fun hy => ?_⟩
    by_cases c : y ∈ l
    · exact q2 c
    · have hyx : y = x := (List.mem_cons.mp hy).resolve_right c
      have keepn : ∀ (l : List Str) (k : Nat) (f : Str → Option Nat) (y : Str), y ∉ l → txF l k f y = f y := by
        intro l
        induction l with
        | nil => intro k f y _; rfl
        | cons z l ih =>
          intro k f y hy
          show txF l (k + 1) (plus f z k) y = f y
          rw [ih (k + 1) _ y (fun q => hy (List.mem_cons_of_mem _ q))]
          unfold plus
          rw [if_neg (fun e => hy (by rw [e]; exact List.mem_cons_self))]
      show ∃ i, txF l (k + 1) (plus f x k) y = some i
      rw [keepn l (k + 1) _ y c]
      unfold plus
      rw [if_pos hyx]
      exact ⟨k, rfl⟩
def inN (n : Nat) : List NestedKey := (List.range n).map fun (k : Nat) => nIn (k : Int)
theorem inN_len (n : Nat) : (inN n).length = n := by unfold inN; rw [List.length_map, List.length_range]
theorem inN_get {n i : Nat} (h : i < n) : (inN n)[i]? = some (nIn (i : Int)) := by unfold inN; rw [List.getElem?_map, List.getElem?_range h]; rfl
theorem inN_not (n : Nat) : nIn (n : Int) ∉ inN n := fun h => by
  obtain ⟨k, hk, e⟩ := List.mem_map.mp h
  have h1 := List.mem_range.mp hk
  have h2 := nIn_inj e
  omega
theorem inN_succ (n : Nat) : inN (n + 1) = inN n ++ [nIn (n : Int)] := by unfold inN; rw [List.range_succ, List.map_append]; rfl
theorem inN_nodup : ∀ n : Nat, (inN n).Nodup
  | 0 => .nil
  | n + 1 => by
    rw [inN_succ, List.nodup_append]
    exact ⟨inN_nodup n, List.nodup_cons.mpr ⟨by simp, .nil⟩, fun a ha b hb e => inN_not n (by rw [← List.mem_singleton.mp hb, ← e]; exact ha)⟩
theorem inN_wo (n : Nat) : Wo (inN n) := ⟨inN_nodup n, fun i d is h => by
  obtain ⟨k, _, e⟩ := List.mem_map.mp (List.mem_of_getElem? h)
  exact absurd e nIn_nDo⟩
abbrev PrgX := List Str × List Df × Sf.T
def PreP (a : PrgX) (es : List D) : Prop := DsOk a.2.1 ∧ Wf (sgr a.2.1 a.2.1.length) (fun y => y ∈ a.1) (fun _ => False) true a.2.2 ∧ arB a.2.2 = true ∧ a.2.2.sz ≤ 3000 ∧ a.2.2.dp ≤ 12 ∧ a.2.1.length ≤ 4 ∧ a.1.length ≤ 4 ∧ es = [.tup [.tup (a.1.map D.str), defsD a.2.1, enc a.2.2], .int 30]
def RP (a : PrgX) (r : D) : Prop := r = .non ∨ ∃ (v : Sf.T) (k : Int) (c : Nat), Ev a.2.1 c (inSub a.1 0 none') (fun _ => none) (.e a.2.2 v) ∧ plainB v = true ∧ r = .tup [formD v, .int k]
section
variable {P : Program} {w : World} {K : PySem.W.Frag} {mg : Str → Option Value} {base : Heap} (T : Tx K mg)
theorem ok_law_plain : FnOk P w K mg base CX0 197 T.law_plain.a T.law_plain.fd ["_law_program_here", "_law_most"] (spN K PreP RP) := by
  have G_law_kept := ok_law_kept (P := P) (w := w) (base := base) T
  have G_law_gone := ok_law_gone (P := P) (w := w) (base := base) T 65
  have G_law_ordered := ok_law_ordered (P := P) (w := w) (base := base) T
  refine def_N T.law_plain.F sc_law_plain (fun a es ⟨_, _, _, _, _, _, _, e⟩ => by subst e; rfl) (by decide) (fun cdv A outer s H E hr => ?_)
  have hu := hu_of hr
  have hr_law_kept := hr.mono (show 1 ≤ 196 by omega)
  have hr_law_ordered := hr.mono (show 1 ≤ 196 by omega)
  have hr_law_gone := hr
  refine ⟨_, (pss_cons (ps_set (i := 2) sc_law_plain.nd rfl (by first | exact Or.inl rfl | exact Or.inr rfl) (pe_disp (pps_cons pe_str (pe_ix ix_tup (pv 0) pe_int (fun _ _ => rfl)) (pps_cons pe_str (pe_lst pa_nil) (pps_cons pe_str pe_dnewN (pps_cons pe_str (pv 1) pps_nil)))) (by rfl) (by rfl) (fun z => by cases z) (by decide)))
  (pss_cons (ps_set (i := 3) sc_law_plain.nd rfl (by first | exact Or.inl rfl | exact Or.inr rfl) pe_dnewK)
  (pss_cons (ps_for PassesOwn.never rfl (pi_range1 (by rfl) T.nrange (pa_cons (pe_callB call_len (by rfl) T.nlen PySem.boot_len (pa_cons (pe_ix ix_tup (pv 0) pe_int (fun _ _ => rfl)) pa_nil)) pa_nil)) (pg_name (i := 4) sc_law_plain.nd rfl (by first | exact Or.inl rfl | exact Or.inr rfl)) (pss_one (ps_dput hu (pv 3) (pe_ix ix_tup (pe_ix ix_tup (pv 0) pe_int (fun _ _ => rfl)) (pv 4) (fun _ _ => rfl)) (pe_call G_law_kept hr_law_kept (by rfl) T.law_kept.g T.law_kept.F.kp T.law_kept.b .nil pass0 (pa_cons (pv 2) (pa_cons (pe_tup (pa_cons pe_str (pa_cons (pv 4) pa_nil))) pa_nil))) rfl)))
  (pss_cons (ps_set (i := 5) sc_law_plain.nd rfl (by first | exact Or.inl rfl | exact Or.inr rfl) (pe_call G_law_gone hr_law_gone (by rfl) T.law_gone.g T.law_gone.F.kp T.law_gone.b .nil pass0 (pa_cons (pv 2) (pa_cons (pe_ix ix_tup (pv 0) pe_int (fun _ _ => rfl)) (pa_cons (pv 3) (pa_cons pe_dnewK pa_nil))))))
  (pss_cons (ps_if (pt_cmpR op_lt (pe_dget hu (pv 2) pe_str (fun _ _ => rfl)) pe_int (nomark _)) (pss_one (ps_ret pe_non)) pss_nil)
  (pss_one (ps_ret (pe_tup (pa_cons (pe_call G_law_ordered hr_law_ordered (by rfl) T.law_ordered.g T.law_ordered.F.kp T.law_ordered.b .nil pass0 (pa_cons (pe_dget hu (pv 2) pe_str (fun _ _ => rfl)) (pa_cons (pv 5) pa_nil))) (pa_cons (pe_op op_sub (pv 1) (pe_dget hu (pv 2) pe_str (fun _ _ => rfl))) pa_nil)))))))))), ?_⟩
  dsimp only [cxOf]
  rintro ⟨xs, ds, t⟩ es ⟨dso, wf, har, hsz, hdp, hdl, hxl, rfl⟩
  have xim : imL (xs.map D.str) = true := imL_iff.mpr fun d hd => by obtain ⟨k, _, rfl⟩ := List.mem_map.mp hd; rfl
  have pim : (D.tup [.tup (xs.map D.str), defsD ds, enc t]).im = true := by
    show (imL (xs.map D.str) && (imL (ds.map defD) && ((enc t).im && true))) = true
    rw [xim, defsD_im, enc_im]; rfl
  refine ws_newA (ds := ds) (m := 30) rfl (fun j d e => ?_) ?_ (fun σ H' o Q' q => ?_) (fun AA eAA => ?_)
  · match j, e with
    | 0, e => cases Option.some.inj (Option.some.inj e); exact ⟨_, rfl, pim⟩
    | 1, e => cases Option.some.inj (Option.some.inj e); exact ⟨_, rfl, rfl⟩
    | 2, e => cases e
    | 3, e => cases e
    | 4, e => cases e
    | 5, e => cases e
    | j + 6, e => cases e
  · exact we_op (we_var rfl (we_int (wr_ixT rfl at1 rfl)))
  · obtain ⟨v, e1, e2⟩ := o.at' 1 _ rfl
    obtain rfl : v = .int 30 := e2
    exact ⟨_, e1, q⟩
  subst eAA
  have hxl' : xs.length ≤ 4 := hxl
  walk_at "ev"
  refine ws_for (wi_range ?_)
  walk_at "ev"
  refine wc_len (n := xs.length) (by show _ = (xs.map D.str).length; rw [List.length_map]) ?_
  walk_at "ev"
  refine ⟨Int.natCast_nonneg _, by omega, ?_⟩
  rw [Int.toNat_natCast]
  refine ⟨fun i Γ' g' => ∃ kn dn x4, Γ' = [some (.d (.tup [.tup (xs.map D.str), defsD AA.ds, enc t])), some (.d (.int 30)), some (.d (.adr AA.b)), some (.ownd kn dn), x4, none] ∧ SubD i (ixD (txF (xs.take i) 0 fun _ => none)) kn dn ∧ g' = { us := inN i, ks := inN i, left := 30 }, ⟨[], [], none, rfl, .nil 0, rfl⟩, fun i Γ' g' hlt ⟨kn, dn, x4, e, S, eg⟩ => ?_, fun Γ' g' ⟨kn, dn, x4, e, S, eg⟩ => ?_⟩
  · subst e eg
    have hx : xs[i]? = some xs[i] := List.getElem?_eq_getElem hlt
    refine wg_name rfl rfl ?_
    refine ws_dput rfl ?_
    walk_at "ev"
    rw [Int.zero_add]
    refine ⟨nIn (i : Int), ⟨rfl, lim_lt (by rw [inN_len]; show _ ≤ 1000000; omega), rfl, (by decide : 1 ≤ 8), ⟨_, rfl⟩, rfl⟩, ?_⟩
    rintro _ _ ⟨rfl, rfl⟩ _
    have hk : keep (inN i) (nIn (i : Int)) = (inN (i + 1), i) := by rw [keep_not (inN_not i), inN_len, inN_succ]
    walk_at "ev"
    refine wr_ixT rfl (atI_nat (v := .str xs[i]) (by rw [List.getElem?_map, hx]; rfl)) ?_
    have S' := S.put (s := xs[i]) (e := .int (i : Int)) rfl
    rw [ixD_plus] at S'
    refine ⟨xs[i], rfl, rfl, lim_lt (by have := S.le; show _ ≤ 1000000; omega), putKs kn xs[i], putD kn dn xs[i] (.int (i : Int)), some (.d (.int (i : Int))), ?_, ?_, ?_⟩
    · rw [hk]; rfl
    · rw [take_snoc hx, txF_snoc, List.length_take, Nat.min_eq_left (Nat.le_of_lt hlt), Nat.zero_add]
      exact S'
    · rw [hk]
  · subst e eg
    rw [List.take_length] at S
    refine ws_share (i := 3) rfl rfl ?_
    walk_at "ev"
    have htx := tx_in xs 0 xs.length (fun _ => none) none' (by omega) (fun y => .inl ⟨rfl, rfl⟩)
    refine ⟨⟨AA.ds.length, t, inSub xs 0 none', txF xs 0 fun _ => none, fun _ => none, fun y => y ∈ xs, fun _ => False, xs.length, 0, kn, dn, [], []⟩, ⟨⟨dso, rfl, fun _ => inN_wo _, wf, har, hsz, ?_, ?_, fun y hy => (htx y).2 hy, fun _ y hy => ?_, fun y hy => False.elim hy, S, .nil 0, ?_, ?_⟩, rfl⟩, ?_⟩
    · have h12 : AA.ds.length * (12 + 1) ≤ 4 * (12 + 1) := Nat.mul_le_mul_right _ hdl
      have hdp' : t.dp ≤ 12 := hdp
      show t.dp + AA.ds.length * (12 + 1) < 65
      omega
    · show (inN xs.length).length + 3000 * (30 : Int).toNat + t.sz ≤ 99000
      rw [inN_len]
      have hsz' : t.sz ≤ 3000 := hsz
      have hxl' : xs.length ≤ 4 := hxl
      have : (30 : Int).toNat = 30 := rfl
      omega
    · rcases (htx y).1 with ⟨h1, _⟩ | ⟨i, hi, h1, h2⟩
      · obtain ⟨i, h3⟩ := (htx y).2 hy
        rw [h1] at h3; cases h3
      · exact ⟨i, _, h1, h2, rfl, inN_get hi⟩
    · have hxl' : xs.length ≤ 4 := hxl
      have hdp' : t.dp ≤ 12 := hdp
      show xs.length + t.dp ≤ 7000; omega
    · have hdp' : t.dp ≤ 12 := hdp
      show 0 + t.dp ≤ 7000; omega
    · rintro _ g2 ⟨i2, rfl, z⟩ _
      walk_at "ev"
      refine if_both (fun c => ?_) (fun c => ?_)
      · walk_at "ev"
        exact ⟨rfl, rfl, rfl, .inl rfl⟩
      · have hnn : 0 ≤ g2.left := by have : ¬ g2.left < 0 := of_decide_eq_false (Bool.eq_false_iff.mpr c); omega
        walk_at "ev"
        refine ⟨rfl, ?_⟩
        walk_at "ev"
        obtain ⟨c1, v, e1, e2⟩ := z.ev hnn
        have vp : plainB v = true := by
          have := Ev.plain e1 (fun y u hy => by
            rcases (htx y).1 with ⟨_, h2⟩ | ⟨i, hi, _, h2⟩
            · have h3 : inSub xs 0 none' y = some u := hy
              rw [h2] at h3; cases h3
            · have h3 : inSub xs 0 none' y = some u := hy
              rw [h2] at h3
              obtain rfl := Option.some.inj h3
              rfl)
          exact this
        have ul : g2.us.length ≤ 100000 := by
          have h1 : g2.us.length + 3000 * g2.left.toNat ≤ (inN xs.length).length + 3000 * (30 : Int).toNat + t.sz := z.pot
          rw [inN_len] at h1
          have hsz' : t.sz ≤ 3000 := hsz
          have : (30 : Int).toNat = 30 := rfl
          omega
        have him : (formD v).im = true := by
          show (imL ((form v).1.map kD) && (true && true)) = true
          rw [← kDL_map, kDL_im]; rfl
        refine ⟨formD v, ⟨g2.us, v, i2, (z.wo hnn).nd, z.wo hnn, ul, vp, e2, rfl, rfl⟩, him, rfl, ?_⟩
        walk_at "ev"
        have him2 : ∀ k : Int, (D.tup [formD v, .int k]).im = true := fun k => by
          show ((formD v).im && (true && true)) = true
          rw [him]; rfl
        exact ⟨him2 _, him2 _, him2 _, .inr ⟨v, _, c1, e1, vp, rfl⟩⟩
end
end Sf
end
section
set_option Elab.async false
set_option linter.all false
set_option maxRecDepth 100000
set_option maxHeartbeats 2000000
/-! The generators' frame: the feed, a list of two numbers, at pf. -/
namespace Sf
open PySem L2
open PyProof.Rows (envOfC)
structure FJ (pf : Addr) (g : Int × Int) (H : Hp) : Prop where
  at' : H pf = some (.lst [.int g.1, .int g.2])
  a : 0 ≤ g.1
  b : 0 ≤ g.2
@[reducible] def frmF (K : PySem.W.Frag) (H0 : Hp) (pf : Addr) : Frm where
  K := K
  H0 := H0
  F := fun x => x = pf
  G := Int × Int
  J := FJ pf
  stab := fun g H H' j h1 _ _ => ⟨h1 _ _ rfl j.at', j.a, j.b⟩
  trk := fun g H x j hx he => by rw [hx, j.at'] at he; cases he
section
variable {K : PySem.W.Frag} {H0 : Hp} {pf : Addr} {Γ : Ga} {g : Int × Int} {Q : QE (frmF K H0 pf)} {ta tb te : TE} {tr : TA} {E : AE (frmF K H0 pf)}
theorem wr_f0 (q : Q (.int g.1) g) : WR (frmF K H0 pf) (rIxL K) (.adr pf) (.int 0) g Q := fun v u H O o j0 h1 h2 Q' p => by
  obtain rfl : v = .ref pf := h1
  obtain rfl : u = .int 0 := h2
  exact ⟨pf, _, 0, .int g.1, rfl, rfl, .of j0.at', at0, p _ H (.int g.1) g (Kp.refl H) j0 rfl q⟩
theorem wr_f1 (q : Q (.int g.2) g) : WR (frmF K H0 pf) (rIxL K) (.adr pf) (.int 1) g Q := fun v u H O o j0 h1 h2 Q' p => by
  obtain rfl : v = .ref pf := h1
  obtain rfl : u = .int 1 := h2
  exact ⟨pf, _, 1, .int g.2, rfl, rfl, .of j0.at', at1, p _ H (.int g.2) g (Kp.refl H) j0 rfl q⟩
end
section
variable {K : PySem.W.Frag} {H0 : Hp} {pf : Addr} {Γ : Ga} {g : Int × Int} {Q : QE (frmF K H0 pf)} {ta tb te : TE} {tr : TA} {E : AE (frmF K H0 pf)}
/-- feed[i] = e -/
theorem ws_fset (h : WE (frmF K H0 pf) te Γ g fun e g1 => WE (frmF K H0 pf) ta Γ g1 fun x g2 => x = .adr pf ∧ WE (frmF K H0 pf) tb Γ g2 fun y g3 => ∃ k n, e = .int n ∧ y = .int k ∧ 0 ≤ n ∧ ((k = 0 ∧ E.nx Γ (n, g3.2)) ∨ (k = 1 ∧ E.nx Γ (g3.1, n)))) : WS (frmF K H0 pf) (tAsg te (gSub ta tb rSetL)) Γ g E := fun σ H o j D' p =>
  h σ H o j _ fun v H1 e g1 k1 j1 i1 h1 => h1 σ H1 (o.kp k1) j1 _ fun vx H2 x g2 k2 j2 i2 ⟨ex, h2⟩ => by
    subst ex
    obtain rfl : vx = .ref pf := i2
    refine h2 σ H2 ((o.kp k1).kp k2) j2 _ fun u H3 y g3 k3 j3 i3 ⟨k, n, ee, ey, hn, q⟩ => ?_
    subst ee ey
    obtain rfl : u = .int k := i3
    obtain rfl : v = .int n := i1
    have kp4 : ∀ xs, Kp (frmF K H0 pf).F H3 (upd H3 pf (.lst xs)) := fun xs => ⟨fun b ob nn eb => by rw [upd_ne (fun z => nn z)]; exact eb, fun b ys eb => by rw [upd_ne (fun z => by rw [z, j3.at'] at eb; cases eb)]; exact eb, fun b ob u eb => by rw [upd_ne (fun z => by rw [z, j3.at'] at eb; cases eb)]; exact eb⟩
    rcases q with ⟨rfl, q⟩ | ⟨rfl, q⟩
    · have kk := ((k1.trans k2).trans k3).trans (kp4 [.int n, .int g3.2])
      exact ⟨pf, _, 0, 0, rfl, rfl, j3.at', rfl, p.nx _ _ _ _ kk.tk (o.kp kk) (show FJ pf (n, g3.2) _ from ⟨upd_same, hn, j3.b⟩) q⟩
    · have kk := ((k1.trans k2).trans k3).trans (kp4 [.int g3.1, .int n])
      exact ⟨pf, _, 1, 1, rfl, rfl, j3.at', rfl, p.nx _ _ _ _ kk.tk (o.kp kk) (show FJ pf (g3.1, n) _ from ⟨upd_same, j3.a, hn⟩) q⟩
end
/-- functions that draw from the feed at pf -/
def spF (K : PySem.W.Frag) {α : Type} (Pre : Addr → α → List D → Prop) (R : α → D → Prop) : Sp := fun vs H Q _ => ∃ pf x g es, IsL K (frmF K H pf).F AF H vs es ∧ FJ pf g H ∧ Pre pf x es ∧
  ∀ r g' v H', R x r → r.im = true → Kp (frmF K H pf).F H H' → FJ pf g' H' → Is K AT AT H' v r → Q v H'
/-- .. a new list -/
def spFL (K : PySem.W.Frag) {α : Type} (Pre : Addr → α → List D → Prop) (R : α → List D → Prop) : Sp := fun vs H Q _ => ∃ pf x g es, IsL K (frmF K H pf).F AF H vs es ∧ FJ pf g H ∧ Pre pf x es ∧
  ∀ ds g' a us H', R x ds → Kp (frmF K H pf).F H H' → FJ pf g' H' → H a = none → a ≠ pf → H' a = some (.lst us) → IsL K AT AT H' us ds → Q (.ref a) H'
section
variable {P : Program} {w : World} {K : PySem.W.Frag} {mg : Str → Option Value} {base : Heap} {H0 : Hp} {pf : Addr} {Γ : Ga} {g : Int × Int} {Q : QE (frmF K H0 pf)} {tr : TA} {X0 : XK}
theorem we_callF {α : Type} {Pre : Addr → α → List D → Prop} {R : α → D → Prop} (h : WA (frmF K H0 pf) tr Γ g fun es g1 => ∃ x, Pre pf x es ∧ ∀ r g2, R x r → r.im = true → Q r g2) : WE (frmF K H0 pf) (tCall (spF K Pre R) [] X0 tr) Γ g Q := fun σ H o j Q' p =>
  h σ H o j _ fun vs H1 es g1 kp1 j1 i1 ⟨x, h1, q⟩ => by
    show spF K Pre R (vs ++ []) H1 Q' X0
    rw [List.append_nil]
    exact ⟨pf, x, g1, es, i1.down (fun _ z => z) (fun _ z => False.elim z), j1, h1, fun r g2 v H2 hr him kp2 j2 iv => p v H2 r g2 (kp1.trans kp2) j2 (iv.down (fun _ _ => trivial) (fun _ _ => trivial)) (q r g2 hr him)⟩
theorem we_callFL {α : Type} {Pre : Addr → α → List D → Prop} {R : α → List D → Prop} (h : WA (frmF K H0 pf) tr Γ g fun es g1 => ∃ x, Pre pf x es ∧ ∀ ds g2, R x ds → Q (.lst ds) g2) : WE (frmF K H0 pf) (tCall (spFL K Pre R) [] X0 tr) Γ g Q := fun σ H o j Q' p =>
  h σ H o j _ fun vs H1 es g1 kp1 j1 i1 ⟨x, h1, q⟩ => by
    show spFL K Pre R (vs ++ []) H1 Q' X0
    rw [List.append_nil]
    exact ⟨pf, x, g1, es, i1.down (fun _ z => z) (fun _ z => False.elim z), j1, h1, fun ds g2 a us H2 hr kp2 j2 na nf ha il => p _ H2 (.lst ds) g2 (kp1.trans kp2) j2 ⟨a, us, rfl, nf, fun z => (by
      obtain ⟨u, e⟩ := (o.kp kp1).owT z
      rw [na] at e; cases e), ha, il.down (fun _ _ => trivial) (fun _ _ => trivial)⟩ (q ds g2 hr)⟩
theorem def_F {α : Type} {Pre : Addr → α → List D → Prop} {R : α → D → Prop} {x qual : Str} {st : Stmt} {f : Addr} {fd : FuncData} {N ps : List Str} {k : Nat} (F : Fun K x qual st f fd) (S : FnScope N ps (defScope st)) (hl : ∀ pf x es, Pre pf x es → es.length = ps.length) (hN : ps.length ≤ N.length)
    (hb : ∀ (cdv : Value) (A : Around) (outer : List PySem.Env) (s : Shared) (H : Hp) (E : XK), Room k (A.deeper (envOfC qual (defScope st) s.heap.objs.size f cdv)) →
      ∃ t, PSs (cxOf CX0 P w K mg base N qual (defScope st) f cdv A outer s H E).nox (defBody st) t ∧ ∀ pf x g es, Pre pf x es → 0 ≤ g.1 → 0 ≤ g.2 → WS (frmF K H pf) t (ga0 N es) g { nx := fun _ _ => False, rt := fun d _ => d.im = true ∧ R x d }) : FnOk P w K mg base CX0 (k + 1) f fd ps (spF K Pre R) := by
  refine F.ok S (fun vs H Q E h => ?_) (fun cdv A outer s H vs Q E hr h => ?_)
  · obtain ⟨pf, x, g, es, il, _, h1, _⟩ := h
    rw [il.len]; exact hl pf x es h1
  · obtain ⟨pf, x, g, es, il, j, h1, q⟩ := h
    obtain ⟨t, ht, hw⟩ := hb cdv A outer s H E hr
    refine ⟨t, ht, ?_⟩
    refine hw pf x g es h1 j.a j.b _ H (ok_start rfl (by rw [hl pf x es h1]; exact hN) rfl il) j _ ⟨fun _ _ _ _ _ _ _ z => False.elim z, fun _ _ _ _ _ _ _ z => False.elim z, fun _ _ _ _ _ _ _ z => False.elim z, fun v H' d g' kk j' iv ⟨him, e⟩ => ?_, fun _ _ _ _ _ _ _ _ _ _ _ z => False.elim z⟩
    exact q d g' v H' e him kk j' (Is.up d v him iv)
theorem def_FL {α : Type} {Pre : Addr → α → List D → Prop} {R : α → List D → Prop} {x qual : Str} {st : Stmt} {f : Addr} {fd : FuncData} {N ps : List Str} {k : Nat} (F : Fun K x qual st f fd) (S : FnScope N ps (defScope st)) (hl : ∀ pf x es, Pre pf x es → es.length = ps.length) (hN : ps.length ≤ N.length)
    (hb : ∀ (cdv : Value) (A : Around) (outer : List PySem.Env) (s : Shared) (H : Hp) (E : XK), Room k (A.deeper (envOfC qual (defScope st) s.heap.objs.size f cdv)) →
      ∃ t, PSs (cxOf CX0 P w K mg base N qual (defScope st) f cdv A outer s H E).nox (defBody st) t ∧ ∀ pf x g es, Pre pf x es → 0 ≤ g.1 → 0 ≤ g.2 → WS (frmF K H pf) t (ga0 N es) g { nx := fun _ _ => False, rtN := fun ds _ => R x ds }) : FnOk P w K mg base CX0 (k + 1) f fd ps (spFL K Pre R) := by
  refine F.ok S (fun vs H Q E h => ?_) (fun cdv A outer s H vs Q E hr h => ?_)
  · obtain ⟨pf, x, g, es, il, _, h1, _⟩ := h
    rw [il.len]; exact hl pf x es h1
  · obtain ⟨pf, x, g, es, il, j, h1, q⟩ := h
    obtain ⟨t, ht, hw⟩ := hb cdv A outer s H E hr
    refine ⟨t, ht, ?_⟩
    refine hw pf x g es h1 j.a j.b _ H (ok_start rfl (by rw [hl pf x es h1]; exact hN) rfl il) j _ ⟨fun _ _ _ _ _ _ _ z => False.elim z, fun _ _ _ _ _ _ _ z => False.elim z, fun _ _ _ _ _ _ _ z => False.elim z, fun _ _ _ _ _ _ _ z => False.elim z, fun a us H' ds g' kk j' na nf ha il' e => ?_⟩
    exact q ds g' a us H' e kk j' na nf ha il'
end
end Sf
end
section
set_option Elab.async false
set_option linter.all false
set_option maxRecDepth 100000
set_option maxHeartbeats 1000000
namespace Sf
open PySem L2
open PyProof.Rows (envOfC)
section
variable {M : Frm} {Γ : Ga} {g : M.G} {Q : QE M} {ta tb te tc : TE} {tr : TA} {E : AE M}
theorem szL_of {n : Nat} (h : n ≤ 1000) : n ≤ sizeLine := Nat.le_trans h (by decide)
theorem we_neg (h : WE M te Γ g fun e g1 => ∃ i, e = .int i ∧ Q (.int (-i)) g1) : WE M (tUn (rU fun i => .int (-i)) te) Γ g Q := fun σ H o j Q' p =>
  h σ H o j _ fun v H1 e g1 k1 j1 i1 ⟨i, e1, q⟩ => by
    subst e1
    obtain rfl : v = .int i := i1
    exact ⟨i, rfl, p _ H1 (.int (-i)) g1 k1 j1 rfl q⟩
theorem wsl_S {z : Str} {lo hi : Option Int} (hz : z.length ≤ sizeLine) (q : Q (.str (cutS z lo hi)) g) : WSl M rSlS (.str z) lo hi g Q := fun v H O o j0 h1 Q' p => ⟨z, h1, hz, p _ H (.str (cutS z lo hi)) g (Kp.refl H) j0 rfl q⟩
theorem we_join (h : WE M ta Γ g fun x g1 => ∃ a, x = .str a ∧ WE M tb Γ g1 fun y g2 => ∃ ys : List Str, y = .lst (ys.map D.str) ∧ (ys.map (·.length)).sum + ys.length * a.length ≤ 16777216 ∧ Q (.str (Txt.join a ys)) g2) :
    WE M (tM1 (fun x xs H Q => ∃ a p, ∃ ys : List Str, x = .str a ∧ xs = [.ref p] ∧ (SqL M.K H p (ys.map V.str) ∨ SqT M.K H p (ys.map V.str)) ∧ (ys.map (·.length)).sum + ys.length * a.length ≤ 16777216 ∧ Q (.str (Txt.join a ys)) H) ta tb) Γ g Q := fun σ H o j Q' p =>
  h σ H o j _ fun v H1 e g1 k1 j1 i1 ⟨a, e1, h1⟩ => by
    subst e1
    obtain rfl : v = .str a := i1
    refine ⟨⟨a, rfl⟩, h1 σ H1 (o.kp k1) j1 _ fun u H2 y g2 k2 j2 i2 ⟨ys, e2, hz, q⟩ => ?_⟩
    subst e2
    obtain ⟨b, vs, rfl, _, _, hS, hl⟩ := i2
    obtain rfl := isL_strs hl
    exact ⟨a, b, ys, rfl, rfl, .inl (.of hS), hz, p _ H2 (.str (Txt.join a ys)) g2 (k1.trans k2) j2 rfl q⟩
theorem we_upper (h : WE M ta Γ g fun x g1 => ∃ a, x = .str a ∧ a.length ≤ 5592405 ∧ Q (.str (Txt.upper a)) g1) :
    WE M (tM0 (fun x xs H Q => ∃ a, x = .str a ∧ xs = [] ∧ a.length ≤ 5592405 ∧ Q (.str (Txt.upper a)) H) ta) Γ g Q := fun σ H o j Q' p =>
  h σ H o j _ fun v H1 e g1 k1 j1 i1 ⟨a, e1, hz, q⟩ => by
    subst e1
    obtain rfl : v = .str a := i1
    exact ⟨⟨a, rfl⟩, a, rfl, rfl, hz, p _ H1 (.str (Txt.upper a)) g1 k1 j1 rfl q⟩
theorem ws_seqA {ta : TE} {tg : TG} {t2 : TS} (h : WS M (tAsg ta tg) Γ g { E with nx := fun Γ' g' => WS M t2 Γ' g' E }) : WS M (tSeq (tAsg ta tg) t2) Γ g E := ws_seq h
theorem ws_cut {t1 t2 : TS} (J : Ga → M.G → Prop) (h : WS M t1 Γ g { E with nx := J }) (h2 : ∀ Γ' g', J Γ' g' → WS M t2 Γ' g' E) : WS M (tSeq t1 t2) Γ g E := fun σ H o j D' p =>
  h σ H o j _ ⟨fun σ1 H1 Γ1 g1 t o1 j1 h1 => h2 Γ1 g1 h1 σ1 H1 o1 j1 D' (p.tk t), p.bk, p.ct, p.rt, p.rtN⟩
/-- return of a new list -/
theorem ws_retL (h : WA M tr Γ g fun es g1 => es.length ≤ sizeLine ∧ imL es = true ∧ E.rtN es g1) : WS M (tRet (tLst tr)) Γ g E := fun σ H o j D' p =>
  h σ H o j _ fun vs H1 es g1 k1 j1 i1 ⟨h1, h2, q⟩ => ⟨by rw [i1.len]; exact h1, fun a ha => by
    have kk := (o.base.trans k1)
    refine p.rtN a vs _ es g1 (kk.trans (Kp.new ha)) (M.same j1 (same_new ha)) ?_ (fun z => M.trk _ _ _ j1 z ha) upd_same ((IsL.up es vs h2 i1).kpT (Kp.new (F := M.F) ha)) q
    cases e : M.H0 a with
    | none => rfl
    | some u =>
      have hF : ¬ M.F a := fun z => M.trk _ _ _ j1 z ha
      rw [kk.k a u hF e] at ha; cases ha⟩
/-- a, b = x, y -/
theorem ws_par {i j : Nat} (hi : Nat.blt i Γ.length = true) (hj : Nat.blt j Γ.length = true) (h : WA M tr Γ g fun es g1 => ∃ d e, es = [d, e] ∧ d.im = true ∧ e.im = true ∧ E.nx ((Γ.set i (some (.d d))).set j (some (.d e))) g1) : WS M (tPar i j tr) Γ g E := fun σ H o j0 D' p =>
  h σ H o j0 _ fun vs H1 es g1 k1 j1 i1 ⟨d, e, e1, d1, d2, q⟩ => by
    subst e1
    obtain ⟨v, u, rfl, h1, h2⟩ := vals_two i1
    have o1 := (o.kp k1).set (Nat.le_of_ble_eq_true hi) (Is.up d v d1 h1)
    have o2 := o1.set (i := j) (by rw [List.length_set]; exact Nat.le_of_ble_eq_true hj) (Is.up e u d2 h2)
    exact ⟨v, u, rfl, p.nx _ H1 _ g1 k1.tk o2 j1 q⟩
end
/-- the last of a list is put anew -/
theorem ixN_neg {n k : Nat} (h : k + 1 ≤ n) : ixN n (-((k : Int) + 1)) = some (n - (k + 1)) := by
  unfold ixN
  rw [if_neg (by omega), if_pos (by omega)]
  congr 1
  omega
def PreT (pf : Addr) (m : Int) (es : List D) : Prop := es = [.adr pf, .int m] ∧ 1 ≤ m ∧ m ≤ 1000000
def RT (m : Int) (r : D) : Prop := ∃ k, r = .int k ∧ 0 ≤ k ∧ k < m
section
variable {K : PySem.W.Frag} {H0 : Hp} {pf : Addr} {Γ : Ga} {g : Int × Int} {Q : QE (frmF K H0 pf)} {te : TE} {X0 : XK} {i : Nat}
theorem we_take (hv : Γ[i]? = some (some (.d (.adr pf)))) (h : WE (frmF K H0 pf) te Γ g fun y g1 => ∃ m, y = .int m ∧ 1 ≤ m ∧ m ≤ 1000000 ∧ ∀ k g2, 0 ≤ k → k < m → Q (.int k) g2) : WE (frmF K H0 pf) (tCall (spF K PreT RT) [] X0 (tCons (tVar i) (tCons te tNil))) Γ g Q := by
  refine we_callF (wa_cons (we_var hv (wa_cons (WE.mono h fun y g1 hh => wa_nil ?_))))
  obtain ⟨m, rfl, h1, h2, q⟩ := hh
  refine ⟨m, ⟨rfl, h1, h2⟩, ?_⟩
  rintro _ g2 ⟨k, rfl, h3, h4⟩ _
  exact q k g2 h3 h4
theorem we_takeK {m : Int} (hv : Γ[i]? = some (some (.d (.adr pf)))) (hk : (decide (1 ≤ m) && decide (m ≤ 1000000)) = true) (h : ∀ k g2, 0 ≤ k → k < m → Q (.int k) g2) : WE (frmF K H0 pf) (tCall (spF K PreT RT) [] X0 (tCons (tVar i) (tCons (tC (.int m)) tNil))) Γ g Q := by
  rw [Bool.and_eq_true] at hk
  exact we_take hv (we_int ⟨m, rfl, of_decide_eq_true hk.1, of_decide_eq_true hk.2, h⟩)
end
local macro_rules | `(tactic| walk_at "evS") => `(tactic| first
  | ((with_reducible refine ws_seqA ?_); try dsimp only [List.set_cons_zero, List.set_cons_succ])
  | with_reducible refine ws_if ?_
  | with_reducible refine ws_ret ?_
  | ((with_reducible refine' ws_newL ?hi ?_); (case hi => exact rfl))
  | ((with_reducible refine' ws_newD ?hi ?_); (case hi => exact rfl))
  | ((with_reducible refine' ws_listT ?hi ?_); (case hi => exact rfl))
  | ((with_reducible refine' ws_set ?hi ?_); (case hi => exact rfl))
  | with_reducible refine ws_next ?_)
local macro_rules | `(tactic| walk_at "evE2") => `(tactic| first
  | with_reducible refine we_tup ?_
  | ((with_reducible refine' we_lenO ?hv ?_); (case hv => exact rfl))
  | ((with_reducible refine' we_tupO ?hv ?_); (case hv => exact rfl))
  | with_reducible refine we_cb ?_
  | with_reducible refine we_callI ?_
  | with_reducible refine we_callL ?_
  | with_reducible refine we_lst ?_
  | with_reducible refine we_neg ?_
  | with_reducible refine we_sl ?_
  | with_reducible refine we_dget ?_
  | with_reducible refine we_get2 ?_
  | with_reducible refine we_ifE ?_
  | with_reducible refine we_andV ?_
  | with_reducible refine we_chain ?_
  | with_reducible refine we_dnewK ?_
  | with_reducible refine we_bl ?_
  | with_reducible refine we_non ?_)
local macro_rules | `(tactic| walk_at "evE") => `(tactic| first
  | ((with_reducible refine' we_var ?hv ?_); (case hv => exact rfl))
  | with_reducible refine we_int ?_
  | with_reducible refine we_str ?_
  | ((with_reducible refine' we_takeK ?hv ?hk ?_); (case hv => exact rfl); (case hk => exact rfl))
  | ((with_reducible refine' we_ixO ?hv ?_); (case hv => exact rfl))
  | with_reducible refine we_op ?_
  | walk_at "evE2")
local macro_rules | `(tactic| walk_at "evW") => `(tactic| first
  | ((with_reducible refine' wr_ixT ?hx ?he ?_); (case hx => exact rfl); (case he => first | exact rfl | exact at0 | exact at1 | exact at2 | exact at3))
  | with_reducible refine wr_eqS ?_
  | with_reducible refine wr_f0 ?_
  | with_reducible refine wr_f1 ?_
  | ((with_reducible refine' wr_iC ?hc ?_); (case hc => first | (exact (by decide)) | exact Or.inr (And.intro (by decide) (by decide)) | exact Or.inl (And.intro (by decide) (by decide)) | exact And.intro (by decide) (by decide) | exact And.intro (by decide) (And.intro (by decide) (by decide))))
  | with_reducible refine wr_i0 ?_
  | with_reducible refine wr_b0 ?_
  | with_reducible refine wr_eqI ?_
  | with_reducible refine wr_neS ?_
  | ((with_reducible refine' wr_ixL ?he ?_); (case he => first | exact rfl | exact at0 | exact at1 | exact at2 | exact at3)))
local macro_rules | `(tactic| walk_at "evT") => `(tactic| first
  | with_reducible refine wt_test ?_
  | with_reducible refine wt_and ?_
  | with_reducible refine wt_or ?_
  | with_reducible refine wt_not ?_
  | with_reducible refine wt_b ?_)
local macro_rules | `(tactic| walk_at "evM") => `(tactic| first
  | ((with_reducible refine' sl_and ?hs ?_); (case hs => exact rfl))
  | ((with_reducible refine if_t ?hc ?_); (case hc => decide +kernel))
  | ((with_reducible refine if_f ?hc ?_); (case hc => decide +kernel))
  | with_reducible refine wo_none ?_
  | with_reducible refine wo_some ?_
  | ((with_reducible refine' wsl_S ?hc ?_); (case hc => first | exact szL_of (by omega) | decide +kernel))
  | ((with_reducible refine' wsl_T ?hx ?_); (case hx => exact rfl))
  | with_reducible refine wsl_L ?_
  | ((with_reducible refine' Exists.intro _ (And.intro ?hx ?_)); (case hx => exact rfl))
  | dsimp only)
local macro_rules | `(tactic| walk_at "ev1") => `(tactic| first
  | with_reducible refine wa_cons ?_
  | with_reducible refine wa_nil ?_
  | ((with_reducible show WE _ _ _ _ _); walk_at "evE")
  | ((with_reducible show WR _ _ _ _ _ _); walk_at "evW")
  | ((with_reducible show WS _ _ _ _ _); walk_at "evS")
  | ((with_reducible show WT _ _ _ _ _); walk_at "evT")
  | walk_at "evM")
local macro_rules | `(tactic| walk_at "ev") => `(tactic| repeat walk_at "ev1")

theorem sc_law_take : FnScope ["_law_feed_here", "_law_many", "_law_digit", "_law_one"] ["_law_feed_here", "_law_many"] (defScope (topS 41)) := ⟨rfl, rfl, rfl, by decide +kernel, rfl, by decide +kernel, by decide +kernel⟩
section
variable {P : Program} {w : World} {K : PySem.W.Frag} {mg : Str → Option Value} {base : Heap} (T : Tx K mg)
theorem ok_law_take : FnOk P w K mg base CX0 1 T.law_take.a T.law_take.fd ["_law_feed_here", "_law_many"] (spF K PreT RT) := by
  refine def_F T.law_take.F sc_law_take (fun pf x es ⟨e, _⟩ => by subst e; rfl) (by decide) (fun cdv A outer s H E hr => ?_)
  refine ⟨_, (pss_cons (ps_if (pt_cmpR op_gt (pe_ix ix_list (pv 0) pe_int (fun _ _ => rfl)) pe_int (nomark _)) (pss_cons (ps_set (i := 2) sc_law_take.nd rfl (by first | exact Or.inl rfl | exact Or.inr rfl) (pe_op op_mod (pe_ix ix_list (pv 0) pe_int (fun _ _ => rfl)) (pv 1)))
  (pss_cons (ps_asg (pe_op op_fdiv (pe_ix ix_list (pv 0) pe_int (fun _ _ => rfl)) (pv 1)) (pg_sub (pv 0) pe_int set_list))
  (pss_one (ps_ret (pv 2))))) pss_nil)
  (pss_cons (ps_set (i := 3) sc_law_take.nd rfl (by first | exact Or.inl rfl | exact Or.inr rfl) (pe_op op_mod (pe_op op_mul (pe_ix ix_list (pv 0) pe_int (fun _ _ => rfl)) pe_int) pe_int))
  (pss_cons (ps_asg (pe_op op_add (pe_op op_mod (pe_op op_add (pe_op op_mul (pv 3) pe_int) pe_int) pe_int) pe_int) (pg_sub (pv 0) pe_int set_list))
  (pss_one (ps_ret (pe_op op_mod (pe_op op_fdiv (pe_op op_add (pe_op op_mul (pv 3) pe_int) (pe_ix ix_list (pv 0) pe_int (fun _ _ => rfl))) pe_int) (pv 1))))))), ?_⟩
  dsimp only [cxOf]
  rintro pf m g es ⟨rfl, hm, hm2⟩ ha hb
  refine ws_seq ?_
  walk_at "ev"
  refine if_both (fun c => ?_) (fun c => ?_)
  · walk_at "ev"
    refine wr_iC (by show 0 < m; omega) ?_
    walk_at "ev"
    refine ws_fset ?_
    walk_at "ev"
    refine wr_iC ⟨by omega, by omega⟩ ?_
    walk_at "ev"
    refine ⟨rfl, ?_⟩
    walk_at "ev"
    have hd : 0 ≤ g.1 / m := Int.ediv_nonneg ha (by omega)
    refine ⟨0, _, rfl, rfl, hd, .inl ⟨rfl, ?_⟩⟩
    walk_at "ev"
    exact ⟨rfl, rfl, _, rfl, Int.emod_nonneg _ (by omega), Int.emod_lt_of_pos _ (by omega)⟩
  · walk_at "ev"
    refine ws_fset ?_
    walk_at "ev"
    refine ⟨rfl, ?_⟩
    walk_at "ev"
    refine ⟨1, _, rfl, rfl, ?_, .inr ⟨rfl, ?_⟩⟩
    · have := Int.emod_nonneg (g.2 * 48271 % 2147483647 * 40692 + 30103) (show (2147483399 : Int) ≠ 0 by omega)
      omega
    · walk_at "ev"
      refine wr_iC (by show 0 < m; omega) ?_
      exact ⟨rfl, rfl, _, rfl, Int.emod_nonneg _ (by omega), Int.emod_lt_of_pos _ (by omega)⟩
end
end Sf
end
section
set_option Elab.async false
set_option linter.all false
set_option maxRecDepth 100000
set_option maxHeartbeats 1000000
namespace Sf
open PySem L2
open PyProof.Rows (envOfC)
theorem atI_in {α : Type} {xs : List α} {k : Int} (h0 : 0 ≤ k) (h1 : k < xs.length) : ∃ x, atI xs k = some x ∧ x ∈ xs ∧ xs[k.toNat]? = some x := by
  have hk : k.toNat < xs.length := by omega
  have e : k = ((k.toNat : Nat) : Int) := by omega
  have q : atI xs ((k.toNat : Nat) : Int) = some xs[k.toNat] := atI_nat (List.getElem?_eq_getElem hk)
  rw [← e] at q
  exact ⟨xs[k.toNat], q, List.getElem_mem hk, List.getElem?_eq_getElem hk⟩
theorem atI_map {α : Type} {f : α → D} {xs : List α} {k : Int} (h0 : 0 ≤ k) (h1 : k < xs.length) : ∃ x, atI (xs.map f) k = some (f x) ∧ x ∈ xs ∧ xs[k.toNat]? = some x := by
  obtain ⟨d, e1, _, e3⟩ := atI_in (xs := xs.map f) h0 (by rw [List.length_map]; exact h1)
  rw [List.getElem?_map] at e3
  obtain ⟨x, e4, e5⟩ := Option.map_eq_some_iff.mp e3
  exact ⟨x, by rw [e1, e5], List.mem_of_getElem? e4, e4⟩
theorem atI_ints {ns : List Int} {k : Int} (h0 : 0 ≤ k) (h1 : k < ns.length) : ∃ v, atI (ns.map D.int) k = some (.int v) := let ⟨x, h, _⟩ := atI_map h0 h1; ⟨x, h⟩
/-- the script: a list that is never changed -/
def SqF (K : PySem.W.Frag) (H : Hp) (a : Addr) (xs : List V) : Prop := (∃ ob, H a = some (.frz ob (.lst xs))) ∨
    ∃ (o : Obj) (its : Array Value) (n : Nat), K.lookup a = some o ∧ o.cls = .type "list" ∧ o.dict = none ∧ o.data = .seq its n ∧ its.size ≤ sizeLine ∧ Vals xs its.toList
theorem SqF.sq {K : PySem.W.Frag} {H : Hp} {a : Addr} {xs : List V} (h : SqF K H a xs) : SqL K H a xs := by
  rcases h with ⟨ob, e⟩ | h
  · exact .inl (.inr ⟨ob, e⟩)
  · exact .inr h
theorem SqF.z {K : PySem.W.Frag} {H H' : Hp} {a : Addr} {xs : List V} (h : SqF K H a xs) (k : ∀ b o u, H b = some (.frz o u) → H' b = some (.frz o u)) : SqF K H' a xs := by
  rcases h with ⟨ob, e⟩ | h
  · exact .inl ⟨ob, k _ _ _ e⟩
  · exact .inr h
@[reducible] def frmS (K : PySem.W.Frag) (H0 : Hp) (a : Addr) (xs : List V) : Frm where
  K := K
  H0 := H0
  F := AF
  G := Unit
  J := fun _ H => SqF K H a xs
  stab := fun _ _ _ j _ _ h3 => j.z h3
  trk := fun _ _ _ _ h => h.elim
def RFd (ds : List D) : Prop := ∃ a b : Int, ds = [.int a, .int b] ∧ 0 ≤ a ∧ 0 ≤ b
def spFeed (K : PySem.W.Frag) : Sp := fun vs H Q _ => ∃ (a : Addr) (ns : List Int) (k : Int), vs = [.ref a, .int k] ∧ SqF K H a (ns.map V.int) ∧ ns.length ≤ 63 ∧ 0 ≤ k ∧ k ≤ 1 ∧
  ∀ ds b us H', RFd ds → Same H H' → H b = none → H' b = some (.lst us) → IsL K AT AT H' us ds → Q (.ref b) H'
section
variable {K : PySem.W.Frag} {F O O' : Aset} {H H' : Hp} {pf : Addr}
mutual
theorem Is.chF (hp : H pf = none) (k : Same H H') (hO : ∀ a, ¬ O' a) : ∀ (d : D) (v : V), Is K F O H v d → Is K (fun x => x = pf) O' H' v d
  | .non, _, h => h
  | .bl _, _, h => h
  | .int _, _, h => h
  | .str _, _, h => h
  | .adr _, _, h => h
  | .tup ds, _, ⟨a, vs, e, h, hl⟩ => ⟨a, vs, e, Kp.sqT (F := AF) (.of_same k) h, IsL.chF hp k hO ds vs hl⟩
  | .lst ds, _, ⟨a, vs, e, n1, n2, h, hl⟩ => ⟨a, vs, e, fun z => (by rw [show a = pf from z, hp] at h; cases h), hO a, k _ _ h, IsL.chF hp k hO ds vs hl⟩
  | .dict ks ds, _, ⟨a, ws, e, n1, n2, h, hk, hl⟩ => ⟨a, ws, e, fun z => (by rw [show a = pf from z, hp] at h; cases h), hO a, k _ _ h, hk, IsL.chF hp k hO ds _ hl⟩
theorem IsL.chF (hp : H pf = none) (k : Same H H') (hO : ∀ a, ¬ O' a) : ∀ (ds : List D) (vs : List V), IsL K F O H vs ds → IsL K (fun x => x = pf) O' H' vs ds
  | [], [], h => h
  | [], _ :: _, h => h
  | _ :: _, [], h => h
  | d :: ds, v :: vs, h => ⟨Is.chF hp k hO d v h.1, IsL.chF hp k hO ds vs h.2⟩
end
end
section
variable {M : Frm} {Γ : Ga} {g : M.G} {E : AE M} {ts : TS} {i j0 : Nat} {X0 : XK} {sa : Addr} {ns : List Int} {k : Int}
theorem ws_newF (hS : SqF M.K M.H0 sa (ns.map V.int)) (hn : ns.length ≤ 63) (hk0 : 0 ≤ k) (hk1 : k ≤ 1) (hi : Nat.blt i Γ.length = true) (hv : Γ[j0]? = some (some (.d (.adr sa)))) (hd : ∀ (j : Nat) (d : SD), Γ[j]? = some (some d) → isOwn d = false)
    (h : ∀ H0 pf g', SqF M.K H0 sa (ns.map V.int) → WS (frmF M.K H0 pf) ts (Γ.set i (some (.d (.adr pf)))) g' { nx := fun _ _ => False, rt := fun d _ => d.im = true ∧ E.rt d g }) :
    WS M (tSeq (tAsg (tCall (spFeed M.K) [] X0 (tCons (tVar j0) (tCons (tC (.int k)) tNil))) (gName i)) ts) Γ g E := fun σ H1 o j1 D' p => by
    obtain ⟨vs, e0, e1⟩ := o.at' j0 _ hv
    obtain rfl : vs = .ref sa := e1
    have hS1 : SqF M.K H1 sa (ns.map V.int) := hS.z o.base.z
    refine ⟨_, e0, sa, ns, k, rfl, hS1, hn, hk0, hk1, fun ds a us H2 hr sm na ha il => ?_⟩
    have k1 : Kp M.F H1 H1 := Kp.refl H1
    obtain ⟨u1, u2, rfl, hu1, hu2⟩ := hr
    have hiΓ := Nat.le_of_ble_eq_true hi
    have hiσ : i < σ.length := by rw [o.len]; exact hiΓ
    have hd' : ∀ (j : Nat) (d : SD), (Γ.set i (some (.d (.adr a))))[j]? = some (some d) → isOwn d = false := fun j d e => by
      by_cases q : j = i
      · subst q
        rw [List.getElem?_set_self hiΓ] at e
        cases Option.some.inj (Option.some.inj e)
        rfl
      · rw [List.getElem?_set_ne (Ne.symm q)] at e
        exact hd j d e
    have noO : ∀ b, ¬ Ow (Γ.set i (some (.d (.adr a)))) (σ.set i (some (.ref a))) b := fun b ⟨k, d, e1, e2, _⟩ => by rw [hd' k d e1] at e2; cases e2
    have o2 : Ok (frmF M.K H1 a) (Γ.set i (some (.d (.adr a)))) (σ.set i (some (.ref a))) H2 := by
      refine ⟨by rw [List.length_set, List.length_set]; exact o.len, .of_same sm, fun j d e => ?_, fun j d e n => ?_, fun b hb => absurd hb (noO b), fun j k d e b h1 h2 => ?_⟩
      · by_cases q : j = i
        · subst q
          rw [List.getElem?_set_self hiΓ] at e
          cases Option.some.inj (Option.some.inj e)
          exact ⟨_, List.getElem?_set_self hiσ, rfl⟩
        · rw [List.getElem?_set_ne (Ne.symm q)] at e
          obtain ⟨v, e1, e2⟩ := (o.kp k1).at' j d e
          exact ⟨v, by rw [List.getElem?_set_ne (Ne.symm q)]; exact e1, Is.chF na sm noO d v e2⟩
      · rw [hd' j d e] at n; cases n
      · rw [hd' j d h1] at h2; cases h2
    have eus : us = [.int u1, .int u2] := by
      have h3 := isL_ints (ss := [u1, u2]) il
      exact h3
    subst eus
    refine h H1 a (u1, u2) hS1 _ _ o2 (show FJ a (u1, u2) H2 from ⟨ha, hu1, hu2⟩) _ ⟨fun _ _ _ _ _ _ _ z => False.elim z, fun _ _ _ _ _ _ _ z => False.elim z, fun _ _ _ _ _ _ _ z => False.elim z, fun v H3 d _ kk _ iv ⟨dim, q⟩ => ?_, fun _ _ _ _ _ _ _ _ _ _ _ z => False.elim z⟩
    have k3 : Same H1 H3 := fun x ob e => kk.k x ob (fun z => by have e' : H1 x = some ob := e; rw [show x = a from z, na] at e'; cases e') e
    exact p.rt v H3 d g ((o.base.trans k1).trans (.of_same k3)) (M.same j1 k3) (Is.up d v dim iv) q
end
local macro_rules | `(tactic| walk_at "evS") => `(tactic| first
  | ((with_reducible refine ws_seqA ?_); try dsimp only [List.set_cons_zero, List.set_cons_succ])
  | with_reducible refine ws_if ?_
  | with_reducible refine ws_ret ?_
  | ((with_reducible refine' ws_newL ?hi ?_); (case hi => exact rfl))
  | ((with_reducible refine' ws_newD ?hi ?_); (case hi => exact rfl))
  | ((with_reducible refine' ws_listT ?hi ?_); (case hi => exact rfl))
  | ((with_reducible refine' ws_set ?hi ?_); (case hi => exact rfl))
  | with_reducible refine ws_next ?_)
local macro_rules | `(tactic| walk_at "evE2") => `(tactic| first
  | with_reducible refine we_tup ?_
  | ((with_reducible refine' we_lenO ?hv ?_); (case hv => exact rfl))
  | ((with_reducible refine' we_tupO ?hv ?_); (case hv => exact rfl))
  | with_reducible refine we_cb ?_
  | with_reducible refine we_callI ?_
  | with_reducible refine we_callL ?_
  | with_reducible refine we_lst ?_
  | with_reducible refine we_neg ?_
  | with_reducible refine we_sl ?_
  | with_reducible refine we_dget ?_
  | with_reducible refine we_get2 ?_
  | with_reducible refine we_ifE ?_
  | with_reducible refine we_andV ?_
  | with_reducible refine we_chain ?_
  | with_reducible refine we_dnewK ?_
  | with_reducible refine we_bl ?_
  | with_reducible refine we_non ?_)
local macro_rules | `(tactic| walk_at "evE") => `(tactic| first
  | ((with_reducible refine' we_var ?hv ?_); (case hv => exact rfl))
  | with_reducible refine we_int ?_
  | with_reducible refine we_str ?_
  | ((with_reducible refine' we_takeK ?hv ?hk ?_); (case hv => exact rfl); (case hk => exact rfl))
  | ((with_reducible refine' we_ixO ?hv ?_); (case hv => exact rfl))
  | with_reducible refine we_op ?_
  | walk_at "evE2")
local macro_rules | `(tactic| walk_at "evW") => `(tactic| first
  | ((with_reducible refine' wr_ixT ?hx ?he ?_); (case hx => exact rfl); (case he => first | exact rfl | exact at0 | exact at1 | exact at2 | exact at3))
  | with_reducible refine wr_eqS ?_
  | with_reducible refine wr_f0 ?_
  | with_reducible refine wr_f1 ?_
  | ((with_reducible refine' wr_iC ?hc ?_); (case hc => first | (exact (by decide)) | exact Or.inr (And.intro (by decide) (by decide)) | exact Or.inl (And.intro (by decide) (by decide)) | exact And.intro (by decide) (by decide) | exact And.intro (by decide) (And.intro (by decide) (by decide))))
  | with_reducible refine wr_i0 ?_
  | with_reducible refine wr_b0 ?_
  | with_reducible refine wr_eqI ?_
  | with_reducible refine wr_neS ?_
  | ((with_reducible refine' wr_ixL ?he ?_); (case he => first | exact rfl | exact at0 | exact at1 | exact at2 | exact at3)))
local macro_rules | `(tactic| walk_at "evT") => `(tactic| first
  | with_reducible refine wt_test ?_
  | with_reducible refine wt_and ?_
  | with_reducible refine wt_or ?_
  | with_reducible refine wt_not ?_
  | with_reducible refine wt_b ?_)
local macro_rules | `(tactic| walk_at "evM") => `(tactic| first
  | ((with_reducible refine' sl_and ?hs ?_); (case hs => exact rfl))
  | ((with_reducible refine if_t ?hc ?_); (case hc => decide +kernel))
  | ((with_reducible refine if_f ?hc ?_); (case hc => decide +kernel))
  | with_reducible refine wo_none ?_
  | with_reducible refine wo_some ?_
  | ((with_reducible refine' wsl_S ?hc ?_); (case hc => first | exact szL_of (by omega) | decide +kernel))
  | ((with_reducible refine' wsl_T ?hx ?_); (case hx => exact rfl))
  | with_reducible refine wsl_L ?_
  | ((with_reducible refine' Exists.intro _ (And.intro ?hx ?_)); (case hx => exact rfl))
  | dsimp only)
local macro_rules | `(tactic| walk_at "ev1") => `(tactic| first
  | with_reducible refine wa_cons ?_
  | with_reducible refine wa_nil ?_
  | ((with_reducible show WE _ _ _ _ _); walk_at "evE")
  | ((with_reducible show WR _ _ _ _ _ _); walk_at "evW")
  | ((with_reducible show WS _ _ _ _ _); walk_at "evS")
  | ((with_reducible show WT _ _ _ _ _); walk_at "evT")
  | walk_at "evM")
local macro_rules | `(tactic| walk_at "ev") => `(tactic| repeat walk_at "ev1")

theorem sc_law_feed : FnScope ["_law_script", "_law_k", "_law_cell", "_law_own"] ["_law_script", "_law_k"] (defScope (topS 40)) := ⟨rfl, rfl, rfl, by decide +kernel, rfl, by decide +kernel, by decide +kernel⟩
section
variable {K : PySem.W.Frag} {H0 : Hp} {a : Addr} {ns : List Int} {g : Unit} {Q : QE (frmS K H0 a (ns.map V.int))}
theorem wr_ixF {k v : Int} (e : atI (ns.map V.int) k = some (.int v)) (q : Q (.int v) ()) : WR (frmS K H0 a (ns.map V.int)) (rIxL K) (.adr a) (.int k) g Q := fun v' u H O o j h1 h2 Q' p => by
  obtain rfl : v' = .ref a := h1
  have j' : SqF K H a (ns.map V.int) := j
  exact ⟨a, _, k, .int v, rfl, h2, j'.sq, e, p _ H (.int v) () (Kp.refl H) j rfl q⟩
theorem wc_lenF (q : Q (.int (ns.length : Nat)) ()) : WC (frmS K H0 a (ns.map V.int)) (fun xs H Q => ∃ x n, xs = [x] ∧ LenV K x H n ∧ Q (.int n) H) [.adr a] g Q := fun vs H O o j h Q' p => by
  obtain ⟨v, rfl, e⟩ := vals_one h
  obtain rfl : v = .ref a := e
  have j' : SqF K H a (ns.map V.int) := j
  exact ⟨_, ns.length, rfl, .inl ⟨_, j'.sq, (List.length_map _).symm⟩, p _ H (.int _) () (Kp.refl H) j rfl q⟩
theorem atI_vints {ns : List Int} {k : Int} (h0 : 0 ≤ k) (h1 : k < ns.length) : ∃ v, atI (ns.map V.int) k = some (.int v) := by
  obtain ⟨x, h, _⟩ := atI_in (xs := ns) h0 h1
  unfold atI at h ⊢
  rw [List.length_map]
  cases e : ixN ns.length k with
  | none => rw [e] at h; cases h
  | some j =>
    rw [e] at h
    have h' : ns[j]? = some x := h
    exact ⟨x, by show (ns.map V.int)[j]? = _; rw [List.getElem?_map, h']; rfl⟩
end
section
variable {P : Program} {w : World} {K : PySem.W.Frag} {mg : Str → Option Value} {base : Heap} (T : Tx K mg)
theorem ok_law_feed : FnOk P w K mg base CX0 1 T.law_feed.a T.law_feed.fd ["_law_script", "_law_k"] (spFeed K) := by
  refine T.law_feed.F.ok sc_law_feed (fun vs H Q E ⟨_, _, _, e, _⟩ => by subst e; rfl) (fun cdv A outer s H vs Q E hr h => ?_)
  obtain ⟨a, ns, k, rfl, hS, hn, hk, hk2, q⟩ := h
  refine ⟨_, (pss_cons (ps_set (i := 2) sc_law_feed.nd rfl (by first | exact Or.inl rfl | exact Or.inr rfl) (pe_op op_add (pe_op op_mul pe_int (pv 1)) pe_int))
  (pss_cons (ps_if (pt_cmpR op_lt (pv 1) (pe_callB call_len (by rfl) T.nlen PySem.boot_len (pa_cons (pv 0) pa_nil)) (nomark _)) (pss_one (ps_set (i := 2) sc_law_feed.nd rfl (by first | exact Or.inl rfl | exact Or.inr rfl) (pe_ix ix_list (pv 0) (pv 1) (fun _ _ => rfl)))) (pss_one (ps_if (pt_cmpR op_gt (pe_callB call_len (by rfl) T.nlen PySem.boot_len (pa_cons (pv 0) pa_nil)) pe_int (nomark _)) (pss_one (ps_set (i := 2) sc_law_feed.nd rfl (by first | exact Or.inl rfl | exact Or.inr rfl) (pe_op op_add (pe_op op_mul (pe_op op_mod (pe_ix ix_list (pv 0) (pe_op op_mod (pv 1) (pe_callB call_len (by rfl) T.nlen PySem.boot_len (pa_cons (pv 0) pa_nil))) (fun _ _ => rfl)) pe_int) pe_int) (pe_op op_mul pe_int (pv 1))))) pss_nil)))
  (pss_cons (ps_set (i := 3) sc_law_feed.nd rfl (by first | exact Or.inl rfl | exact Or.inr rfl) pe_int)
  (pss_cons (ps_if (pt_cmpR op_ge (pv 2) (pe_op op_pow pe_int pe_int) (nomark _)) (pss_one (ps_set (i := 3) sc_law_feed.nd rfl (by first | exact Or.inl rfl | exact Or.inr rfl) (pv 2))) pss_nil)
  (pss_one (ps_ret (pe_lst (pa_cons (pv 3) (pa_cons (pe_op op_add (pe_op op_mod (pe_op op_add (pe_op op_mul (pe_op op_mod (pv 2) pe_int) pe_int) (pe_op op_mul pe_int (pv 1))) pe_int) pe_int) pa_nil))))))))), ?_⟩
  dsimp only [cxOf]
  refine (?_ : WS (frmS K H a (ns.map V.int)) _ (ga0 ["_law_script", "_law_k", "_law_cell", "_law_own"] [.adr a, .int k]) () { nx := fun _ _ => False, rtN := fun ds _ => RFd ds }) _ H (ok_start rfl (Nat.le_add_right 2 2) rfl (show IsL K AF AF H [V.ref a, V.int k] [.adr a, .int k] from ⟨rfl, rfl, trivial⟩)) hS _ ⟨fun _ _ _ _ _ _ _ z => False.elim z, fun _ _ _ _ _ _ _ z => False.elim z, fun _ _ _ _ _ _ _ z => False.elim z, fun _ _ _ _ _ _ _ z => False.elim z, fun b us H' ds g' kk j' na nf ha il' e => q ds b us H' e kk.same na ha il'⟩
  dsimp only [ga0, List.map, List.length_cons, List.length_nil, List.cons_append, List.nil_append, Nat.reduceAdd, Nat.reduceSub, List.replicate_succ, List.replicate_zero]
  walk_at "ev"
  refine ws_cut (fun Γ' _ => ∃ c : Int, Γ' = [some (.d (.adr a)), some (.d (.int k)), some (.d (.int c)), none]) ?_ ?_
  · walk_at "ev"
    refine wc_lenF ?_
    walk_at "ev"
    refine if_both (fun c => ?_) (fun c => ?_)
    · have c' : k < ns.length := of_decide_eq_true c
      walk_at "ev"
      obtain ⟨v, hv⟩ := atI_vints hk c'
      refine wr_ixF hv ?_
      exact ⟨_, rfl⟩
    · walk_at "ev"
      refine wc_lenF ?_
      walk_at "ev"
      refine if_both (fun c => ?_) (fun c => ?_)
      · have c' : 0 < (ns.length : Int) := of_decide_eq_true c
        walk_at "ev"
        refine wc_lenF ?_
        walk_at "ev"
        refine wr_iC c' ?_
        walk_at "ev"
        obtain ⟨v, hv⟩ := atI_vints (Int.emod_nonneg k (show (ns.length : Int) ≠ 0 by omega)) (Int.emod_lt_of_pos k c')
        refine wr_ixF hv ?_
        walk_at "ev"
        exact ⟨_, rfl⟩
      · walk_at "ev"
        exact ⟨_, rfl⟩
  · rintro Γ' g' ⟨c, rfl⟩
    walk_at "ev"
    refine ws_cut (fun Γ' _ => ∃ b : Int, 0 ≤ b ∧ Γ' = [some (.d (.adr a)), some (.d (.int k)), some (.d (.int c)), some (.d (.int b))]) ?_ ?_
    · walk_at "ev"
      refine if_both (fun d => ?_) (fun d => ?_)
      · have d' : (10 : Int) ^ (18 : Int).toNat ≤ c := of_decide_eq_true d
        walk_at "ev"
        exact ⟨c, Int.le_trans (by decide) d', rfl⟩
      · walk_at "ev"
        exact ⟨0, by decide, rfl⟩
    · rintro Γ' g' ⟨b, hb, rfl⟩
      refine ws_retL ?_
      walk_at "ev"
      refine ⟨rfl, b, _, rfl, hb, ?_⟩
      have := Int.emod_nonneg (c % 2147483629 * 48271 + 40692 * k) (show (2147483646 : Int) ≠ 0 by omega)
      omega
end
end Sf
end
section
set_option Elab.async false
set_option linter.all false
set_option maxRecDepth 100000
set_option maxHeartbeats 1000000
namespace Sf
open PySem L2
open PyProof.Rows (envOfC)
local macro_rules | `(tactic| walk_at "evS") => `(tactic| first
  | ((with_reducible refine ws_seqA ?_); try dsimp only [List.set_cons_zero, List.set_cons_succ])
  | with_reducible refine ws_if ?_
  | with_reducible refine ws_ret ?_
  | ((with_reducible refine' ws_newL ?hi ?_); (case hi => exact rfl))
  | ((with_reducible refine' ws_newD ?hi ?_); (case hi => exact rfl))
  | ((with_reducible refine' ws_listT ?hi ?_); (case hi => exact rfl))
  | ((with_reducible refine' ws_set ?hi ?_); (case hi => exact rfl))
  | with_reducible refine ws_next ?_)
local macro_rules | `(tactic| walk_at "evE2") => `(tactic| first
  | with_reducible refine we_tup ?_
  | ((with_reducible refine' we_lenO ?hv ?_); (case hv => exact rfl))
  | ((with_reducible refine' we_tupO ?hv ?_); (case hv => exact rfl))
  | with_reducible refine we_cb ?_
  | with_reducible refine we_callI ?_
  | with_reducible refine we_callL ?_
  | with_reducible refine we_lst ?_
  | with_reducible refine we_neg ?_
  | with_reducible refine we_sl ?_
  | with_reducible refine we_dget ?_
  | with_reducible refine we_get2 ?_
  | with_reducible refine we_ifE ?_
  | with_reducible refine we_andV ?_
  | with_reducible refine we_chain ?_
  | with_reducible refine we_dnewK ?_
  | with_reducible refine we_bl ?_
  | with_reducible refine we_non ?_)
local macro_rules | `(tactic| walk_at "evE") => `(tactic| first
  | ((with_reducible refine' we_var ?hv ?_); (case hv => exact rfl))
  | with_reducible refine we_int ?_
  | with_reducible refine we_str ?_
  | ((with_reducible refine' we_takeK ?hv ?hk ?_); (case hv => exact rfl); (case hk => exact rfl))
  | ((with_reducible refine' we_ixO ?hv ?_); (case hv => exact rfl))
  | with_reducible refine we_op ?_
  | walk_at "evE2")
local macro_rules | `(tactic| walk_at "evW") => `(tactic| first
  | ((with_reducible refine' wr_ixT ?hx ?he ?_); (case hx => exact rfl); (case he => first | exact rfl | exact at0 | exact at1 | exact at2 | exact at3))
  | with_reducible refine wr_eqS ?_
  | with_reducible refine wr_f0 ?_
  | with_reducible refine wr_f1 ?_
  | ((with_reducible refine' wr_iC ?hc ?_); (case hc => first | (exact (by decide)) | exact Or.inr (And.intro (by decide) (by decide)) | exact Or.inl (And.intro (by decide) (by decide)) | exact And.intro (by decide) (by decide) | exact And.intro (by decide) (And.intro (by decide) (by decide))))
  | with_reducible refine wr_i0 ?_
  | with_reducible refine wr_b0 ?_
  | with_reducible refine wr_eqI ?_
  | with_reducible refine wr_neS ?_
  | ((with_reducible refine' wr_ixL ?he ?_); (case he => first | exact rfl | exact at0 | exact at1 | exact at2 | exact at3)))
local macro_rules | `(tactic| walk_at "evT") => `(tactic| first
  | with_reducible refine wt_test ?_
  | with_reducible refine wt_and ?_
  | with_reducible refine wt_or ?_
  | with_reducible refine wt_not ?_
  | with_reducible refine wt_b ?_)
local macro_rules | `(tactic| walk_at "evM") => `(tactic| first
  | ((with_reducible refine' sl_and ?hs ?_); (case hs => exact rfl))
  | ((with_reducible refine if_t ?hc ?_); (case hc => decide +kernel))
  | ((with_reducible refine if_f ?hc ?_); (case hc => decide +kernel))
  | with_reducible refine wo_none ?_
  | with_reducible refine wo_some ?_
  | ((with_reducible refine' wsl_S ?hc ?_); (case hc => first | exact szL_of (by omega) | decide +kernel))
  | ((with_reducible refine' wsl_T ?hx ?_); (case hx => exact rfl))
  | with_reducible refine wsl_L ?_
  | ((with_reducible refine' Exists.intro _ (And.intro ?hx ?_)); (case hx => exact rfl))
  | dsimp only)
local macro_rules | `(tactic| walk_at "ev1") => `(tactic| first
  | with_reducible refine wa_cons ?_
  | with_reducible refine wa_nil ?_
  | ((with_reducible show WE _ _ _ _ _); walk_at "evE")
  | ((with_reducible show WR _ _ _ _ _ _); walk_at "evW")
  | ((with_reducible show WS _ _ _ _ _); walk_at "evS")
  | ((with_reducible show WT _ _ _ _ _); walk_at "evT")
  | walk_at "evM")
local macro_rules | `(tactic| walk_at "ev") => `(tactic| repeat walk_at "ev1")

theorem sc_law_names : FnScope ["_law_feed_here", "_law_many", "_law_letters", "_law_stem", "_law_first", "_law_at", "_law_turn", "_law_names_here", "_law_k", "_law_sign", "_law_name"] ["_law_feed_here", "_law_many"] (defScope (topS 42)) := ⟨rfl, rfl, rfl, by decide +kernel, rfl, by decide +kernel, by decide +kernel⟩
def lets : Str := "abcdefghijklmnopqrstuvwxyz"
theorem lets_at {i : Int} (h0 : 0 ≤ i) (h1 : i < 26) : atI lets.cps.toList i = some (97 + i.toNat) := by
  have q : ∀ j : Nat, j < 26 → lets.cps.toList[j]? = some (97 + j) := by decide +kernel
  have e : i = ((i.toNat : Nat) : Int) := by omega
  have := atI_nat (q i.toNat (by omega))
  rw [← e] at this
  exact this
theorem lets_len : lets.length ≤ sizeLine := by decide +kernel
structure NmAt (p c : Nat) (n : Str) : Prop where
  at' : n.cps.toList[p]? = some c
  len : n.length ≤ 100
theorem str_len (s : Str) : s.cps.toList.length = s.length := by simp [Str.length]
theorem toList_append (a b : Str) : (a ++ b).cps.toList = a.cps.toList ++ b.cps.toList := by
  rw [Str.cps_append, Array.toList_append]
theorem cut_head {z : Str} {a : Int} (h0 : 0 ≤ a) (h1 : a ≤ z.length) : (cutS z none (some a)).length = a.toNat := by
  show (((z.cps.toList.drop (HT.sIx z.length 0 none)).take (HT.sIx z.length z.length (some a) - HT.sIx z.length 0 none)).toArray).size = _
  rw [List.size_toArray, List.length_take, List.length_drop, str_len]
  have e1 : HT.sIx z.length 0 none = 0 := rfl
  have e2 : HT.sIx z.length z.length (some a) = min a.toNat z.length := by
    show (if a < 0 then _ else min a.toNat z.length) = _
    rw [if_neg (by omega)]
  rw [e1, e2]
  omega
theorem nm_mk {z c : Str} {a : Int} {x : Nat} (hz : z.length ≤ 10) (h0 : 0 ≤ a) (h1 : a ≤ z.length) (hc : c.length ≤ 10) : NmAt a.toNat x (((cutS z none (some a)) ++ (⟨#[x]⟩ : Str)) ++ c) := by
  have hl := cut_head h0 h1
  refine ⟨?_, ?_⟩
  · rw [toList_append, toList_append, List.append_assoc, List.getElem?_append_right (by rw [str_len, hl]; exact Nat.le_refl _), str_len, hl, Nat.sub_self]; rfl
  · rw [Str.length_append, Str.length_append, hl]
    have : (⟨#[x]⟩ : Str).length = 1 := rfl
    omega
theorem NmAt.q {p x : Nat} {n : Str} (h : NmAt p x n) (hl : n.length ≤ 60) : NmAt p x (n ++ ("q" : Str)) := by
  have e : ("q" : Str).length = 1 := by decide +kernel
  refine ⟨?_, ?_⟩
  · rw [toList_append, List.getElem?_append_left (List.getElem?_eq_some_iff.mp h.at').1]; exact h.at'
  · rw [Str.length_append, e]; omega
theorem nodup_of {α : Type} : ∀ {ns : List α}, (∀ (i j : Nat) a b, i < j → ns[i]? = some a → ns[j]? = some b → a ≠ b) → ns.Nodup
  | [], _ => .nil
  | n :: ns, h => by
    refine List.nodup_cons.mpr ⟨fun hm => ?_, nodup_of fun i j a b hij h1 h2 => h (i + 1) (j + 1) a b (by omega) h1 h2⟩
    obtain ⟨k, hk⟩ := List.mem_iff_getElem?.mp hm
    exact h 0 (k + 1) n n (by omega) rfl hk rfl
theorem lets_inj {f : Int} {i j : Nat} (hij : i < j) (hj : j < 26) (h : 97 + ((f + 7 * (i : Int)) % 26).toNat = 97 + ((f + 7 * (j : Int)) % 26).toNat) : False := by omega
def PreN (pf : Addr) (m : Int) (es : List D) : Prop := es = [.adr pf, .int m] ∧ 2 ≤ m ∧ m ≤ 26
def RN (m : Int) (ds : List D) : Prop := ∃ ns : List Str, ds = ns.map D.str ∧ (ns.length : Int) = m ∧ ns.Nodup ∧ ∀ n ∈ ns, n.length ≤ 100
section
variable {P : Program} {w : World} {K : PySem.W.Frag} {mg : Str → Option Value} {base : Heap} (T : Tx K mg)
theorem ok_law_names : FnOk P w K mg base CX0 2 T.law_names.a T.law_names.fd ["_law_feed_here", "_law_many"] (spFL K PreN RN) := by
  have G_law_take := ok_law_take (P := P) (w := w) (base := base) T
  refine def_FL T.law_names.F sc_law_names (fun pf x es ⟨e, _⟩ => by subst e; rfl) (by decide) (fun cdv A outer s H E hr => ?_)
  have hr_law_take := hr
  refine ⟨_, (pss_cons (ps_set (i := 2) sc_law_names.nd rfl (by first | exact Or.inl rfl | exact Or.inr rfl) pe_str)
  (pss_cons (ps_set (i := 3) sc_law_names.nd rfl (by first | exact Or.inl rfl | exact Or.inr rfl) (pe_join pe_str (pe_lc (own := [("_law_k", 8)]) (by rfl) sc_law_names.nd (pi_range1 (by rfl) T.nrange (pa_cons (pe_call G_law_take hr_law_take (by rfl) T.law_take.g T.law_take.F.kp T.law_take.b .nil pass0 (pa_cons (pv 0) (pa_cons pe_int pa_nil))) pa_nil)) (blkOk_by (own := [("_law_k", 8)]) (N := ["_law_feed_here", "_law_many", "_law_letters", "_law_stem", "_law_first", "_law_at", "_law_turn", "_law_names_here", "_law_k", "_law_sign", "_law_name"]) (sc := defScope (topS 42)) (by decide +kernel)) (fun _ _ _ _ _ => (pg_name (i := 8) sc_law_names.nd rfl (by first | exact Or.inl rfl | exact Or.inr rfl))) (fun _ _ _ _ _ => pts_nil) (fun _ _ _ _ _ => (pe_ix ix_str (pv 2) (pe_call G_law_take hr_law_take (by rfl) T.law_take.g T.law_take.F.kp T.law_take.b .nil pass0 (pa_cons (pv 0) (pa_cons pe_int pa_nil))) (fun _ _ => rfl))))))
  (pss_cons (ps_par (i := 4) (j := 5) (by rfl) sc_law_names.nd rfl rfl (by decide) rfl rfl (pa_cons (pe_call G_law_take hr_law_take (by rfl) T.law_take.g T.law_take.F.kp T.law_take.b .nil pass0 (pa_cons (pv 0) (pa_cons pe_int pa_nil))) (pa_cons (pe_call G_law_take hr_law_take (by rfl) T.law_take.g T.law_take.F.kp T.law_take.b .nil pass0 (pa_cons (pv 0) (pa_cons (pe_op op_add (pe_callB call_len (by rfl) T.nlen PySem.boot_len (pa_cons (pv 3) pa_nil)) pe_int) pa_nil))) pa_nil)) (by rfl))
  (pss_cons (ps_set (i := 6) sc_law_names.nd rfl (by first | exact Or.inl rfl | exact Or.inr rfl) (pe_call G_law_take hr_law_take (by rfl) T.law_take.g T.law_take.F.kp T.law_take.b .nil pass0 (pa_cons (pv 0) (pa_cons pe_int pa_nil))))
  (pss_cons (ps_set (i := 7) sc_law_names.nd rfl (by first | exact Or.inl rfl | exact Or.inr rfl) (pe_lst pa_nil))
  (pss_cons (ps_for PassesOwn.never rfl (pi_range1 (by rfl) T.nrange (pa_cons (pv 1) pa_nil)) (pg_name (i := 8) sc_law_names.nd rfl (by first | exact Or.inl rfl | exact Or.inr rfl)) (pss_cons (ps_set (i := 9) sc_law_names.nd rfl (by first | exact Or.inl rfl | exact Or.inr rfl) (pe_ix ix_str (pv 2) (pe_op op_mod (pe_op op_add (pv 4) (pe_op op_mul pe_int (pv 8))) pe_int) (fun _ _ => rfl)))
  (pss_cons (ps_set (i := 10) sc_law_names.nd rfl (by first | exact Or.inl rfl | exact Or.inr rfl) (pe_op op_add_str (pe_op op_add_str (pe_slice sl_str (pv 3) po_none (po_some (pv 5))) (pv 9)) (pe_slice sl_str (pv 3) (po_some (pv 5)) (po_some (pe_op op_mod (pe_op op_add (pv 6) (pv 8)) pe_int)))))
  (pss_cons (ps_if (pt_cmpR op_in_seq (pv 10) (pe_tup (pa_cons pe_str (pa_cons pe_str (pa_cons pe_str (pa_cons pe_str (pa_cons pe_str (pa_cons pe_str pa_nil))))))) (by rfl)) (pss_one (ps_set (i := 10) sc_law_names.nd rfl (by first | exact Or.inl rfl | exact Or.inr rfl) (pe_op op_add_str (pv 10) pe_str))) pss_nil)
  (pss_one (ps_expr (pe_bm PySem.F.plainAttrs_list PySem.F.slot_list_append PySem.F.type_list_append mt_append (pv 7) (pa_cons (pv 10) pa_nil))))))))
  (pss_cons (ps_if (PW.pt (pw_and (pt_cmpR op_gt (pv 1) pe_int (nomark _)) (pw_and (pt_cmpR op_lt (pe_callB call_len (by rfl) T.nlen PySem.boot_len (pa_cons (pe_ix ix_list (pv 7) (pe_un un_neg pe_int) (fun _ _ => rfl)) pa_nil)) pe_int (nomark _)) (pw_and1 (pt_cmpR op_eq (pe_call G_law_take hr_law_take (by rfl) T.law_take.g T.law_take.F.kp T.law_take.b .nil pass0 (pa_cons (pv 0) (pa_cons pe_int pa_nil))) pe_int (nomark _)))))) (pss_one (ps_asg (pe_op op_add_str (pe_ix ix_list (pv 7) (pe_un un_neg pe_int) (fun _ _ => rfl)) pe_str) (pg_sub (pv 7) (pe_un un_neg pe_int) set_list))) pss_nil)
  (pss_one (ps_ret (pv 7)))))))))), ?_⟩
  dsimp only [cxOf]
  rintro pf m g es ⟨rfl, hm, hm2⟩ ha hb
  walk_at "ev"
  refine we_join ?_
  walk_at "ev"
  refine we_lcR (fun _ e => ∃ c : Nat, e = .str ⟨#[c]⟩) (wi_range ?_)
  walk_at "ev"
  intro n4 g1 hn0 hn4
  walk_at "ev"
  refine ⟨hn0, by omega, szL_of (by omega), fun k g' hk => ?_, fun acc g' hl him hacc => ?_⟩
  · refine wg_name rfl rfl ?_
    walk_at "ev"
    intro c g2 hc0 hc1
    exact wr_ixS lets_len (lets_at hc0 hc1) ⟨rfl, _, rfl⟩
  have hl4 : acc.length ≤ 3 := by omega
  obtain ⟨cs, rfl⟩ : ∃ cs : List Nat, acc = (cs.map fun c => (⟨#[c]⟩ : Str)).map D.str := by
    clear hl hl4 him
    induction acc with
    | nil => exact ⟨[], rfl⟩
    | cons d acc ih =>
      obtain ⟨c, rfl⟩ := hacc 0 d rfl
      obtain ⟨cs, rfl⟩ := ih fun k e h => hacc (k + 1) e h
      exact ⟨c :: cs, rfl⟩
  rw [List.length_map, List.length_map] at hl4
  have hsum : ((cs.map fun c => (⟨#[c]⟩ : Str)).map (·.length)).sum = cs.length := by
    clear hl hl4 him hacc
    induction cs with
    | nil => rfl
    | cons c cs ih => rw [List.map_cons, List.map_cons, List.sum_cons, ih]; show 1 + cs.length = cs.length + 1; omega
  have he : (("" : String) : Str).length = 0 := by decide +kernel
  refine ⟨_, rfl, by rw [hsum, he, List.length_map]; omega, ?_⟩
  have hst : (Txt.join (("" : String) : Str) (cs.map fun c => (⟨#[c]⟩ : Str))).length ≤ 3 := by
    show (Builtin.Str.glued (("" : String) : Str) _).length ≤ 3
    rw [StrLaws.glued_eq_join]
    have := StrLaws.join_length_le (("" : String) : Str) (cs.map fun c => (⟨#[c]⟩ : Str))
    rw [hsum, he] at this
    omega
  revert hst
  generalize Txt.join (("" : String) : Str) (cs.map fun c => (⟨#[c]⟩ : Str)) = stem
  intro hst
  clear hsum hl4 hl him hacc he
  refine ws_seq (ws_par rfl rfl ?_)
  walk_at "ev"
  intro f g2 hf0 hf1
  walk_at "ev"
  refine we_take rfl ?_
  walk_at "ev"
  refine wc_len (n := stem.length) ⟨szL_of (by omega), rfl⟩ ?_
  walk_at "ev"
  refine ⟨by omega, by omega, fun at' g3 ha0 ha1 => ?_⟩
  walk_at "ev"
  refine ⟨_, _, rfl, rfl, rfl, ?_⟩
  walk_at "ev"
  intro tn g4 ht0 ht1
  walk_at "ev"
  refine ⟨rfl, ?_⟩
  refine ws_cut (fun Γ' _ => ∃ (ns : List Str) (x8 x9 x10 : Option SD), Γ' = [some (.d (.adr pf)), some (.d (.int m)), some (.d (.str lets)), some (.d (.str stem)), some (.d (.int f)), some (.d (.int at')), some (.d (.int tn)), some (.own (ns.map D.str)), x8, x9, x10] ∧ ns.length = m.toNat ∧ ∀ (j : Nat) n, ns[j]? = some n → NmAt at'.toNat (97 + ((f + 7 * (j : Int)) % 26).toNat) n ∧ n.length ≤ 30) ?_ ?_
  · refine ws_for (wi_range ?_)
    walk_at "ev"
    refine ⟨by omega, by omega, fun i Γ' _ => ∃ (ns : List Str) (x8 x9 x10 : Option SD), Γ' = [some (.d (.adr pf)), some (.d (.int m)), some (.d (.str lets)), some (.d (.str stem)), some (.d (.int f)), some (.d (.int at')), some (.d (.int tn)), some (.own (ns.map D.str)), x8, x9, x10] ∧ ns.length = i ∧ ∀ (j : Nat) n, ns[j]? = some n → NmAt at'.toNat (97 + ((f + 7 * (j : Int)) % 26).toNat) n ∧ n.length ≤ 30, ⟨[], none, none, none, rfl, rfl, fun j n h => nomatch h⟩, ?_, fun Γ' g' h => h⟩
    rintro i Γ' g' hlt ⟨ns, x8, x9, x10, rfl, hl, hns⟩
    simp only [Int.zero_add]
    refine wg_name rfl rfl ?_
    walk_at "ev"
    refine wr_ixS lets_len (lets_at (Int.emod_nonneg _ (by omega)) (Int.emod_lt_of_pos _ (by omega))) ?_
    walk_at "ev"
    refine wr_catS (szL_of ?_) ?_
    · have := cutS_length stem none (some at')
      show (cutS stem none (some at')).length + 1 ≤ 1000
      omega
    walk_at "ev"
    have hc1 := cutS_length stem none (some at')
    have hc2 := cutS_length stem (some at') (some ((tn + i) % 4))
    refine wr_catS (szL_of ?_) ?_
    · rw [Str.length_append]
      show (cutS stem none (some at')).length + 1 + (cutS stem (some at') (some ((tn + i) % 4))).length ≤ 1000
      omega
    have hnm := nm_mk (c := cutS stem (some at') (some ((tn + i) % 4))) (x := 97 + ((f + 7 * (i : Int)) % 26).toNat) (show stem.length ≤ 10 by omega) ha0 (show at' ≤ stem.length by omega) (by omega)
    have hnl : (cutS stem none (some at') ++ (⟨#[97 + ((f + 7 * (i : Int)) % 26).toNat]⟩ : Str) ++ cutS stem (some at') (some ((tn + i) % 4))).length ≤ 10 := by
      rw [Str.length_append, Str.length_append]
      show (cutS stem none (some at')).length + 1 + (cutS stem (some at') (some ((tn + i) % 4))).length ≤ 10
      omega
    walk_at "ev"
    refine ws_cut (fun Γ' _ => ∃ (n : Str) (x9 : Option SD), Γ' = [some (.d (.adr pf)), some (.d (.int m)), some (.d (.str lets)), some (.d (.str stem)), some (.d (.int f)), some (.d (.int at')), some (.d (.int tn)), some (.own (ns.map D.str)), some (.d (.int i)), x9, some (.d (.str n))] ∧ NmAt at'.toNat (97 + ((f + 7 * (i : Int)) % 26).toNat) n ∧ n.length ≤ 30) ?_ ?_
    · walk_at "ev"
      refine wr_inT (ss := ["def", "let", "tell", "loop", "pick", "call"]) ?_
      refine ⟨_, rfl, if_both (fun c => ?_) (fun c => ?_)⟩
      · walk_at "ev"
        refine wr_catS (szL_of ?_) ?_
        · have : (("q" : String) : Str).length = 1 := by decide +kernel
          rw [this]; omega
        refine ⟨_, _, rfl, hnm.q (by omega), ?_⟩
        rw [Str.length_append]
        have : (("q" : String) : Str).length = 1 := by decide +kernel
        rw [this]; omega
      · walk_at "ev"
        exact ⟨_, _, rfl, hnm, by omega⟩
    · rintro Γ' g' ⟨n, x9, rfl, hn1, hn2⟩
      refine ws_append rfl ?_
      walk_at "ev"
      refine ⟨rfl, ?_, ?_⟩
      · rw [List.length_map]; exact Nat.lt_of_le_of_lt (show ns.length ≤ 1000 by omega) (by decide)
      · refine ⟨ns ++ [n], _, _, _, by rw [List.map_append]; rfl, by rw [List.length_append, hl]; rfl, fun j n' hj => ?_⟩
        by_cases c : j < ns.length
        · rw [List.getElem?_append_left c] at hj
          exact hns j n' hj
        · have hj2 := (List.getElem?_eq_some_iff.mp hj).1
          rw [List.length_append] at hj2
          have hj3 : j < ns.length + 1 := hj2
          have : j = ns.length := by omega
          subst this
          rw [List.getElem?_append_right (Nat.le_refl _), Nat.sub_self] at hj
          obtain rfl := Option.some.inj hj
          rw [hl]
          exact ⟨hn1, hn2⟩
  · rintro Γ' g' ⟨ns, x8, x9, x10, rfl, hl, hns⟩
    have hm0 : (m.toNat : Int) = m := by omega
    have hne : ∀ (i j : Nat) a b, i < j → ns[i]? = some a → ns[j]? = some b → a ≠ b := fun i j a b hij h1 h2 e => by
      have hj := (List.getElem?_eq_some_iff.mp h2).1
      have e1 := (hns i a h1).1.at'
      have e2 := (hns j b h2).1.at'
      rw [e, e2] at e1
      exact lets_inj hij (by omega) (Option.some.inj e1).symm
    have last : ∀ g', WS (frmF K H pf) (tRet (tVar 7)) [some (.d (.adr pf)), some (.d (.int m)), some (.d (.str lets)), some (.d (.str stem)), some (.d (.int f)), some (.d (.int at')), some (.d (.int tn)), some (.own (ns.map D.str)), x8, x9, x10] g' { nx := fun _ _ => False, rtN := fun ds _ => RN m ds } := fun g' =>
      ws_retO rfl ⟨ns, rfl, by rw [hl]; exact hm0, nodup_of hne, fun n hn => by
        obtain ⟨j, hj⟩ := List.mem_iff_getElem?.mp hn
        exact (hns j n hj).1.len⟩
    have h2 : ns.length - 2 < ns.length := by omega
    obtain ⟨n2, hn2⟩ : ∃ n, ns[ns.length - 2]? = some n := ⟨_, List.getElem?_eq_getElem h2⟩
    have at2 : atI (ns.map D.str) (-2) = some (.str n2) := by
      have e : (-2 : Int) = -(((1 : Nat) : Int) + 1) := by decide
      unfold atI
      rw [e, ixN_neg (by rw [List.length_map]; omega), List.length_map]
      show (ns.map D.str)[ns.length - 2]? = _
      rw [List.getElem?_map, hn2]; rfl
    have hq1 : (("q" : String) : Str).length = 1 := by decide +kernel
    have hn2l := (hns _ _ hn2).2
    refine ws_seq ?_
    walk_at "ev"
    refine if_both (fun c => ?_) (fun c => ?_)
    · walk_at "ev"
      refine ⟨_, _, rfl, at2, ?_⟩
      walk_at "ev"
      refine wc_len (n := n2.length) ⟨szL_of (by omega), rfl⟩ ?_
      walk_at "ev"
      refine if_both (fun c => ?_) (fun c => ?_)
      · walk_at "ev"
        intro k g5 hk0 hk1
        walk_at "ev"
        refine if_both (fun c => ?_) (fun c => ?_)
        · refine ws_setL rfl ?_
          walk_at "ev"
          refine ⟨_, _, rfl, at2, ?_⟩
          walk_at "ev"
          refine wr_catS (szL_of (by rw [hq1]; omega)) ?_
          walk_at "ev"
          refine ⟨_, ns.length - 1, rfl, ?_, rfl, ?_⟩
          · have e : (-1 : Int) = -(((0 : Nat) : Int) + 1) := by decide
            rw [e, ixN_neg (by rw [List.length_map]; omega), List.length_map]
          · have hset : (ns.map D.str).set (ns.length - 1) (.str (n2 ++ ("q" : Str))) = (ns.set (ns.length - 1) (n2 ++ ("q" : Str))).map D.str := (List.map_set ..).symm
            refine ws_retO (ds := (ns.map D.str).set (ns.length - 1) (.str (n2 ++ ("q" : Str)))) rfl ?_
            rw [hset]
            have hx := (hns _ _ hn2).1.q (show n2.length ≤ 60 by omega)
            refine ⟨_, rfl, by rw [List.length_set, hl]; exact hm0, nodup_of fun i j a b hij h1 h3 e => ?_, fun n hn => ?_⟩
            · have hj := (List.getElem?_eq_some_iff.mp h3).1
              rw [List.length_set] at hj
              rw [List.getElem?_set_ne (by omega)] at h1
              by_cases cj : j = ns.length - 1
              · rw [cj, List.getElem?_set_self (by omega)] at h3
                obtain rfl := Option.some.inj h3
                by_cases ci : i = ns.length - 2
                · rw [ci, hn2] at h1
                  obtain rfl := Option.some.inj h1
                  have := congrArg Str.length e
                  rw [Str.length_append, hq1] at this
                  omega
                · have e1 := (hns i a h1).1.at'
                  rw [e, hx.at'] at e1
                  exact lets_inj (i := i) (j := ns.length - 2) (by omega) (by omega) (Option.some.inj e1).symm
              · rw [List.getElem?_set_ne (Ne.symm cj)] at h3
                exact hne i j a b hij h1 h3 e
            · rcases List.mem_or_eq_of_mem_set hn with hn | rfl
              · obtain ⟨j, hj⟩ := List.mem_iff_getElem?.mp hn
                exact (hns j n hj).1.len
              · exact hx.len
        · exact ws_next (last _)
      · exact if_f (fun z => nomatch z) (ws_next (last _))
    · exact if_f (fun z => nomatch z) (ws_next (last _))
end
end Sf
end
section
set_option Elab.async false
set_option linter.all false
set_option maxRecDepth 100000
set_option maxHeartbeats 1000000
namespace Sf
open PySem L2
open PyProof.Rows (envOfC)
local macro_rules | `(tactic| walk_at "evS") => `(tactic| first
  | ((with_reducible refine ws_seqA ?_); try dsimp only [List.set_cons_zero, List.set_cons_succ])
  | with_reducible refine ws_if ?_
  | with_reducible refine ws_ret ?_
  | ((with_reducible refine' ws_newL ?hi ?_); (case hi => exact rfl))
  | ((with_reducible refine' ws_newD ?hi ?_); (case hi => exact rfl))
  | ((with_reducible refine' ws_listT ?hi ?_); (case hi => exact rfl))
  | ((with_reducible refine' ws_set ?hi ?_); (case hi => exact rfl))
  | with_reducible refine ws_next ?_)
local macro_rules | `(tactic| walk_at "evE2") => `(tactic| first
  | with_reducible refine we_tup ?_
  | ((with_reducible refine' we_lenO ?hv ?_); (case hv => exact rfl))
  | ((with_reducible refine' we_tupO ?hv ?_); (case hv => exact rfl))
  | with_reducible refine we_cb ?_
  | with_reducible refine we_callI ?_
  | with_reducible refine we_callL ?_
  | with_reducible refine we_lst ?_
  | with_reducible refine we_neg ?_
  | with_reducible refine we_sl ?_
  | with_reducible refine we_dget ?_
  | with_reducible refine we_get2 ?_
  | with_reducible refine we_ifE ?_
  | with_reducible refine we_andV ?_
  | with_reducible refine we_chain ?_
  | with_reducible refine we_dnewK ?_
  | with_reducible refine we_bl ?_
  | with_reducible refine we_non ?_)
local macro_rules | `(tactic| walk_at "evE") => `(tactic| first
  | ((with_reducible refine' we_var ?hv ?_); (case hv => exact rfl))
  | with_reducible refine we_int ?_
  | with_reducible refine we_str ?_
  | ((with_reducible refine' we_takeK ?hv ?hk ?_); (case hv => exact rfl); (case hk => exact rfl))
  | ((with_reducible refine' we_ixO ?hv ?_); (case hv => exact rfl))
  | with_reducible refine we_op ?_
  | walk_at "evE2")
local macro_rules | `(tactic| walk_at "evW") => `(tactic| first
  | ((with_reducible refine' wr_ixT ?hx ?he ?_); (case hx => exact rfl); (case he => first | exact rfl | exact at0 | exact at1 | exact at2 | exact at3))
  | with_reducible refine wr_eqS ?_
  | with_reducible refine wr_f0 ?_
  | with_reducible refine wr_f1 ?_
  | ((with_reducible refine' wr_iC ?hc ?_); (case hc => first | (exact (by decide)) | exact Or.inr (And.intro (by decide) (by decide)) | exact Or.inl (And.intro (by decide) (by decide)) | exact And.intro (by decide) (by decide) | exact And.intro (by decide) (And.intro (by decide) (by decide))))
  | with_reducible refine wr_i0 ?_
  | with_reducible refine wr_b0 ?_
  | with_reducible refine wr_eqI ?_
  | with_reducible refine wr_neS ?_
  | ((with_reducible refine' wr_ixL ?he ?_); (case he => first | exact rfl | exact at0 | exact at1 | exact at2 | exact at3)))
local macro_rules | `(tactic| walk_at "evT") => `(tactic| first
  | with_reducible refine wt_test ?_
  | with_reducible refine wt_and ?_
  | with_reducible refine wt_or ?_
  | with_reducible refine wt_not ?_
  | with_reducible refine wt_b ?_)
local macro_rules | `(tactic| walk_at "evM") => `(tactic| first
  | ((with_reducible refine' sl_and ?hs ?_); (case hs => exact rfl))
  | ((with_reducible refine if_t ?hc ?_); (case hc => decide +kernel))
  | ((with_reducible refine if_f ?hc ?_); (case hc => decide +kernel))
  | with_reducible refine wo_none ?_
  | with_reducible refine wo_some ?_
  | ((with_reducible refine' wsl_S ?hc ?_); (case hc => first | exact szL_of (by omega) | decide +kernel))
  | ((with_reducible refine' wsl_T ?hx ?_); (case hx => exact rfl))
  | with_reducible refine wsl_L ?_
  | ((with_reducible refine' Exists.intro _ (And.intro ?hx ?_)); (case hx => exact rfl))
  | dsimp only)
local macro_rules | `(tactic| walk_at "ev1") => `(tactic| first
  | with_reducible refine wa_cons ?_
  | with_reducible refine wa_nil ?_
  | ((with_reducible show WE _ _ _ _ _); walk_at "evE")
  | ((with_reducible show WR _ _ _ _ _ _); walk_at "evW")
  | ((with_reducible show WS _ _ _ _ _); walk_at "evS")
  | ((with_reducible show WT _ _ _ _ _); walk_at "evT")
  | walk_at "evM")
local macro_rules | `(tactic| walk_at "ev") => `(tactic| repeat walk_at "ev1")

theorem sc_law_shape : FnScope ["_law_feed_here", "_law_stem", "_law_fixed", "_law_name", "_law_names_here", "_law_acts", "_law_k"] ["_law_feed_here"] (defScope (topS 43)) := ⟨rfl, rfl, rfl, by decide +kernel, rfl, by decide +kernel, by decide +kernel⟩
def shD (fx : List Str) (acts : List (Str × Int)) : D := .tup [.tup (fx.map D.str), .tup (acts.map fun a => .tup [.str a.1, .int a.2])]
def PreSh (pf : Addr) (_ : Unit) (es : List D) : Prop := es = [.adr pf]
def RSh (_ : Unit) (r : D) : Prop := ∃ fx acts, r = shD fx acts ∧ fx.length ≤ 4 ∧ acts.length ≤ 4 ∧ ∀ a ∈ acts, a.2 = 1 ∨ a.2 = 2
theorem strs_im (xs : List Str) : imL (xs.map D.str) = true := imL_iff.mpr fun d hd => by obtain ⟨k, _, rfl⟩ := List.mem_map.mp hd; rfl
theorem shD_im (fx : List Str) (acts : List (Str × Int)) : (shD fx acts).im = true := by
  show (imL (fx.map D.str) && (imL (acts.map fun a => D.tup [.str a.1, .int a.2]) && true)) = true
  rw [strs_im, imL_iff.mpr fun d hd => by obtain ⟨k, _, rfl⟩ := List.mem_map.mp hd; rfl]; rfl
theorem cutD_take {xs : List D} {k : Int} (h : 0 ≤ k) : cutD xs none (some k) = xs.take k.toNat := by
  have e1 : HT.sIx xs.length 0 none = 0 := rfl
  have e2 : HT.sIx xs.length xs.length (some k) = min k.toNat xs.length := by
    show (if k < 0 then _ else min k.toNat xs.length) = _
    rw [if_neg (by omega)]
  unfold cutD
  rw [e1, e2, List.drop_zero, Nat.sub_zero]
  by_cases c : k.toNat ≤ xs.length
  · rw [Nat.min_eq_left c]
  · rw [Nat.min_eq_right (by omega), List.take_length, List.take_of_length_le (by omega)]
theorem acc_ex {α : Type} {f : α → D} {R : α → Prop} : ∀ {acc : List D}, (∀ (k : Nat) d, acc[k]? = some d → ∃ a, d = f a ∧ R a) → ∃ as : List α, acc = as.map f ∧ ∀ a ∈ as, R a
  | [], _ => ⟨[], rfl, fun _ h => nomatch h⟩
  | d :: acc, h => by
    obtain ⟨a, rfl, ha⟩ := h 0 d rfl
    obtain ⟨as, rfl, h2⟩ := acc_ex (acc := acc) fun k e q => h (k + 1) e q
    exact ⟨a :: as, rfl, fun b hb => (List.mem_cons.mp hb).elim (fun e => by rw [e]; exact ha) (h2 b)⟩
theorem getD_map {α : Type} {f : α → D} {xs : List α} {k : Nat} (h : k < xs.length) : ∃ x, (xs.map f).getD k .non = f x ∧ x ∈ xs ∧ xs[k]? = some x := by
  refine ⟨xs[k], ?_, List.getElem_mem h, List.getElem?_eq_getElem h⟩
  rw [List.getD_eq_getElem?_getD, List.getElem?_map, List.getElem?_eq_getElem h]; rfl
section
variable {K : PySem.W.Frag} {H0 : Hp} {pf : Addr} {Γ : Ga} {g : Int × Int} {Q : QE (frmF K H0 pf)} {te : TE} {X0 : XK} {i : Nat}
theorem we_names {m : Int} (hv : Γ[i]? = some (some (.d (.adr pf)))) (hk : (decide (2 ≤ m) && decide (m ≤ 26)) = true) (h : ∀ (ns : List Str) g2, (ns.length : Int) = m → ns.Nodup → (∀ n ∈ ns, n.length ≤ 100) → Q (.lst (ns.map D.str)) g2) : WE (frmF K H0 pf) (tCall (spFL K PreN RN) [] X0 (tCons (tVar i) (tCons (tC (.int m)) tNil))) Γ g Q := by
  rw [Bool.and_eq_true] at hk
  refine we_callFL (wa_cons (we_var hv (wa_cons (we_int (wa_nil ⟨m, ⟨rfl, of_decide_eq_true hk.1, of_decide_eq_true hk.2⟩, ?_⟩)))))
  rintro _ g1 ⟨n1, rfl, hl1, h2, hn1⟩
  exact h n1 g1 hl1 h2 hn1
end
section
variable {P : Program} {w : World} {K : PySem.W.Frag} {mg : Str → Option Value} {base : Heap} (T : Tx K mg)
theorem ok_law_shape : FnOk P w K mg base CX0 3 T.law_shape.a T.law_shape.fd ["_law_feed_here"] (spF K PreSh RSh) := by
  have G_law_take := ok_law_take (P := P) (w := w) (base := base) T
  have G_law_names := ok_law_names (P := P) (w := w) (base := base) T
  refine def_F T.law_shape.F sc_law_shape (fun pf x es e => by subst e; rfl) (by decide) (fun cdv A outer s H E hr => ?_)
  have hr_law_take := hr.mono (show 1 ≤ 2 by omega)
  have hr_law_names := hr
  refine ⟨_, (pss_cons (ps_set (i := 1) sc_law_shape.nd rfl (by first | exact Or.inl rfl | exact Or.inr rfl) (pe_call G_law_names hr_law_names (by rfl) T.law_names.g T.law_names.F.kp T.law_names.b .nil pass0 (pa_cons (pv 0) (pa_cons pe_int pa_nil))))
  (pss_cons (ps_setLc (i := 2) (own := [("_law_name", 3)]) (by rfl) sc_law_shape.nd rfl rfl (sw_true rfl rfl rfl (by decide +kernel)) (pi_list (pe_slice sl_list (pv 1) po_none (po_some (pe_call G_law_take hr_law_take (by rfl) T.law_take.g T.law_take.F.kp T.law_take.b .nil pass0 (pa_cons (pv 0) (pa_cons pe_int pa_nil)))))) (blkOk_by (own := [("_law_name", 3)]) (N := ["_law_feed_here", "_law_stem", "_law_fixed", "_law_name", "_law_names_here", "_law_acts", "_law_k"]) (sc := defScope (topS 43)) (by decide +kernel)) (fun _ _ _ _ _ => (pg_name (i := 3) sc_law_shape.nd rfl (by first | exact Or.inl rfl | exact Or.inr rfl))) (fun _ _ _ _ _ => pts_nil) (fun _ _ _ _ _ => (pe_op op_add_str (pe_upper (pe_slice sl_str (pv 3) po_none (po_some pe_int))) (pe_slice sl_str (pv 3) (po_some pe_int) po_none))))
  (pss_cons (ps_set (i := 4) sc_law_shape.nd rfl (by first | exact Or.inl rfl | exact Or.inr rfl) (pe_call G_law_names hr_law_names (by rfl) T.law_names.g T.law_names.F.kp T.law_names.b .nil pass0 (pa_cons (pv 0) (pa_cons pe_int pa_nil))))
  (pss_cons (ps_setLc (i := 5) (own := [("_law_k", 6)]) (by rfl) sc_law_shape.nd rfl rfl (sw_true rfl rfl rfl (by decide +kernel)) (pi_range1 (by rfl) T.nrange (pa_cons (pe_ix ix_list (pe_lst (pa_cons pe_int (pa_cons pe_int (pa_cons pe_int (pa_cons pe_int (pa_cons pe_int (pa_cons pe_int (pa_cons pe_int (pa_cons pe_int pa_nil))))))))) (pe_call G_law_take hr_law_take (by rfl) T.law_take.g T.law_take.F.kp T.law_take.b .nil pass0 (pa_cons (pv 0) (pa_cons pe_int pa_nil))) (fun _ _ => rfl)) pa_nil)) (blkOk_by (own := [("_law_k", 6)]) (N := ["_law_feed_here", "_law_stem", "_law_fixed", "_law_name", "_law_names_here", "_law_acts", "_law_k"]) (sc := defScope (topS 43)) (by decide +kernel)) (fun _ _ _ _ _ => (pg_name (i := 6) sc_law_shape.nd rfl (by first | exact Or.inl rfl | exact Or.inr rfl))) (fun _ _ _ _ _ => pts_nil) (fun _ _ _ _ _ => (pe_tup (pa_cons (pe_ix (ix_list : IxR _ (rIxL K)) (pv 4) (pv 6) (fun _ _ => rfl)) (pa_cons (pe_op op_add pe_int (pe_call G_law_take hr_law_take (by rfl) T.law_take.g T.law_take.F.kp T.law_take.b .nil pass0 (pa_cons (pv 0) (pa_cons pe_int pa_nil)))) pa_nil)))))
  (pss_one (ps_ret (pe_tup (pa_cons (pe_callTy call_tuple_of (by rfl) T.ntuple (by decide +kernel) (pa_cons (pv 2) pa_nil)) (pa_cons (pe_callTy call_tuple_of (by rfl) T.ntuple (by decide +kernel) (pa_cons (pv 5) pa_nil)) pa_nil))))))))), ?_⟩
  dsimp only [cxOf]
  rintro pf x g es rfl ha hb
  walk_at "ev"
  refine we_names rfl rfl fun n1 g1 hl1 _ hn1 => ?_
  walk_at "ev"
  refine we_lcR (fun _ e => ∃ z : Str, e = .str z ∧ True) (wi_list ?_)
  walk_at "ev"
  intro k5 g2 hk0 hk5
  walk_at "ev"
  rw [cutD_take hk0, ← List.map_take]
  have hlt : (n1.take k5.toNat).length ≤ 4 := by rw [List.length_take]; omega
  refine ⟨strs_im _, by rw [List.length_map]; exact Nat.lt_of_le_of_lt (show _ ≤ 1000 by omega) (by decide), fun k g' hk => ?_, fun acc g' hl him hacc => ?_⟩
  · rw [List.length_map] at hk
    obtain ⟨z, hz, hm, _⟩ := getD_map (f := D.str) hk
    have hzl := hn1 z (List.mem_of_mem_take hm)
    rw [hz]
    refine wg_name rfl rfl ?_
    walk_at "ev"
    refine we_upper ?_
    walk_at "ev"
    have h1 := cutS_length z none (some 1)
    have h2 := cutS_length z (some 1) none
    have h3 := PyProof.Rows.len_upper (cutS z none (some 1))
    refine ⟨by omega, ?_⟩
    walk_at "ev"
    refine wr_catS (szL_of (by omega)) ⟨rfl, _, rfl, trivial⟩
  obtain ⟨fx, rfl, _⟩ := acc_ex hacc
  rw [List.length_map, List.length_map] at hl
  walk_at "ev"
  refine we_names rfl rfl fun n2 g3 hl2 _ hn2 => ?_
  walk_at "ev"
  refine we_lcR (fun _ e => ∃ a : Str × Int, e = .tup [.str a.1, .int a.2] ∧ (a.2 = 1 ∨ a.2 = 2)) (wi_range ?_)
  walk_at "ev"
  intro k8 g4 hk0 hk8
  obtain ⟨x, hx, hxm, _⟩ := atI_map (f := D.int) (xs := [1, 2, 3, 2, 4, 1, 2, 0]) hk0 (show k8 < 8 from hk8)
  have hxb : 0 ≤ x ∧ x ≤ 4 := (by decide : ∀ x ∈ ([1, 2, 3, 2, 4, 1, 2, 0] : List Int), 0 ≤ x ∧ x ≤ 4) x hxm
  refine wr_ixL hx ?_
  walk_at "ev"
  refine ⟨hxb.1, by omega, Nat.lt_of_le_of_lt (show _ ≤ 1000 by omega) (by decide), fun k g' hk => ?_, fun acc g' hl' him' hacc' => ?_⟩
  · refine wg_name rfl rfl ?_
    walk_at "ev"
    obtain ⟨z, hz, _, _⟩ := atI_map (f := D.str) (xs := n2) (k := 0 + (k : Int)) (by omega) (by omega)
    refine wr_ixL hz ?_
    walk_at "ev"
    intro k2 g5 h0 h1
    walk_at "ev"
    exact ⟨rfl, ⟨z, 1 + k2⟩, rfl, by show 1 + k2 = 1 ∨ 1 + k2 = 2; omega⟩
  obtain ⟨acts, rfl, hacts⟩ := acc_ex hacc'
  rw [List.length_map] at hl'
  walk_at "ev"
  refine wc_tupL ?_
  walk_at "ev"
  refine wc_tupL ?_
  walk_at "ev"
  have e := shD_im fx acts
  exact ⟨e, e, fx, acts, rfl, by omega, by omega, hacts⟩
end
end Sf
end
section
set_option Elab.async false
set_option linter.all false
set_option maxRecDepth 100000
set_option maxHeartbeats 1000000
namespace Sf
open PySem L2
open PyProof.Rows (envOfC)
local macro_rules | `(tactic| walk_at "evS") => `(tactic| first
  | ((with_reducible refine ws_seqA ?_); try dsimp only [List.set_cons_zero, List.set_cons_succ])
  | with_reducible refine ws_if ?_
  | with_reducible refine ws_ret ?_
  | ((with_reducible refine' ws_newL ?hi ?_); (case hi => exact rfl))
  | ((with_reducible refine' ws_newD ?hi ?_); (case hi => exact rfl))
  | ((with_reducible refine' ws_listT ?hi ?_); (case hi => exact rfl))
  | ((with_reducible refine' ws_set ?hi ?_); (case hi => exact rfl))
  | with_reducible refine ws_next ?_)
local macro_rules | `(tactic| walk_at "evE2") => `(tactic| first
  | with_reducible refine we_tup ?_
  | ((with_reducible refine' we_lenO ?hv ?_); (case hv => exact rfl))
  | ((with_reducible refine' we_tupO ?hv ?_); (case hv => exact rfl))
  | with_reducible refine we_cb ?_
  | with_reducible refine we_callI ?_
  | with_reducible refine we_callL ?_
  | with_reducible refine we_lst ?_
  | with_reducible refine we_neg ?_
  | with_reducible refine we_sl ?_
  | with_reducible refine we_dget ?_
  | with_reducible refine we_get2 ?_
  | with_reducible refine we_ifE ?_
  | with_reducible refine we_andV ?_
  | with_reducible refine we_chain ?_
  | with_reducible refine we_dnewK ?_
  | with_reducible refine we_bl ?_
  | with_reducible refine we_non ?_)
local macro_rules | `(tactic| walk_at "evE") => `(tactic| first
  | ((with_reducible refine' we_var ?hv ?_); (case hv => exact rfl))
  | with_reducible refine we_int ?_
  | with_reducible refine we_str ?_
  | ((with_reducible refine' we_takeK ?hv ?hk ?_); (case hv => exact rfl); (case hk => exact rfl))
  | ((with_reducible refine' we_ixO ?hv ?_); (case hv => exact rfl))
  | with_reducible refine we_op ?_
  | walk_at "evE2")
local macro_rules | `(tactic| walk_at "evW") => `(tactic| first
  | ((with_reducible refine' wr_ixT ?hx ?he ?_); (case hx => exact rfl); (case he => first | exact rfl | exact at0 | exact at1 | exact at2 | exact at3))
  | with_reducible refine wr_eqS ?_
  | with_reducible refine wr_f0 ?_
  | with_reducible refine wr_f1 ?_
  | ((with_reducible refine' wr_iC ?hc ?_); (case hc => first | (exact (by decide)) | exact Or.inr (And.intro (by decide) (by decide)) | exact Or.inl (And.intro (by decide) (by decide)) | exact And.intro (by decide) (by decide) | exact And.intro (by decide) (And.intro (by decide) (by decide))))
  | with_reducible refine wr_i0 ?_
  | with_reducible refine wr_b0 ?_
  | with_reducible refine wr_eqI ?_
  | with_reducible refine wr_neS ?_
  | ((with_reducible refine' wr_ixL ?he ?_); (case he => first | exact rfl | exact at0 | exact at1 | exact at2 | exact at3)))
local macro_rules | `(tactic| walk_at "evT") => `(tactic| first
  | with_reducible refine wt_test ?_
  | with_reducible refine wt_and ?_
  | with_reducible refine wt_or ?_
  | with_reducible refine wt_not ?_
  | with_reducible refine wt_b ?_)
local macro_rules | `(tactic| walk_at "evM") => `(tactic| first
  | ((with_reducible refine' sl_and ?hs ?_); (case hs => exact rfl))
  | ((with_reducible refine if_t ?hc ?_); (case hc => decide +kernel))
  | ((with_reducible refine if_f ?hc ?_); (case hc => decide +kernel))
  | with_reducible refine wo_none ?_
  | with_reducible refine wo_some ?_
  | ((with_reducible refine' wsl_S ?hc ?_); (case hc => first | exact szL_of (by omega) | decide +kernel))
  | ((with_reducible refine' wsl_T ?hx ?_); (case hx => exact rfl))
  | with_reducible refine wsl_L ?_
  | ((with_reducible refine' Exists.intro _ (And.intro ?hx ?_)); (case hx => exact rfl))
  | dsimp only)
local macro_rules | `(tactic| walk_at "ev1") => `(tactic| first
  | with_reducible refine wa_cons ?_
  | with_reducible refine wa_nil ?_
  | ((with_reducible show WE _ _ _ _ _); walk_at "evE")
  | ((with_reducible show WR _ _ _ _ _ _); walk_at "evW")
  | ((with_reducible show WS _ _ _ _ _); walk_at "evS")
  | ((with_reducible show WT _ _ _ _ _); walk_at "evT")
  | walk_at "evM")
local macro_rules | `(tactic| walk_at "ev") => `(tactic| repeat walk_at "ev1")

theorem sc_law_small : FnScope ["_law_feed_here", "_law_counts", "_law_room", "_law_form", "_law_one"] ["_law_feed_here", "_law_counts", "_law_room"] (defScope (topS 44)) := ⟨rfl, rfl, rfl, by decide +kernel, rfl, by decide +kernel, by decide +kernel⟩
theorem sc_law_number : FnScope ["_law_feed_here", "_law_counts", "_law_room", "_law_form", "_law_one"] ["_law_feed_here", "_law_counts", "_law_room"] (defScope (topS 45)) := ⟨rfl, rfl, rfl, by decide +kernel, rfl, by decide +kernel, by decide +kernel⟩
structure NumOk (co : List Str) (room : Int) (t : Sf.T) : Prop where
  wf : ∀ (sg : Str → Option (List Bool)) (X : Str → Prop), Wf sg X (fun i => i ∈ co) false t
  sz : (t.sz : Int) ≤ max 1 room
  ar : arB t = true
def PreNu (n : Nat) (pf : Addr) (x : List Str × Int) (es : List D) : Prop := es = [.adr pf, .lst (x.1.map D.str), .int x.2] ∧ 0 ≤ x.2 ∧ x.2 < n ∧ x.1.length ≤ 1000
def RNu (x : List Str × Int) (r : D) : Prop := ∃ t, r = enc t ∧ NumOk x.1 x.2 t
theorem ops_at {k : Int} (h0 : 0 ≤ k) (h1 : k < 4) : ∃ c, atI (("+*:<" : String) : Str).cps.toList k = some c ∧ ((⟨#[c]⟩ : Str) = "+" ∨ (⟨#[c]⟩ : Str) = "*" ∨ (⟨#[c]⟩ : Str) = ":" ∨ (⟨#[c]⟩ : Str) = "<") := by
  have q : ∀ j : Nat, j < 4 → ∃ c, (("+*:<" : String) : Str).cps.toList[j]? = some c ∧ ((⟨#[c]⟩ : Str) = "+" ∨ (⟨#[c]⟩ : Str) = "*" ∨ (⟨#[c]⟩ : Str) = ":" ∨ (⟨#[c]⟩ : Str) = "<") := fun j hj =>
    match j, hj with
    | 0, _ => ⟨43, by decide +kernel, .inl (by decide +kernel)⟩
    | 1, _ => ⟨42, by decide +kernel, .inr (.inl (by decide +kernel))⟩
    | 2, _ => ⟨58, by decide +kernel, .inr (.inr (.inl (by decide +kernel)))⟩
    | 3, _ => ⟨60, by decide +kernel, .inr (.inr (.inr (by decide +kernel)))⟩
    | j + 4, h => absurd h (by omega)
  obtain ⟨c, h2, h3⟩ := q k.toNat (by omega)
  have e : k = ((k.toNat : Nat) : Int) := by omega
  have := atI_nat h2
  rw [← e] at this
  exact ⟨c, this, h3⟩
theorem ops_len : (("+*:<" : String) : Str).length ≤ sizeLine := by decide +kernel
theorem NumOk.mono {co : List Str} {r s : Int} {t : Sf.T} (h : NumOk co r t) (hr : r ≤ s) : NumOk co s t := ⟨h.wf, by have := h.sz; omega, h.ar⟩
theorem num_op {co : List Str} {room : Int} {s : Str} {m n : Sf.T} (hr : 2 < room) (hs : s = "+" ∨ s = "*" ∨ s = ":" ∨ s = "<") (hm : NumOk co ((room - 1) / 2) m) (hn : NumOk co ((room - 1) / 2) n) : NumOk co room (.mk (.op s) [m, n]) := by
  refine ⟨fun sg X => .op hs (hm.wf sg X) (hn.wf sg X), ?_, ?_⟩
  · have h1 := hm.sz
    have h2 := hn.sz
    show ((1 + (m.sz + (n.sz + 0)) : Nat) : Int) ≤ _
    omega
  · show (arB m && (arB n && true)) = true
    rw [hm.ar, hn.ar]; rfl
theorem num_num {co : List Str} {room k : Int} (h0 : 0 ≤ k) (h1 : k < 1000000) : NumOk co room (.mk (.num k) []) := ⟨fun _ _ => .num h0 h1, by show ((1 + 0 : Nat) : Int) ≤ _; omega, rfl⟩
theorem num_count {co : List Str} {room : Int} {i : Str} (h : i ∈ co) : NumOk co room (.mk (.count i) []) := ⟨fun _ _ => .count h, by show ((1 + 0 : Nat) : Int) ≤ _; omega, rfl⟩
section
variable {P : Program} {w : World} {K : PySem.W.Frag} {mg : Str → Option Value} {base : Heap} (T : Tx K mg)
theorem none_F {α : Type} {k : Nat} {f : Addr} {fd : FuncData} {ps : List Str} {Pre : Addr → α → List D → Prop} {R : α → D → Prop} (h : ∀ pf x es, ¬ Pre pf x es) : FnOk P w K mg base CX0 k f fd ps (spF K Pre R) :=
  ⟨fun _ _ _ _ ⟨pf, x, g, es, _, _, h1, _⟩ => absurd h1 (h pf x es), fun _ _ _ _ _ _ _ _ _ _ _ _ _ ⟨pf, x, g, es, _, _, h1, _⟩ => absurd h1 (h pf x es)⟩
theorem ok_law_small : ∀ n : Nat, FnOk P w K mg base CX0 (n + 1) T.law_small.a T.law_small.fd ["_law_feed_here", "_law_counts", "_law_room"] (spF K (PreNu n) RNu)
  | 0 => none_F fun pf x es ⟨_, h1, h2, _⟩ => by omega
  | n + 1 => by
    have G_law_take := ok_law_take (P := P) (w := w) (base := base) T
    have G_law_small := ok_law_small n
    refine def_F T.law_small.F sc_law_small (fun pf x es ⟨e, _⟩ => by subst e; rfl) (by decide) (fun cdv A outer s H E hr => ?_)
    have hr_law_take := hr.mono (show 1 ≤ n + 1 by omega)
    have hr_law_small := hr
    refine ⟨_, (pss_cons (ps_set (i := 3) sc_law_small.nd rfl (by first | exact Or.inl rfl | exact Or.inr rfl) (pe_call G_law_take hr_law_take (by rfl) T.law_take.g T.law_take.F.kp T.law_take.b .nil pass0 (pa_cons (pv 0) (pa_cons pe_int pa_nil))))
  (pss_cons (ps_if (PW.pt (pw_and (pt_cmpR op_gt (pe_callB call_len (by rfl) T.nlen PySem.boot_len (pa_cons (pv 1) pa_nil)) pe_int (nomark _)) (pw_and1 (pt_cmpR op_lt (pv 3) pe_int (nomark _))))) (pss_one (ps_ret (pe_tup (pa_cons pe_str (pa_cons (pe_ix ix_list (pv 1) (pe_call G_law_take hr_law_take (by rfl) T.law_take.g T.law_take.F.kp T.law_take.b .nil pass0 (pa_cons (pv 0) (pa_cons (pe_callB call_len (by rfl) T.nlen PySem.boot_len (pa_cons (pv 1) pa_nil)) pa_nil))) (fun _ _ => rfl)) pa_nil))))) pss_nil)
  (pss_cons (ps_if (PW.pt (pw_and (pt_cmpR op_gt (pv 3) pe_int (nomark _)) (pw_and1 (pt_cmpR op_gt (pv 2) pe_int (nomark _))))) (pss_cons (ps_set (i := 4) sc_law_small.nd rfl (by first | exact Or.inl rfl | exact Or.inr rfl) (pe_call G_law_small hr_law_small (by rfl) T.law_small.g T.law_small.F.kp T.law_small.b .nil pass0 (pa_cons (pv 0) (pa_cons (pv 1) (pa_cons (pe_op op_fdiv (pe_op op_sub (pv 2) pe_int) pe_int) pa_nil)))))
  (pss_one (ps_ret (pe_tup (pa_cons pe_str (pa_cons (pe_ix ix_str pe_str (pe_call G_law_take hr_law_take (by rfl) T.law_take.g T.law_take.F.kp T.law_take.b .nil pass0 (pa_cons (pv 0) (pa_cons pe_int pa_nil))) (fun _ _ => rfl)) (pa_cons (pv 4) (pa_cons (pe_call G_law_small hr_law_small (by rfl) T.law_small.g T.law_small.F.kp T.law_small.b .nil pass0 (pa_cons (pv 0) (pa_cons (pv 1) (pa_cons (pe_op op_fdiv (pe_op op_sub (pv 2) pe_int) pe_int) pa_nil)))) pa_nil)))))))) pss_nil)
  (pss_one (ps_ret (pe_tup (pa_cons pe_str (pa_cons (pe_call G_law_take hr_law_take (by rfl) T.law_take.g T.law_take.F.kp T.law_take.b .nil pass0 (pa_cons (pv 0) (pa_cons pe_int pa_nil))) pa_nil)))))))), ?_⟩
    dsimp only [cxOf]
    rintro pf ⟨co, room⟩ g es ⟨rfl, h0, h1, hco⟩ ha hb
    have h0' : 0 ≤ room := h0
    have h1' : room < ((n + 1 : Nat) : Int) := h1
    have hco' : co.length ≤ 1000 := hco
    have hcl : co.length = (co.map D.str).length := (List.length_map _).symm
    have last : ∀ (f : Int) (g : Int × Int), WS (frmF K H pf) (tRet (tTup (tCons (tC (.str "num")) (tCons (tCall (spF K PreT RT) [] E0 (tCons (tVar 0) (tCons (tC (.int 4)) tNil))) tNil)))) [some (.d (.adr pf)), some (.d (.lst (co.map D.str))), some (.d (.int room)), some (.d (.int f)), none] g { nx := fun _ _ => False, rt := fun d _ => d.im = true ∧ RNu (co, room) d } := fun f g => by
      walk_at "ev"
      intro k g2 hk0 hk1
      walk_at "ev"
      exact ⟨rfl, rfl, _, rfl, num_num hk0 (by omega)⟩
    have ops : ∀ (f : Int) (g : Int × Int), 2 < room → True := fun _ _ _ => trivial
    walk_at "ev"
    intro f g1 hf0 hf1
    walk_at "ev"
    refine ws_cut (fun Γ' _ => Γ' = [some (.d (.adr pf)), some (.d (.lst (co.map D.str))), some (.d (.int room)), some (.d (.int f)), none]) ?_ ?_
    · walk_at "ev"
      refine wc_len (n := co.length) hcl ?_
      walk_at "ev"
      refine if_both (fun c => ?_) (fun c => ?_)
      · have c' : 0 < (co.length : Int) := of_decide_eq_true c
        walk_at "ev"
        refine if_both (fun c => ?_) (fun c => ?_)
        · walk_at "ev"
          refine we_take rfl ?_
          walk_at "ev"
          refine wc_len (n := co.length) hcl ?_
          walk_at "ev"
          refine ⟨by omega, by omega, fun k g2 hk0 hk1 => ?_⟩
          obtain ⟨z, hz, hm, _⟩ := atI_map (f := D.str) (xs := co) hk0 hk1
          refine wr_ixL hz ?_
          walk_at "ev"
          exact ⟨rfl, rfl, _, rfl, num_count hm⟩
        · walk_at "ev"
          exact rfl
      · walk_at "ev"
        exact rfl
    · rintro Γ' g' rfl
      refine ws_seq ?_
      walk_at "ev"
      refine if_both (fun c => ?_) (fun c => ?_)
      · walk_at "ev"
        refine if_both (fun c => ?_) (fun c => ?_)
        · have hroom : 2 < room := of_decide_eq_true c
          walk_at "ev"
          refine we_callF ?_
          walk_at "ev"
          refine ⟨(co, (room - 1) / 2), ⟨rfl, by show 0 ≤ (room - 1) / 2; omega, by show (room - 1) / 2 < n; omega, hco⟩, ?_⟩
          rintro _ g2 ⟨m, rfl, hm⟩ _
          walk_at "ev"
          intro k g3 hk0 hk1
          obtain ⟨c, hc1, hc2⟩ := ops_at hk0 hk1
          refine wr_ixS ops_len hc1 ?_
          walk_at "ev"
          refine we_callF ?_
          walk_at "ev"
          refine ⟨(co, (room - 1) / 2), ⟨rfl, by show 0 ≤ (room - 1) / 2; omega, by show (room - 1) / 2 < n; omega, hco⟩, ?_⟩
          rintro _ g4 ⟨m2, rfl, hm2⟩ _
          walk_at "ev"
          exact ⟨enc_im (.mk (.op ⟨#[c]⟩) [m, m2]), enc_im (.mk (.op ⟨#[c]⟩) [m, m2]), .mk (.op ⟨#[c]⟩) [m, m2], rfl, num_op hroom hc2 hm hm2⟩
        · exact ws_next (last _ _)
      · exact if_f (fun z => nomatch z) (ws_next (last _ _))
theorem ok_law_number : ∀ n : Nat, FnOk P w K mg base CX0 (n + 2) T.law_number.a T.law_number.fd ["_law_feed_here", "_law_counts", "_law_room"] (spF K (PreNu n) RNu)
  | 0 => none_F fun pf x es ⟨_, h1, h2, _⟩ => by omega
  | n + 1 => by
    have G_law_take := ok_law_take (P := P) (w := w) (base := base) T
    have G_law_small := ok_law_small (P := P) (w := w) (base := base) T (n + 1)
    have G_law_number := ok_law_number n
    refine def_F T.law_number.F sc_law_number (fun pf x es ⟨e, _⟩ => by subst e; rfl) (by decide) (fun cdv A outer s H E hr => ?_)
    have hr_law_take := hr.mono (show 1 ≤ n + 2 by omega)
    have hr_law_small := hr
    have hr_law_number := hr
    refine ⟨_, (pss_cons (ps_set (i := 3) sc_law_number.nd rfl (by first | exact Or.inl rfl | exact Or.inr rfl) (pe_call G_law_take hr_law_take (by rfl) T.law_take.g T.law_take.F.kp T.law_take.b .nil pass0 (pa_cons (pv 0) (pa_cons pe_int pa_nil))))
  (pss_cons (ps_if (PW.pt (pw_and (pt_cmpR op_eq (pv 3) pe_int (nomark _)) (pw_and1 (pt_cmpR op_gt (pv 2) pe_int (nomark _))))) (pss_cons (ps_set (i := 4) sc_law_number.nd rfl (by first | exact Or.inl rfl | exact Or.inr rfl) (pe_call G_law_number hr_law_number (by rfl) T.law_number.g T.law_number.F.kp T.law_number.b .nil pass0 (pa_cons (pv 0) (pa_cons (pv 1) (pa_cons (pe_op op_fdiv (pe_op op_sub (pv 2) pe_int) pe_int) pa_nil)))))
  (pss_one (ps_ret (pe_tup (pa_cons pe_str (pa_cons (pe_ix ix_str pe_str (pe_call G_law_take hr_law_take (by rfl) T.law_take.g T.law_take.F.kp T.law_take.b .nil pass0 (pa_cons (pv 0) (pa_cons pe_int pa_nil))) (fun _ _ => rfl)) (pa_cons (pv 4) (pa_cons (pe_call G_law_number hr_law_number (by rfl) T.law_number.g T.law_number.F.kp T.law_number.b .nil pass0 (pa_cons (pv 0) (pa_cons (pv 1) (pa_cons (pe_op op_fdiv (pe_op op_sub (pv 2) pe_int) pe_int) pa_nil)))) pa_nil)))))))) pss_nil)
  (pss_cons (ps_if (pt_cmpR op_eq (pv 3) pe_int (nomark _)) (pss_one (ps_ret (pe_tup (pa_cons pe_str (pa_cons (pe_ix ix_list (pe_lst (pa_cons (pe_call G_law_take hr_law_take (by rfl) T.law_take.g T.law_take.F.kp T.law_take.b .nil pass0 (pa_cons (pv 0) (pa_cons pe_int pa_nil))) (pa_cons (pe_op op_sub pe_int (pe_call G_law_take hr_law_take (by rfl) T.law_take.g T.law_take.F.kp T.law_take.b .nil pass0 (pa_cons (pv 0) (pa_cons pe_int pa_nil)))) pa_nil))) (pe_call G_law_take hr_law_take (by rfl) T.law_take.g T.law_take.F.kp T.law_take.b .nil pass0 (pa_cons (pv 0) (pa_cons pe_int pa_nil))) (fun _ _ => rfl)) pa_nil))))) pss_nil)
  (pss_one (ps_ret (pe_call G_law_small hr_law_small (by rfl) T.law_small.g T.law_small.F.kp T.law_small.b .nil pass0 (pa_cons (pv 0) (pa_cons (pv 1) (pa_cons (pv 2) pa_nil))))))))), ?_⟩
    dsimp only [cxOf]
    rintro pf ⟨co, room⟩ g es ⟨rfl, h0, h1, hco⟩ ha hb
    have h0' : 0 ≤ room := h0
    have h1' : room < ((n + 1 : Nat) : Int) := h1
    have hco' : co.length ≤ 1000 := hco
    walk_at "ev"
    intro f g1 hf0 hf1
    walk_at "ev"
    refine ws_cut (fun Γ' _ => Γ' = [some (.d (.adr pf)), some (.d (.lst (co.map D.str))), some (.d (.int room)), some (.d (.int f)), none]) ?_ ?_
    · walk_at "ev"
      refine if_both (fun c => ?_) (fun c => ?_)
      · walk_at "ev"
        refine if_both (fun c => ?_) (fun c => ?_)
        · have hroom : 2 < room := of_decide_eq_true c
          walk_at "ev"
          refine we_callF ?_
          walk_at "ev"
          refine ⟨(co, (room - 1) / 2), ⟨rfl, by show 0 ≤ (room - 1) / 2; omega, by show (room - 1) / 2 < n; omega, hco⟩, ?_⟩
          rintro _ g2 ⟨m, rfl, hm⟩ _
          walk_at "ev"
          intro k g3 hk0 hk1
          obtain ⟨c, hc1, hc2⟩ := ops_at hk0 hk1
          refine wr_ixS ops_len hc1 ?_
          walk_at "ev"
          refine we_callF ?_
          walk_at "ev"
          refine ⟨(co, (room - 1) / 2), ⟨rfl, by show 0 ≤ (room - 1) / 2; omega, by show (room - 1) / 2 < n; omega, hco⟩, ?_⟩
          rintro _ g4 ⟨m2, rfl, hm2⟩ _
          walk_at "ev"
          exact ⟨enc_im (.mk (.op ⟨#[c]⟩) [m, m2]), enc_im (.mk (.op ⟨#[c]⟩) [m, m2]), .mk (.op ⟨#[c]⟩) [m, m2], rfl, num_op hroom hc2 hm hm2⟩
        · exact ws_next rfl
      · exact if_f (fun z => nomatch z) (ws_next rfl)
    · rintro Γ' g' rfl
      refine ws_seq ?_
      walk_at "ev"
      refine if_both (fun c => ?_) (fun c => ?_)
      · walk_at "ev"
        intro k1 g2 h10 h11
        walk_at "ev"
        intro k2 g3 h20 h21
        walk_at "ev"
        intro k3 g4 h30 h31
        obtain ⟨z, hz, hm, _⟩ := atI_map (f := D.int) (xs := [k1, 999999 - k2]) h30 h31
        have hzb : 0 ≤ z ∧ z < 1000000 := by
          rcases List.mem_cons.mp hm with rfl | hm
          · exact ⟨h10, h11⟩
          · rw [List.mem_singleton.mp hm]; omega
        refine wr_ixL hz ?_
        walk_at "ev"
        exact ⟨rfl, rfl, .mk (.num z) [], rfl, num_num hzb.1 hzb.2⟩
      · refine ws_next ?_
        refine ws_ret (we_callF ?_)
        walk_at "ev"
        refine ⟨(co, room), ⟨rfl, h0, h1, hco⟩, ?_⟩
        rintro _ g2 ⟨m, rfl, hm⟩ him
        exact ⟨him, him, m, rfl, hm⟩
end
end Sf
end
section
set_option Elab.async false
set_option linter.all false
set_option maxRecDepth 100000
set_option maxHeartbeats 1000000
namespace Sf
open PySem L2
open PyProof.Rows (envOfC)
local macro_rules | `(tactic| walk_at "evS") => `(tactic| first
  | ((with_reducible refine ws_seqA ?_); try dsimp only [List.set_cons_zero, List.set_cons_succ])
  | with_reducible refine ws_if ?_
  | with_reducible refine ws_ret ?_
  | ((with_reducible refine' ws_newL ?hi ?_); (case hi => exact rfl))
  | ((with_reducible refine' ws_newD ?hi ?_); (case hi => exact rfl))
  | ((with_reducible refine' ws_listT ?hi ?_); (case hi => exact rfl))
  | ((with_reducible refine' ws_set ?hi ?_); (case hi => exact rfl))
  | with_reducible refine ws_next ?_)
local macro_rules | `(tactic| walk_at "evE2") => `(tactic| first
  | with_reducible refine we_tup ?_
  | ((with_reducible refine' we_lenO ?hv ?_); (case hv => exact rfl))
  | ((with_reducible refine' we_tupO ?hv ?_); (case hv => exact rfl))
  | with_reducible refine we_cb ?_
  | with_reducible refine we_callI ?_
  | with_reducible refine we_callL ?_
  | with_reducible refine we_lst ?_
  | with_reducible refine we_neg ?_
  | with_reducible refine we_sl ?_
  | with_reducible refine we_dget ?_
  | with_reducible refine we_get2 ?_
  | with_reducible refine we_ifE ?_
  | with_reducible refine we_andV ?_
  | with_reducible refine we_chain ?_
  | with_reducible refine we_dnewK ?_
  | with_reducible refine we_bl ?_
  | with_reducible refine we_non ?_)
local macro_rules | `(tactic| walk_at "evE") => `(tactic| first
  | ((with_reducible refine' we_var ?hv ?_); (case hv => exact rfl))
  | with_reducible refine we_int ?_
  | with_reducible refine we_str ?_
  | ((with_reducible refine' we_takeK ?hv ?hk ?_); (case hv => exact rfl); (case hk => exact rfl))
  | ((with_reducible refine' we_ixO ?hv ?_); (case hv => exact rfl))
  | with_reducible refine we_op ?_
  | walk_at "evE2")
local macro_rules | `(tactic| walk_at "evW") => `(tactic| first
  | ((with_reducible refine' wr_ixT ?hx ?he ?_); (case hx => exact rfl); (case he => first | exact rfl | exact at0 | exact at1 | exact at2 | exact at3))
  | with_reducible refine wr_eqS ?_
  | with_reducible refine wr_f0 ?_
  | with_reducible refine wr_f1 ?_
  | ((with_reducible refine' wr_iC ?hc ?_); (case hc => first | (exact (by decide)) | exact Or.inr (And.intro (by decide) (by decide)) | exact Or.inl (And.intro (by decide) (by decide)) | exact And.intro (by decide) (by decide) | exact And.intro (by decide) (And.intro (by decide) (by decide))))
  | with_reducible refine wr_i0 ?_
  | with_reducible refine wr_b0 ?_
  | with_reducible refine wr_eqI ?_
  | with_reducible refine wr_neS ?_
  | ((with_reducible refine' wr_ixL ?he ?_); (case he => first | exact rfl | exact at0 | exact at1 | exact at2 | exact at3)))
local macro_rules | `(tactic| walk_at "evT") => `(tactic| first
  | with_reducible refine wt_test ?_
  | with_reducible refine wt_and ?_
  | with_reducible refine wt_or ?_
  | with_reducible refine wt_not ?_
  | with_reducible refine wt_b ?_)
local macro_rules | `(tactic| walk_at "evM") => `(tactic| first
  | ((with_reducible refine' sl_and ?hs ?_); (case hs => exact rfl))
  | ((with_reducible refine if_t ?hc ?_); (case hc => decide +kernel))
  | ((with_reducible refine if_f ?hc ?_); (case hc => decide +kernel))
  | with_reducible refine wo_none ?_
  | with_reducible refine wo_some ?_
  | ((with_reducible refine' wsl_S ?hc ?_); (case hc => first | exact szL_of (by omega) | decide +kernel))
  | ((with_reducible refine' wsl_T ?hx ?_); (case hx => exact rfl))
  | with_reducible refine wsl_L ?_
  | ((with_reducible refine' Exists.intro _ (And.intro ?hx ?_)); (case hx => exact rfl))
  | dsimp only)
local macro_rules | `(tactic| walk_at "ev1") => `(tactic| first
  | with_reducible refine wa_cons ?_
  | with_reducible refine wa_nil ?_
  | ((with_reducible show WE _ _ _ _ _); walk_at "evE")
  | ((with_reducible show WR _ _ _ _ _ _); walk_at "evW")
  | ((with_reducible show WS _ _ _ _ _); walk_at "evS")
  | ((with_reducible show WT _ _ _ _ _); walk_at "evT")
  | walk_at "evM")
local macro_rules | `(tactic| walk_at "ev") => `(tactic| repeat walk_at "ev1")

theorem sc_law_leaf : FnScope ["_law_feed_here", "_law_scope", "_law_shape_here", "_law_things", "_law_counts", "_law_defs", "_law_some", "_law_x", "_law_c"] ["_law_feed_here", "_law_scope"] (defScope (topS 46)) := ⟨rfl, rfl, rfl, by decide +kernel, rfl, by decide +kernel, by decide +kernel⟩
structure Sc where
  fx : List Str
  acts : List (Str × Int)
  th : List Str
  co : List Str
  ds : List Df
def scD (s : Sc) : D := .tup [shD s.fx s.acts, .lst (s.th.map D.str), .lst (s.co.map D.str), defsD s.ds]
structure ScOk (s : Sc) (d : Nat) : Prop where
  ne : 1 ≤ s.th.length + s.fx.length
  thl : s.th.length + d ≤ 500
  col : s.co.length + d ≤ 500
  fxl : s.fx.length ≤ 4
  acl : s.acts.length ≤ 4
  ac : ∀ a ∈ s.acts, a.2 = 1 ∨ a.2 = 2
  dsl : s.ds.length ≤ 4
  nd : (s.ds.map Df.f).Nodup
  psl : ∀ d ∈ s.ds, d.ps.length ≤ 3
theorem ScOk.le {s : Sc} {d e : Nat} (h : ScOk s d) (he : e ≤ d) : ScOk s e := ⟨h.ne, by have := h.thl; omega, by have := h.col; omega, h.fxl, h.acl, h.ac, h.dsl, h.nd, h.psl⟩
structure TermOk (s : Sc) (d : Nat) (t : Sf.T) : Prop where
  wf : Wf (sgr s.ds s.ds.length) (fun y => y ∈ s.th) (fun y => y ∈ s.co) true t
  ar : arB t = true
  sz : t.sz + 2 ≤ 4 * 3 ^ d
  dp : t.dp ≤ d + 2
theorem TermOk.le {s : Sc} {d e : Nat} {t : Sf.T} (h : TermOk s d t) (he : d ≤ e) : TermOk s e t := ⟨h.wf, h.ar, Nat.le_trans h.sz (Nat.mul_le_mul_left _ (Nat.pow_le_pow_right (by decide) he)), by have := h.dp; omega⟩
def PreLf (pf : Addr) (s : Sc) (es : List D) : Prop := es = [.adr pf, scD s] ∧ ScOk s 0
def RLf (s : Sc) (r : D) : Prop := ∃ t, r = enc t ∧ TermOk s 0 t
section
variable {P : Program} {w : World} {K : PySem.W.Frag} {mg : Str → Option Value} {base : Heap} (T : Tx K mg)
theorem ok_law_leaf : FnOk P w K mg base CX0 2 T.law_leaf.a T.law_leaf.fd ["_law_feed_here", "_law_scope"] (spF K PreLf RLf) := by
  have G_law_take := ok_law_take (P := P) (w := w) (base := base) T
  refine def_F T.law_leaf.F sc_law_leaf (fun pf x es ⟨e, _⟩ => by subst e; rfl) (by decide) (fun cdv A outer s H E hr => ?_)
  have hr_law_take := hr
  refine ⟨_, (pss_cons (ps_asg (pv 1) (pg_tup (by rfl) (pgs_cons (pg_name (i := 2) sc_law_leaf.nd rfl (by first | exact Or.inl rfl | exact Or.inr rfl)) (pgs_cons (pg_name (i := 3) sc_law_leaf.nd rfl (by first | exact Or.inl rfl | exact Or.inr rfl)) (pgs_cons (pg_name (i := 4) sc_law_leaf.nd rfl (by first | exact Or.inl rfl | exact Or.inr rfl)) (pgs_cons (pg_name (i := 5) sc_law_leaf.nd rfl (by first | exact Or.inl rfl | exact Or.inr rfl)) pgs_nil))))))
  (pss_cons (ps_set (i := 6) sc_law_leaf.nd rfl (by first | exact Or.inl rfl | exact Or.inr rfl) (pe_op op_cat (pe_lc (own := [("_law_x", 7)]) (by rfl) sc_law_leaf.nd (pi_list (pv 3)) (blkOk_by (own := [("_law_x", 7)]) (N := ["_law_feed_here", "_law_scope", "_law_shape_here", "_law_things", "_law_counts", "_law_defs", "_law_some", "_law_x", "_law_c"]) (sc := defScope (topS 46)) (by decide +kernel)) (fun _ _ _ _ _ => (pg_name (i := 7) sc_law_leaf.nd rfl (by first | exact Or.inl rfl | exact Or.inr rfl))) (fun _ _ _ _ _ => pts_nil) (fun _ _ _ _ _ => (pe_tup (pa_cons pe_str (pa_cons (pv 7) pa_nil))))) (pe_lc (own := [("_law_c", 8)]) (by rfl) sc_law_leaf.nd (pi_tup (pe_ix ix_tup (pv 2) pe_int (fun _ _ => rfl))) (blkOk_by (own := [("_law_c", 8)]) (N := ["_law_feed_here", "_law_scope", "_law_shape_here", "_law_things", "_law_counts", "_law_defs", "_law_some", "_law_x", "_law_c"]) (sc := defScope (topS 46)) (by decide +kernel)) (fun _ _ _ _ _ => (pg_name (i := 8) sc_law_leaf.nd rfl (by first | exact Or.inl rfl | exact Or.inr rfl))) (fun _ _ _ _ _ => pts_nil) (fun _ _ _ _ _ => (pe_tup (pa_cons pe_str (pa_cons (pv 8) pa_nil)))))))
  (pss_one (ps_ret (pe_ix ix_list (pv 6) (pe_call G_law_take hr_law_take (by rfl) T.law_take.g T.law_take.F.kp T.law_take.b .nil pass0 (pa_cons (pv 0) (pa_cons (pe_callB call_len (by rfl) T.nlen PySem.boot_len (pa_cons (pv 6) pa_nil)) pa_nil))) (fun _ _ => rfl)))))), ?_⟩
  dsimp only [cxOf]
  rintro pf sc g es ⟨rfl, ok⟩ ha hb
  obtain ⟨fx, acts, th, co, ds⟩ := sc
  have h500 : th.length + 0 ≤ 500 := ok.thl
  have hfx : fx.length ≤ 4 := ok.fxl
  have hne : 1 ≤ th.length + fx.length := ok.ne
  refine ws_seq (ws_asg ?_)
  walk_at "ev"
  refine wg_tup rfl rfl (wgs_cons rfl rfl (wgs_cons rfl rfl (wgs_cons rfl rfl (wgs_cons rfl rfl (wgs_nil ?_)))))
  walk_at "ev"
  refine we_lcR (fun _ e => ∃ t : Sf.T, e = enc t ∧ TermOk ⟨fx, acts, th, co, ds⟩ 0 t) (wi_list ?_)
  walk_at "ev"
  refine ⟨strs_im _, by rw [List.length_map]; exact Nat.lt_of_le_of_lt (show _ ≤ 1000 by omega) (by decide), fun k g' hk => ?_, fun acc g' hl him hacc => ?_⟩
  · rw [List.length_map] at hk
    obtain ⟨z, hz, hm, _⟩ := getD_map (f := D.str) hk
    rw [hz]
    refine wg_name rfl rfl ?_
    walk_at "ev"
    exact ⟨rfl, .mk (.name z) [], rfl, .name hm, rfl, by show 1 + 0 + 2 ≤ 4 * 1; decide, by show 0 ≤ 0 + 2; decide⟩
  obtain ⟨ts1, rfl, ht1⟩ := acc_ex hacc
  rw [List.length_map, List.length_map] at hl
  walk_at "ev"
  refine we_lcR (fun _ e => ∃ t : Sf.T, e = enc t ∧ TermOk ⟨fx, acts, th, co, ds⟩ 0 t) (wi_tup kp_rel ?_)
  walk_at "ev"
  refine ⟨strs_im _, by rw [List.length_map]; exact Nat.lt_of_le_of_lt (show _ ≤ 1000 by omega) (by decide), fun k g' hk => ?_, fun acc g' hl' him' hacc' => ?_⟩
  · rw [List.length_map] at hk
    obtain ⟨z, hz, hm, _⟩ := getD_map (f := D.str) hk
    rw [hz]
    refine wg_name rfl rfl ?_
    walk_at "ev"
    exact ⟨rfl, .mk (.fixed z) [], rfl, .fixed, rfl, by show 1 + 0 + 2 ≤ 4 * 1; decide, by show 0 ≤ 0 + 2; decide⟩
  obtain ⟨ts2, rfl, ht2⟩ := acc_ex hacc'
  rw [List.length_map, List.length_map] at hl'
  refine wr_catL (szL_of (by rw [List.length_map, List.length_map]; omega)) ?_
  rw [← List.map_append]
  walk_at "ev"
  refine we_take rfl ?_
  walk_at "ev"
  refine wc_len (n := (ts1 ++ ts2).length) (List.length_map _).symm ?_
  have hlen : (ts1 ++ ts2).length = th.length + fx.length := by rw [List.length_append]; omega
  refine ⟨_, rfl, by omega, by omega, fun k g2 hk0 hk1 => ?_⟩
  obtain ⟨t, ht, hm, _⟩ := atI_map (f := enc) (xs := ts1 ++ ts2) hk0 hk1
  refine wr_ixL ht ?_
  refine ⟨enc_im t, enc_im t, t, rfl, ?_⟩
  rcases List.mem_append.mp hm with h | h
  · exact ht1 t h
  · exact ht2 t h
end
end Sf
end
section
set_option Elab.async false
set_option linter.all false
set_option maxRecDepth 100000
set_option maxHeartbeats 1000000
namespace Sf
open PySem L2
open PyProof.Rows (envOfC)
theorem Wf.wide {sg : Str → Option (List Bool)} {X C : Str → Prop} {s : Bool} {t : Sf.T} (h : Wf sg X C s t) : ∀ {X' C' : Str → Prop}, (∀ x, X x → X' x) → (∀ x, C x → C' x) → Wf sg X' C' s t := by
  induction h with
  | num a b => exact fun _ _ => .num a b
  | count a => exact fun _ hC => .count (hC _ a)
  | op a _ _ i1 i2 => exact fun hX hC => .op a (i1 hX hC) (i2 hX hC)
  | name a => exact fun hX _ => .name (hX _ a)
  | fixed => exact fun _ _ => .fixed
  | input => exact fun _ _ => .input
  | dov _ ih => exact fun hX hC => .dov fun t ht => ih t ht hX hC
  | letv _ _ i1 i2 => exact fun hX hC => .letv (i1 hX hC) (i2 (fun y hy => hy.imp id (hX y)) hC)
  | loop _ _ _ i0 i1 i2 => exact fun hX hC => .loop (i0 hX hC) (i1 hX hC) (i2 (fun y hy => hy.imp id (hX y)) (fun y hy => hy.imp id (hC y)))
  | pick _ hne _ i0 ih => exact fun hX hC => .pick (i0 hX hC) hne fun t ht => ih t ht hX hC
  | call hf hl _ ih => exact fun hX hC => .call hf hl fun j t s h1 h2 => ih j t s h1 h2 hX hC
theorem dpL_le_of {m : Nat} : ∀ {ks : List Sf.T}, (∀ k ∈ ks, k.dp + 1 ≤ m) → dpL ks ≤ m
  | [], _ => Nat.zero_le _
  | k :: ks, h => Nat.max_le.mpr ⟨h k List.mem_cons_self, dpL_le_of fun j hj => h j (List.mem_cons_of_mem _ hj)⟩
theorem szL_le_of {m : Nat} : ∀ {ks : List Sf.T}, (∀ k ∈ ks, k.sz ≤ m) → szL ks ≤ ks.length * m
  | [], _ => by show 0 ≤ 0 * m; omega
  | k :: ks, h => by
    have h1 := h k List.mem_cons_self
    have h2 := szL_le_of (ks := ks) fun j hj => h j (List.mem_cons_of_mem _ hj)
    show k.sz + szL ks ≤ (ks.length + 1) * m
    rw [Nat.add_mul, Nat.one_mul]
    omega
def filt (xs : List Str) (x : Str) : List Str := xs.filter fun y => !decide (y = x)
theorem filt_len (xs : List Str) (x : Str) : (filt xs x).length ≤ xs.length := List.length_filter_le _ _
theorem filt_mem {xs : List Str} {x y : Str} (h : y ∈ filt xs x ++ [x]) : y = x ∨ y ∈ xs := by
  rcases List.mem_append.mp h with h | h
  · exact .inr (List.mem_filter.mp h).1
  · exact .inl (List.mem_singleton.mp h)
theorem p3 : ∀ d : Nat, 1 ≤ 3 ^ d
  | 0 => by decide
  | d + 1 => by rw [Nat.pow_succ]; have := p3 d; omega
theorem num_dp {co : List Str} {t : Sf.T} (h : NumOk co 3 t) : t.dp ≤ 2 ∧ t.sz ≤ 3 := by
  have h1 := h.sz
  have h2 := dp_lt_sz t
  omega
theorem let_ok {s : Sc} {d : Nat} {x : Str} {a b : Sf.T} (ha : TermOk s d a) (hb : TermOk { s with th := filt s.th x ++ [x] } d b) : TermOk s (d + 1) (.mk (.letv x) [a, b]) := by
  refine ⟨.letv ha.wf (hb.wf.wide (fun y hy => filt_mem hy) fun _ h => h), ?_, ?_, ?_⟩
  · show (arB a && (arB b && true)) = true
    rw [ha.ar, hb.ar]; rfl
  · have h1 := ha.sz
    have h2 := hb.sz
    have h3 := p3 d
    show 1 + (a.sz + (b.sz + 0)) + 2 ≤ 4 * 3 ^ (d + 1)
    rw [Nat.pow_succ]
    omega
  · have h1 := ha.dp
    have h2 := hb.dp
    refine dpL_le_of fun k hk => ?_
    rcases List.mem_cons.mp hk with rfl | hk
    · omega
    · rw [List.mem_singleton.mp hk]; omega
theorem loop_ok {s : Sc} {d : Nat} {i x : Str} {n a b : Sf.T} (hn : NumOk s.co 3 n) (ha : TermOk s d a) (hb : TermOk { s with th := filt s.th x ++ [x], co := filt s.co i ++ [i] } d b) : TermOk s (d + 1) (.mk (.loop i x) [n, a, b]) := by
  have hn2 := num_dp hn
  refine ⟨.loop (hn.wf _ _) ha.wf (hb.wf.wide (fun y hy => filt_mem hy) fun y hy => filt_mem hy), ?_, ?_, ?_⟩
  · show (arB n && (arB a && (arB b && true))) = true
    rw [hn.ar, ha.ar, hb.ar]; rfl
  · have h1 := ha.sz
    have h2 := hb.sz
    have h3 := p3 d
    show 1 + (n.sz + (a.sz + (b.sz + 0))) + 2 ≤ 4 * 3 ^ (d + 1)
    rw [Nat.pow_succ]
    omega
  · have h1 := ha.dp
    have h2 := hb.dp
    refine dpL_le_of fun k hk => ?_
    rcases List.mem_cons.mp hk with rfl | hk
    · omega
    · rcases List.mem_cons.mp hk with rfl | hk
      · omega
      · rw [List.mem_singleton.mp hk]; omega
theorem pick_ok {s : Sc} {d : Nat} {n : Sf.T} {ts : List Sf.T} (hn : NumOk s.co 3 n) (h0 : ts ≠ []) (h1 : ts.length ≤ 3) (ht : ∀ t ∈ ts, TermOk s d t) : TermOk s (d + 1) (.mk .pick (n :: ts)) := by
  have hn2 := num_dp hn
  refine ⟨.pick (hn.wf _ _) h0 fun t h => (ht t h).wf, ?_, ?_, ?_⟩
  · show (arB n && arL ts) = true
    rw [hn.ar, arL_iff.mpr fun t h => (ht t h).ar]; rfl
  · have h3 := p3 d
    have h4 : szL ts ≤ ts.length * (4 * 3 ^ d - 2) := szL_le_of fun t h => by have := (ht t h).sz; omega
    have h5 : ts.length * (4 * 3 ^ d - 2) ≤ 3 * (4 * 3 ^ d - 2) := Nat.mul_le_mul_right _ h1
    show 1 + (n.sz + szL ts) + 2 ≤ 4 * 3 ^ (d + 1)
    rw [Nat.pow_succ]
    omega
  · refine dpL_le_of fun k hk => ?_
    rcases List.mem_cons.mp hk with rfl | hk
    · omega
    · have := (ht k hk).dp; omega
theorem do_ok {s : Sc} {d : Nat} {a : Str} {ts : List Sf.T} (h1 : ts.length ≤ 2) (ht : ∀ t ∈ ts, TermOk s d t) : TermOk s (d + 1) (.mk (.dov a) ts) := by
  refine ⟨.dov fun t h => (ht t h).wf, ?_, ?_, ?_⟩
  · show (decide (ts.length ≤ 2) && arL ts) = true
    rw [decide_eq_true h1, arL_iff.mpr fun t h => (ht t h).ar]; rfl
  · have h3 := p3 d
    have h4 : szL ts ≤ ts.length * (4 * 3 ^ d - 2) := szL_le_of fun t h => by have := (ht t h).sz; omega
    have h5 : ts.length * (4 * 3 ^ d - 2) ≤ 3 * (4 * 3 ^ d - 2) := Nat.mul_le_mul_right _ (by omega)
    show 1 + szL ts + 2 ≤ 4 * 3 ^ (d + 1)
    rw [Nat.pow_succ]
    omega
  · refine dpL_le_of fun k hk => ?_
    have := (ht k hk).dp; omega
theorem look_nodup {ds : List Df} (h : (ds.map Df.f).Nodup) {d : Df} (hd : d ∈ ds) : look ds d.f = some d := by
  induction ds with
  | nil => cases hd
  | cons e ds ih =>
    have h' := List.nodup_cons.mp (show (e.f :: ds.map Df.f).Nodup from h)
    unfold look
    rw [List.find?_cons]
    rcases List.mem_cons.mp hd with rfl | hd
    · rw [decide_eq_true rfl]
    · have hne : ¬ e.f = d.f := fun q => h'.1 (by rw [q]; exact List.mem_map.mpr ⟨d, hd, rfl⟩)
      rw [decide_eq_false hne]
      exact ih h'.2 hd
theorem call_ok {s : Sc} {d : Nat} {f : Df} {ts : List Sf.T} (hs : ScOk s (d + 1)) (hf : f ∈ s.ds) (hl : ts.length = f.ps.length) (ht : ∀ (j : Nat) t b, ts[j]? = some t → (f.ps.map (·.2))[j]? = some b → (b = true ∧ TermOk s d t) ∨ (b = false ∧ NumOk s.co 3 t)) : TermOk s (d + 1) (.mk (.call f.f) ts) := by
  have hp := hs.psl f hf
  have h3 := p3 d
  have all : ∀ t ∈ ts, arB t = true ∧ t.dp ≤ d + 2 ∧ (t.sz ≤ 3 ∨ t.sz ≤ 4 * 3 ^ d - 2) := fun t h => by
    obtain ⟨j, hj⟩ := List.mem_iff_getElem?.mp h
    have hlt := (List.getElem?_eq_some_iff.mp hj).1
    obtain ⟨b, hb⟩ : ∃ b, (f.ps.map (·.2))[j]? = some b := ⟨_, List.getElem?_eq_getElem (by rw [List.length_map, ← hl]; exact hlt)⟩
    rcases ht j t b hj hb with ⟨_, q⟩ | ⟨_, q⟩
    · exact ⟨q.ar, q.dp, .inr (by have := q.sz; omega)⟩
    · have := num_dp q
      exact ⟨q.ar, by omega, .inl this.2⟩
  refine ⟨.call (ss := f.ps.map (·.2)) ?_ (by rw [hl, List.length_map]) fun j t b h1 h2 => ?_, ?_, ?_, ?_⟩
  · unfold sgr
    rw [List.take_length, look_nodup hs.nd hf]; rfl
  · rcases ht j t b h1 h2 with ⟨rfl, q⟩ | ⟨rfl, q⟩
    · exact q.wf
    · exact q.wf _ _
  · exact arL_iff.mpr fun t h => (all t h).1
  · have h4 : szL ts ≤ ts.length * (4 * 3 ^ d - 1) := szL_le_of fun t h => by have := (all t h).2.2; omega
    have h5 : ts.length * (4 * 3 ^ d - 1) ≤ 3 * (4 * 3 ^ d - 1) := Nat.mul_le_mul_right _ (by omega)
    show 1 + szL ts + 2 ≤ 4 * 3 ^ (d + 1)
    rw [Nat.pow_succ]
    omega
  · refine dpL_le_of fun k hk => ?_
    have := (all k hk).2.1; omega
section
variable {M : Frm} {Γ : Ga} {g : M.G} {Q : QE M}
/-- the texts of a list that are not x -/
theorem we_filt {a b c : Nat} {x : Str} {th : List Str} (ha : Γ[a]? = some (some (.d (.lst (th.map D.str))))) (hb : Γ[b]? = some (some (.d (.str x)))) (hbc : Nat.beq c b = false) (hc : Nat.blt c Γ.length = true) (hz : th.length ≤ 1000) {vs : List Nat} (hvs : vs = [c]) (q : Q (.lst ((filt th x).map D.str)) g) :
    WE M (tLc (iList M.K (tVar a)) (gName c) (tTest (tOp rNe (tVar c) (tVar b))) (tVar c) vs) Γ g Q := by
  subst hvs
  have hbc' : c ≠ b := fun e => by rw [e] at hbc; rw [Nat.beq_refl] at hbc; cases hbc
  have hc' : c < Γ.length := Nat.le_of_ble_eq_true hc
  refine we_lc (wi_list (we_var ha ⟨_, rfl, strs_im _, by rw [List.length_map]; exact Nat.lt_of_le_of_lt hz (by decide), fun i acc g' => g' = g ∧ acc = (filt (th.take i) x).map D.str, ⟨rfl, rfl⟩, fun i acc g' hlt _ ⟨eg, e⟩ => ?_, fun acc g' _ him ⟨eg, e⟩ => ?_⟩))
  · subst eg e
    rw [List.length_map] at hlt
    obtain ⟨z, hz1, _, hz2⟩ := getD_map (f := D.str) hlt
    dsimp only
    rw [hz1]
    have hv : ((wipeG Γ [c]).set c (some (.d (.str z))))[c]? = some (some (.d (.str z))) := List.getElem?_set_self (by rw [wipeG_len]; exact hc')
    have hv2 : ((wipeG Γ [c]).set c (some (.d (.str z))))[b]? = some (some (.d (.str x))) := by
      rw [List.getElem?_set_ne hbc']
      show (Γ.set c none)[b]? = _
      rw [List.getElem?_set_ne hbc']; exact hb
    have ht : th.take (i + 1) = th.take i ++ [z] := by rw [List.take_add_one, hz2]; rfl
    refine wg_name (by rw [wipeG_len]; exact hc) (by simp) (wt_test (we_op (we_var hv (we_var hv2 (wr_neS ⟨_, rfl, if_both (fun cc => we_var hv ⟨rfl, rfl, ?_⟩) (fun cc => ⟨rfl, ?_⟩)⟩)))))
    · rw [ht]
      unfold filt
      rw [List.filter_append, List.map_append, List.filter_cons, if_pos cc]; rfl
    · rw [ht]
      unfold filt
      rw [List.filter_append, List.map_append, List.filter_cons, if_neg cc]
      show _ = _ ++ []
      rw [List.append_nil]
  · subst eg e
    rw [List.length_map, List.take_length]
    exact q
end
end Sf
end
section
set_option Elab.async false
set_option linter.all false
set_option maxRecDepth 100000
set_option maxHeartbeats 1000000
namespace Sf
open PySem L2
open PyProof.Rows (envOfC)
local macro_rules | `(tactic| walk_at "evS") => `(tactic| first
  | ((with_reducible refine ws_seqA ?_); try dsimp only [List.set_cons_zero, List.set_cons_succ])
  | with_reducible refine ws_if ?_
  | with_reducible refine ws_ret ?_
  | ((with_reducible refine' ws_newL ?hi ?_); (case hi => exact rfl))
  | ((with_reducible refine' ws_newD ?hi ?_); (case hi => exact rfl))
  | ((with_reducible refine' ws_listT ?hi ?_); (case hi => exact rfl))
  | ((with_reducible refine' ws_set ?hi ?_); (case hi => exact rfl))
  | with_reducible refine ws_next ?_)
local macro_rules | `(tactic| walk_at "evE2") => `(tactic| first
  | with_reducible refine we_tup ?_
  | ((with_reducible refine' we_lenO ?hv ?_); (case hv => exact rfl))
  | ((with_reducible refine' we_tupO ?hv ?_); (case hv => exact rfl))
  | with_reducible refine we_cb ?_
  | with_reducible refine we_callI ?_
  | with_reducible refine we_callL ?_
  | with_reducible refine we_lst ?_
  | with_reducible refine we_neg ?_
  | with_reducible refine we_sl ?_
  | with_reducible refine we_dget ?_
  | with_reducible refine we_get2 ?_
  | with_reducible refine we_ifE ?_
  | with_reducible refine we_andV ?_
  | with_reducible refine we_chain ?_
  | with_reducible refine we_dnewK ?_
  | with_reducible refine we_bl ?_
  | with_reducible refine we_non ?_)
local macro_rules | `(tactic| walk_at "evE") => `(tactic| first
  | ((with_reducible refine' we_var ?hv ?_); (case hv => exact rfl))
  | with_reducible refine we_int ?_
  | with_reducible refine we_str ?_
  | ((with_reducible refine' we_takeK ?hv ?hk ?_); (case hv => exact rfl); (case hk => exact rfl))
  | ((with_reducible refine' we_ixO ?hv ?_); (case hv => exact rfl))
  | with_reducible refine we_op ?_
  | walk_at "evE2")
local macro_rules | `(tactic| walk_at "evW") => `(tactic| first
  | ((with_reducible refine' wr_ixT ?hx ?he ?_); (case hx => exact rfl); (case he => first | exact rfl | exact at0 | exact at1 | exact at2 | exact at3))
  | with_reducible refine wr_eqS ?_
  | with_reducible refine wr_f0 ?_
  | with_reducible refine wr_f1 ?_
  | ((with_reducible refine' wr_iC ?hc ?_); (case hc => first | (exact (by decide)) | exact Or.inr (And.intro (by decide) (by decide)) | exact Or.inl (And.intro (by decide) (by decide)) | exact And.intro (by decide) (by decide) | exact And.intro (by decide) (And.intro (by decide) (by decide))))
  | with_reducible refine wr_i0 ?_
  | with_reducible refine wr_b0 ?_
  | with_reducible refine wr_eqI ?_
  | with_reducible refine wr_neS ?_
  | ((with_reducible refine' wr_ixL ?he ?_); (case he => first | exact rfl | exact at0 | exact at1 | exact at2 | exact at3)))
local macro_rules | `(tactic| walk_at "evT") => `(tactic| first
  | with_reducible refine wt_test ?_
  | with_reducible refine wt_and ?_
  | with_reducible refine wt_or ?_
  | with_reducible refine wt_not ?_
  | with_reducible refine wt_b ?_)
local macro_rules | `(tactic| walk_at "evM") => `(tactic| first
  | ((with_reducible refine' sl_and ?hs ?_); (case hs => exact rfl))
  | ((with_reducible refine if_t ?hc ?_); (case hc => decide +kernel))
  | ((with_reducible refine if_f ?hc ?_); (case hc => decide +kernel))
  | with_reducible refine wo_none ?_
  | with_reducible refine wo_some ?_
  | ((with_reducible refine' wsl_S ?hc ?_); (case hc => first | exact szL_of (by omega) | decide +kernel))
  | ((with_reducible refine' wsl_T ?hx ?_); (case hx => exact rfl))
  | with_reducible refine wsl_L ?_
  | ((with_reducible refine' Exists.intro _ (And.intro ?hx ?_)); (case hx => exact rfl))
  | dsimp only)
local macro_rules | `(tactic| walk_at "ev1") => `(tactic| first
  | with_reducible refine wa_cons ?_
  | with_reducible refine wa_nil ?_
  | ((with_reducible show WE _ _ _ _ _); walk_at "evE")
  | ((with_reducible show WR _ _ _ _ _ _); walk_at "evW")
  | ((with_reducible show WS _ _ _ _ _); walk_at "evS")
  | ((with_reducible show WT _ _ _ _ _); walk_at "evT")
  | walk_at "evM")
local macro_rules | `(tactic| walk_at "ev") => `(tactic| repeat walk_at "ev1")

theorem sc_law_bound : FnScope ["_law_feed_here", "_law_scope", "_law_room", "_law_down", "_law_shape_here", "_law_things", "_law_counts", "_law_defs", "_law_half", "_law_names_here", "_law_x", "_law_one", "_law_i", "_law_number_here", "_law_within", "_law_y", "_law_j"] ["_law_feed_here", "_law_scope", "_law_room", "_law_down"] (defScope (topS 48)) := ⟨rfl, rfl, rfl, by decide +kernel, rfl, by decide +kernel, by decide +kernel⟩
abbrev TmX := Sc × Int × Nat
def PreTm (n : Nat) (pf : Addr) (x : TmX) (es : List D) : Prop := es = [.adr pf, scD x.1, .int x.2.1, .int (x.2.2 : Nat)] ∧ ScOk x.1 x.2.2 ∧ x.2.2 < n
def PreBd (n : Nat) (pf : Addr) (x : TmX) (es : List D) : Prop := es = [.adr pf, scD x.1, .int x.2.1, .int (x.2.2 : Nat)] ∧ ScOk x.1 x.2.2 ∧ 1 ≤ x.2.2 ∧ x.2.2 ≤ n
def PreCl (n : Nat) (pf : Addr) (x : TmX) (es : List D) : Prop := PreBd n pf x es ∧ 1 ≤ x.1.ds.length
def RTm (x : TmX) (r : D) : Prop := ∃ t, r = enc t ∧ TermOk x.1 x.2.2 t
section
variable {P : Program} {w : World} {K : PySem.W.Frag} {mg : Str → Option Value} {base : Heap} (T : Tx K mg)
theorem ok_bound_of (n : Nat) (G_law_term : FnOk P w K mg base CX0 (2 * n + 10) T.law_term.a T.law_term.fd ["_law_feed_here", "_law_scope", "_law_room", "_law_down"] (spF K (PreTm n) RTm)) :
    FnOk P w K mg base CX0 (2 * n + 11) T.law_bound.a T.law_bound.fd ["_law_feed_here", "_law_scope", "_law_room", "_law_down"] (spF K (PreBd n) RTm) := by
  have G_law_take := ok_law_take (P := P) (w := w) (base := base) T
  have G_law_small := ok_law_small (P := P) (w := w) (base := base) T 4
  refine def_F T.law_bound.F sc_law_bound (fun pf x es ⟨e, _⟩ => by subst e; rfl) (by decide) (fun cdv A outer s H E hr => ?_)
  have hr_law_take := hr.mono (show 1 ≤ 2 * n + 10 by omega)
  have hr_law_small := hr.mono (show 5 ≤ 2 * n + 10 by omega)
  have hr_law_term := hr
  refine ⟨_, (pss_cons (ps_asg (pv 1) (pg_tup (by rfl) (pgs_cons (pg_name (i := 4) sc_law_bound.nd rfl (by first | exact Or.inl rfl | exact Or.inr rfl)) (pgs_cons (pg_name (i := 5) sc_law_bound.nd rfl (by first | exact Or.inl rfl | exact Or.inr rfl)) (pgs_cons (pg_name (i := 6) sc_law_bound.nd rfl (by first | exact Or.inl rfl | exact Or.inr rfl)) (pgs_cons (pg_name (i := 7) sc_law_bound.nd rfl (by first | exact Or.inl rfl | exact Or.inr rfl)) pgs_nil))))))
  (pss_cons (ps_set (i := 8) sc_law_bound.nd rfl (by first | exact Or.inl rfl | exact Or.inr rfl) (pe_op op_fdiv (pe_op op_sub (pv 2) pe_int) pe_int))
  (pss_cons (ps_set (i := 9) sc_law_bound.nd rfl (by first | exact Or.inl rfl | exact Or.inr rfl) (pe_op op_cat (pe_op op_cat (pe_lst (pa_cons pe_str (pa_cons pe_str (pa_cons pe_str pa_nil)))) (pe_slice sl_list (pv 5) po_none (po_some pe_int))) (pe_slice sl_list (pv 6) po_none (po_some pe_int))))
  (pss_cons (ps_set (i := 10) sc_law_bound.nd rfl (by first | exact Or.inl rfl | exact Or.inr rfl) (pe_ix ix_list (pv 9) (pe_call G_law_take hr_law_take (by rfl) T.law_take.g T.law_take.F.kp T.law_take.b .nil pass0 (pa_cons (pv 0) (pa_cons (pe_callB call_len (by rfl) T.nlen PySem.boot_len (pa_cons (pv 9) pa_nil)) pa_nil))) (fun _ _ => rfl)))
  (pss_cons (ps_set (i := 11) sc_law_bound.nd rfl (by first | exact Or.inl rfl | exact Or.inr rfl) (pe_call G_law_term hr_law_term (by rfl) T.law_term.g T.law_term.F.kp T.law_term.b .nil pass0 (pa_cons (pv 0) (pa_cons (pv 1) (pa_cons (pv 8) (pa_cons (pe_op op_sub (pv 3) pe_int) pa_nil))))))
  (pss_cons (ps_if (pt_cmpR op_eq (pe_call G_law_take hr_law_take (by rfl) T.law_take.g T.law_take.F.kp T.law_take.b .nil pass0 (pa_cons (pv 0) (pa_cons pe_int pa_nil))) pe_int (nomark _)) (pss_cons (ps_set (i := 14) sc_law_bound.nd rfl (by first | exact Or.inl rfl | exact Or.inr rfl) (pe_tup (pa_cons (pv 4) (pa_cons (pe_op op_cat (pe_lc (own := [("_law_y", 15)]) (by rfl) sc_law_bound.nd (pi_list (pv 5)) (blkOk_by (own := [("_law_y", 15)]) (N := ["_law_feed_here", "_law_scope", "_law_room", "_law_down", "_law_shape_here", "_law_things", "_law_counts", "_law_defs", "_law_half", "_law_names_here", "_law_x", "_law_one", "_law_i", "_law_number_here", "_law_within", "_law_y", "_law_j"]) (sc := defScope (topS 48)) (by decide +kernel)) (fun _ _ _ _ _ => (pg_name (i := 15) sc_law_bound.nd rfl (by first | exact Or.inl rfl | exact Or.inr rfl))) (fun _ _ _ _ _ => (pts_one (pt_cmpR op_ne (pv 15) (pv 10) (nomark _)))) (fun _ _ _ _ _ => (pv 15))) (pe_lst (pa_cons (pv 10) pa_nil))) (pa_cons (pv 6) (pa_cons (pv 7) pa_nil))))))
  (pss_one (ps_ret (pe_tup (pa_cons pe_str (pa_cons (pv 10) (pa_cons (pv 11) (pa_cons (pe_call G_law_term hr_law_term (by rfl) T.law_term.g T.law_term.F.kp T.law_term.b .nil pass0 (pa_cons (pv 0) (pa_cons (pv 14) (pa_cons (pv 8) (pa_cons (pe_op op_sub (pv 3) pe_int) pa_nil))))) pa_nil)))))))) pss_nil)
  (pss_cons (ps_set (i := 12) sc_law_bound.nd rfl (by first | exact Or.inl rfl | exact Or.inr rfl) (pe_ix ix_list (pe_lst (pa_cons pe_str (pa_cons pe_str (pa_cons pe_str pa_nil)))) (pe_call G_law_take hr_law_take (by rfl) T.law_take.g T.law_take.F.kp T.law_take.b .nil pass0 (pa_cons (pv 0) (pa_cons pe_int pa_nil))) (fun _ _ => rfl)))
  (pss_cons (ps_set (i := 13) sc_law_bound.nd rfl (by first | exact Or.inl rfl | exact Or.inr rfl) (pe_call G_law_small hr_law_small (by rfl) T.law_small.g T.law_small.F.kp T.law_small.b .nil pass0 (pa_cons (pv 0) (pa_cons (pv 6) (pa_cons pe_int pa_nil)))))
  (pss_cons (ps_set (i := 14) sc_law_bound.nd rfl (by first | exact Or.inl rfl | exact Or.inr rfl) (pe_tup (pa_cons (pv 4) (pa_cons (pe_op op_cat (pe_lc (own := [("_law_y", 15)]) (by rfl) sc_law_bound.nd (pi_list (pv 5)) (blkOk_by (own := [("_law_y", 15)]) (N := ["_law_feed_here", "_law_scope", "_law_room", "_law_down", "_law_shape_here", "_law_things", "_law_counts", "_law_defs", "_law_half", "_law_names_here", "_law_x", "_law_one", "_law_i", "_law_number_here", "_law_within", "_law_y", "_law_j"]) (sc := defScope (topS 48)) (by decide +kernel)) (fun _ _ _ _ _ => (pg_name (i := 15) sc_law_bound.nd rfl (by first | exact Or.inl rfl | exact Or.inr rfl))) (fun _ _ _ _ _ => (pts_one (pt_cmpR op_ne (pv 15) (pv 10) (nomark _)))) (fun _ _ _ _ _ => (pv 15))) (pe_lst (pa_cons (pv 10) pa_nil))) (pa_cons (pe_op op_cat (pe_lc (own := [("_law_j", 16)]) (by rfl) sc_law_bound.nd (pi_list (pv 6)) (blkOk_by (own := [("_law_j", 16)]) (N := ["_law_feed_here", "_law_scope", "_law_room", "_law_down", "_law_shape_here", "_law_things", "_law_counts", "_law_defs", "_law_half", "_law_names_here", "_law_x", "_law_one", "_law_i", "_law_number_here", "_law_within", "_law_y", "_law_j"]) (sc := defScope (topS 48)) (by decide +kernel)) (fun _ _ _ _ _ => (pg_name (i := 16) sc_law_bound.nd rfl (by first | exact Or.inl rfl | exact Or.inr rfl))) (fun _ _ _ _ _ => (pts_one (pt_cmpR op_ne (pv 16) (pv 12) (nomark _)))) (fun _ _ _ _ _ => (pv 16))) (pe_lst (pa_cons (pv 12) pa_nil))) (pa_cons (pv 7) pa_nil))))))
  (pss_one (ps_ret (pe_tup (pa_cons pe_str (pa_cons (pv 12) (pa_cons (pv 13) (pa_cons (pv 10) (pa_cons (pv 11) (pa_cons (pe_call G_law_term hr_law_term (by rfl) T.law_term.g T.law_term.F.kp T.law_term.b .nil pass0 (pa_cons (pv 0) (pa_cons (pv 14) (pa_cons (pv 8) (pa_cons (pe_op op_sub (pv 3) pe_int) pa_nil))))) pa_nil)))))))))))))))))), ?_⟩
  dsimp only [cxOf]
  rintro pf ⟨⟨fx, acts, th, co, ds⟩, room, d⟩ g es ⟨rfl, ok, hd1, hdn⟩ ha hb
  obtain ⟨d, rfl⟩ : ∃ e, d = e + 1 := ⟨d - 1, by have : 1 ≤ d := hd1; omega⟩
  have hdn' : d + 1 ≤ n := hdn
  have h5t : th.length + (d + 1) ≤ 500 := ok.thl
  have h5c : co.length + (d + 1) ≤ 500 := ok.col
  have hde : ((d + 1 : Nat) : Int) - 1 = (d : Int) := by omega
  dsimp only [ga0, List.map, List.length_cons, List.length_nil, List.cons_append, List.nil_append, Nat.reduceAdd, Nat.reduceSub, List.replicate_succ, List.replicate_zero]
  refine ws_seq (ws_asg ?_)
  walk_at "ev"
  refine wg_tup rfl rfl (wgs_cons rfl rfl (wgs_cons rfl rfl (wgs_cons rfl rfl (wgs_cons rfl rfl (wgs_nil ?_)))))
  walk_at "ev"
  rw [cutD_take (by decide)]
  refine wr_catL (szL_of (by rw [List.length_take]; show 3 + _ ≤ 1000; omega)) ?_
  walk_at "ev"
  rw [cutD_take (by decide)]
  refine wr_catL (szL_of (by rw [List.length_append, List.length_take, List.length_take]; show 3 + _ + _ ≤ 1000; omega)) ?_
  obtain ⟨nn, hnn, hn0, hn1⟩ : ∃ nn : List Str, ([.str "u", .str "v", .str "w"] ++ (th.map D.str).take (1 : Int).toNat ++ (co.map D.str).take (1 : Int).toNat : List D) = nn.map D.str ∧ 1 ≤ nn.length ∧ nn.length ≤ 10 :=
    ⟨(["u", "v", "w"] : List Str) ++ th.take 1 ++ co.take 1, by rw [List.map_append, List.map_append, List.map_take, List.map_take]; rfl, by rw [List.length_append, List.length_append]; show 1 ≤ 3 + _ + _; omega, by rw [List.length_append, List.length_append, List.length_take, List.length_take]; show 3 + _ + _ ≤ 10; omega⟩
  rw [hnn]
  walk_at "ev"
  refine we_take rfl ?_
  walk_at "ev"
  refine wc_len (n := nn.length) (List.length_map _).symm ?_
  refine ⟨_, rfl, by omega, by omega, fun k g2 hk0 hk1 => ?_⟩
  obtain ⟨x, hx, _, _⟩ := atI_map (f := D.str) (xs := nn) hk0 hk1
  refine wr_ixL hx ?_
  walk_at "ev"
  refine we_callF ?_
  walk_at "ev"
  rw [hde]
  refine ⟨(⟨fx, acts, th, co, ds⟩, (room - 2) / 2, d), ⟨rfl, ok.le (Nat.le_succ d), by show d < n; omega⟩, ?_⟩
  rintro _ g3 ⟨a, rfl, hta⟩ _
  walk_at "ev"
  refine ws_seq ?_
  walk_at "ev"
  intro k2 g4 hk20 hk21
  walk_at "ev"
  have hx1 : (filt th x).map D.str ++ [.str x] = (filt th x ++ [x]).map D.str := by rw [List.map_append]; rfl
  have hfl := filt_len th x
  have okT : ∀ co' : List Str, co'.length + d ≤ 500 → ScOk ⟨fx, acts, filt th x ++ [x], co', ds⟩ d := fun co' hc => ⟨by rw [List.length_append]; show 1 ≤ _ + 1 + _; omega, by rw [List.length_append]; show _ + 1 + d ≤ 500; omega, hc, ok.fxl, ok.acl, ok.ac, ok.dsl, ok.nd, ok.psl⟩
  refine if_both (fun c => ?_) (fun c => ?_)
  · walk_at "ev"
    (with_reducible refine' we_filt (x := x) (th := th) ?ha ?hb ?hbc ?hc ?hz ?hvs ?_); (case hvs => exact rfl); (case ha => exact rfl); (case hb => exact rfl); (case hbc => exact rfl); (case hc => exact rfl); (case hz => omega)
    walk_at "ev"
    refine wr_catL (szL_of (by rw [List.length_map]; show _ + 1 ≤ 1000; omega)) ?_
    rw [hx1]
    walk_at "ev"
    refine we_callF ?_
    walk_at "ev"
    rw [hde]
    refine ⟨(⟨fx, acts, filt th x ++ [x], co, ds⟩, (room - 2) / 2, d), ⟨rfl, okT co (by omega), by show d < n; omega⟩, ?_⟩
    rintro _ g5 ⟨b, rfl, htb⟩ _
    walk_at "ev"
    exact ⟨enc_im (.mk (.letv x) [a, b]), enc_im (.mk (.letv x) [a, b]), .mk (.letv x) [a, b], rfl, let_ok hta htb⟩
  · walk_at "ev"
    intro k3 g5 hk30 hk31
    obtain ⟨i, hi, _, _⟩ := atI_map (f := D.str) (xs := ["i", "j", "u"]) hk30 hk31
    refine wr_ixL hi ?_
    walk_at "ev"
    refine we_callF ?_
    walk_at "ev"
    refine ⟨(co, 3), ⟨rfl, by show (0 : Int) ≤ 3; decide, by show (3 : Int) < 4; decide, by show co.length ≤ 1000; omega⟩, ?_⟩
    rintro _ g6 ⟨nt, rfl, hnt⟩ _
    walk_at "ev"
    have hi1 : (filt co i).map D.str ++ [.str i] = (filt co i ++ [i]).map D.str := by rw [List.map_append]; rfl
    have hfc := filt_len co i
    (with_reducible refine' we_filt (x := x) (th := th) ?ha ?hb ?hbc ?hc ?hz ?hvs ?_); (case hvs => exact rfl); (case ha => exact rfl); (case hb => exact rfl); (case hbc => exact rfl); (case hc => exact rfl); (case hz => omega)
    walk_at "ev"
    refine wr_catL (szL_of (by rw [List.length_map]; show _ + 1 ≤ 1000; omega)) ?_
    rw [hx1]
    walk_at "ev"
    (with_reducible refine' we_filt (x := i) (th := co) ?ha ?hb ?hbc ?hc ?hz ?hvs ?_); (case hvs => exact rfl); (case ha => exact rfl); (case hb => exact rfl); (case hbc => exact rfl); (case hc => exact rfl); (case hz => omega)
    walk_at "ev"
    refine wr_catL (szL_of (by rw [List.length_map]; show _ + 1 ≤ 1000; omega)) ?_
    rw [hi1]
    walk_at "ev"
    refine we_callF ?_
    walk_at "ev"
    rw [hde]
    refine ⟨(⟨fx, acts, filt th x ++ [x], filt co i ++ [i], ds⟩, (room - 2) / 2, d), ⟨rfl, okT _ (by rw [List.length_append]; show _ + 1 + d ≤ 500; omega), by show d < n; omega⟩, ?_⟩
    rintro _ g7 ⟨b, rfl, htb⟩ _
    walk_at "ev"
    exact ⟨enc_im (.mk (.loop i x) [nt, a, b]), enc_im (.mk (.loop i x) [nt, a, b]), .mk (.loop i x) [nt, a, b], rfl, loop_ok hnt hta htb⟩
end
end Sf
end
section
set_option Elab.async false
set_option linter.all false
set_option maxRecDepth 100000
set_option maxHeartbeats 1000000
namespace Sf
open PySem L2
open PyProof.Rows (envOfC)
local macro_rules | `(tactic| walk_at "evS") => `(tactic| first
  | ((with_reducible refine ws_seqA ?_); try dsimp only [List.set_cons_zero, List.set_cons_succ])
  | with_reducible refine ws_if ?_
  | with_reducible refine ws_ret ?_
  | ((with_reducible refine' ws_newL ?hi ?_); (case hi => exact rfl))
  | ((with_reducible refine' ws_newD ?hi ?_); (case hi => exact rfl))
  | ((with_reducible refine' ws_listT ?hi ?_); (case hi => exact rfl))
  | ((with_reducible refine' ws_set ?hi ?_); (case hi => exact rfl))
  | with_reducible refine ws_next ?_)
local macro_rules | `(tactic| walk_at "evE2") => `(tactic| first
  | with_reducible refine we_tup ?_
  | ((with_reducible refine' we_lenO ?hv ?_); (case hv => exact rfl))
  | ((with_reducible refine' we_tupO ?hv ?_); (case hv => exact rfl))
  | with_reducible refine we_cb ?_
  | with_reducible refine we_callI ?_
  | with_reducible refine we_callL ?_
  | with_reducible refine we_lst ?_
  | with_reducible refine we_neg ?_
  | with_reducible refine we_sl ?_
  | with_reducible refine we_dget ?_
  | with_reducible refine we_get2 ?_
  | with_reducible refine we_ifE ?_
  | with_reducible refine we_andV ?_
  | with_reducible refine we_chain ?_
  | with_reducible refine we_dnewK ?_
  | with_reducible refine we_bl ?_
  | with_reducible refine we_non ?_)
local macro_rules | `(tactic| walk_at "evE") => `(tactic| first
  | ((with_reducible refine' we_var ?hv ?_); (case hv => exact rfl))
  | with_reducible refine we_int ?_
  | with_reducible refine we_str ?_
  | ((with_reducible refine' we_takeK ?hv ?hk ?_); (case hv => exact rfl); (case hk => exact rfl))
  | ((with_reducible refine' we_ixO ?hv ?_); (case hv => exact rfl))
  | with_reducible refine we_op ?_
  | walk_at "evE2")
local macro_rules | `(tactic| walk_at "evW") => `(tactic| first
  | ((with_reducible refine' wr_ixT ?hx ?he ?_); (case hx => exact rfl); (case he => first | exact rfl | exact at0 | exact at1 | exact at2 | exact at3))
  | with_reducible refine wr_eqS ?_
  | with_reducible refine wr_f0 ?_
  | with_reducible refine wr_f1 ?_
  | ((with_reducible refine' wr_iC ?hc ?_); (case hc => first | (exact (by decide)) | exact Or.inr (And.intro (by decide) (by decide)) | exact Or.inl (And.intro (by decide) (by decide)) | exact And.intro (by decide) (by decide) | exact And.intro (by decide) (And.intro (by decide) (by decide))))
  | with_reducible refine wr_i0 ?_
  | with_reducible refine wr_b0 ?_
  | with_reducible refine wr_eqI ?_
  | with_reducible refine wr_neS ?_
  | ((with_reducible refine' wr_ixL ?he ?_); (case he => first | exact rfl | exact at0 | exact at1 | exact at2 | exact at3)))
local macro_rules | `(tactic| walk_at "evT") => `(tactic| first
  | with_reducible refine wt_test ?_
  | with_reducible refine wt_and ?_
  | with_reducible refine wt_or ?_
  | with_reducible refine wt_not ?_
  | with_reducible refine wt_b ?_)
local macro_rules | `(tactic| walk_at "evM") => `(tactic| first
  | ((with_reducible refine' sl_and ?hs ?_); (case hs => exact rfl))
  | ((with_reducible refine if_t ?hc ?_); (case hc => decide +kernel))
  | ((with_reducible refine if_f ?hc ?_); (case hc => decide +kernel))
  | with_reducible refine wo_none ?_
  | with_reducible refine wo_some ?_
  | ((with_reducible refine' wsl_S ?hc ?_); (case hc => first | exact szL_of (by omega) | decide +kernel))
  | ((with_reducible refine' wsl_T ?hx ?_); (case hx => exact rfl))
  | with_reducible refine wsl_L ?_
  | ((with_reducible refine' Exists.intro _ (And.intro ?hx ?_)); (case hx => exact rfl))
  | dsimp only)
local macro_rules | `(tactic| walk_at "ev1") => `(tactic| first
  | with_reducible refine wa_cons ?_
  | with_reducible refine wa_nil ?_
  | ((with_reducible show WE _ _ _ _ _); walk_at "evE")
  | ((with_reducible show WR _ _ _ _ _ _); walk_at "evW")
  | ((with_reducible show WS _ _ _ _ _); walk_at "evS")
  | ((with_reducible show WT _ _ _ _ _); walk_at "evT")
  | walk_at "evM")
local macro_rules | `(tactic| walk_at "ev") => `(tactic| repeat walk_at "ev1")

theorem sc_law_call : FnScope ["_law_feed_here", "_law_scope", "_law_room", "_law_down", "_law_shape_here", "_law_things", "_law_counts", "_law_defs", "_law_name", "_law_params", "_law_term_here", "_law_args", "_law_x", "_law_sort"] ["_law_feed_here", "_law_scope", "_law_room", "_law_down"] (defScope (topS 47)) := ⟨rfl, rfl, rfl, by decide +kernel, rfl, by decide +kernel, by decide +kernel⟩
theorem snoc_getX {α : Type} {xs : List α} {x y : α} {j : Nat} (h : (xs ++ [x])[j]? = some y) : xs[j]? = some y ∨ (j = xs.length ∧ x = y) := by
  by_cases c : j < xs.length
  · rw [List.getElem?_append_left c] at h; exact .inl h
  · have hj := (List.getElem?_eq_some_iff.mp h).1
    rw [List.length_append] at hj
    have hj3 : j < xs.length + 1 := hj
    have : j = xs.length := by omega
    subst this
    rw [List.getElem?_append_right (Nat.le_refl _), Nat.sub_self] at h
    exact .inr ⟨rfl, Option.some.inj h⟩
section
variable {P : Program} {w : World} {K : PySem.W.Frag} {mg : Str → Option Value} {base : Heap} (T : Tx K mg)
theorem ok_call_of (n : Nat) (G_law_term : FnOk P w K mg base CX0 (2 * n + 10) T.law_term.a T.law_term.fd ["_law_feed_here", "_law_scope", "_law_room", "_law_down"] (spF K (PreTm n) RTm)) :
    FnOk P w K mg base CX0 (2 * n + 11) T.law_call.a T.law_call.fd ["_law_feed_here", "_law_scope", "_law_room", "_law_down"] (spF K (PreCl n) RTm) := by
  have G_law_take := ok_law_take (P := P) (w := w) (base := base) T
  have G_law_number := ok_law_number (P := P) (w := w) (base := base) T 4
  refine def_F T.law_call.F sc_law_call (fun pf x es ⟨⟨e, _⟩, _⟩ => by subst e; rfl) (by decide) (fun cdv A outer s H E hr => ?_)
  have hr_law_take := hr.mono (show 1 ≤ 2 * n + 10 by omega)
  have hr_law_number := hr.mono (show 6 ≤ 2 * n + 10 by omega)
  have hr_law_term := hr
  refine ⟨_, (pss_cons (ps_asg (pv 1) (pg_tup (by rfl) (pgs_cons (pg_name (i := 4) sc_law_call.nd rfl (by first | exact Or.inl rfl | exact Or.inr rfl)) (pgs_cons (pg_name (i := 5) sc_law_call.nd rfl (by first | exact Or.inl rfl | exact Or.inr rfl)) (pgs_cons (pg_name (i := 6) sc_law_call.nd rfl (by first | exact Or.inl rfl | exact Or.inr rfl)) (pgs_cons (pg_name (i := 7) sc_law_call.nd rfl (by first | exact Or.inl rfl | exact Or.inr rfl)) pgs_nil))))))
  (pss_cons (ps_asg (pe_ix ix_tup (pv 7) (pe_call G_law_take hr_law_take (by rfl) T.law_take.g T.law_take.F.kp T.law_take.b .nil pass0 (pa_cons (pv 0) (pa_cons (pe_callB call_len (by rfl) T.nlen PySem.boot_len (pa_cons (pv 7) pa_nil)) pa_nil))) (fun _ _ => rfl)) (pg_tup (by rfl) (pgs_cons (pg_name (i := 8) sc_law_call.nd rfl (by first | exact Or.inl rfl | exact Or.inr rfl)) (pgs_cons (pg_name (i := 9) sc_law_call.nd rfl (by first | exact Or.inl rfl | exact Or.inr rfl)) (pgs_cons (pg_name (i := 10) sc_law_call.nd rfl (by first | exact Or.inl rfl | exact Or.inr rfl)) pgs_nil)))))
  (pss_cons (ps_set (i := 11) sc_law_call.nd rfl (by first | exact Or.inl rfl | exact Or.inr rfl) (pe_lst pa_nil))
  (pss_cons (ps_for PassesOwn.never rfl (pi_tup (pv 9)) (pg_tup (by rfl) (pgs_cons (pg_name (i := 12) sc_law_call.nd rfl (by first | exact Or.inl rfl | exact Or.inr rfl)) (pgs_cons (pg_name (i := 13) sc_law_call.nd rfl (by first | exact Or.inl rfl | exact Or.inr rfl)) pgs_nil))) (pss_one (ps_if (pt_cmpR op_eq (pv 13) pe_str (nomark _)) (pss_one (ps_expr (pe_bm PySem.F.plainAttrs_list PySem.F.slot_list_append PySem.F.type_list_append mt_append (pv 11) (pa_cons (pe_call G_law_number hr_law_number (by rfl) T.law_number.g T.law_number.F.kp T.law_number.b .nil pass0 (pa_cons (pv 0) (pa_cons (pv 6) (pa_cons pe_int pa_nil)))) pa_nil)))) (pss_one (ps_expr (pe_bm PySem.F.plainAttrs_list PySem.F.slot_list_append PySem.F.type_list_append mt_append (pv 11) (pa_cons (pe_call G_law_term hr_law_term (by rfl) T.law_term.g T.law_term.F.kp T.law_term.b .nil pass0 (pa_cons (pv 0) (pa_cons (pv 1) (pa_cons (pe_op op_fdiv (pe_op op_sub (pv 2) pe_int) (pe_callB call_len (by rfl) T.nlen PySem.boot_len (pa_cons (pv 9) pa_nil))) (pa_cons (pe_op op_sub (pv 3) pe_int) pa_nil))))) pa_nil)))))))
  (pss_one (ps_ret (pe_tup (pa_cons pe_str (pa_cons (pv 8) (pa_cons (pe_callTy call_tuple_of (by rfl) T.ntuple (by decide +kernel) (pa_cons (pv 11) pa_nil)) pa_nil)))))))))), ?_⟩
  dsimp only [cxOf]
  rintro pf ⟨⟨fx, acts, th, co, ds⟩, room, d⟩ g es ⟨⟨rfl, ok, hd1, hdn⟩, hdl⟩ ha hb
  obtain ⟨d, rfl⟩ : ∃ e, d = e + 1 := ⟨d - 1, by have : 1 ≤ d := hd1; omega⟩
  have hdn' : d + 1 ≤ n := hdn
  have h5t : th.length + (d + 1) ≤ 500 := ok.thl
  have h5c : co.length + (d + 1) ≤ 500 := ok.col
  have hdl' : 1 ≤ ds.length := hdl
  have hd4 : ds.length ≤ 4 := ok.dsl
  have hde : ((d + 1 : Nat) : Int) - 1 = (d : Int) := by omega
  dsimp only [ga0, List.map, List.length_cons, List.length_nil, List.cons_append, List.nil_append, Nat.reduceAdd, Nat.reduceSub, List.replicate_succ, List.replicate_zero]
  refine ws_seq (ws_asg ?_)
  walk_at "ev"
  refine wg_tup rfl rfl (wgs_cons rfl rfl (wgs_cons rfl rfl (wgs_cons rfl rfl (wgs_cons rfl rfl (wgs_nil ?_)))))
  dsimp only [List.set_cons_zero, List.set_cons_succ]
  walk_at "ev"
  refine ws_asg ?_
  walk_at "ev"
  refine we_take rfl ?_
  walk_at "ev"
  refine wc_len (n := ds.length) (List.length_map _).symm ?_
  refine ⟨_, rfl, by omega, by omega, fun k g2 hk0 hk1 => ?_⟩
  obtain ⟨f, hf, hfm, _⟩ := atI_map (f := defD) (xs := ds) hk0 hk1
  refine wr_ixT rfl hf ?_
  refine wg_tup rfl rfl (wgs_cons rfl rfl (wgs_cons rfl rfl (wgs_cons rfl rfl (wgs_nil ?_))))
  dsimp only [List.set_cons_zero, List.set_cons_succ]
  have hps : f.ps.length ≤ 3 := ok.psl f hfm
  walk_at "ev"
  refine ⟨rfl, ?_⟩
  refine ws_seq (ws_for (wi_tup tk_rel ?_))
  walk_at "ev"
  refine ⟨parsD_im f.ps, fun i Γ' _ => ∃ (ts : List Sf.T) (x12 x13 : Option SD), Γ' = [some (.d (.adr pf)), some (.d (scD ⟨fx, acts, th, co, ds⟩)), some (.d (.int room)), some (.d (.int ((d + 1 : Nat) : Int))), some (.d (shD fx acts)), some (.d (.lst (th.map D.str))), some (.d (.lst (co.map D.str))), some (.d (defsD ds)), some (.d (.str f.f)), some (.d (parsD f.ps)), some (.d (enc f.b)), some (.own (ts.map enc)), x12, x13] ∧ ts.length = i ∧ ∀ (j : Nat) t b, ts[j]? = some t → (f.ps.map (·.2))[j]? = some b → (b = true ∧ TermOk ⟨fx, acts, th, co, ds⟩ d t) ∨ (b = false ∧ NumOk co 3 t), ⟨[], none, none, rfl, rfl, fun j t b h => nomatch h⟩, ?_, ?_⟩
  · rintro i Γ' g' hlt ⟨ts, x12, x13, rfl, hl, hts⟩
    rw [List.length_map] at hlt
    obtain ⟨p, hp, _, hpi⟩ := getD_map (f := parD) hlt
    rw [hp]
    refine wg_tup rfl rfl (wgs_cons rfl rfl (wgs_cons rfl rfl (wgs_nil ?_)))
    dsimp only [List.set_cons_zero, List.set_cons_succ]
    have hpi2 : (f.ps.map (·.2))[i]? = some p.2 := by rw [List.getElem?_map, hpi]; rfl
    have grow : ∀ (t : Sf.T), ((p.2 = true ∧ TermOk ⟨fx, acts, th, co, ds⟩ d t) ∨ (p.2 = false ∧ NumOk co 3 t)) → ∀ (j : Nat) u b, (ts ++ [t])[j]? = some u → (f.ps.map (·.2))[j]? = some b → (b = true ∧ TermOk ⟨fx, acts, th, co, ds⟩ d u) ∨ (b = false ∧ NumOk co 3 u) := fun t ht j u b h1 h2 => by
      rcases snoc_getX h1 with h1 | ⟨rfl, rfl⟩
      · exact hts j u b h1 h2
      · rw [hl, hpi2] at h2
        obtain rfl := Option.some.inj h2
        exact ht
    have app : ∀ t : Sf.T, ts.map enc ++ [enc t] = (ts ++ [t]).map enc := fun t => by rw [List.map_append]; rfl
    have hsz : (ts.map enc).length < sizeLine := by rw [List.length_map]; exact Nat.lt_of_le_of_lt (show ts.length ≤ 1000 by omega) (by decide)
    walk_at "ev"
    cases hp2 : p.2 with
    | false =>
      walk_at "ev"
      refine ws_append rfl (we_callF ?_)
      walk_at "ev"
      refine ⟨(co, 3), ⟨rfl, by show (0 : Int) ≤ 3; decide, by show (3 : Int) < 4; decide, by show co.length ≤ 1000; omega⟩, ?_⟩
      rintro _ g6 ⟨t, rfl, ht⟩ him
      exact ⟨him, hsz, ts ++ [t], _, _, by rw [app]; rfl, by rw [List.length_append, hl]; rfl, grow t (.inr ⟨hp2, ht⟩)⟩
    | true =>
      walk_at "ev"
      refine ws_append rfl (we_callF ?_)
      walk_at "ev"
      have hp1 : 0 < (f.ps.length : Int) := by omega
      refine wc_len (n := f.ps.length) (List.length_map _).symm ?_
      refine wr_iC ⟨hp1, by omega⟩ ?_
      walk_at "ev"
      rw [hde]
      refine ⟨(⟨fx, acts, th, co, ds⟩, (room - 1) / (f.ps.length : Int), d), ⟨rfl, ok.le (Nat.le_succ d), by show d < n; omega⟩, ?_⟩
      rintro _ g6 ⟨t, rfl, ht⟩ him
      exact ⟨him, hsz, ts ++ [t], _, _, by rw [app]; rfl, by rw [List.length_append, hl]; rfl, grow t (.inl ⟨hp2, ht⟩)⟩
  · rintro Γ' g' ⟨ts, x12, x13, rfl, hl, hts⟩
    rw [List.length_map] at hl
    walk_at "ev"
    have e : D.tup [.str "call", .str f.f, .tup (ts.map enc)] = enc (.mk (.call f.f) ts) := by
      show _ = D.tup [.str "call", .str f.f, .tup (encL ts)]
      rw [encL_map]
    rw [e]
    exact ⟨enc_im _, enc_im _, _, rfl, call_ok ok hfm hl hts⟩
end
end Sf
end
section
set_option Elab.async false
set_option linter.all false
set_option maxRecDepth 100000
set_option maxHeartbeats 1000000
namespace Sf
open PySem L2
open PyProof.Rows (envOfC)
local macro_rules | `(tactic| walk_at "evS") => `(tactic| first
  | ((with_reducible refine ws_seqA ?_); try dsimp only [List.set_cons_zero, List.set_cons_succ])
  | with_reducible refine ws_if ?_
  | with_reducible refine ws_ret ?_
  | ((with_reducible refine' ws_newL ?hi ?_); (case hi => exact rfl))
  | ((with_reducible refine' ws_newD ?hi ?_); (case hi => exact rfl))
  | ((with_reducible refine' ws_listT ?hi ?_); (case hi => exact rfl))
  | ((with_reducible refine' ws_set ?hi ?_); (case hi => exact rfl))
  | with_reducible refine ws_next ?_)
local macro_rules | `(tactic| walk_at "evE2") => `(tactic| first
  | with_reducible refine we_tup ?_
  | ((with_reducible refine' we_lenO ?hv ?_); (case hv => exact rfl))
  | ((with_reducible refine' we_tupO ?hv ?_); (case hv => exact rfl))
  | with_reducible refine we_cb ?_
  | with_reducible refine we_callI ?_
  | with_reducible refine we_callL ?_
  | with_reducible refine we_lst ?_
  | with_reducible refine we_neg ?_
  | with_reducible refine we_sl ?_
  | with_reducible refine we_dget ?_
  | with_reducible refine we_get2 ?_
  | with_reducible refine we_ifE ?_
  | with_reducible refine we_andV ?_
  | with_reducible refine we_chain ?_
  | with_reducible refine we_dnewK ?_
  | with_reducible refine we_bl ?_
  | with_reducible refine we_non ?_)
local macro_rules | `(tactic| walk_at "evE") => `(tactic| first
  | ((with_reducible refine' we_var ?hv ?_); (case hv => exact rfl))
  | with_reducible refine we_int ?_
  | with_reducible refine we_str ?_
  | ((with_reducible refine' we_takeK ?hv ?hk ?_); (case hv => exact rfl); (case hk => exact rfl))
  | ((with_reducible refine' we_ixO ?hv ?_); (case hv => exact rfl))
  | with_reducible refine we_op ?_
  | walk_at "evE2")
local macro_rules | `(tactic| walk_at "evW") => `(tactic| first
  | ((with_reducible refine' wr_ixT ?hx ?he ?_); (case hx => exact rfl); (case he => first | exact rfl | exact at0 | exact at1 | exact at2 | exact at3))
  | with_reducible refine wr_eqS ?_
  | with_reducible refine wr_f0 ?_
  | with_reducible refine wr_f1 ?_
  | ((with_reducible refine' wr_iC ?hc ?_); (case hc => first | (exact (by decide)) | exact Or.inr (And.intro (by decide) (by decide)) | exact Or.inl (And.intro (by decide) (by decide)) | exact And.intro (by decide) (by decide) | exact And.intro (by decide) (And.intro (by decide) (by decide))))
  | with_reducible refine wr_i0 ?_
  | with_reducible refine wr_b0 ?_
  | with_reducible refine wr_eqI ?_
  | with_reducible refine wr_neS ?_
  | ((with_reducible refine' wr_ixL ?he ?_); (case he => first | exact rfl | exact at0 | exact at1 | exact at2 | exact at3)))
local macro_rules | `(tactic| walk_at "evT") => `(tactic| first
  | with_reducible refine wt_test ?_
  | with_reducible refine wt_and ?_
  | with_reducible refine wt_or ?_
  | with_reducible refine wt_not ?_
  | with_reducible refine wt_b ?_)
local macro_rules | `(tactic| walk_at "evM") => `(tactic| first
  | ((with_reducible refine' sl_and ?hs ?_); (case hs => exact rfl))
  | ((with_reducible refine if_t ?hc ?_); (case hc => decide +kernel))
  | ((with_reducible refine if_f ?hc ?_); (case hc => decide +kernel))
  | with_reducible refine wo_none ?_
  | with_reducible refine wo_some ?_
  | ((with_reducible refine' wsl_S ?hc ?_); (case hc => first | exact szL_of (by omega) | decide +kernel))
  | ((with_reducible refine' wsl_T ?hx ?_); (case hx => exact rfl))
  | with_reducible refine wsl_L ?_
  | ((with_reducible refine' Exists.intro _ (And.intro ?hx ?_)); (case hx => exact rfl))
  | dsimp only)
local macro_rules | `(tactic| walk_at "ev1") => `(tactic| first
  | with_reducible refine wa_cons ?_
  | with_reducible refine wa_nil ?_
  | ((with_reducible show WE _ _ _ _ _); walk_at "evE")
  | ((with_reducible show WR _ _ _ _ _ _); walk_at "evW")
  | ((with_reducible show WS _ _ _ _ _); walk_at "evS")
  | ((with_reducible show WT _ _ _ _ _); walk_at "evT")
  | walk_at "evM")
local macro_rules | `(tactic| walk_at "ev") => `(tactic| repeat walk_at "ev1")

theorem sc_law_term : FnScope ["_law_feed_here", "_law_scope", "_law_room", "_law_down", "_law_shape_here", "_law_things", "_law_counts", "_law_defs", "_law_form", "_law_many", "_law_number_here", "_law_d", "_law_reach", "_law_share", "_law_k"] ["_law_feed_here", "_law_scope", "_law_room", "_law_down"] (defScope (topS 49)) := ⟨rfl, rfl, rfl, by decide +kernel, rfl, by decide +kernel, by decide +kernel⟩
section
variable {P : Program} {w : World} {K : PySem.W.Frag} {mg : Str → Option Value} {base : Heap} (T : Tx K mg)
theorem ok_law_term : ∀ n : Nat, FnOk P w K mg base CX0 (2 * n + 10) T.law_term.a T.law_term.fd ["_law_feed_here", "_law_scope", "_law_room", "_law_down"] (spF K (PreTm n) RTm)
  | 0 => none_F fun pf x es ⟨_, _, h⟩ => absurd h (Nat.not_lt_zero _)
  | n + 1 => by
    have G_law_take := ok_law_take (P := P) (w := w) (base := base) T
    have G_law_number := ok_law_number (P := P) (w := w) (base := base) T 4
    have G_law_leaf := ok_law_leaf (P := P) (w := w) (base := base) T
    have G_law_term := ok_law_term n
    have G_law_bound := ok_bound_of (P := P) (w := w) (base := base) T n G_law_term
    have G_law_call := ok_call_of (P := P) (w := w) (base := base) T n G_law_term
    refine def_F T.law_term.F sc_law_term (fun pf x es ⟨e, _⟩ => by subst e; rfl) (by decide) (fun cdv A outer s H E hr => ?_)
    have hr_law_take := hr.mono (show 1 ≤ 2 * (n + 1) + 9 by omega)
    have hr_law_number := hr.mono (show 6 ≤ 2 * (n + 1) + 9 by omega)
    have hr_law_leaf := hr.mono (show 2 ≤ 2 * (n + 1) + 9 by omega)
    have hr_law_term := hr.mono (show 2 * n + 10 ≤ 2 * (n + 1) + 9 by omega)
    have hr_law_bound := hr.mono (show 2 * n + 11 ≤ 2 * (n + 1) + 9 by omega)
    have hr_law_call := hr.mono (show 2 * n + 11 ≤ 2 * (n + 1) + 9 by omega)
    refine ⟨_, (pss_cons (ps_asg (pv 1) (pg_tup (by rfl) (pgs_cons (pg_name (i := 4) sc_law_term.nd rfl (by first | exact Or.inl rfl | exact Or.inr rfl)) (pgs_cons (pg_name (i := 5) sc_law_term.nd rfl (by first | exact Or.inl rfl | exact Or.inr rfl)) (pgs_cons (pg_name (i := 6) sc_law_term.nd rfl (by first | exact Or.inl rfl | exact Or.inr rfl)) (pgs_cons (pg_name (i := 7) sc_law_term.nd rfl (by first | exact Or.inl rfl | exact Or.inr rfl)) pgs_nil))))))
  (pss_cons (ps_set (i := 8) sc_law_term.nd rfl (by first | exact Or.inl rfl | exact Or.inr rfl) (pe_call G_law_take hr_law_take (by rfl) T.law_take.g T.law_take.F.kp T.law_take.b .nil pass0 (pa_cons (pv 0) (pa_cons pe_int pa_nil))))
  (pss_cons (ps_if (PW.pt (pw_or (pt_cmpR op_lt (pv 2) pe_int (nomark _)) (pw_or (pt_cmpR op_lt (pv 3) pe_int (nomark _)) (pw_or1 (pt_cmpR op_eq (pv 8) pe_int (nomark _)))))) (pss_one (ps_ret (pe_call G_law_leaf hr_law_leaf (by rfl) T.law_leaf.g T.law_leaf.F.kp T.law_leaf.b .nil pass0 (pa_cons (pv 0) (pa_cons (pv 1) pa_nil))))) pss_nil)
  (pss_cons (ps_if (PW.pt (pw_or (pt_cmpR op_eq (pv 8) pe_int (nomark _)) (pw_or1 (pt_cmpR op_eq (pv 8) pe_int (nomark _))))) (pss_one (ps_ret (pe_call G_law_bound hr_law_bound (by rfl) T.law_bound.g T.law_bound.F.kp T.law_bound.b .nil pass0 (pa_cons (pv 0) (pa_cons (pv 1) (pa_cons (pv 2) (pa_cons (pv 3) pa_nil))))))) pss_nil)
  (pss_cons (ps_if (pt_cmpR op_eq (pv 8) pe_int (nomark _)) (pss_cons (ps_set (i := 9) sc_law_term.nd rfl (by first | exact Or.inl rfl | exact Or.inr rfl) (pe_op op_add pe_int (pe_call G_law_take hr_law_take (by rfl) T.law_take.g T.law_take.F.kp T.law_take.b .nil pass0 (pa_cons (pv 0) (pa_cons pe_int pa_nil)))))
  (pss_cons (ps_set (i := 10) sc_law_term.nd rfl (by first | exact Or.inl rfl | exact Or.inr rfl) (pe_call G_law_number hr_law_number (by rfl) T.law_number.g T.law_number.F.kp T.law_number.b .nil pass0 (pa_cons (pv 0) (pa_cons (pv 6) (pa_cons pe_int pa_nil)))))
  (pss_cons (ps_set (i := 13) sc_law_term.nd rfl (by first | exact Or.inl rfl | exact Or.inr rfl) (pe_op op_fdiv (pe_op op_sub (pv 2) pe_int) (pv 9)))
  (pss_one (ps_ret (pe_tup (pa_cons pe_str (pa_cons (pv 10) (pa_cons (pe_callTy call_tuple_of (by rfl) T.ntuple (by decide +kernel) (pa_cons (pe_lc (own := [("_law_k", 14)]) (by rfl) sc_law_term.nd (pi_range1 (by rfl) T.nrange (pa_cons (pv 9) pa_nil)) (blkOk_by (own := [("_law_k", 14)]) (N := ["_law_feed_here", "_law_scope", "_law_room", "_law_down", "_law_shape_here", "_law_things", "_law_counts", "_law_defs", "_law_form", "_law_many", "_law_number_here", "_law_d", "_law_reach", "_law_share", "_law_k"]) (sc := defScope (topS 49)) (by decide +kernel)) (fun _ _ _ _ _ => (pg_name (i := 14) sc_law_term.nd rfl (by first | exact Or.inl rfl | exact Or.inr rfl))) (fun _ _ _ _ _ => pts_nil) (fun _ _ _ _ _ => (pe_call G_law_term hr_law_term (by rfl) T.law_term.g T.law_term.F.kp T.law_term.b .nil pass0 (pa_cons (pv 0) (pa_cons (pv 1) (pa_cons (pv 13) (pa_cons (pe_op op_sub (pv 3) pe_int) pa_nil))))))) pa_nil)) pa_nil))))))))) pss_nil)
  (pss_cons (ps_if (PW.pt (pw_and (pt_cmpR op_eq (pv 8) pe_int (nomark _)) (pw_and1 (pt_cmpR op_gt (pe_callB call_len (by rfl) T.nlen PySem.boot_len (pa_cons (pv 7) pa_nil)) pe_int (nomark _))))) (pss_one (ps_ret (pe_call G_law_call hr_law_call (by rfl) T.law_call.g T.law_call.F.kp T.law_call.b .nil pass0 (pa_cons (pv 0) (pa_cons (pv 1) (pa_cons (pv 2) (pa_cons (pv 3) pa_nil))))))) pss_nil)
  (pss_cons (ps_if (pt_cmpR op_eq (pe_callB call_len (by rfl) T.nlen PySem.boot_len (pa_cons (pe_ix ix_tup (pv 4) pe_int (fun _ _ => rfl)) pa_nil)) pe_int (nomark _)) (pss_one (ps_ret (pe_call G_law_leaf hr_law_leaf (by rfl) T.law_leaf.g T.law_leaf.F.kp T.law_leaf.b .nil pass0 (pa_cons (pv 0) (pa_cons (pv 1) pa_nil))))) pss_nil)
  (pss_cons (ps_asg (pe_ix ix_tup (pe_ix ix_tup (pv 4) pe_int (fun _ _ => rfl)) (pe_call G_law_take hr_law_take (by rfl) T.law_take.g T.law_take.F.kp T.law_take.b .nil pass0 (pa_cons (pv 0) (pa_cons (pe_callB call_len (by rfl) T.nlen PySem.boot_len (pa_cons (pe_ix ix_tup (pv 4) pe_int (fun _ _ => rfl)) pa_nil)) pa_nil))) (fun _ _ => rfl)) (pg_tup (by rfl) (pgs_cons (pg_name (i := 11) sc_law_term.nd rfl (by first | exact Or.inl rfl | exact Or.inr rfl)) (pgs_cons (pg_name (i := 12) sc_law_term.nd rfl (by first | exact Or.inl rfl | exact Or.inr rfl)) pgs_nil))))
  (pss_cons (ps_set (i := 13) sc_law_term.nd rfl (by first | exact Or.inl rfl | exact Or.inr rfl) (pe_op op_fdiv (pe_op op_sub (pv 2) pe_int) (pv 12)))
  (pss_one (ps_ret (pe_tup (pa_cons pe_str (pa_cons (pv 11) (pa_cons (pe_callTy call_tuple_of (by rfl) T.ntuple (by decide +kernel) (pa_cons (pe_lc (own := [("_law_k", 14)]) (by rfl) sc_law_term.nd (pi_range1 (by rfl) T.nrange (pa_cons (pv 12) pa_nil)) (blkOk_by (own := [("_law_k", 14)]) (N := ["_law_feed_here", "_law_scope", "_law_room", "_law_down", "_law_shape_here", "_law_things", "_law_counts", "_law_defs", "_law_form", "_law_many", "_law_number_here", "_law_d", "_law_reach", "_law_share", "_law_k"]) (sc := defScope (topS 49)) (by decide +kernel)) (fun _ _ _ _ _ => (pg_name (i := 14) sc_law_term.nd rfl (by first | exact Or.inl rfl | exact Or.inr rfl))) (fun _ _ _ _ _ => pts_nil) (fun _ _ _ _ _ => (pe_call G_law_term hr_law_term (by rfl) T.law_term.g T.law_term.F.kp T.law_term.b .nil pass0 (pa_cons (pv 0) (pa_cons (pv 1) (pa_cons (pv 13) (pa_cons (pe_op op_sub (pv 3) pe_int) pa_nil))))))) pa_nil)) pa_nil))))))))))))))), ?_⟩
    dsimp only [cxOf]
    rintro pf ⟨⟨fx, acts, th, co, ds⟩, room, d⟩ g es ⟨rfl, ok, hdn⟩ ha hb
    have hdn' : d < n + 1 := hdn
    have h5t : th.length + d ≤ 500 := ok.thl
    have h5c : co.length + d ≤ 500 := ok.col
    have hd4 : ds.length ≤ 4 := ok.dsl
    have ha4 : acts.length ≤ 4 := ok.acl
    dsimp only [ga0, List.map, List.length_cons, List.length_nil, List.cons_append, List.nil_append, Nat.reduceAdd, Nat.reduceSub, List.replicate_succ, List.replicate_zero]
    refine ws_seq (ws_asg ?_)
    walk_at "ev"
    refine wg_tup rfl rfl (wgs_cons rfl rfl (wgs_cons rfl rfl (wgs_cons rfl rfl (wgs_cons rfl rfl (wgs_nil ?_)))))
    dsimp only [List.set_cons_zero, List.set_cons_succ]
    walk_at "ev"
    intro f g1 hf0 hf1
    walk_at "ev"
    have leaf : ∀ (g : Int × Int) (E : AE (frmF K H pf)), (∀ d' g2, d'.im = true ∧ RTm (⟨fx, acts, th, co, ds⟩, room, d) d' → E.rt d' g2) → WS (frmF K H pf) (tRet (tCall (spF K PreLf RLf) [] E0 (tCons (tVar 0) (tCons (tVar 1) tNil)))) [some (.d (.adr pf)), some (.d (scD ⟨fx, acts, th, co, ds⟩)), some (.d (.int room)), some (.d (.int (d : Int))), some (.d (shD fx acts)), some (.d (.lst (th.map D.str))), some (.d (.lst (co.map D.str))), some (.d (defsD ds)), some (.d (.int f)), none, none, none, none, none, none] g E := fun g E hE => by
      refine ws_ret (we_callF ?_)
      walk_at "ev"
      refine ⟨⟨fx, acts, th, co, ds⟩, ⟨rfl, ok.le (Nat.zero_le _)⟩, ?_⟩
      rintro _ g2 ⟨t, rfl, ht⟩ him
      exact ⟨him, hE _ _ ⟨him, t, rfl, ht.le (Nat.zero_le _)⟩⟩
    refine ws_cut (fun Γ' _ => Γ' = [some (.d (.adr pf)), some (.d (scD ⟨fx, acts, th, co, ds⟩)), some (.d (.int room)), some (.d (.int (d : Int))), some (.d (shD fx acts)), some (.d (.lst (th.map D.str))), some (.d (.lst (co.map D.str))), some (.d (defsD ds)), some (.d (.int f)), none, none, none, none, none, none] ∧ 1 ≤ d) ?_ ?_
    · walk_at "ev"
      refine if_both (fun c => ?_) (fun c => ?_)
      · exact leaf _ _ fun _ _ h => h
      · walk_at "ev"
        refine if_both (fun c => ?_) (fun c => ?_)
        · exact leaf _ _ fun _ _ h => h
        · have hd1 : 1 ≤ d := by
            have : ¬ (d : Int) < 1 := of_decide_eq_false (Bool.eq_false_iff.mpr c)
            omega
          walk_at "ev"
          refine if_both (fun c => ?_) (fun c => ?_)
          · exact leaf _ _ fun _ _ h => h
          · exact ws_next ⟨rfl, hd1⟩
    · rintro Γ' g' ⟨rfl, hd1⟩
      obtain ⟨d, rfl⟩ : ∃ e, d = e + 1 := ⟨d - 1, by omega⟩
      have hde : ((d + 1 : Nat) : Int) - 1 = (d : Int) := by omega
      have kid : ∀ (q : Int) (g : Int × Int) (Q : QE (frmF K H pf)) (k : Nat) (Γ : Ga), Γ[0]? = some (some (.d (.adr pf))) → Γ[1]? = some (some (.d (scD ⟨fx, acts, th, co, ds⟩))) → Γ[3]? = some (some (.d (.int ((d + 1 : Nat) : Int)))) → Γ[13]? = some (some (.d (.int q))) → (∀ t g2, TermOk ⟨fx, acts, th, co, ds⟩ d t → Q (enc t) g2) →
          WE (frmF K H pf) (tCall (spF K (PreTm n) RTm) [] E0 (tCons (tVar 0) (tCons (tVar 1) (tCons (tVar 13) (tCons (tOp (rI0 fun i j => V.int (i - j)) (tVar 3) (tC (V.int 1))) tNil))))) Γ g Q := fun q g Q k Γ h0 h1 h3 h13 hQ => by
        refine we_callF (wa_cons (we_var h0 (wa_cons (we_var h1 (wa_cons (we_var h13 (wa_cons (we_op (we_var h3 (we_int (wr_i0 (wa_nil ?_))))))))))))
        rw [hde]
        refine ⟨(⟨fx, acts, th, co, ds⟩, q, d), ⟨rfl, ok.le (Nat.le_succ d), by show d < n; omega⟩, ?_⟩
        rintro _ g2 ⟨t, rfl, ht⟩ _
        exact hQ t g2 ht
      refine ws_cut (fun Γ' _ => Γ' = [some (.d (.adr pf)), some (.d (scD ⟨fx, acts, th, co, ds⟩)), some (.d (.int room)), some (.d (.int ((d + 1 : Nat) : Int))), some (.d (shD fx acts)), some (.d (.lst (th.map D.str))), some (.d (.lst (co.map D.str))), some (.d (defsD ds)), some (.d (.int f)), none, none, none, none, none, none]) ?_ ?_
      · have bnd : ∀ (g : Int × Int) (E : AE (frmF K H pf)), (∀ d' g2, d'.im = true ∧ RTm (⟨fx, acts, th, co, ds⟩, room, d + 1) d' → E.rt d' g2) → WS (frmF K H pf) (tRet (tCall (spF K (PreBd n) RTm) [] E0 (tCons (tVar 0) (tCons (tVar 1) (tCons (tVar 2) (tCons (tVar 3) tNil)))))) [some (.d (.adr pf)), some (.d (scD ⟨fx, acts, th, co, ds⟩)), some (.d (.int room)), some (.d (.int ((d + 1 : Nat) : Int))), some (.d (shD fx acts)), some (.d (.lst (th.map D.str))), some (.d (.lst (co.map D.str))), some (.d (defsD ds)), some (.d (.int f)), none, none, none, none, none, none] g E := fun g E hE => by
          refine ws_ret (we_callF ?_)
          walk_at "ev"
          refine ⟨(⟨fx, acts, th, co, ds⟩, room, d + 1), ⟨rfl, ok, by show 1 ≤ d + 1; omega, by show d + 1 ≤ n; omega⟩, ?_⟩
          rintro _ g2 ht him
          exact ⟨him, hE _ _ ⟨him, ht⟩⟩
        walk_at "ev"
        refine if_both (fun c => ?_) (fun c => ?_)
        · exact bnd _ _ fun _ _ h => h
        · walk_at "ev"
          refine if_both (fun c => ?_) (fun c => ?_)
          · exact bnd _ _ fun _ _ h => h
          · exact ws_next rfl
      · rintro Γ' g' rfl
        refine ws_cut (fun Γ' _ => Γ' = [some (.d (.adr pf)), some (.d (scD ⟨fx, acts, th, co, ds⟩)), some (.d (.int room)), some (.d (.int ((d + 1 : Nat) : Int))), some (.d (shD fx acts)), some (.d (.lst (th.map D.str))), some (.d (.lst (co.map D.str))), some (.d (defsD ds)), some (.d (.int f)), none, none, none, none, none, none]) ?_ ?_
        · walk_at "ev"
          refine if_both (fun c => ?_) (fun c => ?_)
          · walk_at "ev"
            intro k g2 hk0 hk1
            walk_at "ev"
            refine we_callF ?_
            walk_at "ev"
            refine ⟨(co, 3), ⟨rfl, by show (0 : Int) ≤ 3; decide, by show (3 : Int) < 4; decide, by show co.length ≤ 1000; omega⟩, ?_⟩
            rintro _ g3 ⟨nt, rfl, hnt⟩ _
            walk_at "ev"
            refine wr_iC ⟨by omega, by omega⟩ ?_
            walk_at "ev"
            refine we_lcR (fun _ e => ∃ t : Sf.T, e = enc t ∧ TermOk ⟨fx, acts, th, co, ds⟩ d t) (wi_range ?_)
            walk_at "ev"
            refine ⟨by omega, by omega, Nat.lt_of_le_of_lt (show _ ≤ 1000 by omega) (by decide), fun k g' hk => ?_, fun acc g' hl him hacc => ?_⟩
            · refine wg_name rfl rfl ?_
              exact kid _ _ _ 0 _ rfl rfl rfl rfl fun t g2 ht => ⟨enc_im t, t, rfl, ht⟩
            obtain ⟨ts, rfl, hts⟩ := acc_ex hacc
            rw [List.length_map] at hl
            refine wa_nil (wc_tupL ?_)
            walk_at "ev"
            have e : D.tup [.str "pick", enc nt, .tup (ts.map enc)] = enc (.mk .pick (nt :: ts)) := by
              show _ = D.tup [.str "pick", enc nt, .tup (encL ts)]
              rw [encL_map]
            rw [e]
            exact ⟨enc_im _, enc_im _, _, rfl, pick_ok hnt (fun z => by rw [z] at hl; simp at hl; omega) (by omega) hts⟩
          · exact ws_next rfl
        · rintro Γ' g' rfl
          refine ws_cut (fun Γ' _ => Γ' = [some (.d (.adr pf)), some (.d (scD ⟨fx, acts, th, co, ds⟩)), some (.d (.int room)), some (.d (.int ((d + 1 : Nat) : Int))), some (.d (shD fx acts)), some (.d (.lst (th.map D.str))), some (.d (.lst (co.map D.str))), some (.d (defsD ds)), some (.d (.int f)), none, none, none, none, none, none]) ?_ ?_
          · walk_at "ev"
            refine if_both (fun c => ?_) (fun c => ?_)
            · walk_at "ev"
              refine wc_len (n := ds.length) (List.length_map _).symm ?_
              walk_at "ev"
              refine if_both (fun c => ?_) (fun c => ?_)
              · have hd0 : 0 < (ds.length : Int) := of_decide_eq_true c
                refine ws_ret (we_callF ?_)
                walk_at "ev"
                refine ⟨(⟨fx, acts, th, co, ds⟩, room, d + 1), ⟨⟨rfl, ok, by show 1 ≤ d + 1; omega, by show d + 1 ≤ n; omega⟩, by show 1 ≤ ds.length; omega⟩, ?_⟩
                rintro _ g2 ht him
                exact ⟨him, him, ht⟩
              · exact ws_next rfl
            · exact if_f (fun z => nomatch z) (ws_next rfl)
          · rintro Γ' g' rfl
            refine ws_cut (fun Γ' _ => Γ' = [some (.d (.adr pf)), some (.d (scD ⟨fx, acts, th, co, ds⟩)), some (.d (.int room)), some (.d (.int ((d + 1 : Nat) : Int))), some (.d (shD fx acts)), some (.d (.lst (th.map D.str))), some (.d (.lst (co.map D.str))), some (.d (defsD ds)), some (.d (.int f)), none, none, none, none, none, none] ∧ 1 ≤ acts.length) ?_ ?_
            · walk_at "ev"
              refine wc_len (n := acts.length) (List.length_map _).symm ?_
              walk_at "ev"
              refine if_both (fun c => ?_) (fun c => ?_)
              · exact leaf _ _ fun _ _ h => h
              · have : ¬ (acts.length : Int) = 0 := of_decide_eq_false (Bool.eq_false_iff.mpr c)
                exact ws_next ⟨rfl, by omega⟩
            · rintro Γ' g' ⟨rfl, ha1⟩
              walk_at "ev"
              refine ws_asg ?_
              walk_at "ev"
              refine we_take rfl ?_
              walk_at "ev"
              refine wc_len (n := acts.length) (List.length_map _).symm ?_
              refine ⟨_, rfl, by omega, by omega, fun k g2 hk0 hk1 => ?_⟩
              obtain ⟨a, hat, ham, _⟩ := atI_map (f := fun a : Str × Int => D.tup [.str a.1, .int a.2]) (xs := acts) hk0 hk1
              have har := ok.ac a ham
              have har1 : 1 ≤ a.2 := by rcases har with h | h <;> rw [h] <;> decide
              have har2 : a.2 ≤ 2 := by rcases har with h | h <;> rw [h] <;> decide
              refine wr_ixT rfl hat ?_
              refine wg_tup rfl rfl (wgs_cons rfl rfl (wgs_cons rfl rfl (wgs_nil ?_)))
              dsimp only [List.set_cons_zero, List.set_cons_succ]
              walk_at "ev"
              refine wr_iC ⟨by omega, by omega⟩ ?_
              walk_at "ev"
              refine we_lcR (fun _ e => ∃ t : Sf.T, e = enc t ∧ TermOk ⟨fx, acts, th, co, ds⟩ d t) (wi_range ?_)
              walk_at "ev"
              refine ⟨by omega, by omega, Nat.lt_of_le_of_lt (show _ ≤ 1000 by omega) (by decide), fun k g' hk => ?_, fun acc g' hl him hacc => ?_⟩
              · refine wg_name rfl rfl ?_
                exact kid _ _ _ 0 _ rfl rfl rfl rfl fun t g2 ht => ⟨enc_im t, t, rfl, ht⟩
              obtain ⟨ts, rfl, hts⟩ := acc_ex hacc
              rw [List.length_map] at hl
              refine wa_nil (wc_tupL ?_)
              walk_at "ev"
              have e : D.tup [.str "do", .str a.1, .tup (ts.map enc)] = enc (.mk (.dov a.1) ts) := by
                show _ = D.tup [.str "do", .str a.1, .tup (encL ts)]
                rw [encL_map]
              rw [e]
              exact ⟨enc_im _, enc_im _, _, rfl, do_ok (by omega) hts⟩
end
end Sf
end
section
set_option Elab.async false
set_option linter.all false
set_option maxRecDepth 100000
set_option maxHeartbeats 1000000
namespace Sf
open PySem L2
open PyProof.Rows (envOfC)
local macro_rules | `(tactic| walk_at "evS") => `(tactic| first
  | ((with_reducible refine ws_seqA ?_); try dsimp only [List.set_cons_zero, List.set_cons_succ])
  | with_reducible refine ws_if ?_
  | with_reducible refine ws_ret ?_
  | ((with_reducible refine' ws_newL ?hi ?_); (case hi => exact rfl))
  | ((with_reducible refine' ws_newD ?hi ?_); (case hi => exact rfl))
  | ((with_reducible refine' ws_listT ?hi ?_); (case hi => exact rfl))
  | ((with_reducible refine' ws_set ?hi ?_); (case hi => exact rfl))
  | with_reducible refine ws_next ?_)
local macro_rules | `(tactic| walk_at "evE2") => `(tactic| first
  | with_reducible refine we_tup ?_
  | ((with_reducible refine' we_lenO ?hv ?_); (case hv => exact rfl))
  | ((with_reducible refine' we_tupO ?hv ?_); (case hv => exact rfl))
  | with_reducible refine we_cb ?_
  | with_reducible refine we_callI ?_
  | with_reducible refine we_callL ?_
  | with_reducible refine we_lst ?_
  | with_reducible refine we_neg ?_
  | with_reducible refine we_sl ?_
  | with_reducible refine we_dget ?_
  | with_reducible refine we_get2 ?_
  | with_reducible refine we_ifE ?_
  | with_reducible refine we_andV ?_
  | with_reducible refine we_chain ?_
  | with_reducible refine we_dnewK ?_
  | with_reducible refine we_bl ?_
  | with_reducible refine we_non ?_)
local macro_rules | `(tactic| walk_at "evE") => `(tactic| first
  | ((with_reducible refine' we_var ?hv ?_); (case hv => exact rfl))
  | with_reducible refine we_int ?_
  | with_reducible refine we_str ?_
  | ((with_reducible refine' we_takeK ?hv ?hk ?_); (case hv => exact rfl); (case hk => exact rfl))
  | ((with_reducible refine' we_ixO ?hv ?_); (case hv => exact rfl))
  | with_reducible refine we_op ?_
  | walk_at "evE2")
local macro_rules | `(tactic| walk_at "evW") => `(tactic| first
  | ((with_reducible refine' wr_ixT ?hx ?he ?_); (case hx => exact rfl); (case he => first | exact rfl | exact at0 | exact at1 | exact at2 | exact at3))
  | with_reducible refine wr_eqS ?_
  | with_reducible refine wr_f0 ?_
  | with_reducible refine wr_f1 ?_
  | ((with_reducible refine' wr_iC ?hc ?_); (case hc => first | (exact (by decide)) | exact Or.inr (And.intro (by decide) (by decide)) | exact Or.inl (And.intro (by decide) (by decide)) | exact And.intro (by decide) (by decide) | exact And.intro (by decide) (And.intro (by decide) (by decide))))
  | with_reducible refine wr_i0 ?_
  | with_reducible refine wr_b0 ?_
  | with_reducible refine wr_eqI ?_
  | with_reducible refine wr_neS ?_
  | ((with_reducible refine' wr_ixL ?he ?_); (case he => first | exact rfl | exact at0 | exact at1 | exact at2 | exact at3)))
local macro_rules | `(tactic| walk_at "evT") => `(tactic| first
  | with_reducible refine wt_test ?_
  | with_reducible refine wt_and ?_
  | with_reducible refine wt_or ?_
  | with_reducible refine wt_not ?_
  | with_reducible refine wt_b ?_)
local macro_rules | `(tactic| walk_at "evM") => `(tactic| first
  | ((with_reducible refine' sl_and ?hs ?_); (case hs => exact rfl))
  | ((with_reducible refine if_t ?hc ?_); (case hc => decide +kernel))
  | ((with_reducible refine if_f ?hc ?_); (case hc => decide +kernel))
  | with_reducible refine wo_none ?_
  | with_reducible refine wo_some ?_
  | ((with_reducible refine' wsl_S ?hc ?_); (case hc => first | exact szL_of (by omega) | decide +kernel))
  | ((with_reducible refine' wsl_T ?hx ?_); (case hx => exact rfl))
  | with_reducible refine wsl_L ?_
  | ((with_reducible refine' Exists.intro _ (And.intro ?hx ?_)); (case hx => exact rfl))
  | dsimp only)
local macro_rules | `(tactic| walk_at "ev1") => `(tactic| first
  | with_reducible refine wa_cons ?_
  | with_reducible refine wa_nil ?_
  | ((with_reducible show WE _ _ _ _ _); walk_at "evE")
  | ((with_reducible show WR _ _ _ _ _ _); walk_at "evW")
  | ((with_reducible show WS _ _ _ _ _); walk_at "evS")
  | ((with_reducible show WT _ _ _ _ _); walk_at "evT")
  | walk_at "evM")
local macro_rules | `(tactic| walk_at "ev") => `(tactic| repeat walk_at "ev1")

theorem sc_law_program : FnScope ["_law_feed_here", "_law_shape_here", "_law_inputs", "_law_room", "_law_names_here", "_law_things", "_law_defs", "_law_k", "_law_params", "_law_j", "_law_own", "_law_x", "_law_sort", "_law_counts", "_law_term_here"] ["_law_feed_here", "_law_shape_here", "_law_inputs", "_law_room"] (defScope (topS 50)) := ⟨rfl, rfl, rfl, by decide +kernel, rfl, by decide +kernel, by decide +kernel⟩
def sortS (b : Bool) : Str := if b then "thing" else "number"
def selS (ps : List (Str × Bool)) (b : Bool) : List Str := (ps.filter fun p => decide (p.2 = b)).map (·.1)
theorem selS_mem {ps : List (Str × Bool)} {b : Bool} {x : Str} : x ∈ selS ps b ↔ (x, b) ∈ ps := by
  unfold selS
  constructor
  · intro h
    obtain ⟨p, hp, rfl⟩ := List.mem_map.mp h
    obtain ⟨h1, h2⟩ := List.mem_filter.mp hp
    rw [← of_decide_eq_true h2]; exact h1
  · exact fun h => List.mem_map.mpr ⟨(x, b), List.mem_filter.mpr ⟨h, decide_eq_true rfl⟩, rfl⟩
theorem selS_len (ps : List (Str × Bool)) (b : Bool) : (selS ps b).length ≤ ps.length := by
  unfold selS
  rw [List.length_map]; exact List.length_filter_le _ _
theorem sortS_eq {a b : Bool} : sortS a = sortS b ↔ a = b := by cases a <;> cases b <;> decide +kernel
section
variable {M : Frm} {Γ : Ga} {g : M.G} {Q : QE M}
theorem we_psel {a c e : Nat} {b : Bool} {ps : List (Str × Bool)} (ha : Γ[a]? = some (some (.d (.lst (ps.map parD))))) (hc : Nat.blt c Γ.length = true) (he : Nat.blt e Γ.length = true) (hce : Nat.beq e c = false) (hz : ps.length ≤ 1000) {vs : List Nat} (hvs : vs = [c, e]) {n : Nat} (hn : n = 2) {z : Str} (hs : z = sortS b) (q : Q (.lst ((selS ps b).map D.str)) g) :
    WE M (tLc (iList M.K (tVar a)) (gTup M.K n (gCons (gName c) (gCons (gName e) gNil))) (tTest (tOp rEq (tVar e) (tC (.str z)))) (tVar c) vs) Γ g Q := by
  subst hvs hn hs
  have hce' : e ≠ c := fun z => by rw [z] at hce; rw [Nat.beq_refl] at hce; cases hce
  have hc' : c < Γ.length := Nat.le_of_ble_eq_true hc
  have he' : e < Γ.length := Nat.le_of_ble_eq_true he
  refine we_lc (wi_list (we_var ha ⟨_, rfl, parsD_im ps, by rw [List.length_map]; exact Nat.lt_of_le_of_lt hz (by decide), fun i acc g' => g' = g ∧ acc = (selS (ps.take i) b).map D.str, ⟨rfl, rfl⟩, fun i acc g' hlt _ ⟨eg, ee⟩ => ?_, fun acc g' _ him ⟨eg, ee⟩ => ?_⟩))
  · subst eg ee
    rw [List.length_map] at hlt
    obtain ⟨p, hz1, _, hz2⟩ := getD_map (f := parD) hlt
    dsimp only
    rw [hz1]
    have hv : (((wipeG Γ [c, e]).set c (some (.d (.str p.1)))).set e (some (.d (.str (sortS p.2)))))[c]? = some (some (.d (.str p.1))) := by
      rw [List.getElem?_set_ne hce', List.getElem?_set_self (by rw [wipeG_len]; exact hc')]
    have hv2 : (((wipeG Γ [c, e]).set c (some (.d (.str p.1)))).set e (some (.d (.str (sortS p.2)))))[e]? = some (some (.d (.str (sortS p.2)))) := List.getElem?_set_self (by rw [List.length_set, wipeG_len]; exact he')
    have ht : ps.take (i + 1) = ps.take i ++ [p] := by rw [List.take_add_one, hz2]; rfl
    refine wg_tup rfl rfl (wgs_cons (by rw [wipeG_len]; exact hc) (by simp) (wgs_cons (by rw [List.length_set, wipeG_len]; exact he) (by simp) (wgs_nil ?_)))
    refine wt_test (we_op (we_var hv2 (we_str (wr_eqS ⟨_, rfl, if_both (fun cc => we_var hv ⟨rfl, rfl, ?_⟩) (fun cc => ⟨rfl, ?_⟩)⟩))))
    · have cc' := sortS_eq.mp (of_decide_eq_true cc)
      rw [ht]
      unfold selS
      rw [List.filter_append, List.map_append, List.map_append, List.filter_cons, if_pos (decide_eq_true cc')]; rfl
    · have cc' : ¬ p.2 = b := fun z => cc (decide_eq_true (sortS_eq.mpr z))
      rw [ht]
      unfold selS
      rw [List.filter_append, List.map_append, List.map_append, List.filter_cons, if_neg (fun z => cc' (of_decide_eq_true z))]
      show _ = _ ++ []
      rw [List.append_nil]
  · subst eg ee
    rw [List.length_map, List.take_length]
    exact q
end
theorem sgr_app {ds : List Df} {d : Df} {r : Nat} (h : r ≤ ds.length) : sgr (ds ++ [d]) r = sgr ds r := by
  unfold sgr
  rw [List.take_append_of_le_length h]
/-- the defs so far -/
structure PgOk (ns : List Str) (ds : List Df) : Prop where
  rk : ∀ (r : Nat) d, ds[r]? = some d → Wf (sgr ds r) (fun x => (x, true) ∈ d.ps) (fun i => (i, false) ∈ d.ps) true d.b
  bd : ∀ d ∈ ds, d.b.dp ≤ BD ∧ d.b.sz ≤ SZ ∧ arB d.b = true
  psl : ∀ d ∈ ds, d.ps.length ≤ 3
  nm : ds.map Df.f = (ns.drop 7).take ds.length
theorem PgOk.nil (ns : List Str) : PgOk ns [] := ⟨fun r d h => (by simp at h), fun d h => (nomatch h), fun d h => (nomatch h), rfl⟩
theorem PgOk.nd {ns : List Str} {ds : List Df} (h : PgOk ns ds) (hn : ns.Nodup) : (ds.map Df.f).Nodup := by
  rw [h.nm]
  exact ((List.take_sublist _ _).trans (List.drop_sublist _ _)).nodup hn
theorem PgOk.snoc {ns : List Str} {ds : List Df} (h : PgOk ns ds) {d : Df} (h1 : Wf (sgr ds ds.length) (fun x => (x, true) ∈ d.ps) (fun i => (i, false) ∈ d.ps) true d.b) (h2 : d.b.dp ≤ BD ∧ d.b.sz ≤ SZ ∧ arB d.b = true) (h3 : d.ps.length ≤ 3) (h4 : ns[7 + ds.length]? = some d.f) : PgOk ns (ds ++ [d]) := by
  refine ⟨fun r e hr => ?_, fun e he => ?_, fun e he => ?_, ?_⟩
  · rcases snoc_getX hr with hr | ⟨rfl, rfl⟩
    · rw [sgr_app (Nat.le_of_lt (List.getElem?_eq_some_iff.mp hr).1)]; exact h.rk r e hr
    · rw [sgr_app (Nat.le_refl _)]; exact h1
  · rcases List.mem_append.mp he with he | he
    · exact h.bd e he
    · rw [List.mem_singleton.mp he]; exact h2
  · rcases List.mem_append.mp he with he | he
    · exact h.psl e he
    · rw [List.mem_singleton.mp he]; exact h3
  · rw [List.map_append, h.nm, List.length_append]
    show _ = (ns.drop 7).take (ds.length + 1)
    rw [List.take_add_one, List.getElem?_drop, h4]; rfl
abbrev PrX := List Str × List (Str × Int) × Int × Int
def PrePr (pf : Addr) (x : PrX) (es : List D) : Prop := es = [.adr pf, shD x.1 x.2.1, .int x.2.2.1, .int x.2.2.2] ∧ x.1.length ≤ 4 ∧ x.2.1.length ≤ 4 ∧ (∀ a ∈ x.2.1, a.2 = 1 ∨ a.2 = 2) ∧ 0 ≤ x.2.2.1 ∧ x.2.2.1 ≤ 3
def PgR (xs : List Str) (ds : List Df) (t : Sf.T) : Prop := DsOk ds ∧ Wf (sgr ds ds.length) (fun y => y ∈ xs) (fun _ => False) true t ∧ arB t = true ∧ t.sz ≤ 3000 ∧ t.dp ≤ 12 ∧ ds.length ≤ 4 ∧ xs.length ≤ 4
def RPr (_ : PrX) (r : D) : Prop := ∃ xs ds t, r = .tup [.tup (xs.map D.str), defsD ds, enc t] ∧ PgR xs ds t
section
variable {P : Program} {w : World} {K : PySem.W.Frag} {mg : Str → Option Value} {base : Heap} (T : Tx K mg)
theorem ok_law_program : FnOk P w K mg base CX0 25 T.law_program.a T.law_program.fd ["_law_feed_here", "_law_shape_here", "_law_inputs", "_law_room"] (spF K PrePr RPr) := by
  have G_law_take := ok_law_take (P := P) (w := w) (base := base) T
  have G_law_names := ok_law_names (P := P) (w := w) (base := base) T
  have G_law_term := ok_law_term (P := P) (w := w) (base := base) T 7
  refine def_F T.law_program.F sc_law_program (fun pf x es ⟨e, _⟩ => by subst e; rfl) (by decide) (fun cdv A outer s H E hr => ?_)
  have hr_law_take := hr.mono (show 1 ≤ 24 by omega)
  have hr_law_names := hr.mono (show 2 ≤ 24 by omega)
  have hr_law_term := hr
  refine ⟨_, (pss_cons (ps_set (i := 4) sc_law_program.nd rfl (by first | exact Or.inl rfl | exact Or.inr rfl) (pe_call G_law_names hr_law_names (by rfl) T.law_names.g T.law_names.F.kp T.law_names.b .nil pass0 (pa_cons (pv 0) (pa_cons pe_int pa_nil))))
  (pss_cons (ps_set (i := 2) sc_law_program.nd rfl (by first | exact Or.inl rfl | exact Or.inr rfl) (pe_callB (call_max2 rfl) (by rfl) T.nmax (by decide +kernel) (pa_cons (pv 2) (pa_cons (pe_callTy call_int1 (by rfl) T.nint (by decide +kernel) (pa_cons (pe_cmpR op_eq (pe_callB call_len (by rfl) T.nlen PySem.boot_len (pa_cons (pe_ix ix_tup (pv 1) pe_int (fun _ _ => rfl)) pa_nil)) pe_int (nomark _)) pa_nil)) pa_nil))))
  (pss_cons (ps_set (i := 5) sc_law_program.nd rfl (by first | exact Or.inl rfl | exact Or.inr rfl) (pe_slice sl_list (pv 4) po_none (po_some (pv 2))))
  (pss_cons (ps_set (i := 6) sc_law_program.nd rfl (by first | exact Or.inl rfl | exact Or.inr rfl) (pe_lst pa_nil))
  (pss_cons (ps_for PassesOwn.never rfl (pi_range1 (by rfl) T.nrange (pa_cons (pe_ix ix_list (pe_lst (pa_cons pe_int (pa_cons pe_int (pa_cons pe_int (pa_cons pe_int (pa_cons pe_int (pa_cons pe_int pa_nil))))))) (pe_call G_law_take hr_law_take (by rfl) T.law_take.g T.law_take.F.kp T.law_take.b .nil pass0 (pa_cons (pv 0) (pa_cons pe_int pa_nil))) (fun _ _ => rfl)) pa_nil)) (pg_name (i := 7) sc_law_program.nd rfl (by first | exact Or.inl rfl | exact Or.inr rfl)) (pss_cons (ps_set (i := 8) sc_law_program.nd rfl (by first | exact Or.inl rfl | exact Or.inr rfl) (pe_lst pa_nil))
  (pss_cons (ps_for PassesOwn.never rfl (pi_range1 (by rfl) T.nrange (pa_cons (pe_call G_law_take hr_law_take (by rfl) T.law_take.g T.law_take.F.kp T.law_take.b .nil pass0 (pa_cons (pv 0) (pa_cons pe_int pa_nil))) pa_nil)) (pg_name (i := 9) sc_law_program.nd rfl (by first | exact Or.inl rfl | exact Or.inr rfl)) (pss_one (ps_expr (pe_bm PySem.F.plainAttrs_list PySem.F.slot_list_append PySem.F.type_list_append mt_append (pv 8) (pa_cons (pe_tup (pa_cons (pe_ix ix_list (pv 4) (pe_op op_add pe_int (pv 9)) (fun _ _ => rfl)) (pa_cons (pe_ix ix_list (pe_lst (pa_cons pe_str (pa_cons pe_str (pa_cons pe_str pa_nil)))) (pe_call G_law_take hr_law_take (by rfl) T.law_take.g T.law_take.F.kp T.law_take.b .nil pass0 (pa_cons (pv 0) (pa_cons pe_int pa_nil))) (fun _ _ => rfl)) pa_nil))) pa_nil)))))
  (pss_cons (ps_if (PW.pt (pw_and (pt_cmpR op_eq (pe_callB call_len (by rfl) T.nlen PySem.boot_len (pa_cons (pe_ix ix_tup (pv 1) pe_int (fun _ _ => rfl)) pa_nil)) pe_int (nomark _)) (pw_and1 (pt_cmpR op_notIn_seq pe_str (pe_lc (own := [("_law_x", 11), ("_law_sort", 12)]) (by rfl) sc_law_program.nd (pi_list (pv 8)) (blkOk_by (own := [("_law_x", 11), ("_law_sort", 12)]) (N := ["_law_feed_here", "_law_shape_here", "_law_inputs", "_law_room", "_law_names_here", "_law_things", "_law_defs", "_law_k", "_law_params", "_law_j", "_law_own", "_law_x", "_law_sort", "_law_counts", "_law_term_here"]) (sc := defScope (topS 50)) (by decide +kernel)) (fun _ _ _ _ _ => (show PG _ _ (gTup K 2 (gCons (gName 11) (gCons (gName 12) gNil))) from by exact (pg_tup (by rfl) (pgs_cons (pg_name (i := 11) sc_law_program.nd rfl (by first | exact Or.inl rfl | exact Or.inr rfl)) (pgs_cons (pg_name (i := 12) sc_law_program.nd rfl (by first | exact Or.inl rfl | exact Or.inr rfl)) pgs_nil))))) (fun _ _ _ _ _ => pts_nil) (fun _ _ _ _ _ => (pv 12))) (by rfl))))) (pss_one (ps_set (i := 8) sc_law_program.nd rfl (by first | exact Or.inl rfl | exact Or.inr rfl) (pe_op op_cat (pe_slice sl_list (pv 8) po_none (po_some pe_int)) (pe_lst (pa_cons (pe_tup (pa_cons (pe_ix ix_list (pv 4) pe_int (fun _ _ => rfl)) (pa_cons pe_str pa_nil))) pa_nil))))) pss_nil)
  (pss_cons (ps_setLc (i := 10) (own := [("_law_x", 11), ("_law_sort", 12)]) (by rfl) sc_law_program.nd rfl rfl (sw_true rfl rfl rfl (by decide +kernel)) (pi_list (pv 8)) (blkOk_by (own := [("_law_x", 11), ("_law_sort", 12)]) (N := ["_law_feed_here", "_law_shape_here", "_law_inputs", "_law_room", "_law_names_here", "_law_things", "_law_defs", "_law_k", "_law_params", "_law_j", "_law_own", "_law_x", "_law_sort", "_law_counts", "_law_term_here"]) (sc := defScope (topS 50)) (by decide +kernel)) (fun _ _ _ _ _ => (show PG _ _ (gTup K 2 (gCons (gName 11) (gCons (gName 12) gNil))) from by exact (pg_tup (by rfl) (pgs_cons (pg_name (i := 11) sc_law_program.nd rfl (by first | exact Or.inl rfl | exact Or.inr rfl)) (pgs_cons (pg_name (i := 12) sc_law_program.nd rfl (by first | exact Or.inl rfl | exact Or.inr rfl)) pgs_nil))))) (fun _ _ _ _ _ => (pts_one (pt_cmpR op_eq (pv 12) pe_str (nomark _)))) (fun _ _ _ _ _ => (pv 11)))
  (pss_cons (ps_setLc (i := 13) (own := [("_law_x", 11), ("_law_sort", 12)]) (by rfl) sc_law_program.nd rfl rfl (sw_true rfl rfl rfl (by decide +kernel)) (pi_list (pv 8)) (blkOk_by (own := [("_law_x", 11), ("_law_sort", 12)]) (N := ["_law_feed_here", "_law_shape_here", "_law_inputs", "_law_room", "_law_names_here", "_law_things", "_law_defs", "_law_k", "_law_params", "_law_j", "_law_own", "_law_x", "_law_sort", "_law_counts", "_law_term_here"]) (sc := defScope (topS 50)) (by decide +kernel)) (fun _ _ _ _ _ => (show PG _ _ (gTup K 2 (gCons (gName 11) (gCons (gName 12) gNil))) from by exact (pg_tup (by rfl) (pgs_cons (pg_name (i := 11) sc_law_program.nd rfl (by first | exact Or.inl rfl | exact Or.inr rfl)) (pgs_cons (pg_name (i := 12) sc_law_program.nd rfl (by first | exact Or.inl rfl | exact Or.inr rfl)) pgs_nil))))) (fun _ _ _ _ _ => (pts_one (pt_cmpR op_eq (pv 12) pe_str (nomark _)))) (fun _ _ _ _ _ => (pv 11)))
  (pss_cons (ps_set (i := 14) sc_law_program.nd rfl (by first | exact Or.inl rfl | exact Or.inr rfl) (pe_call G_law_term hr_law_term (by rfl) T.law_term.g T.law_term.F.kp T.law_term.b .nil pass0 (pa_cons (pv 0) (pa_cons (pe_tup (pa_cons (pv 1) (pa_cons (pv 10) (pa_cons (pv 13) (pa_cons (pe_callTy call_tuple_of (by rfl) T.ntuple (by decide +kernel) (pa_cons (pv 6) pa_nil)) pa_nil))))) (pa_cons (pe_op op_add pe_int (pe_call G_law_take hr_law_take (by rfl) T.law_take.g T.law_take.F.kp T.law_take.b .nil pass0 (pa_cons (pv 0) (pa_cons pe_int pa_nil)))) (pa_cons pe_int pa_nil))))))
  (pss_one (ps_expr (pe_bm PySem.F.plainAttrs_list PySem.F.slot_list_append PySem.F.type_list_append mt_append (pv 6) (pa_cons (pe_tup (pa_cons (pe_ix ix_list (pv 4) (pe_op op_add pe_int (pv 7)) (fun _ _ => rfl)) (pa_cons (pe_callTy call_tuple_of (by rfl) T.ntuple (by decide +kernel) (pa_cons (pv 8) pa_nil)) (pa_cons (pv 14) pa_nil)))) pa_nil)))))))))))
  (pss_one (ps_ret (pe_tup (pa_cons (pe_callTy call_tuple_of (by rfl) T.ntuple (by decide +kernel) (pa_cons (pv 5) pa_nil)) (pa_cons (pe_callTy call_tuple_of (by rfl) T.ntuple (by decide +kernel) (pa_cons (pv 6) pa_nil)) (pa_cons (pe_call G_law_term hr_law_term (by rfl) T.law_term.g T.law_term.F.kp T.law_term.b .nil pass0 (pa_cons (pv 0) (pa_cons (pe_tup (pa_cons (pv 1) (pa_cons (pv 5) (pa_cons (pe_lst pa_nil) (pa_cons (pe_callTy call_tuple_of (by rfl) T.ntuple (by decide +kernel) (pa_cons (pv 6) pa_nil)) pa_nil))))) (pa_cons (pv 3) (pa_cons pe_int pa_nil))))) pa_nil))))))))))), ?_⟩
  dsimp only [cxOf]
  rintro pf ⟨fx, acts, inp, room⟩ g es ⟨rfl, hfx, hac, hac2, hi0, hi3⟩ ha hb
  have hfx' : fx.length ≤ 4 := hfx
  have hac' : acts.length ≤ 4 := hac
  have hi0' : 0 ≤ inp := hi0
  have hi3' : inp ≤ 3 := hi3
  dsimp only [ga0, List.map, List.length_cons, List.length_nil, List.cons_append, List.nil_append, Nat.reduceAdd, Nat.reduceSub, List.replicate_succ, List.replicate_zero]
  walk_at "ev"
  refine we_names rfl rfl fun ns g1 hns hnd hnl => ?_
  walk_at "ev"
  refine wc_len (n := fx.length) (List.length_map _).symm ?_
  walk_at "ev"
  refine wc_intB ?_
  walk_at "ev"
  refine wc_max2 ?_
  have hin : ∃ inp2 : Int, (if (if (decide ((fx.length : Int) = 0)) = true then (1 : Int) else 0) > inp then (if (decide ((fx.length : Int) = 0)) = true then (1 : Int) else 0) else inp) = inp2 ∧ 0 ≤ inp2 ∧ inp2 ≤ 3 ∧ (fx.length = 0 → 1 ≤ inp2) := by
    refine ⟨_, rfl, ?_⟩
    by_cases c : (fx.length : Int) = 0
    · have e : (if (decide ((fx.length : Int) = 0)) = true then (1 : Int) else 0) = 1 := if_pos (decide_eq_true c)
      rw [e]
      split <;> omega
    · have e : (if (decide ((fx.length : Int) = 0)) = true then (1 : Int) else 0) = 0 := if_neg (fun z => c (of_decide_eq_true z))
      rw [e]
      split <;> omega
  obtain ⟨inp2, hin1, hin2, hin3, hin4⟩ := hin
  rw [hin1]
  walk_at "ev"
  rw [cutD_take hin2, ← List.map_take]
  obtain ⟨xs, hxs⟩ : ∃ xs, ns.take inp2.toNat = xs := ⟨_, rfl⟩
  have hxl : (xs.length : Int) = inp2 := by rw [← hxs, List.length_take]; omega
  rw [hxs]
  walk_at "ev"
  refine ⟨rfl, ?_⟩
  refine ws_cut (fun Γ' _ => ∃ (ds : List Df) (x7 x8 x9 x10 x11 x12 x13 x14 : Option SD), Γ' = [some (.d (.adr pf)), some (.d (shD fx acts)), some (.d (.int inp2)), some (.d (.int room)), some (.d (.lst (ns.map D.str))), some (.d (.lst (xs.map D.str))), some (.own (ds.map defD)), x7, x8, x9, x10, x11, x12, x13, x14] ∧ ds.length ≤ 4 ∧ PgOk ns ds) ?_ ?_
  · refine ws_for (wi_range ?_)
    walk_at "ev"
    intro k6 g2 hk0 hk6
    obtain ⟨z, hz, hzm, _⟩ := atI_map (f := D.int) (xs := [0, 0, 1, 2, 3, 4]) hk0 (show k6 < 6 from hk6)
    have hzb : 0 ≤ z ∧ z ≤ 4 := (by decide : ∀ x ∈ ([0, 0, 1, 2, 3, 4] : List Int), 0 ≤ x ∧ x ≤ 4) z hzm
    refine wr_ixL hz ?_
    walk_at "ev"
    refine ⟨hzb.1, by omega, fun i Γ' _ => ∃ (ds : List Df) (x7 x8 x9 x10 x11 x12 x13 x14 : Option SD), Γ' = [some (.d (.adr pf)), some (.d (shD fx acts)), some (.d (.int inp2)), some (.d (.int room)), some (.d (.lst (ns.map D.str))), some (.d (.lst (xs.map D.str))), some (.own (ds.map defD)), x7, x8, x9, x10, x11, x12, x13, x14] ∧ ds.length = i ∧ PgOk ns ds, ⟨[], none, none, none, none, none, none, none, none, rfl, rfl, .nil ns⟩, ?_, fun Γ' g' ⟨ds, x7, x8, x9, x10, x11, x12, x13, x14, e, hl, p⟩ => ⟨ds, x7, x8, x9, x10, x11, x12, x13, x14, e, by omega, p⟩⟩
    rintro k Γ' g' hlt ⟨ds, x7, x8, x9, x10, x11, x12, x13, x14, rfl, hl, pg⟩
    simp only [Int.zero_add]
    refine wg_name rfl rfl ?_
    dsimp only [List.set_cons_zero, List.set_cons_succ]
    walk_at "ev"
    refine ⟨rfl, ?_⟩
    refine ws_cut (fun Γ' _ => ∃ (ps : List (Str × Bool)) (x9 x10 x11 x12 x13 x14 : Option SD), Γ' = [some (.d (.adr pf)), some (.d (shD fx acts)), some (.d (.int inp2)), some (.d (.int room)), some (.d (.lst (ns.map D.str))), some (.d (.lst (xs.map D.str))), some (.own (ds.map defD)), some (.d (.int (k : Int))), some (.own (ps.map parD)), x9, x10, x11, x12, x13, x14] ∧ ps.length ≤ 3) ?_ ?_
    · refine ws_for (wi_range ?_)
      walk_at "ev"
      intro m g3 hm0 hm4
      walk_at "ev"
      refine ⟨hm0, by omega, fun j Γ' _ => ∃ (ps : List (Str × Bool)) (x9 x10 x11 x12 x13 x14 : Option SD), Γ' = [some (.d (.adr pf)), some (.d (shD fx acts)), some (.d (.int inp2)), some (.d (.int room)), some (.d (.lst (ns.map D.str))), some (.d (.lst (xs.map D.str))), some (.own (ds.map defD)), some (.d (.int (k : Int))), some (.own (ps.map parD)), x9, x10, x11, x12, x13, x14] ∧ ps.length = j, ⟨[], _, _, _, _, _, _, rfl, rfl⟩, ?_, fun Γ' g' ⟨ps, x9, x10, x11, x12, x13, x14, e, hl⟩ => ⟨ps, x9, x10, x11, x12, x13, x14, e, by omega⟩⟩
      rintro j Γ' g' hjm ⟨ps, x9, x10, x11, x12, x13, x14, rfl, hj⟩
      simp only [Int.zero_add]
      refine wg_name rfl rfl ?_
      dsimp only [List.set_cons_zero, List.set_cons_succ]
      refine ws_append rfl ?_
      walk_at "ev"
      obtain ⟨nm, hnm, _, _⟩ := atI_map (f := D.str) (xs := ns) (k := 3 + (j : Int)) (by omega) (by omega)
      refine wr_ixL hnm ?_
      walk_at "ev"
      intro kk g4 hkk0 hkk1
      obtain ⟨b, hb, _, _⟩ := atI_map (f := fun b : Bool => D.str (sortS b)) (xs := [true, false, true]) hkk0 (show kk < 3 from hkk1)
      refine wr_ixL hb ?_
      walk_at "ev"
      exact ⟨rfl, by rw [List.length_map]; exact Nat.lt_of_le_of_lt (show ps.length ≤ 1000 by omega) (by decide), ps ++ [(nm, b)], _, _, _, _, _, _, by rw [List.map_append]; rfl, by rw [List.length_append, hj]; rfl⟩
    · rintro Γ' g' ⟨ps, x9, x10, x11, x12, x13, x14, rfl, hps⟩
      refine ws_share (i := 8) rfl rfl ?_
      dsimp only [List.set_cons_zero, List.set_cons_succ, SD.sh]
      refine ws_cut (fun Γ' _ => ∃ (ps : List (Str × Bool)) (x9 x10 x11 x12 x13 x14 : Option SD), Γ' = [some (.d (.adr pf)), some (.d (shD fx acts)), some (.d (.int inp2)), some (.d (.int room)), some (.d (.lst (ns.map D.str))), some (.d (.lst (xs.map D.str))), some (.own (ds.map defD)), some (.d (.int (k : Int))), some (.d (.lst (ps.map parD))), x9, x10, x11, x12, x13, x14] ∧ ps.length ≤ 3 ∧ (fx.length = 0 → ∃ p ∈ ps, p.2 = true)) ?_ ?_
      · walk_at "ev"
        refine wc_len (n := fx.length) (List.length_map _).symm ?_
        walk_at "ev"
        refine if_both (fun c => ?_) (fun c => ?_)
        · walk_at "ev"
          refine we_lcR (fun i e => ∃ p, ps[i]? = some p ∧ e = .str (sortS p.2)) (wi_list ?_)
          walk_at "ev"
          refine ⟨parsD_im ps, by rw [List.length_map]; exact Nat.lt_of_le_of_lt (show ps.length ≤ 1000 by omega) (by decide), fun i g' hi => ?_, fun acc g' hl him hacc => ?_⟩
          · rw [List.length_map] at hi
            obtain ⟨p, hp, _, hpi⟩ := getD_map (f := parD) hi
            rw [hp]
            refine wg_tup rfl rfl (wgs_cons rfl rfl (wgs_cons rfl rfl (wgs_nil ?_)))
            walk_at "ev"
            exact ⟨rfl, p, hpi, rfl⟩
          rw [List.length_map] at hl
          have hacc2 := acc_map (ts := ps) (f := fun p => D.str (sortS p.2)) hl hacc
          have hacc3 : acc = (ps.map fun p => sortS p.2).map D.str := by rw [hacc2, List.map_map]; rfl
          rw [hacc3]
          refine wr_ninL ?_
          refine ⟨_, rfl, if_both (fun c2 => ?_) (fun c2 => ?_)⟩
          · walk_at "ev"
            rw [cutD_take (by decide)]
            obtain ⟨nm, hnm, _, _⟩ := atI_map (f := D.str) (xs := ns) (k := 6) (by omega) (by omega)
            refine wr_ixL hnm ?_
            walk_at "ev"
            refine wr_catL (szL_of (by rw [List.length_take, List.length_map]; show _ + 1 ≤ 1000; omega)) ?_
            refine ⟨ps.take 2 ++ [(nm, true)], _, _, _, _, _, _, by rw [List.map_append, List.map_take]; rfl, ?_, fun _ => ⟨(nm, true), List.mem_append.mpr (.inr List.mem_cons_self), rfl⟩⟩
            rw [List.length_append, List.length_take]
            show _ + 1 ≤ 3
            omega
          · refine ws_next ⟨ps, _, _, _, _, _, _, rfl, hps, fun _ => ?_⟩
            have h3 : decide ((("thing" : String) : Str) ∈ ps.map fun p => sortS p.2) = true := by
              cases q : decide ((("thing" : String) : Str) ∈ ps.map fun p => sortS p.2) with
              | true => rfl
              | false => rw [q] at c2; exact absurd rfl c2
            obtain ⟨p, hp, e⟩ := List.mem_map.mp (of_decide_eq_true h3)
            exact ⟨p, hp, sortS_eq.mp (e.trans (show _ = sortS true from rfl))⟩
        · refine if_f (fun z => nomatch z) (ws_next ⟨ps, _, _, _, _, _, _, rfl, hps, fun h => absurd ?_ c⟩)
          rw [h]; rfl
      · rintro Γ' g' ⟨ps, x9, x10, x11, x12, x13, x14, rfl, hps, hpt⟩
        have hs1 := selS_len ps true
        have hs2 := selS_len ps false
        have hne : 1 ≤ (selS ps true).length + fx.length := by
          by_cases c : fx.length = 0
          · obtain ⟨p, hp, e⟩ := hpt c
            have : p.1 ∈ selS ps true := selS_mem.mpr (by rw [← e]; exact hp)
            have := List.length_pos_of_mem this
            omega
          · omega
        walk_at "ev"
        (with_reducible refine' we_psel (b := true) (ps := ps) ?ha ?hc ?he ?hce ?hz ?hvs ?hn ?hs ?_); (case hvs => exact rfl); (case ha => exact rfl); (case hc => exact rfl); (case he => exact rfl); (case hce => exact rfl); (case hz => omega); (case hn => exact rfl); (case hs => exact rfl)
        walk_at "ev"
        (with_reducible refine' we_psel (b := false) (ps := ps) ?ha ?hc ?he ?hce ?hz ?hvs ?hn ?hs ?_); (case hvs => exact rfl); (case ha => exact rfl); (case hc => exact rfl); (case he => exact rfl); (case hce => exact rfl); (case hz => omega); (case hn => exact rfl); (case hs => exact rfl)
        walk_at "ev"
        refine we_callF ?_
        walk_at "ev"
        intro k12 g5 hk120 hk121
        walk_at "ev"
        refine ⟨(⟨fx, acts, selS ps true, selS ps false, ds⟩, 1 + k12, 4), ⟨rfl, ⟨hne, by show (selS ps true).length + 4 ≤ 500; omega, by show (selS ps false).length + 4 ≤ 500; omega, hfx', hac', hac2, by show ds.length ≤ 4; omega, pg.nd hnd, pg.psl⟩, by show 4 < 7; decide⟩, ?_⟩
        rintro _ g6 ⟨t, rfl, ht⟩ _
        walk_at "ev"
        refine ws_append rfl ?_
        walk_at "ev"
        obtain ⟨nm, hnm, _, hnm2⟩ := atI_map (f := D.str) (xs := ns) (k := 7 + (k : Int)) (by omega) (by omega)
        refine wr_ixL hnm ?_
        walk_at "ev"
        refine wc_tupL ?_
        walk_at "ev"
        have him : (D.tup [.str nm, .tup (ps.map parD), enc t]).im = true := by
          show (imL (ps.map parD) && ((enc t).im && true)) = true
          rw [parsD_im, enc_im]; rfl
        refine ⟨him, by rw [List.length_map]; exact Nat.lt_of_le_of_lt (show ds.length ≤ 1000 by omega) (by decide), ds ++ [⟨nm, ps, t⟩], _, _, _, _, _, _, _, _, by rw [List.map_append]; rfl, by rw [List.length_append, hl]; rfl, pg.snoc (ht.wf.wide (fun x hx => selS_mem.mp hx) fun x hx => selS_mem.mp hx) ⟨?_, ?_, ht.ar⟩ hps ?_⟩
        · have h1 : t.dp ≤ 4 + 2 := ht.dp
          show t.dp ≤ 12; omega
        · have h1 : t.sz + 2 ≤ 4 * 3 ^ 4 := ht.sz
          show t.sz ≤ 3000; omega
        · rw [hl, ← hnm2]
          congr 1
  · rintro Γ' g' ⟨ds, x7, x8, x9, x10, x11, x12, x13, x14, rfl, hl, pg⟩
    have hne : 1 ≤ xs.length + fx.length := by
      by_cases c : fx.length = 0
      · have := hin4 c; omega
      · omega
    walk_at "ev"
    refine wc_tupL ?_
    walk_at "ev"
    refine we_callF ?_
    walk_at "ev"
    refine ⟨(⟨fx, acts, xs, [], ds⟩, room, 6), ⟨rfl, ⟨hne, by show xs.length + 6 ≤ 500; omega, by show 0 + 6 ≤ 500; decide, hfx', hac', hac2, by show ds.length ≤ 4; omega, pg.nd hnd, pg.psl⟩, by show 6 < 7; decide⟩, ?_⟩
    rintro _ g6 ⟨t, rfl, ht⟩ _
    walk_at "ev"
    have him : (D.tup [.tup (xs.map D.str), .tup (ds.map defD), enc t]).im = true := by
      show (imL (xs.map D.str) && (imL (ds.map defD) && ((enc t).im && true))) = true
      rw [strs_im, defsD_im, enc_im]; rfl
    have h1 : t.dp ≤ 6 + 2 := ht.dp
    have h2 : t.sz + 2 ≤ 4 * 3 ^ 6 := ht.sz
    exact ⟨him, him, xs, ds, t, rfl, ⟨⟨pg.rk⟩, by omega, pg.bd⟩, ht.wf.wide (fun _ h => h) (fun _ h => nomatch h), ht.ar, by omega, by omega, hl, by omega⟩
end
end Sf
end
section
set_option Elab.async false
set_option linter.all false
set_option maxRecDepth 100000
set_option maxHeartbeats 1000000
namespace Sf
open PySem L2
open PyProof.Rows (envOfC)
/-! The plain law: what the steps lead to is the program's plain form. -/
mutual
theorem kD_tx : ∀ k : NestedKey, (kD k).tx = true
  | .none => rfl
  | .num _ => rfl
  | .text _ => rfl
  | .tup ks => kDL_tx ks
theorem kDL_tx : ∀ ks : List NestedKey, txL (kDL ks) = true
  | [] => rfl
  | k :: ks => by show ((kD k).tx && txL (kDL ks)) = true; rw [kD_tx k, kDL_tx ks]; rfl
end
mutual
theorem kD_depth : ∀ k : NestedKey, (pyD (kD k)).depth = k.depth
  | .none => rfl
  | .num _ => rfl
  | .text _ => rfl
  | .tup ks => by show PyData.depthAll (pyL (kDL ks)) + 1 = NestedKey.depthAll ks + 1; rw [kDL_depth ks]
theorem kDL_depth : ∀ ks : List NestedKey, PyData.depthAll (pyL (kDL ks)) = NestedKey.depthAll ks
  | [] => rfl
  | k :: ks => by show max (pyD (kD k)).depth (PyData.depthAll (pyL (kDL ks))) = max k.depth (NestedKey.depthAll ks); rw [kD_depth k, kDL_depth ks]
end
theorem depthAll_le {m : Nat} : ∀ {ks : List NestedKey}, (∀ k ∈ ks, k.depth ≤ m) → NestedKey.depthAll ks ≤ m
  | [], _ => Nat.zero_le _
  | k :: ks, h => Nat.max_le.mpr ⟨h k List.mem_cons_self, depthAll_le fun j hj => h j (List.mem_cons_of_mem _ hj)⟩
theorem tr_depth {us : List NestedKey} : ∀ {u : Sf.T} {n : Nat} {k : NestedKey}, Tr us u n → us[n]? = some k → k.depth ≤ 8
  | .mk h ts, n, k, q, e => by
    cases h with
    | input j => rw [q.2] at e; obtain rfl := Option.some.inj e; show max 0 (max 0 0) + 1 ≤ 8; decide
    | fixed c => rw [q.2] at e; obtain rfl := Option.some.inj e; show max 0 (max 0 0) + 1 ≤ 8; decide
    | dov d => obtain ⟨is, h1, _⟩ := q; rw [h1] at e; obtain rfl := Option.some.inj e; exact dp_do d is
    | _ => exact False.elim q
theorem form_depth {v : Sf.T} (hp : plainB v = true) : ∀ k ∈ (form v).1, k.depth ≤ 8 := fun k hk => by
  obtain ⟨n, hn⟩ := List.mem_iff_getElem?.mp hk
  obtain ⟨u, hu⟩ := (lay_cl v [] hp .nil Cl.nil).1 n k hn
  exact tr_depth hu hn
theorem formD_tx (v : Sf.T) : (formD v).tx = true := by
  show (txL ((form v).1.map kD) && (true && true)) = true
  rw [← kDL_map, kDL_tx]; rfl
theorem formD_im (v : Sf.T) : (formD v).im = true := by
  show (imL ((form v).1.map kD) && (true && true)) = true
  rw [← kDL_map, kDL_im]; rfl
theorem formD_depth {v : Sf.T} (hp : plainB v = true) : (pyD (formD v)).depth ≤ 64 := by
  have h1 : PyData.depthAll (pyL ((form v).1.map kD)) ≤ 8 := by rw [← kDL_map, kDL_depth]; exact depthAll_le (form_depth hp)
  show max (PyData.depthAll (pyL ((form v).1.map kD)) + 1) (max 0 0) + 1 ≤ 64
  omega
mutual
theorem put_small : ∀ (t : Sf.T) (a b : Sub), (∀ x u, a x = some u → u.dp = 0 ∧ u.sz = 1) → (∀ x u, b x = some u → u.dp = 0 ∧ u.sz = 1) → (t.put a b).dp ≤ t.dp ∧ (t.put a b).sz ≤ t.sz
  | .mk h ks, a, b, ha, hb => by
    have gen : (Sf.T.mk h (putL h 0 a b ks)).dp ≤ (Sf.T.mk h ks).dp ∧ (Sf.T.mk h (putL h 0 a b ks)).sz ≤ (Sf.T.mk h ks).sz := by
      obtain ⟨h1, h2⟩ := put_smallL h ks 0 a b ha hb
      exact ⟨h1, Nat.add_le_add_left h2 1⟩
    cases h with
    | name x =>
      show ((a x).getD (.mk (.name x) ks)).dp ≤ _ ∧ ((a x).getD (.mk (.name x) ks)).sz ≤ _
      cases e : a x with
      | none => exact ⟨Nat.le_refl _, Nat.le_refl _⟩
      | some u =>
        obtain ⟨h1, h2⟩ := ha x u e
        have h3 := sz_pos (.mk (.name x) ks)
        exact ⟨by show u.dp ≤ _; omega, by show u.sz ≤ _; omega⟩
    | count x =>
      show ((b x).getD (.mk (.count x) ks)).dp ≤ _ ∧ ((b x).getD (.mk (.count x) ks)).sz ≤ _
      cases e : b x with
      | none => exact ⟨Nat.le_refl _, Nat.le_refl _⟩
      | some u =>
        obtain ⟨h1, h2⟩ := hb x u e
        have h3 := sz_pos (.mk (.count x) ks)
        exact ⟨by show u.dp ≤ _; omega, by show u.sz ≤ _; omega⟩
    | _ => exact gen
theorem put_smallL (h : Hd) : ∀ (ks : List Sf.T) (j : Nat) (a b : Sub), (∀ x u, a x = some u → u.dp = 0 ∧ u.sz = 1) → (∀ x u, b x = some u → u.dp = 0 ∧ u.sz = 1) → dpL (putL h j a b ks) ≤ dpL ks ∧ szL (putL h j a b ks) ≤ szL ks
  | [], _, _, _, _, _ => ⟨Nat.le_refl _, Nat.le_refl _⟩
  | t :: r, j, a, b, ha, hb => by
    have mn : ∀ {f : Sub} (o : Option Str), (∀ x u, f x = some u → u.dp = 0 ∧ u.sz = 1) → ∀ x u, minus f o x = some u → u.dp = 0 ∧ u.sz = 1 := fun {f} o hf x u e => by
      cases o with
      | none => exact hf x u e
      | some y =>
        have e' : (if x = y then none else f x) = some u := e
        by_cases c : x = y
        · rw [if_pos c] at e'; cases e'
        · rw [if_neg c] at e'; exact hf x u e'
    obtain ⟨h1, h2⟩ := put_small t (minus a (bT h j)) (minus b (bC h j)) (mn _ ha) (mn _ hb)
    obtain ⟨h3, h4⟩ := put_smallL h r (j + 1) a b ha hb
    refine ⟨?_, Nat.add_le_add h2 h4⟩
    show Nat.max ((t.put _ _).dp + 1) (dpL (putL h (j + 1) a b r)) ≤ Nat.max (t.dp + 1) (dpL r)
    exact Nat.max_le.mpr ⟨Nat.le_trans (Nat.add_le_add_right h1 1) (Nat.le_max_left _ _), Nat.le_trans h3 (Nat.le_max_right _ _)⟩
end
theorem in_some : ∀ (l : List Str) (k : Nat) (a : Sub), (∀ y u, a y = some u → ∃ i : Int, u = .mk (.input i) []) → ∀ y, (∀ u, inSub l k a y = some u → ∃ i : Int, u = .mk (.input i) []) ∧ (y ∈ l ∨ (∃ u, a y = some u) → ∃ u, inSub l k a y = some u)
  | [], k, a, h, y => ⟨h y, fun q => q.elim (fun q => nomatch q) id⟩
  | x :: l, k, a, h, y => by
    have h' : ∀ y u, plus a x (.mk (.input (k : Int)) []) y = some u → ∃ i : Int, u = .mk (.input i) [] := fun y u e => by
      rcases plus_some e with ⟨_, rfl⟩ | ⟨_, e⟩
      · exact ⟨_, rfl⟩
      · exact h y u e
    obtain ⟨q1, q2⟩ := in_some l (k + 1) (plus a x (.mk (.input (k : Int)) [])) h' y
    refine ⟨q1, fun q => q2 ?_⟩
    by_cases c : y = x
    · exact .inr ⟨_, if_pos c⟩
    · rcases q with q | ⟨u, e⟩
      · exact .inl ((List.mem_cons.mp q).resolve_left c)
      · exact .inr ⟨u, (if_neg c).trans e⟩
theorem run_start {xs : List Str} {ds : List Df} {t v : Sf.T} {c : Nat} (pg : PgR xs ds t) (ev : Ev ds c (inSub xs 0 none') (fun _ => none) (.e t v)) : Run 101 ds (t.put (inSub xs 0 none') none') v := by
  obtain ⟨dso, wf, har, hsz, hdp, hdl, hxl⟩ := pg
  have hin := in_some xs 0 none' (fun y u e => nomatch e)
  have hs := put_small t (inSub xs 0 none') none' (fun x u e => by
    obtain ⟨i, rfl⟩ := (hin x).1 u e
    exact ⟨rfl, rfl⟩) (fun x u e => nomatch e)
  refine ⟨⟨_, dso.rk.prg, wf.put ⟨fun x hx => ?_, fun i hi => False.elim hi⟩⟩, ⟨c, Ev.put ev ⟨fun x u e => ?_, fun i u e => nomatch e⟩⟩, by decide, by omega, by show _ ≤ 1000000; omega, by show _ ≤ 1000000; omega, fun d hd => ?_⟩
  · obtain ⟨u, e⟩ := (hin x).2 (.inl hx)
    obtain ⟨i, rfl⟩ := (hin x).1 u e
    exact .inl ⟨_, e, rfl⟩
  · obtain ⟨i, rfl⟩ := (hin x).1 u e
    exact .inl ⟨e, rfl⟩
  · obtain ⟨h1, h2, _⟩ := dso.bd d hd
    have h1' : d.b.dp ≤ 12 := h1
    have h2' : d.b.sz ≤ 3000 := h2
    exact ⟨by omega, by show _ ≤ 1000000; omega⟩
theorem stepPl_len (t : Sf.T) : (stepPl t).length ≤ t.sz := by
  unfold stepPl
  rw [List.length_map, ← pp_len t]
  exact List.length_filter_le _ _
end Sf
end
section
set_option Elab.async false
set_option linter.all false
set_option maxRecDepth 100000
set_option maxHeartbeats 1000000
namespace Sf
open PySem L2
open PyProof.Rows (envOfC)
local macro_rules | `(tactic| walk_at "evS") => `(tactic| first
  | ((with_reducible refine ws_seqA ?_); try dsimp only [List.set_cons_zero, List.set_cons_succ])
  | with_reducible refine ws_if ?_
  | with_reducible refine ws_ret ?_
  | ((with_reducible refine' ws_newL ?hi ?_); (case hi => exact rfl))
  | ((with_reducible refine' ws_newD ?hi ?_); (case hi => exact rfl))
  | ((with_reducible refine' ws_listT ?hi ?_); (case hi => exact rfl))
  | ((with_reducible refine' ws_set ?hi ?_); (case hi => exact rfl))
  | with_reducible refine ws_next ?_)
local macro_rules | `(tactic| walk_at "evE2") => `(tactic| first
  | with_reducible refine we_tup ?_
  | ((with_reducible refine' we_lenO ?hv ?_); (case hv => exact rfl))
  | ((with_reducible refine' we_tupO ?hv ?_); (case hv => exact rfl))
  | with_reducible refine we_cb ?_
  | with_reducible refine we_callI ?_
  | with_reducible refine we_callL ?_
  | with_reducible refine we_lst ?_
  | with_reducible refine we_neg ?_
  | with_reducible refine we_sl ?_
  | with_reducible refine we_dget ?_
  | with_reducible refine we_get2 ?_
  | with_reducible refine we_ifE ?_
  | with_reducible refine we_andV ?_
  | with_reducible refine we_chain ?_
  | with_reducible refine we_dnewK ?_
  | with_reducible refine we_bl ?_
  | with_reducible refine we_non ?_)
local macro_rules | `(tactic| walk_at "evE") => `(tactic| first
  | ((with_reducible refine' we_var ?hv ?_); (case hv => exact rfl))
  | with_reducible refine we_int ?_
  | with_reducible refine we_str ?_
  | ((with_reducible refine' we_takeK ?hv ?hk ?_); (case hv => exact rfl); (case hk => exact rfl))
  | ((with_reducible refine' we_ixO ?hv ?_); (case hv => exact rfl))
  | with_reducible refine we_op ?_
  | walk_at "evE2")
local macro_rules | `(tactic| walk_at "evW") => `(tactic| first
  | ((with_reducible refine' wr_ixT ?hx ?he ?_); (case hx => exact rfl); (case he => first | exact rfl | exact at0 | exact at1 | exact at2 | exact at3))
  | with_reducible refine wr_eqS ?_
  | with_reducible refine wr_f0 ?_
  | with_reducible refine wr_f1 ?_
  | ((with_reducible refine' wr_iC ?hc ?_); (case hc => first | (exact (by decide)) | exact Or.inr (And.intro (by decide) (by decide)) | exact Or.inl (And.intro (by decide) (by decide)) | exact And.intro (by decide) (by decide) | exact And.intro (by decide) (And.intro (by decide) (by decide))))
  | with_reducible refine wr_i0 ?_
  | with_reducible refine wr_b0 ?_
  | with_reducible refine wr_eqI ?_
  | with_reducible refine wr_neS ?_
  | ((with_reducible refine' wr_ixL ?he ?_); (case he => first | exact rfl | exact at0 | exact at1 | exact at2 | exact at3)))
local macro_rules | `(tactic| walk_at "evT") => `(tactic| first
  | with_reducible refine wt_test ?_
  | with_reducible refine wt_and ?_
  | with_reducible refine wt_or ?_
  | with_reducible refine wt_not ?_
  | with_reducible refine wt_b ?_)
local macro_rules | `(tactic| walk_at "evM") => `(tactic| first
  | ((with_reducible refine' sl_and ?hs ?_); (case hs => exact rfl))
  | ((with_reducible refine if_t ?hc ?_); (case hc => decide +kernel))
  | ((with_reducible refine if_f ?hc ?_); (case hc => decide +kernel))
  | with_reducible refine wo_none ?_
  | with_reducible refine wo_some ?_
  | ((with_reducible refine' wsl_S ?hc ?_); (case hc => first | exact szL_of (by omega) | decide +kernel))
  | ((with_reducible refine' wsl_T ?hx ?_); (case hx => exact rfl))
  | with_reducible refine wsl_L ?_
  | ((with_reducible refine' Exists.intro _ (And.intro ?hx ?_)); (case hx => exact rfl))
  | dsimp only)
local macro_rules | `(tactic| walk_at "ev1") => `(tactic| first
  | with_reducible refine wa_cons ?_
  | with_reducible refine wa_nil ?_
  | ((with_reducible show WE _ _ _ _ _); walk_at "evE")
  | ((with_reducible show WR _ _ _ _ _ _); walk_at "evW")
  | ((with_reducible show WS _ _ _ _ _); walk_at "evS")
  | ((with_reducible show WT _ _ _ _ _); walk_at "evT")
  | walk_at "evM")
local macro_rules | `(tactic| walk_at "ev") => `(tactic| repeat walk_at "ev1")

theorem sc_law_right : FnScope ["_law_draws", "_law_program_here", "_law_due", "_law_many", "_law_term_here", "_law_turn", "_law_some", "_law_found"] ["_law_draws", "_law_program_here", "_law_due", "_law_many"] (defScope (topS 60)) := ⟨rfl, rfl, rfl, by decide +kernel, rfl, by decide +kernel, by decide +kernel⟩
section
variable {M : Frm} {Γ : Ga} {g : M.G} {Q : QE M}
theorem wr_isB {a b : Bool} (q : Q (.bl (decide (a = b))) g) : WR M rIsB (.bl a) (.bl b) g Q := fun v u H O o j0 h1 h2 Q' p => by
  obtain rfl : v = .bl a := h1
  obtain rfl : u = .bl b := h2
  exact ⟨a, b, rfl, rfl, p _ H (.bl (decide (a = b))) g (Kp.refl H) j0 rfl q⟩
end
abbrev RtX := List Str × List Df × Sf.T × Sf.T × Int
def prD (xs : List Str) (ds : List Df) (t : Sf.T) : D := .tup [.tup (xs.map D.str), defsD ds, enc t]
theorem prD_im (xs : List Str) (ds : List Df) (t : Sf.T) : (prD xs ds t).im = true := by
  show (imL (xs.map D.str) && (imL (ds.map defD) && ((enc t).im && true))) = true
  rw [strs_im, defsD_im, enc_im]; rfl
def PreRt (pf : Addr) (x : RtX) (es : List D) : Prop := es = [.adr pf, prD x.1 x.2.1 x.2.2.1, formD x.2.2.2.1, .int x.2.2.2.2] ∧ PgR x.1 x.2.1 x.2.2.1 ∧ (∃ c, Ev x.2.1 c (inSub x.1 0 none') (fun _ => none) (.e x.2.2.1 x.2.2.2.1)) ∧ plainB x.2.2.2.1 = true ∧ 0 ≤ x.2.2.2.2 ∧ x.2.2.2.2 ≤ 30
def RRt (_ : RtX) (r : D) : Prop := r = .bl true
section
variable {P : Program} {w : World} {K : PySem.W.Frag} {mg : Str → Option Value} {base : Heap} (T : Tx K mg) {C fI : Addr} (hToo : PySem.TooX.TooTxt K mg C fI)
include hToo
theorem ok_law_right : FnOk P w K mg base CX0 209 T.law_right.a T.law_right.fd ["_law_draws", "_law_program_here", "_law_due", "_law_many"] (spF K PreRt RRt) := by
  have G_law_take := ok_law_take (P := P) (w := w) (base := base) T
  have G_opened := ok_opened (P := P) (w := w) (base := base) T 101
  have G_step_places := ok_step_places (P := P) (w := w) (base := base) T 101
  have G_law_on := ok_law_on (P := P) (w := w) (base := base) T hToo 101
  have G_law_to_end := ok_law_to_end (P := P) (w := w) (base := base) T hToo 101
  have G_is_plain := ok_is_plain (P := P) (w := w) (base := base) T 101
  have G_form_of := ok_form_of (P := P) (w := w) (base := base) T 101
  refine def_F T.law_right.F sc_law_right (fun pf x es ⟨e, _⟩ => by subst e; rfl) (by decide) (fun cdv A outer s H E hr => ?_)
  have hr_law_take := hr.mono (show 1 ≤ 208 by omega)
  have hr_opened := hr.mono (show 204 ≤ 208 by omega)
  have hr_step_places := hr.mono (show 105 ≤ 208 by omega)
  have hr_law_on := hr.mono (show 207 ≤ 208 by omega)
  have hr_law_to_end := hr
  have hr_is_plain := hr.mono (show 102 ≤ 208 by omega)
  have hr_form_of := hr.mono (show 103 ≤ 208 by omega)
  refine ⟨_, (pss_cons (ps_set (i := 4) sc_law_right.nd rfl (by first | exact Or.inl rfl | exact Or.inr rfl) (pe_call G_opened hr_opened (by rfl) T.opened.g T.opened.F.kp T.opened.b .nil pass0 (pa_cons (pv 1) pa_nil)))
  (pss_cons (ps_for PassesOwn.never rfl (pi_range1 (by rfl) T.nrange (pa_cons (pv 3) pa_nil)) (pg_name (i := 5) sc_law_right.nd rfl (by first | exact Or.inl rfl | exact Or.inr rfl)) (pss_cons (ps_set (i := 6) sc_law_right.nd rfl (by first | exact Or.inl rfl | exact Or.inr rfl) (pe_call G_step_places hr_step_places (by rfl) T.step_places.g T.step_places.F.kp T.step_places.b .nil pass0 (pa_cons (pe_ix ix_tup (pv 1) pe_int (fun _ _ => rfl)) (pa_cons (pv 4) pa_nil))))
  (pss_cons (ps_if (pt_cmpR op_gt (pe_callB call_len (by rfl) T.nlen PySem.boot_len (pa_cons (pv 6) pa_nil)) pe_int (nomark _)) (pss_one (ps_set (i := 4) sc_law_right.nd rfl (by first | exact Or.inl rfl | exact Or.inr rfl) (pe_call G_law_on hr_law_on (by rfl) T.law_on.g T.law_on.F.kp T.law_on.b .nil pass0 (pa_cons (pe_ix ix_tup (pv 1) pe_int (fun _ _ => rfl)) (pa_cons (pv 4) (pa_cons (pe_ix ix_list (pv 6) (pe_call G_law_take hr_law_take (by rfl) T.law_take.g T.law_take.F.kp T.law_take.b .nil pass0 (pa_cons (pv 0) (pa_cons (pe_callB call_len (by rfl) T.nlen PySem.boot_len (pa_cons (pv 6) pa_nil)) pa_nil))) (fun _ _ => rfl)) pa_nil)))))) pss_nil)
  (pss_one (ps_if (pt_cmpR op_isN (pv 4) pe_non (nomark _)) (pss_one (ps_ret pe_bl)) pss_nil)))))
  (pss_cons (ps_set (i := 7) sc_law_right.nd rfl (by first | exact Or.inl rfl | exact Or.inr rfl) (pe_call G_law_to_end hr_law_to_end (by rfl) T.law_to_end.g T.law_to_end.F.kp T.law_to_end.b .nil pass0 (pa_cons (pe_ix ix_tup (pv 1) pe_int (fun _ _ => rfl)) (pa_cons (pv 4) pa_nil))))
  (pss_cons (ps_if (pt_cmpR op_isN (pv 7) pe_non (nomark _)) (pss_one (ps_ret pe_bl)) pss_nil)
  (pss_one (ps_ret (pe_and (pe_cmpR op_isBl (pe_call G_is_plain hr_is_plain (by rfl) T.is_plain.g T.is_plain.F.kp T.is_plain.b .nil pass0 (pa_cons (pe_ix ix_tup (pv 7) pe_int (fun _ _ => rfl)) pa_nil)) pe_bl (nomark _)) (pe_one (pe_cmpR (op_eqP hr.units) (pe_call G_form_of hr_form_of (by rfl) T.form_of.g T.form_of.F.kp T.form_of.b .nil pass0 (pa_cons (pe_ix ix_tup (pv 7) pe_int (fun _ _ => rfl)) pa_nil)) (pv 2) (nomark _)))))))))), ?_⟩
  dsimp only [cxOf]
  rintro pf ⟨xs, ds, t, v, many⟩ g es ⟨rfl, pg, ⟨c, ev⟩, hv, hm0, hm1⟩ ha hb
  have hm0' : 0 ≤ many := hm0
  have hm1' : many ≤ 30 := hm1
  have R0 := run_start pg ev
  obtain ⟨dso, wf, har, hsz, hdp, hdl, hxl⟩ := pg
  have hsz' : t.sz ≤ 3000 := hsz
  have hdp' : t.dp ≤ 12 := hdp
  have hxl' : xs.length ≤ 4 := hxl
  dsimp only [ga0, List.map, List.length_cons, List.length_nil, List.cons_append, List.nil_append, Nat.reduceAdd, Nat.reduceSub, List.replicate_succ, List.replicate_zero]
  walk_at "ev"
  refine ⟨_, ⟨xs, defsD ds, t, ⟨_, _, _, wf⟩, by omega, by show _ ≤ 1000000; omega, by omega, defsD_im ds, rfl, rfl⟩, enc_im _, ?_⟩
  walk_at "ev"
  refine ws_cut (fun Γ' _ => ∃ (t' : Sf.T) (x5 x6 : Option SD), Γ' = [some (.d (.adr pf)), some (.d (prD xs ds t)), some (.d (formD v)), some (.d (.int many)), some (.d (enc t')), x5, x6, none] ∧ Run 101 ds t' v) ?_ ?_
  · refine ws_for (wi_range ?_)
    walk_at "ev"
    refine ⟨hm0, by omega, fun i Γ' _ => ∃ (t' : Sf.T) (x5 x6 : Option SD), Γ' = [some (.d (.adr pf)), some (.d (prD xs ds t)), some (.d (formD v)), some (.d (.int many)), some (.d (enc t')), x5, x6, none] ∧ Run 101 ds t' v, ⟨_, none, none, rfl, R0⟩, ?_, fun Γ' g' h => h⟩
    rintro i Γ' g' hlt ⟨t', x5, x6, rfl, R⟩
    obtain ⟨sg, PO, wf'⟩ := R.ex
    refine wg_name rfl rfl ?_
    dsimp only [List.set_cons_zero, List.set_cons_succ]
    walk_at "ev"
    have hpl : (stepPl t').length ≤ 1000000 := Nat.le_trans (stepPl_len t') R.sz
    refine ⟨_, ⟨_, t', true, ⟨_, _, _, wf'⟩, R.dp, R.sz, rfl, rfl⟩, ?_⟩
    walk_at "ev"
    dsimp only [List.set_cons_zero, List.set_cons_succ]
    refine ws_cut (fun Γ' _ => ∃ (r : D) (x5 x6 : Option SD), Γ' = [some (.d (.adr pf)), some (.d (prD xs ds t)), some (.d (formD v)), some (.d (.int many)), some (.d r), x5, x6, none] ∧ (r = .non ∨ ∃ t'', r = enc t'' ∧ Run 101 ds t'' v)) ?_ ?_
    · walk_at "ev"
      refine wc_len (n := (stepPl t').length) (List.length_map _).symm ?_
      walk_at "ev"
      refine if_both (fun c => ?_) (fun c => ?_)
      · have c' : 0 < ((stepPl t').length : Int) := of_decide_eq_true c
        walk_at "ev"
        refine we_callN ?_
        walk_at "ev"
        refine we_take rfl ?_
        walk_at "ev"
        refine wc_len (n := (stepPl t').length) (List.length_map _).symm ?_
        refine ⟨_, rfl, by omega, by omega, fun k g2 hk0 hk1 => ?_⟩
        obtain ⟨p, hp, hpm, _⟩ := atI_map (f := plD) (xs := stepPl t') hk0 hk1
        refine wr_ixL hp ?_
        walk_at "ev"
        refine ⟨(ds, t', v, p), ⟨R, stepPl_mem hpm, rfl⟩, ?_⟩
        intro r hr him
        exact ⟨r, _, _, rfl, hr⟩
      · exact ws_next ⟨_, _, _, rfl, .inr ⟨t', rfl, R⟩⟩
    · rintro Γ' g' ⟨r, x5, x6, rfl, hr⟩
      walk_at "ev"
      refine wr_isN ?_
      refine ⟨_, rfl, ?_⟩
      rcases hr with rfl | ⟨t'', rfl, R2⟩
      · refine if_t rfl ?_
        walk_at "ev"
        exact ⟨rfl, rfl, rfl⟩
      · obtain ⟨sg2, PO2, wf2⟩ := R2.ex
        rw [isNon_enc ⟨_, _, _, wf2⟩]
        exact if_f (fun z => nomatch z) (ws_next ⟨t'', _, _, rfl, R2⟩)
  · rintro Γ' g' ⟨t', x5, x6, rfl, R⟩
    walk_at "ev"
    refine we_callN ?_
    walk_at "ev"
    refine ⟨(ds, t', v), ⟨R, rfl⟩, ?_⟩
    intro r hr him
    walk_at "ev"
    dsimp only [List.set_cons_zero, List.set_cons_succ]
    refine ws_seq ?_
    walk_at "ev"
    refine wr_isN ?_
    refine ⟨_, rfl, ?_⟩
    rcases hr with rfl | ⟨k, hpv, hvd, hvz, rfl⟩
    · refine if_t rfl ?_
      walk_at "ev"
      exact ⟨rfl, rfl, rfl⟩
    · refine if_f (fun z => nomatch z) (ws_next ?_)
      walk_at "ev"
      refine ⟨.bl (plainB v), ⟨v, ⟨_, _, _, plain_wf (sg := fun _ => none) (X := Fa) (C := Fa) v hpv⟩, hvd, hvz, rfl, rfl⟩, rfl, ?_⟩
      walk_at "ev"
      refine wr_isB ?_
      rw [hpv]
      refine ⟨_, rfl, if_t rfl ?_⟩
      walk_at "ev"
      refine ⟨formD v, ⟨v, hpv, hvd, hvz, rfl, rfl⟩, formD_im v, ?_⟩
      walk_at "ev"
      refine wr_eqP (formD_tx v) (formD_tx v) (Nat.le_trans (Nat.min_le_left _ _) (formD_depth hpv)) ?_
      exact ⟨rfl, rfl, congrArg D.bl (py_eqv (formD v))⟩
end
end Sf
end
section
set_option Elab.async false
set_option linter.all false
set_option maxRecDepth 100000
set_option maxHeartbeats 1000000
namespace Sf
open PySem L2
open PyProof.Rows (envOfC)
local macro_rules | `(tactic| walk_at "evS") => `(tactic| first
  | ((with_reducible refine ws_seqA ?_); try dsimp only [List.set_cons_zero, List.set_cons_succ])
  | with_reducible refine ws_if ?_
  | with_reducible refine ws_ret ?_
  | ((with_reducible refine' ws_newL ?hi ?_); (case hi => exact rfl))
  | ((with_reducible refine' ws_newD ?hi ?_); (case hi => exact rfl))
  | ((with_reducible refine' ws_listT ?hi ?_); (case hi => exact rfl))
  | ((with_reducible refine' ws_set ?hi ?_); (case hi => exact rfl))
  | with_reducible refine ws_next ?_)
local macro_rules | `(tactic| walk_at "evE2") => `(tactic| first
  | with_reducible refine we_tup ?_
  | ((with_reducible refine' we_lenO ?hv ?_); (case hv => exact rfl))
  | ((with_reducible refine' we_tupO ?hv ?_); (case hv => exact rfl))
  | with_reducible refine we_cb ?_
  | with_reducible refine we_callI ?_
  | with_reducible refine we_callL ?_
  | with_reducible refine we_lst ?_
  | with_reducible refine we_neg ?_
  | with_reducible refine we_sl ?_
  | with_reducible refine we_dget ?_
  | with_reducible refine we_get2 ?_
  | with_reducible refine we_ifE ?_
  | with_reducible refine we_andV ?_
  | with_reducible refine we_chain ?_
  | with_reducible refine we_dnewK ?_
  | with_reducible refine we_bl ?_
  | with_reducible refine we_non ?_)
local macro_rules | `(tactic| walk_at "evE") => `(tactic| first
  | ((with_reducible refine' we_var ?hv ?_); (case hv => exact rfl))
  | with_reducible refine we_int ?_
  | with_reducible refine we_str ?_
  | ((with_reducible refine' we_takeK ?hv ?hk ?_); (case hv => exact rfl); (case hk => exact rfl))
  | ((with_reducible refine' we_ixO ?hv ?_); (case hv => exact rfl))
  | with_reducible refine we_op ?_
  | walk_at "evE2")
local macro_rules | `(tactic| walk_at "evW") => `(tactic| first
  | ((with_reducible refine' wr_ixT ?hx ?he ?_); (case hx => exact rfl); (case he => first | exact rfl | exact at0 | exact at1 | exact at2 | exact at3))
  | with_reducible refine wr_eqS ?_
  | with_reducible refine wr_f0 ?_
  | with_reducible refine wr_f1 ?_
  | ((with_reducible refine' wr_iC ?hc ?_); (case hc => first | (exact (by decide)) | exact Or.inr (And.intro (by decide) (by decide)) | exact Or.inl (And.intro (by decide) (by decide)) | exact And.intro (by decide) (by decide) | exact And.intro (by decide) (And.intro (by decide) (by decide))))
  | with_reducible refine wr_i0 ?_
  | with_reducible refine wr_b0 ?_
  | with_reducible refine wr_eqI ?_
  | with_reducible refine wr_neS ?_
  | ((with_reducible refine' wr_ixL ?he ?_); (case he => first | exact rfl | exact at0 | exact at1 | exact at2 | exact at3)))
local macro_rules | `(tactic| walk_at "evT") => `(tactic| first
  | with_reducible refine wt_test ?_
  | with_reducible refine wt_and ?_
  | with_reducible refine wt_or ?_
  | with_reducible refine wt_not ?_
  | with_reducible refine wt_b ?_)
local macro_rules | `(tactic| walk_at "evM") => `(tactic| first
  | ((with_reducible refine' sl_and ?hs ?_); (case hs => exact rfl))
  | ((with_reducible refine if_t ?hc ?_); (case hc => decide +kernel))
  | ((with_reducible refine if_f ?hc ?_); (case hc => decide +kernel))
  | with_reducible refine wo_none ?_
  | with_reducible refine wo_some ?_
  | ((with_reducible refine' wsl_S ?hc ?_); (case hc => first | exact szL_of (by omega) | decide +kernel))
  | ((with_reducible refine' wsl_T ?hx ?_); (case hx => exact rfl))
  | with_reducible refine wsl_L ?_
  | ((with_reducible refine' Exists.intro _ (And.intro ?hx ?_)); (case hx => exact rfl))
  | dsimp only)
local macro_rules | `(tactic| walk_at "ev1") => `(tactic| first
  | with_reducible refine wa_cons ?_
  | with_reducible refine wa_nil ?_
  | ((with_reducible show WE _ _ _ _ _); walk_at "evE")
  | ((with_reducible show WR _ _ _ _ _ _); walk_at "evW")
  | ((with_reducible show WS _ _ _ _ _); walk_at "evS")
  | ((with_reducible show WT _ _ _ _ _); walk_at "evT")
  | walk_at "evM")
local macro_rules | `(tactic| walk_at "ev") => `(tactic| repeat walk_at "ev1")

theorem sc_law : FnScope ["_law_script", "_law_feed_here", "_law_shape_here", "_law_program_here", "_law_both", "_law_draws", "_law_many"] ["_law_script"] (defScope (topS 61)) := ⟨rfl, rfl, rfl, by decide +kernel, rfl, by decide +kernel, by decide +kernel⟩
def spLaw (K : PySem.W.Frag) : Sp := fun vs H Q _ => ∃ (a : Addr) (ns : List Int), vs = [.ref a] ∧ SqF K H a (ns.map V.int) ∧ ns.length ≤ 63 ∧ ∀ H', Q (.bl true) H'
theorem noOwn_of {Γ : Ga} (h : (Γ.all fun o => match o with | none => true | some d => !isOwn d) = true) : ∀ (j : Nat) (d : SD), Γ[j]? = some (some d) → isOwn d = false := fun j d e => by
  have := List.all_eq_true.mp h _ (List.mem_of_getElem? e)
  have h2 : (!isOwn d) = true := this
  cases q : isOwn d with
  | false => rfl
  | true => rw [q] at h2; cases h2
section
variable {P : Program} {w : World} {K : PySem.W.Frag} {mg : Str → Option Value} {base : Heap} (T : Tx K mg) {C fI : Addr} (hToo : PySem.TooX.TooTxt K mg C fI) {e : Addr} {ed : FuncData}
include T hToo
theorem ok_law (F : Fun K "law" "law" (topS 61) e ed) : FnOk P w K mg base CX0 210 e ed ["_law_script"] (spLaw K) := by
  have G_law_take := ok_law_take (P := P) (w := w) (base := base) T
  have G_law_feed := ok_law_feed (P := P) (w := w) (base := base) T
  have G_law_shape := ok_law_shape (P := P) (w := w) (base := base) T
  have G_law_program := ok_law_program (P := P) (w := w) (base := base) T
  have G_law_plain := ok_law_plain (P := P) (w := w) (base := base) T
  have G_law_right := ok_law_right (P := P) (w := w) (base := base) T hToo
  refine F.ok sc_law (fun vs H Q E ⟨_, _, e, _⟩ => by subst e; rfl) (fun cdv A outer s H vs Q E hr h => ?_)
  obtain ⟨a, ns, rfl, hS, hn, q⟩ := h
  have hr_law_take := hr.mono (show 1 ≤ 209 by omega)
  have hr_law_feed := hr.mono (show 1 ≤ 209 by omega)
  have hr_law_shape := hr.mono (show 3 ≤ 209 by omega)
  have hr_law_program := hr.mono (show 25 ≤ 209 by omega)
  have hr_law_plain := hr.mono (show 197 ≤ 209 by omega)
  have hr_law_right := hr
  refine ⟨_, (pss_cons (ps_set (i := 1) sc_law.nd rfl (by first | exact Or.inl rfl | exact Or.inr rfl) (pe_call G_law_feed hr_law_feed (by rfl) T.law_feed.g T.law_feed.F.kp T.law_feed.b .nil pass0 (pa_cons (pv 0) (pa_cons pe_int pa_nil))))
  (pss_cons (ps_set (i := 2) sc_law.nd rfl (by first | exact Or.inl rfl | exact Or.inr rfl) (pe_call G_law_shape hr_law_shape (by rfl) T.law_shape.g T.law_shape.F.kp T.law_shape.b .nil pass0 (pa_cons (pv 1) pa_nil)))
  (pss_cons (ps_set (i := 3) sc_law.nd rfl (by first | exact Or.inl rfl | exact Or.inr rfl) (pe_call G_law_program hr_law_program (by rfl) T.law_program.g T.law_program.F.kp T.law_program.b .nil pass0 (pa_cons (pv 1) (pa_cons (pv 2) (pa_cons (pe_call G_law_take hr_law_take (by rfl) T.law_take.g T.law_take.F.kp T.law_take.b .nil pass0 (pa_cons (pv 1) (pa_cons pe_int pa_nil))) (pa_cons (pe_ix ix_list (pe_lst (pa_cons pe_int (pa_cons pe_int (pa_cons pe_int (pa_cons pe_int pa_nil))))) (pe_call G_law_take hr_law_take (by rfl) T.law_take.g T.law_take.F.kp T.law_take.b .nil pass0 (pa_cons (pv 1) (pa_cons pe_int pa_nil))) (fun _ _ => rfl)) pa_nil))))))
  (pss_cons (ps_set (i := 4) sc_law.nd rfl (by first | exact Or.inl rfl | exact Or.inr rfl) (pe_call G_law_plain hr_law_plain (by rfl) T.law_plain.g T.law_plain.F.kp T.law_plain.b .nil pass0 (pa_cons (pv 3) (pa_cons pe_int pa_nil))))
  (pss_cons (ps_if (pt_cmpR op_isN (pv 4) pe_non (nomark _)) (pss_one (ps_ret pe_bl)) pss_nil)
  (pss_cons (ps_set (i := 5) sc_law.nd rfl (by first | exact Or.inl rfl | exact Or.inr rfl) (pe_call G_law_feed hr_law_feed (by rfl) T.law_feed.g T.law_feed.F.kp T.law_feed.b .nil pass0 (pa_cons (pv 0) (pa_cons pe_int pa_nil))))
  (pss_cons (ps_set (i := 6) sc_law.nd rfl (by first | exact Or.inl rfl | exact Or.inr rfl) (pe_call G_law_take hr_law_take (by rfl) T.law_take.g T.law_take.F.kp T.law_take.b .nil pass0 (pa_cons (pv 5) (pa_cons pe_int pa_nil))))
  (pss_one (ps_ret (pe_and (pe_call G_law_right hr_law_right (by rfl) T.law_right.g T.law_right.F.kp T.law_right.b .nil pass0 (pa_cons (pv 5) (pa_cons (pv 3) (pa_cons (pe_ix ix_tup (pv 4) pe_int (fun _ _ => rfl)) (pa_cons (pv 6) pa_nil))))) (pe_one (pe_call G_law_right hr_law_right (by rfl) T.law_right.g T.law_right.F.kp T.law_right.b .nil pass0 (pa_cons (pv 5) (pa_cons (pv 3) (pa_cons (pe_ix ix_tup (pv 4) pe_int (fun _ _ => rfl)) (pa_cons (pe_op op_fdiv (pv 6) pe_int) pa_nil)))))))))))))))), ?_⟩
  dsimp only [cxOf]
  refine (?_ : WS (frm0 K H) _ (ga0 ["_law_script", "_law_feed_here", "_law_shape_here", "_law_program_here", "_law_both", "_law_draws", "_law_many"] [.adr a]) () { nx := fun _ _ => False, rt := fun d _ => d = .bl true }) _ H (ok_start rfl (Nat.le_add_right 1 6) rfl (show IsL K AF AF H [V.ref a] [.adr a] from ⟨rfl, trivial⟩)) trivial _ ⟨fun _ _ _ _ _ _ _ z => False.elim z, fun _ _ _ _ _ _ _ z => False.elim z, fun _ _ _ _ _ _ _ z => False.elim z, fun v H' d g' kk j iv ee => ?_, fun _ _ _ _ _ _ _ _ _ _ _ z => False.elim z⟩
  rotate_left
  · subst ee
    obtain rfl : v = .bl true := iv
    exact q H'
  dsimp only [ga0, List.map, List.length_cons, List.length_nil, List.cons_append, List.nil_append, Nat.reduceAdd, Nat.reduceSub, List.replicate_succ, List.replicate_zero]
  refine ws_newF hS hn (by decide) (by decide) rfl rfl (noOwn_of rfl) fun H1 pf g1 hS1 => ?_
  dsimp only [List.set_cons_zero, List.set_cons_succ]
  walk_at "ev"
  refine we_callF (wa_cons (we_var rfl (wa_nil ⟨(), rfl, ?_⟩)))
  rintro _ g2 ⟨fx, acts, rfl, hfx, hac, hac2⟩ _
  walk_at "ev"
  refine we_callF ?_
  walk_at "ev"
  intro k4 g3 hk0 hk1
  walk_at "ev"
  intro k5 g4 hk50 hk51
  obtain ⟨room, hroom, _, _⟩ := atI_map (f := D.int) (xs := [8, 16, 24, 24]) hk50 (show k5 < 4 from hk51)
  refine wr_ixL hroom ?_
  walk_at "ev"
  refine ⟨(fx, acts, k4, room), ⟨rfl, hfx, hac, hac2, hk0, by show k4 ≤ 3; omega⟩, ?_⟩
  rintro _ g5 ⟨xs, ds, t, rfl, pg⟩ _
  walk_at "ev"
  refine we_callN ?_
  walk_at "ev"
  obtain ⟨p1, p2, p3, p4, p5, p6, p7⟩ := id pg
  refine ⟨(xs, ds, t), ⟨p1, p2, p3, p4, p5, p6, p7, rfl⟩, ?_⟩
  intro r hr2 him
  walk_at "ev"
  dsimp only [List.set_cons_zero, List.set_cons_succ]
  refine ws_seq ?_
  walk_at "ev"
  refine wr_isN ?_
  refine ⟨_, rfl, ?_⟩
  rcases hr2 with rfl | ⟨v, k, c, ev, hv, rfl⟩
  · refine if_t rfl ?_
    walk_at "ev"
    exact ⟨rfl, rfl, rfl⟩
  · refine if_f (fun z => nomatch z) (ws_next ?_)
    refine ws_newF hS1 hn (by decide) (by decide) rfl rfl (noOwn_of rfl) fun H2 pf2 g6 hS2 => ?_
    dsimp only [List.set_cons_zero, List.set_cons_succ]
    walk_at "ev"
    intro many g7 hm0 hm1
    walk_at "ev"
    refine we_callF ?_
    walk_at "ev"
    refine ⟨(xs, ds, t, v, many), ⟨rfl, pg, ⟨c, ev⟩, hv, hm0, by show many ≤ 30; omega⟩, ?_⟩
    rintro _ g8 rfl _
    refine ⟨_, rfl, if_t rfl ?_⟩
    refine we_callF ?_
    walk_at "ev"
    refine ⟨(xs, ds, t, v, many / 2), ⟨rfl, pg, ⟨c, ev⟩, hv, by show 0 ≤ many / 2; omega, by show many / 2 ≤ 30; omega⟩, ?_⟩
    rintro _ g9 rfl _
    exact ⟨rfl, rfl, rfl, rfl⟩
end
end Sf
end
section
set_option Elab.async false
set_option linter.all false
set_option maxRecDepth 100000
set_option maxHeartbeats 1000000
/-! The end: what the top leaves. -/
namespace Sf
open PySem L2
open PyProof.Rows (envOfC)
/-- a def stands as the text says -/
def HasDef (K : PySem.W.Frag) (nm : Str) (st : Stmt) : Prop := ∃ (f : Addr) (od an : Option Addr) (sl : Array (Option Value)) (oc kV dc pm cd ct : Value),
  PySem.W.nsIn K mainGlobals nm = some (some (.ref f)) ∧ K.lookup f = some ⟨oc, od, .func (PySem.W.fnOf nm nm (defArgs st) (defBody st) (defScope st) .none kV dc pm an cd ct), sl⟩ ∧ PySem.W.codeIn K cd nm = true ∧ PySem.W.keepIn K (.ref f) = true
theorem HasDef.mk {K : PySem.W.Frag} {nm : Str} {st : Stmt} {f : Addr} {od an : Option Addr} {sl : Array (Option Value)} {oc kV dc pm cd ct : Value}
    (a : PySem.W.nsIn K mainGlobals nm = some (some (.ref f))) (l : K.lookup f = some ⟨oc, od, .func (PySem.W.fnOf nm nm (defArgs st) (defBody st) (defScope st) .none kV dc pm an cd ct), sl⟩) (c : PySem.W.codeIn K cd nm = true) (k : PySem.W.keepIn K (.ref f) = true) : HasDef K nm st :=
  ⟨f, od, an, sl, oc, kV, dc, pm, cd, ct, a, l, c, k⟩
theorem HasDef.fa {K : PySem.W.Frag} {h : Heap} {mg : Str → Option Value} {nm : Str} {st : Stmt} {ps : List Str} (X : K.In h) (G : h.Ns mainGlobals mg) (D : HasDef K nm st)
    (hb : ∀ (kV doc pm : Value) (an : Option Addr) (cdv ct : Value) (us : List Value), us.length = ps.length → bindArgs (PySem.W.fnOf nm nm (defArgs st) (defBody st) (defScope st) .none kV doc pm an cdv ct) ⟨us, []⟩ = pure (ps.zip us)) : Nonempty (FA K mg nm st ps) := by
  obtain ⟨f, od, an, sl, oc, kV, dc, pm, cd, ct, a, l, c, k⟩ := D
  have F := fun_mk (st := st) l c k
  exact ⟨⟨f, _, F, PySem.W.mg_of X G a, F.binds hb⟩⟩
def HasInner (K : PySem.W.Frag) : Prop := ∃ (aI : Addr) (o : Obj) (its : Array Value) (n : Nat), PySem.W.nsIn K mainGlobals "INNER" = some (some (.ref aI)) ∧ K.lookup aI = some o ∧ o.cls = .type "tuple" ∧ o.data = .seq its n ∧ its.size ≤ sizeLine ∧ Vals [.str "num", .str "count", .str "op"] its.toList
def HasToo (K : PySem.W.Frag) : Prop := ∃ (C f1 : Addr) (nm q : Str) (N : Addr) (bs bm : List Value) (sn : List Str) (sub : List Value) (ab : Bool) (col : Option Bool) (dd : Option Addr) (m0 m1 m2 m3 m5 : Option Value)
    (oc dc pm cd ct : Value) (od an : Option Addr) (sl : Array (Option Value)),
  PySem.W.nsIn K mainGlobals "TooMany" = some (some (.ref C)) ∧ K.lookup C = some (PySem.excClassObj nm q C N bs bm true sn sub ab col dd m0 m1 m2 m3 m5 "ValueError.__new__") ∧ PySem.HandSPX.refsVE bm = true ∧
  PySem.W.findIn K (.ref C) "__setattr__" = some (some (.builtin "object.__setattr__")) ∧ PySem.W.findIn K (.ref C) "__getattribute__" = some (some (.builtin "BaseException.__getattribute__")) ∧ PySem.W.findIn K (.ref C) "__getattr__" = some none ∧ PySem.W.findIn K (.ref C) "most" = some none ∧
  PySem.W.findIn K (.ref C) "__init__" = some (some (.ref f1)) ∧ PySem.W.typeIn K (.ref f1) = some (.type "function") ∧
  K.lookup f1 = some ⟨oc, od, .func (PySem.W.fnOf "__init__" "TooMany.__init__" (PySem.TooX.iA ⟨6, 17, 6, 21⟩ ⟨6, 23, 6, 27⟩) (PySem.TooX.iB ⟨7, 8, 7, 12⟩ ⟨7, 8, 7, 17⟩ ⟨7, 20, 7, 24⟩ ⟨7, 8, 7, 24⟩) PySem.TooX.iS .none .none dc pm an cd ct), sl⟩ ∧ PySem.W.codeIn K cd "TooMany.__init__" = true ∧
  PySem.W.keepIn K (.ref C) = true ∧ PySem.W.subIn K (.ref C) (.type "BaseException") = some true ∧ PySem.W.typeIn K (.ref C) = some (.type "type") ∧ PySem.W.hasDictIn K C = true ∧ PySem.W.isClsIn K C = true ∧ PySem.W.subIn K (.ref C) (.ref C) = some true
theorem HasInner.mk {K : PySem.W.Frag} {aI : Addr} {o : Obj} {its : Array Value} {n : Nat} (a : PySem.W.nsIn K mainGlobals "INNER" = some (some (.ref aI))) (l : K.lookup aI = some o) (c : o.cls = .type "tuple") (e : o.data = .seq its n) (s : its.size ≤ sizeLine) (v : Vals [.str "num", .str "count", .str "op"] its.toList) : HasInner K := ⟨aI, o, its, n, a, l, c, e, s, v⟩
theorem HasToo.mk {K : PySem.W.Frag} {C f1 : Addr} {nm q : Str} {N : Addr} {bs bm : List Value} {sn : List Str} {sub : List Value} {ab : Bool} {col : Option Bool} {dd : Option Addr} {m0 m1 m2 m3 m5 : Option Value}
    {oc dc pm cd ct : Value} {od an : Option Addr} {sl : Array (Option Value)}
    (aC : PySem.W.nsIn K mainGlobals "TooMany" = some (some (.ref C))) (xL : K.lookup C = some (PySem.excClassObj nm q C N bs bm true sn sub ab col dd m0 m1 m2 m3 m5 "ValueError.__new__")) (rv : PySem.HandSPX.refsVE bm = true)
    (sa : PySem.W.findIn K (.ref C) "__setattr__" = some (some (.builtin "object.__setattr__"))) (ga : PySem.W.findIn K (.ref C) "__getattribute__" = some (some (.builtin "BaseException.__getattribute__"))) (gg : PySem.W.findIn K (.ref C) "__getattr__" = some none) (nb : PySem.W.findIn K (.ref C) "most" = some none)
    (a1 : PySem.W.findIn K (.ref C) "__init__" = some (some (.ref f1))) (t1 : PySem.W.typeIn K (.ref f1) = some (.type "function"))
    (l1 : K.lookup f1 = some ⟨oc, od, .func (PySem.W.fnOf "__init__" "TooMany.__init__" (PySem.TooX.iA ⟨6, 17, 6, 21⟩ ⟨6, 23, 6, 27⟩) (PySem.TooX.iB ⟨7, 8, 7, 12⟩ ⟨7, 8, 7, 17⟩ ⟨7, 20, 7, 24⟩ ⟨7, 8, 7, 24⟩) PySem.TooX.iS .none .none dc pm an cd ct), sl⟩) (c1 : PySem.W.codeIn K cd "TooMany.__init__" = true)
    (kC : PySem.W.keepIn K (.ref C) = true) (eC : PySem.W.subIn K (.ref C) (.type "BaseException") = some true) (tC : PySem.W.typeIn K (.ref C) = some (.type "type")) (hC : PySem.W.hasDictIn K C = true) (iC : PySem.W.isClsIn K C = true) (sC : PySem.W.subIn K (.ref C) (.ref C) = some true) : HasToo K :=
  ⟨C, f1, nm, q, N, bs, bm, sn, sub, ab, col, dd, m0, m1, m2, m3, m5, oc, dc, pm, cd, ct, od, an, sl, aC, xL, rv, sa, ga, gg, nb, a1, t1, l1, c1, kC, eC, tC, hC, iC, sC⟩
theorem exm_selfT {K : PySem.W.Frag} {S : Addr} (h1 : PySem.W.subIn K (.ref S) (.type "BaseException") = some true) (h2 : PySem.W.isClsIn K S = true) (h3 : PySem.W.typeIn K (.ref S) = some (.type "type")) (h4 : PySem.W.subIn K (.ref S) (.ref S) = some true) :
    PySem.W.exmOne K (.ref S) (.ref S) = some true := by
  have e2 : ((PySem.W.clsIn K S).isSome && PySem.W.typeIn K (.ref S) == some (.type "type")) = true := by
    have h2' : (PySem.W.clsIn K S).isSome = true := h2
    rw [h2', h3]; rfl
  unfold PySem.W.exmOne
  rw [h1]
  show (if ((PySem.W.clsIn K S).isSome && PySem.W.typeIn K (.ref S) == some (.type "type")) = true then PySem.W.subIn K (.ref S) (.ref S) else none) = some true
  rw [if_pos e2]
  exact h4
theorem HasToo.txt {K : PySem.W.Frag} {h : Heap} {mg : Str → Option Value} (X : K.In h) (G : h.Ns mainGlobals mg) (D : HasToo K) : ∃ C fI, PySem.TooX.TooTxt K mg C fI := by
  obtain ⟨C, f1, nm, q, N, bs, bm, sn, sub, ab, col, dd, m0, m1, m2, m3, m5, oc, dc, pm, cd, ct, od, an, sl, aC, xL, rv, sa, ga, gg, nb, a1, t1, l1, c1, kC, eC, tC, hC, iC, sC⟩ := D
  exact ⟨C, f1, { gC := PySem.W.mg_of X G aC, cls := ⟨nm, q, N, bs, bm, sn, sub, ab, col, dd, m0, m1, m2, m3, m5, xL, rv⟩, sa := sa, ga := ga, gg := gg, noN := nb, iC := a1, tC := t1, kC := kC, exC := eC, tyC := tC, hdC := hC, te := exm_selfT eC iC tC sC, fn := ⟨_, _, _, _, _, _, _, _, _, _, _, _, _, _, l1, c1⟩ }⟩
theorem sqF_of {K : PySem.W.Frag} {H : Hp} {a : Addr} {xs : List V} (hO : Only H) (h : SqL K H a xs) : SqF K H a xs := by
  rcases h with (h | h) | h
  · rcases hO a with e | ⟨o, ys, e⟩
    · rw [e] at h; cases h
    · rw [e] at h; cases h
  · exact .inl h
  · exact .inr h
theorem fin {P : Program} {w : World} {K : PySem.W.Frag} {h : Heap} {mg : Str → Option Value} {fa : Addr} {tW : Tok} (X : K.In h) (G : h.Ns mainGlobals mg) (hfa : mg "law" = some (.ref fa))
    (n_len : PySem.W.nsIn K mainGlobals "len" = some none) (n_tuple : PySem.W.nsIn K mainGlobals "tuple" = some none) (n_list : PySem.W.nsIn K mainGlobals "list" = some none) (n_all : PySem.W.nsIn K mainGlobals "all" = some none) (n_int : PySem.W.nsIn K mainGlobals "int" = some none) (n_max : PySem.W.nsIn K mainGlobals "max" = some none) (n_dict : PySem.W.nsIn K mainGlobals "dict" = some none) (n_range : PySem.W.nsIn K mainGlobals "range" = some none) (n_zip : PySem.W.nsIn K mainGlobals "zip" = some none) (n_enumerate : PySem.W.nsIn K mainGlobals "enumerate" = some none) (wide : PySem.W.nsIn K mainGlobals "WIDE" = some (some (.int 1000000 tW))) (inner : HasInner K) (too : HasToo K)
    (d6 : HasDef K "value_of" (topS 6)) (d9 : HasDef K "number_put" (topS 9)) (d10 : HasDef K "without" (topS 10)) (d11 : HasDef K "put_for" (topS 11)) (d12 : HasDef K "arg_put" (topS 12)) (d13 : HasDef K "opened" (topS 13)) (d14 : HasDef K "is_plain" (topS 14)) (d16 : HasDef K "parts_in" (topS 16)) (d17 : HasDef K "with_parts" (topS 17)) (d18 : HasDef K "parts" (topS 18)) (d19 : HasDef K "places" (topS 19)) (d20 : HasDef K "part_at" (topS 20)) (d21 : HasDef K "replaced" (topS 21)) (d23 : HasDef K "is_closed" (topS 23)) (d24 : HasDef K "is_done" (topS 24)) (d25 : HasDef K "can_step" (topS 25)) (d26 : HasDef K "step_places" (topS 26)) (d27 : HasDef K "loop_step" (topS 27)) (d28 : HasDef K "def_of" (topS 28)) (d29 : HasDef K "call_step" (topS 29)) (d30 : HasDef K "chosen_in" (topS 30)) (d31 : HasDef K "step_of" (topS 31)) (d32 : HasDef K "size_put" (topS 32)) (d33 : HasDef K "step_size" (topS 33)) (d34 : HasDef K "stepped" (topS 34)) (d35 : HasDef K "walked" (topS 35)) (d37 : HasDef K "laid_down" (topS 37)) (d38 : HasDef K "form_of" (topS 38)) (d40 : HasDef K "_law_feed" (topS 40)) (d41 : HasDef K "_law_take" (topS 41)) (d42 : HasDef K "_law_names" (topS 42)) (d43 : HasDef K "_law_shape" (topS 43)) (d44 : HasDef K "_law_small" (topS 44)) (d45 : HasDef K "_law_number" (topS 45)) (d46 : HasDef K "_law_leaf" (topS 46)) (d47 : HasDef K "_law_call" (topS 47)) (d48 : HasDef K "_law_bound" (topS 48)) (d49 : HasDef K "_law_term" (topS 49)) (d50 : HasDef K "_law_program" (topS 50)) (d51 : HasDef K "_law_ordered" (topS 51)) (d52 : HasDef K "_law_number_at" (topS 52)) (d53 : HasDef K "_law_kept" (topS 53)) (d54 : HasDef K "_law_called" (topS 54)) (d55 : HasDef K "_law_rounds" (topS 55)) (d56 : HasDef K "_law_gone" (topS 56)) (d57 : HasDef K "_law_plain" (topS 57)) (d58 : HasDef K "_law_on" (topS 58)) (d59 : HasDef K "_law_to_end" (topS 59)) (d60 : HasDef K "_law_right" (topS 60)) (d61 : HasDef K "law" (topS 61)) :
    ∃ fd : FuncData, (∀ (s : Shared) (v : Value), BindsTo s fd ⟨[v], []⟩ [("_law_script", v)]) ∧ ∀ base : Heap, K.In base → base.Ns mainGlobals mg → FnOk P w K mg base CX0 210 fa fd ["_law_script"] (spLaw K) := by
  obtain ⟨aI, oI, its, nI, i1, i2, i3, i4, i5, i6⟩ := inner
  obtain ⟨C, fI, hToo⟩ := too.txt X G
  obtain ⟨x6⟩ := d6.fa (ps := ["number", "counts"]) X G fun _ _ _ _ _ _ us hl => match us, hl with | [_, _], _ => rfl
  obtain ⟨x9⟩ := d9.fa (ps := ["number", "counts"]) X G fun _ _ _ _ _ _ us hl => match us, hl with | [_, _], _ => rfl
  obtain ⟨x10⟩ := d10.fa (ps := ["known", "name"]) X G fun _ _ _ _ _ _ us hl => match us, hl with | [_, _], _ => rfl
  obtain ⟨x11⟩ := d11.fa (ps := ["term", "things", "counts"]) X G fun _ _ _ _ _ _ us hl => match us, hl with | [_, _, _], _ => rfl
  obtain ⟨x12⟩ := d12.fa (ps := ["arg", "things", "counts"]) X G fun _ _ _ _ _ _ us hl => match us, hl with | [_, _, _], _ => rfl
  obtain ⟨x13⟩ := d13.fa (ps := ["program"]) X G fun _ _ _ _ _ _ us hl => match us, hl with | [_], _ => rfl
  obtain ⟨x14⟩ := d14.fa (ps := ["term"]) X G fun _ _ _ _ _ _ us hl => match us, hl with | [_], _ => rfl
  obtain ⟨x16⟩ := d16.fa (ps := ["term"]) X G fun _ _ _ _ _ _ us hl => match us, hl with | [_], _ => rfl
  obtain ⟨x17⟩ := d17.fa (ps := ["term", "some"]) X G fun _ _ _ _ _ _ us hl => match us, hl with | [_, _], _ => rfl
  obtain ⟨x18⟩ := d18.fa (ps := ["term"]) X G fun _ _ _ _ _ _ us hl => match us, hl with | [_], _ => rfl
  obtain ⟨x19⟩ := d19.fa (ps := ["term"]) X G fun _ _ _ _ _ _ us hl => match us, hl with | [_], _ => rfl
  obtain ⟨x20⟩ := d20.fa (ps := ["term", "place"]) X G fun _ _ _ _ _ _ us hl => match us, hl with | [_, _], _ => rfl
  obtain ⟨x21⟩ := d21.fa (ps := ["term", "place", "part"]) X G fun _ _ _ _ _ _ us hl => match us, hl with | [_, _, _], _ => rfl
  obtain ⟨x23⟩ := d23.fa (ps := ["number"]) X G fun _ _ _ _ _ _ us hl => match us, hl with | [_], _ => rfl
  obtain ⟨x24⟩ := d24.fa (ps := ["arg"]) X G fun _ _ _ _ _ _ us hl => match us, hl with | [_], _ => rfl
  obtain ⟨x25⟩ := d25.fa (ps := ["term"]) X G fun _ _ _ _ _ _ us hl => match us, hl with | [_], _ => rfl
  obtain ⟨x26⟩ := d26.fa (ps := ["defs", "term"]) X G fun _ _ _ _ _ _ us hl => match us, hl with | [_, _], _ => rfl
  obtain ⟨x27⟩ := d27.fa (ps := ["term"]) X G fun _ _ _ _ _ _ us hl => match us, hl with | [_], _ => rfl
  obtain ⟨x28⟩ := d28.fa (ps := ["defs", "name"]) X G fun _ _ _ _ _ _ us hl => match us, hl with | [_, _], _ => rfl
  obtain ⟨x29⟩ := d29.fa (ps := ["defs", "term"]) X G fun _ _ _ _ _ _ us hl => match us, hl with | [_, _], _ => rfl
  obtain ⟨x30⟩ := d30.fa (ps := ["term"]) X G fun _ _ _ _ _ _ us hl => match us, hl with | [_], _ => rfl
  obtain ⟨x31⟩ := d31.fa (ps := ["defs", "term"]) X G fun _ _ _ _ _ _ us hl => match us, hl with | [_, _], _ => rfl
  obtain ⟨x32⟩ := d32.fa (ps := ["term", "sizes"]) X G fun _ _ _ _ _ _ us hl => match us, hl with | [_, _], _ => rfl
  obtain ⟨x33⟩ := d33.fa (ps := ["defs", "term"]) X G fun _ _ _ _ _ _ us hl => match us, hl with | [_, _], _ => rfl
  obtain ⟨x34⟩ := d34.fa (ps := ["defs", "term", "place", "most"]) X G fun _ _ _ _ _ _ us hl => match us, hl with | [_, _, _, _], _ => rfl
  obtain ⟨x35⟩ := d35.fa (ps := ["defs", "term", "most"]) X G fun _ _ _ _ _ _ us hl => match us, hl with | [_, _, _], _ => rfl
  obtain ⟨x37⟩ := d37.fa (ps := ["term", "numbers"]) X G fun _ _ _ _ _ _ us hl => match us, hl with | [_, _], _ => rfl
  obtain ⟨x38⟩ := d38.fa (ps := ["term"]) X G fun _ _ _ _ _ _ us hl => match us, hl with | [_], _ => rfl
  obtain ⟨x40⟩ := d40.fa (ps := ["_law_script", "_law_k"]) X G fun _ _ _ _ _ _ us hl => match us, hl with | [_, _], _ => rfl
  obtain ⟨x41⟩ := d41.fa (ps := ["_law_feed_here", "_law_many"]) X G fun _ _ _ _ _ _ us hl => match us, hl with | [_, _], _ => rfl
  obtain ⟨x42⟩ := d42.fa (ps := ["_law_feed_here", "_law_many"]) X G fun _ _ _ _ _ _ us hl => match us, hl with | [_, _], _ => rfl
  obtain ⟨x43⟩ := d43.fa (ps := ["_law_feed_here"]) X G fun _ _ _ _ _ _ us hl => match us, hl with | [_], _ => rfl
  obtain ⟨x44⟩ := d44.fa (ps := ["_law_feed_here", "_law_counts", "_law_room"]) X G fun _ _ _ _ _ _ us hl => match us, hl with | [_, _, _], _ => rfl
  obtain ⟨x45⟩ := d45.fa (ps := ["_law_feed_here", "_law_counts", "_law_room"]) X G fun _ _ _ _ _ _ us hl => match us, hl with | [_, _, _], _ => rfl
  obtain ⟨x46⟩ := d46.fa (ps := ["_law_feed_here", "_law_scope"]) X G fun _ _ _ _ _ _ us hl => match us, hl with | [_, _], _ => rfl
  obtain ⟨x47⟩ := d47.fa (ps := ["_law_feed_here", "_law_scope", "_law_room", "_law_down"]) X G fun _ _ _ _ _ _ us hl => match us, hl with | [_, _, _, _], _ => rfl
  obtain ⟨x48⟩ := d48.fa (ps := ["_law_feed_here", "_law_scope", "_law_room", "_law_down"]) X G fun _ _ _ _ _ _ us hl => match us, hl with | [_, _, _, _], _ => rfl
  obtain ⟨x49⟩ := d49.fa (ps := ["_law_feed_here", "_law_scope", "_law_room", "_law_down"]) X G fun _ _ _ _ _ _ us hl => match us, hl with | [_, _, _, _], _ => rfl
  obtain ⟨x50⟩ := d50.fa (ps := ["_law_feed_here", "_law_shape_here", "_law_inputs", "_law_room"]) X G fun _ _ _ _ _ _ us hl => match us, hl with | [_, _, _, _], _ => rfl
  obtain ⟨x51⟩ := d51.fa (ps := ["_law_nodes", "_law_top"]) X G fun _ _ _ _ _ _ us hl => match us, hl with | [_, _], _ => rfl
  obtain ⟨x52⟩ := d52.fa (ps := ["_law_number_here", "_law_counts"]) X G fun _ _ _ _ _ _ us hl => match us, hl with | [_, _], _ => rfl
  obtain ⟨x53⟩ := d53.fa (ps := ["_law_about", "_law_node"]) X G fun _ _ _ _ _ _ us hl => match us, hl with | [_, _], _ => rfl
  obtain ⟨x54⟩ := d54.fa (ps := ["_law_about", "_law_term_here", "_law_things", "_law_counts"]) X G fun _ _ _ _ _ _ us hl => match us, hl with | [_, _, _, _], _ => rfl
  obtain ⟨x55⟩ := d55.fa (ps := ["_law_about", "_law_term_here", "_law_things", "_law_counts"]) X G fun _ _ _ _ _ _ us hl => match us, hl with | [_, _, _, _], _ => rfl
  obtain ⟨x56⟩ := d56.fa (ps := ["_law_about", "_law_term_here", "_law_things", "_law_counts"]) X G fun _ _ _ _ _ _ us hl => match us, hl with | [_, _, _, _], _ => rfl
  obtain ⟨x57⟩ := d57.fa (ps := ["_law_program_here", "_law_most"]) X G fun _ _ _ _ _ _ us hl => match us, hl with | [_, _], _ => rfl
  obtain ⟨x58⟩ := d58.fa (ps := ["_law_defs", "_law_term_here", "_law_place"]) X G fun _ _ _ _ _ _ us hl => match us, hl with | [_, _, _], _ => rfl
  obtain ⟨x59⟩ := d59.fa (ps := ["_law_defs", "_law_term_here"]) X G fun _ _ _ _ _ _ us hl => match us, hl with | [_, _], _ => rfl
  obtain ⟨x60⟩ := d60.fa (ps := ["_law_draws", "_law_program_here", "_law_due", "_law_many"]) X G fun _ _ _ _ _ _ us hl => match us, hl with | [_, _, _, _], _ => rfl
  have T : Tx K mg := {
    nlen := PySem.W.mg_none_of X G n_len
    ntuple := PySem.W.mg_none_of X G n_tuple
    nlist := PySem.W.mg_none_of X G n_list
    nall := PySem.W.mg_none_of X G n_all
    nint := PySem.W.mg_none_of X G n_int
    nmax := PySem.W.mg_none_of X G n_max
    ndict := PySem.W.mg_none_of X G n_dict
    nrange := PySem.W.mg_none_of X G n_range
    nzip := PySem.W.mg_none_of X G n_zip
    nenumerate := PySem.W.mg_none_of X G n_enumerate
    tW := tW
    gWIDE := PySem.W.mg_of X G wide
    aI := aI
    gINNER := PySem.W.mg_of X G i1
    sINNER := fun H => .inr ⟨oI, its, nI, i2, i3, i4, i5, i6⟩
    value_of := x6
    number_put := x9
    without := x10
    put_for := x11
    arg_put := x12
    opened := x13
    is_plain := x14
    parts_in := x16
    with_parts := x17
    parts := x18
    places := x19
    part_at := x20
    replaced := x21
    is_closed := x23
    is_done := x24
    can_step := x25
    step_places := x26
    loop_step := x27
    def_of := x28
    call_step := x29
    chosen_in := x30
    step_of := x31
    size_put := x32
    step_size := x33
    stepped := x34
    walked := x35
    laid_down := x37
    form_of := x38
    law_feed := x40
    law_take := x41
    law_names := x42
    law_shape := x43
    law_small := x44
    law_number := x45
    law_leaf := x46
    law_call := x47
    law_bound := x48
    law_term := x49
    law_program := x50
    law_ordered := x51
    law_number_at := x52
    law_kept := x53
    law_called := x54
    law_rounds := x55
    law_gone := x56
    law_plain := x57
    law_on := x58
    law_to_end := x59
    law_right := x60 }
  obtain ⟨f, od, an, sl, oc, kV, dc, pm, cd, ct, a, l, c, k⟩ := d61
  have e := hfa.symm.trans (PySem.W.mg_of X G a)
  cases e
  have F := fun_mk (st := topS 61) l c k
  exact ⟨_, fun s v => .of_eq rfl, fun base _ _ => ok_law (P := P) (w := w) (base := base) T hToo F⟩
theorem walk {l : PySem.W.OpenLaw} {q : Program} {loose : List Str} {XP : (Str → Option Value) → Heap → Prop} {YP : World → Heap → Prop} {d : DefRec} {K : Params → PySem.W.Frag} (hn : l.most = some 63) (hdf : d.params.defaults = [])
    (hY : ∀ (w : World) (h : Heap), YP w h → (K w.params).In h)
    (F : ∀ (w : World) (mg : Str → Option Value) (fa : Addr) (h : Heap), (K w.params).In h → h.Ns mainGlobals mg → mg d.name = some (.ref fa) →
      ∃ fd : FuncData, (∀ (s : Shared) (u : Value), BindsTo s fd ⟨[u], []⟩ [("_law_script", u)]) ∧ ∀ base : Heap, (K w.params).In base → base.Ns mainGlobals mg → FnOk l.prog w (K w.params) mg base CX0 210 fa fd ["_law_script"] (spLaw (K w.params))) :
    PySem.W.WalkO q loose XP YP l.row.toRowW d [] (fun f vs => PySem.call f vs) :=
  L2.walk_of (n := 63) (k := 210) (x := "_law_script") (CX := fun _ => CX0) (sp := fun w => spLaw (K w.params)) hn (by decide) hdf ⟨rfl, by decide, by decide⟩ hY F (fun _ _ a ns hl hO hS => ⟨a, ns, rfl, sqF_of hO hS, hl, fun _ => rfl⟩) fun _ _ _ _ _ z => z
end Sf
end
set_option Elab.async false
open PySem PySem.W PyProof.Rows
set_option maxRecDepth 100000 in
set_option maxHeartbeats 0 in
theorem PySem.Challenge.cw_shapefree_k32_whole_any_order_holds : PySem.Challenge.rw_shapefree_k32_whole_any_order.Holds := by
  w_on; o_law; k_head; (case hw => w_witness2)
  k_fill
  refine Sf.walk (l := PySem.Challenge.rw_shapefree_k32_whole_any_order) rfl rfl (fun w h Y => PySem.W.kIn_of Y) ?F
  case F =>
    intro w mg fa h KX G hmg
    refine' Sf.fin KX G hmg ?n_len ?n_tuple ?n_list ?n_all ?n_int ?n_max ?n_dict ?n_range ?n_zip ?n_enumerate ?wide ?inner ?too ?d6 ?d9 ?d10 ?d11 ?d12 ?d13 ?d14 ?d16 ?d17 ?d18 ?d19 ?d20 ?d21 ?d23 ?d24 ?d25 ?d26 ?d27 ?d28 ?d29 ?d30 ?d31 ?d32 ?d33 ?d34 ?d35 ?d37 ?d38 ?d40 ?d41 ?d42 ?d43 ?d44 ?d45 ?d46 ?d47 ?d48 ?d49 ?d50 ?d51 ?d52 ?d53 ?d54 ?d55 ?d56 ?d57 ?d58 ?d59 ?d60 ?d61
    (case n_len => k_is)
    (case n_tuple => k_is)
    (case n_list => k_is)
    (case n_all => k_is)
    (case n_int => k_is)
    (case n_max => k_is)
    (case n_dict => k_is)
    (case n_range => k_is)
    (case n_zip => k_is)
    (case n_enumerate => k_is)
    (case wide => k_is)
    (case inner => (refine' Sf.HasInner.mk ?a ?l ?c ?e ?s ?v; (case a => k_is); (case l => k_is); (case c => rfl); (case e => rfl); (case s => decide +kernel); (case v => exact .cons ⟨_, rfl⟩ (.cons ⟨_, rfl⟩ (.cons ⟨_, rfl⟩ .nil)))))
    (case too => (refine' Sf.HasToo.mk ?aC ?xL ?rv ?sa ?ga ?gg ?nb ?a1 ?t1 ?l1 ?c1 ?kC ?eC ?tC ?hC ?iC ?sC; (case aC => k_is); (case xL => k_is); (case rv => decide +kernel); (case sa => k_is); (case ga => k_is); (case gg => k_is); (case nb => k_is); (case a1 => k_is); (case t1 => k_is); (case l1 => k_is); (case c1 => k_is); (case kC => k_is); (case eC => k_is); (case tC => k_is); (case hC => k_is); (case iC => k_is); (case sC => first | rfl | k_is)))
    (case d6 => (refine' Sf.HasDef.mk ?a ?l ?c ?k; (case a => k_is); (case l => k_is); (case c => k_is); (case k => k_is)))
    (case d9 => (refine' Sf.HasDef.mk ?a ?l ?c ?k; (case a => k_is); (case l => k_is); (case c => k_is); (case k => k_is)))
    (case d10 => (refine' Sf.HasDef.mk ?a ?l ?c ?k; (case a => k_is); (case l => k_is); (case c => k_is); (case k => k_is)))
    (case d11 => (refine' Sf.HasDef.mk ?a ?l ?c ?k; (case a => k_is); (case l => k_is); (case c => k_is); (case k => k_is)))
    (case d12 => (refine' Sf.HasDef.mk ?a ?l ?c ?k; (case a => k_is); (case l => k_is); (case c => k_is); (case k => k_is)))
    (case d13 => (refine' Sf.HasDef.mk ?a ?l ?c ?k; (case a => k_is); (case l => k_is); (case c => k_is); (case k => k_is)))
    (case d14 => (refine' Sf.HasDef.mk ?a ?l ?c ?k; (case a => k_is); (case l => k_is); (case c => k_is); (case k => k_is)))
    (case d16 => (refine' Sf.HasDef.mk ?a ?l ?c ?k; (case a => k_is); (case l => k_is); (case c => k_is); (case k => k_is)))
    (case d17 => (refine' Sf.HasDef.mk ?a ?l ?c ?k; (case a => k_is); (case l => k_is); (case c => k_is); (case k => k_is)))
    (case d18 => (refine' Sf.HasDef.mk ?a ?l ?c ?k; (case a => k_is); (case l => k_is); (case c => k_is); (case k => k_is)))
    (case d19 => (refine' Sf.HasDef.mk ?a ?l ?c ?k; (case a => k_is); (case l => k_is); (case c => k_is); (case k => k_is)))
    (case d20 => (refine' Sf.HasDef.mk ?a ?l ?c ?k; (case a => k_is); (case l => k_is); (case c => k_is); (case k => k_is)))
    (case d21 => (refine' Sf.HasDef.mk ?a ?l ?c ?k; (case a => k_is); (case l => k_is); (case c => k_is); (case k => k_is)))
    (case d23 => (refine' Sf.HasDef.mk ?a ?l ?c ?k; (case a => k_is); (case l => k_is); (case c => k_is); (case k => k_is)))
    (case d24 => (refine' Sf.HasDef.mk ?a ?l ?c ?k; (case a => k_is); (case l => k_is); (case c => k_is); (case k => k_is)))
    (case d25 => (refine' Sf.HasDef.mk ?a ?l ?c ?k; (case a => k_is); (case l => k_is); (case c => k_is); (case k => k_is)))
    (case d26 => (refine' Sf.HasDef.mk ?a ?l ?c ?k; (case a => k_is); (case l => k_is); (case c => k_is); (case k => k_is)))
    (case d27 => (refine' Sf.HasDef.mk ?a ?l ?c ?k; (case a => k_is); (case l => k_is); (case c => k_is); (case k => k_is)))
    (case d28 => (refine' Sf.HasDef.mk ?a ?l ?c ?k; (case a => k_is); (case l => k_is); (case c => k_is); (case k => k_is)))
    (case d29 => (refine' Sf.HasDef.mk ?a ?l ?c ?k; (case a => k_is); (case l => k_is); (case c => k_is); (case k => k_is)))
    (case d30 => (refine' Sf.HasDef.mk ?a ?l ?c ?k; (case a => k_is); (case l => k_is); (case c => k_is); (case k => k_is)))
    (case d31 => (refine' Sf.HasDef.mk ?a ?l ?c ?k; (case a => k_is); (case l => k_is); (case c => k_is); (case k => k_is)))
    (case d32 => (refine' Sf.HasDef.mk ?a ?l ?c ?k; (case a => k_is); (case l => k_is); (case c => k_is); (case k => k_is)))
    (case d33 => (refine' Sf.HasDef.mk ?a ?l ?c ?k; (case a => k_is); (case l => k_is); (case c => k_is); (case k => k_is)))
    (case d34 => (refine' Sf.HasDef.mk ?a ?l ?c ?k; (case a => k_is); (case l => k_is); (case c => k_is); (case k => k_is)))
    (case d35 => (refine' Sf.HasDef.mk ?a ?l ?c ?k; (case a => k_is); (case l => k_is); (case c => k_is); (case k => k_is)))
    (case d37 => (refine' Sf.HasDef.mk ?a ?l ?c ?k; (case a => k_is); (case l => k_is); (case c => k_is); (case k => k_is)))
    (case d38 => (refine' Sf.HasDef.mk ?a ?l ?c ?k; (case a => k_is); (case l => k_is); (case c => k_is); (case k => k_is)))
    (case d40 => (refine' Sf.HasDef.mk ?a ?l ?c ?k; (case a => k_is); (case l => k_is); (case c => k_is); (case k => k_is)))
    (case d41 => (refine' Sf.HasDef.mk ?a ?l ?c ?k; (case a => k_is); (case l => k_is); (case c => k_is); (case k => k_is)))
    (case d42 => (refine' Sf.HasDef.mk ?a ?l ?c ?k; (case a => k_is); (case l => k_is); (case c => k_is); (case k => k_is)))
    (case d43 => (refine' Sf.HasDef.mk ?a ?l ?c ?k; (case a => k_is); (case l => k_is); (case c => k_is); (case k => k_is)))
    (case d44 => (refine' Sf.HasDef.mk ?a ?l ?c ?k; (case a => k_is); (case l => k_is); (case c => k_is); (case k => k_is)))
    (case d45 => (refine' Sf.HasDef.mk ?a ?l ?c ?k; (case a => k_is); (case l => k_is); (case c => k_is); (case k => k_is)))
    (case d46 => (refine' Sf.HasDef.mk ?a ?l ?c ?k; (case a => k_is); (case l => k_is); (case c => k_is); (case k => k_is)))
    (case d47 => (refine' Sf.HasDef.mk ?a ?l ?c ?k; (case a => k_is); (case l => k_is); (case c => k_is); (case k => k_is)))
    (case d48 => (refine' Sf.HasDef.mk ?a ?l ?c ?k; (case a => k_is); (case l => k_is); (case c => k_is); (case k => k_is)))
    (case d49 => (refine' Sf.HasDef.mk ?a ?l ?c ?k; (case a => k_is); (case l => k_is); (case c => k_is); (case k => k_is)))
    (case d50 => (refine' Sf.HasDef.mk ?a ?l ?c ?k; (case a => k_is); (case l => k_is); (case c => k_is); (case k => k_is)))
    (case d51 => (refine' Sf.HasDef.mk ?a ?l ?c ?k; (case a => k_is); (case l => k_is); (case c => k_is); (case k => k_is)))
    (case d52 => (refine' Sf.HasDef.mk ?a ?l ?c ?k; (case a => k_is); (case l => k_is); (case c => k_is); (case k => k_is)))
    (case d53 => (refine' Sf.HasDef.mk ?a ?l ?c ?k; (case a => k_is); (case l => k_is); (case c => k_is); (case k => k_is)))
    (case d54 => (refine' Sf.HasDef.mk ?a ?l ?c ?k; (case a => k_is); (case l => k_is); (case c => k_is); (case k => k_is)))
    (case d55 => (refine' Sf.HasDef.mk ?a ?l ?c ?k; (case a => k_is); (case l => k_is); (case c => k_is); (case k => k_is)))
    (case d56 => (refine' Sf.HasDef.mk ?a ?l ?c ?k; (case a => k_is); (case l => k_is); (case c => k_is); (case k => k_is)))
    (case d57 => (refine' Sf.HasDef.mk ?a ?l ?c ?k; (case a => k_is); (case l => k_is); (case c => k_is); (case k => k_is)))
    (case d58 => (refine' Sf.HasDef.mk ?a ?l ?c ?k; (case a => k_is); (case l => k_is); (case c => k_is); (case k => k_is)))
    (case d59 => (refine' Sf.HasDef.mk ?a ?l ?c ?k; (case a => k_is); (case l => k_is); (case c => k_is); (case k => k_is)))
    (case d60 => (refine' Sf.HasDef.mk ?a ?l ?c ?k; (case a => k_is); (case l => k_is); (case c => k_is); (case k => k_is)))
    (case d61 => (refine' Sf.HasDef.mk ?a ?l ?c ?k; (case a => k_is); (case l => k_is); (case c => k_is); (case k => k_is)))
