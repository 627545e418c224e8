import PyProof.Rows.All
import Wide.All
import OpenK.AllK
import Wide.FinOn
import HandS.ForMost
import HandS.Flow
import HandS.Conv
import HandS.DictComp
import HandS.TupAny
import HandS.TupMul
import HandS.Deep
import HandS.IsInst
import HandS.Style
import HandS.SortInts
import HandS.More
import PyProof.DictUpdate
import KE.KUnpackStar
import PyProof.ReprRoads
import PyProof.NeKinds
import PyProof.FactsAll.dict
import KE.KEqNest
import PyProof.StrBlock2
import PyProof.ListStr
import HandS.Defaults
import HandS.WrittenGet
import HandS.ExcInit
import HandS.ExcField
import HandS.ExcIs
import KE.KExcInit
import KE.KExcIs
import PyProof.ExcBaseAll.LookupError
import PyProof.ExcBaseAll.OverflowError
import PyProof.ExcBaseAll.ValueError
import HandS.ExcValue
import PyProof.ExcBaseAll.IndexError
import PyProof.ExcBaseAll.RuntimeError
import KE.GoesEnum
import KE.GoesSet
import HandS.SetKeys
import HandS.Strs
import HandS.TupSets
import HandS.SortRule
import PyProof.Rows.SortKeyStr
import PySem.Challenge.RW_writeorders_k02_first_images
set_option Elab.async false
set_option linter.all false
set_option maxRecDepth 100000
set_option maxHeartbeats 4000000
/-! W0: a small semantics of our own: values W (tuples by value, all else that lives in the heap by a number into a store), slots, results. -/
namespace Wo
open PySem L2

inductive W where
  | non
  | bl (b : Bool)
  | int (i : Int)
  | str (x : Str)
  | ty (n : String)
  | ref (r : Nat)
  | tup (xs : List W)
  | fl (xs : List W)
  deriving Inhabited

inductive Ob where
  | lst (xs : List W)
  | dK (kvs : List (Key × W))
  | dT (kvs : List (List Key × W))
  | exc (C : String) (fs : Option (List (Str × W)))
  | ins (C : String) (fs : List (Str × W))
  | hid
  deriving Inhabited

abbrev Store := List Ob
abbrev Fr := List (Option W)

structure Xn where
  cls : String
  fld : Option (List (Str × W))

inductive Rs (α : Type) where
  | ok (a : α) (S : Store)
  | ex (e : Xn) (S : Store)
  | no

def Rs.bind {α β : Type} (m : Rs α) (k : α → Store → Rs β) : Rs β := match m with
  | .ok a S => k a S
  | .ex e S => .ex e S
  | .no => .no
@[simp] theorem Rs.bind_ok {α β : Type} (a : α) (S : Store) (k : α → Store → Rs β) : (Rs.ok a S).bind k = k a S := rfl
@[simp] theorem Rs.bind_ex {α β : Type} (e : Xn) (S : Store) (k : α → Store → Rs β) : (Rs.ex e S : Rs α).bind k = .ex e S := rfl
@[simp] theorem Rs.bind_no {α β : Type} (k : α → Store → Rs β) : (Rs.no : Rs α).bind k = .no := rfl

/-! ### the relation with the layer's values and heap -/
/-- a list that is locked, or of the written part: it stays -/
def SqF (K : PySem.W.Frag) (H : Hp) (a : Addr) (xs : List V) : Prop := (∃ o, H a = some (.frz o (.lst xs))) ∨ (∀ H', SqL K H' a xs)
theorem SqF.l {K : PySem.W.Frag} {H : Hp} {a : Addr} {xs : List V} (h : SqF K H a xs) : SqL K H a xs := by
  rcases h with ⟨o, h⟩ | h
  · exact Or.inl (Or.inr ⟨o, h⟩)
  · exact h H
section
variable (K : PySem.W.Frag) (m : List Addr) (H : Hp)
mutual
inductive RV : W → V → Prop
  | non : RV .non .non
  | bl (b : Bool) : RV (.bl b) (.bl b)
  | int (i : Int) : RV (.int i) (.int i)
  | str (x : Str) : RV (.str x) (.str x)
  | ty (n : String) : RV (.ty n) (.ty n)
  | ref {r : Nat} {a : Addr} : m[r]? = some a → RV (.ref r) (.ref a)
  | tup {a : Addr} {ws : List W} {vs : List V} : SqT K H a vs → RVs ws vs → RV (.tup ws) (.ref a)
  | fl {a : Addr} {ws : List W} {vs : List V} : SqF K H a vs → RVs ws vs → RV (.fl ws) (.ref a)
inductive RVs : List W → List V → Prop
  | nil : RVs [] []
  | cons {w : W} {ws : List W} {v : V} {vs : List V} : RV w v → RVs ws vs → RVs (w :: ws) (v :: vs)
end
end

structure Stay (K : PySem.W.Frag) (H H' : Hp) : Prop where
  t : ∀ a vs, SqT K H a vs → SqT K H' a vs
  f : ∀ a vs, SqF K H a vs → SqF K H' a vs
  x : ∀ a vs, H a = some (.xd vs) → H' a = some (.xd vs)
  z : ∀ a o u, H a = some (.frz o u) → H' a = some (.frz o u)
theorem Stay.refl {K : PySem.W.Frag} (H : Hp) : Stay K H H := ⟨fun _ _ h => h, fun _ _ h => h, fun _ _ h => h, fun _ _ _ h => h⟩
theorem Stay.trans {K : PySem.W.Frag} {H H1 H2 : Hp} (a : Stay K H H1) (b : Stay K H1 H2) : Stay K H H2 := ⟨fun x vs h => b.t x vs (a.t x vs h), fun x vs h => b.f x vs (a.f x vs h), fun x vs h => b.x x vs (a.x x vs h), fun x o u h => b.z x o u (a.z x o u h)⟩
/-- what is written, or new, is no tuple and nothing locked -/
def Soft : Option HO → Prop
  | some (.tup _) => False
  | some (.xd _) => False
  | some (.frz _ _) => False
  | _ => True
theorem Stay.upd {K : PySem.W.Frag} {H : Hp} {a : Addr} {o : HO} (h : Soft (H a)) : Stay K H (L2.upd H a o) := by
  refine ⟨fun b vs q => ?_, fun b vs q => ?_, fun b vs q => by
    rw [upd_ne]
    · exact q
    · rintro rfl
      rw [q] at h
      exact h, fun b o u q => by
    rw [upd_ne]
    · exact q
    · rintro rfl
      rw [q] at h
      exact h⟩
  · rcases q with (q | ⟨ob, q⟩) | q
    · refine Or.inl (Or.inl ?_)
      rw [upd_ne]
      · exact q
      · rintro rfl
        rw [q] at h
        exact h
    · refine Or.inl (Or.inr ⟨ob, ?_⟩)
      rw [upd_ne]
      · exact q
      · rintro rfl
        rw [q] at h
        exact h
    · exact Or.inr q
  · rcases q with ⟨ob, q⟩ | q
    · refine Or.inl ⟨ob, ?_⟩
      rw [upd_ne]
      · exact q
      · rintro rfl
        rw [q] at h
        exact h
    · exact Or.inr q
theorem Stay.new {K : PySem.W.Frag} {H : Hp} {a : Addr} {o : HO} (h : H a = none) : Stay K H (L2.upd H a o) := Stay.upd (by rw [h]; trivial)

abbrev Pre (m m' : List Addr) : Prop := m <+: m'
theorem Pre.get {m m' : List Addr} (p : Pre m m') {r : Nat} {a : Addr} (h : m[r]? = some a) : m'[r]? = some a := by
  obtain ⟨t, rfl⟩ := p
  have hr : r < m.length := (List.getElem?_eq_some_iff.mp h).1
  rw [List.getElem?_append_left hr]
  exact h

section
variable {K : PySem.W.Frag} {m m' : List Addr} {H H' : Hp}
mutual
theorem RV.mono (p : Pre m m') (s : Stay K H H') : ∀ {w : W} {v : V}, RV K m H w v → RV K m' H' w v
  | _, _, .non => .non
  | _, _, .bl b => .bl b
  | _, _, .int i => .int i
  | _, _, .str x => .str x
  | _, _, .ty n => .ty n
  | _, _, .ref h => .ref (p.get h)
  | _, _, .tup h t => .tup (s.t _ _ h) (RVs.mono p s t)
  | _, _, .fl h t => .fl (s.f _ _ h) (RVs.mono p s t)
theorem RVs.mono (p : Pre m m') (s : Stay K H H') : ∀ {ws : List W} {vs : List V}, RVs K m H ws vs → RVs K m' H' ws vs
  | _, _, .nil => .nil
  | _, _, .cons h t => .cons (RV.mono p s h) (RVs.mono p s t)
end
theorem RVs.length : ∀ {ws : List W} {vs : List V}, RVs K m H ws vs → ws.length = vs.length
  | _, _, .nil => rfl
  | _, _, .cons _ t => by rw [List.length_cons, List.length_cons, RVs.length t]
theorem RVs.get : ∀ {ws : List W} {vs : List V} {i : Nat} {w : W}, RVs K m H ws vs → ws[i]? = some w → ∃ v, vs[i]? = some v ∧ RV K m H w v
  | _, _, _, _, .nil, e => by simp at e
  | _, _, 0, _, .cons h t, e => by
    simp at e
    subst e
    exact ⟨_, rfl, h⟩
  | _, _, i + 1, _, .cons h t, e => by
    obtain ⟨v, h1, h2⟩ := RVs.get (i := i) t (by simpa using e)
    exact ⟨v, by simpa using h1, h2⟩
theorem RVs.append : ∀ {ws ws' : List W} {vs vs' : List V}, RVs K m H ws vs → RVs K m H ws' vs' → RVs K m H (ws ++ ws') (vs ++ vs')
  | _, _, _, _, .nil, t => t
  | _, _, _, _, .cons h t, u => .cons h (RVs.append t u)
theorem RVs.one {w : W} {v : V} (h : RV K m H w v) : RVs K m H [w] [v] := .cons h .nil
theorem RVs.set {w : W} {v : V} (r : RV K m H w v) : ∀ {ws : List W} {vs : List V} (i : Nat), RVs K m H ws vs → RVs K m H (ws.set i w) (vs.set i v)
  | _, _, _, .nil => .nil
  | _, _, 0, .cons _ t => .cons r t
  | _, _, i + 1, .cons q t => .cons q (RVs.set r i t)
theorem RVs.take : ∀ {ws : List W} {vs : List V} (n : Nat), RVs K m H ws vs → RVs K m H (ws.take n) (vs.take n)
  | _, _, 0, _ => .nil
  | _, _, _ + 1, .nil => .nil
  | _, _, n + 1, .cons r t => .cons r (RVs.take n t)
theorem RVs.drop : ∀ {ws : List W} {vs : List V} (n : Nat), RVs K m H ws vs → RVs K m H (ws.drop n) (vs.drop n)
  | _, _, 0, r => r
  | _, _, _ + 1, .nil => .nil
  | _, _, n + 1, .cons _ t => RVs.drop n t
theorem RVs.dropLast {ws : List W} {vs : List V} (r : RVs K m H ws vs) : RVs K m H ws.dropLast vs.dropLast := by
  rw [List.dropLast_eq_take, List.dropLast_eq_take, ← r.length]
  exact r.take _
end

abbrev RKV (K : PySem.W.Frag) (m : List Addr) (H : Hp) : List (Key × W) → List (Key × V) → Prop := Paired fun p q => p.1 = q.1 ∧ RV K m H p.2 q.2
theorem RKV.mono {K : PySem.W.Frag} {m m' : List Addr} {H H' : Hp} (p : Pre m m') (s : Stay K H H') {l : List (Key × W)} {l' : List (Key × V)} (h : RKV K m H l l') : RKV K m' H' l l' :=
  Paired.mapP h fun _ _ ⟨a, b⟩ => ⟨a, b.mono p s⟩

/-- the address of a class of the program, by its name -/
def clA (K : PySem.W.Frag) (n : String) : Addr := match PySem.W.nsIn K mainGlobals (n : Str) with
  | some (some (.ref a)) => a
  | _ => 0
theorem clA_of {K : PySem.W.Frag} {n : String} {a : Addr} (h : PySem.W.nsIn K mainGlobals (n : Str) = some (some (.ref a))) : clA K n = a := by
  unfold clA
  rw [h]
def RFs (K : PySem.W.Frag) (m : List Addr) (H : Hp) : List (Str × W) → List (Str × V) → Prop := Paired fun p q => p.1 = q.1 ∧ RV K m H p.2 q.2
theorem RFs.mono {K : PySem.W.Frag} {m m' : List Addr} {H H' : Hp} (p : Pre m m') (s : Stay K H H') {l : List (Str × W)} {l' : List (Str × V)} (h : RFs K m H l l') : RFs K m' H' l l' :=
  Paired.mapP h fun _ _ ⟨a, b⟩ => ⟨a, b.mono p s⟩
/-- an exception's dict, if it has one -/
def RXd (K : PySem.W.Frag) (m : List Addr) (H : Hp) (fs : Option (List (Str × W))) (d : Option Addr) : Prop := match fs, d with
  | none, none => True
  | some fs, some a => ∃ vs, H a = some (.xd vs) ∧ RFs K m H fs vs
  | _, _ => False
theorem RXd.mono {K : PySem.W.Frag} {m m' : List Addr} {H H' : Hp} (p : Pre m m') (s : Stay K H H') {fs : Option (List (Str × W))} {d : Option Addr} (h : RXd K m H fs d) : RXd K m' H' fs d := by
  cases fs with
  | none => cases d <;> exact h
  | some fs =>
    cases d with
    | none => exact h
    | some a =>
      obtain ⟨vs, h1, h2⟩ := h
      exact ⟨vs, s.x _ _ h1, h2.mono p s⟩
abbrev RTV (K : PySem.W.Frag) (m : List Addr) (H : Hp) : List (List Key × W) → List (List Key × V) → Prop := Paired fun p q => p.1 = q.1 ∧ RV K m H p.2 q.2
/-- an exception that was caught: its class, its dict -/
def ExH (cls : Value) (d : Option Addr) (a : Addr) : HO := .ext fun h => ∃ (oe : Obj) (vs : Array Value), h.get? a = some oe ∧ (oe.cls = cls ∧ oe.dict = d) ∧ oe.data = .fields vs
def RO (K : PySem.W.Frag) (m : List Addr) (H : Hp) : Ob → Addr → Prop
  | .hid, a => ∃ u, H a = some u
  | .dT kvs, a => ∃ ls, H a = some (.dT ls) ∧ RTV K m H kvs ls
  | .exc C fs, a => ∃ d, H a = some (ExH (.ref (clA K C)) d a) ∧ RXd K m H fs d
  | .ins C fs, a => ∃ dx vs, H a = some (.ins (clA K C) dx vs) ∧ RFs K m H fs vs
  | .lst xs, a => ∃ vs, H a = some (.lst vs) ∧ RVs K m H xs vs
  | .dK kvs, a => ∃ ls, H a = some (.dK ls) ∧ RKV K m H kvs ls

theorem nodupA {N : List Addr} (hN : N.Nodup) {i j : Nat} {x : Addr} (a : N[i]? = some x) (b : N[j]? = some x) : i = j := by
  obtain ⟨h1, e1⟩ := List.getElem?_eq_some_iff.mp a
  obtain ⟨h2, e2⟩ := List.getElem?_eq_some_iff.mp b
  exact (List.getElem_inj hN).mp (e1.trans e2.symm)
/-- something that is kept known beside -/
structure Jx (K : PySem.W.Frag) where
  sl : Option (Nat × V)
  J : List Addr → Hp → Prop
  fr : Addr → Prop
  st : ∀ {m m' : List Addr} {H H' : Hp}, Pre m m' → Stay K H H' → (∀ a, fr a → H' a = H a) → J m H → J m' H'
  nn : sl = none
structure Kx where
  k : PySem.W.Frag
  j : Jx k
instance : Coe Kx PySem.W.Frag := ⟨Kx.k⟩
abbrev kxj (X : Cx) (J : Jx X.K) : Kx := ⟨X.K, J⟩
def j0 (K : PySem.W.Frag) : Jx K := ⟨none, fun _ _ => True, fun _ => False, fun _ _ _ h => h, rfl⟩
abbrev k0 (K : PySem.W.Frag) : Kx := ⟨K, j0 K⟩
structure RS (K : Kx) (m : List Addr) (S : Store) (H : Hp) : Prop where
  jn : K.j.J m H
  dj : ∀ a, K.j.fr a → a ∉ m ∧ H a ≠ none
  len : m.length = S.length
  nd : m.Nodup
  ob : ∀ (r : Nat) (o : Ob) (a : Addr), S[r]? = some o → m[r]? = some a → RO K m H o a

theorem RO.mono {K : PySem.W.Frag} {m m' : List Addr} {H H' : Hp} {o : Ob} {a : Addr} (p : Pre m m') (s : Stay K H H') (e : H' a = H a) (h : RO K m H o a) : RO K m' H' o a := by
  cases o with
  | lst xs =>
    obtain ⟨vs, h1, h2⟩ := h
    exact ⟨vs, e.trans h1, h2.mono p s⟩
  | dK kvs =>
    obtain ⟨vs, h1, h2⟩ := h
    exact ⟨vs, e.trans h1, h2.mono p s⟩
  | hid =>
    obtain ⟨u, h1⟩ := h
    exact ⟨u, e.trans h1⟩
  | dT kvs =>
    obtain ⟨vs, h1, h2⟩ := h
    exact ⟨vs, e.trans h1, Paired.mapP h2 fun _ _ ⟨a, b⟩ => ⟨a, b.mono p s⟩⟩
  | exc C fs =>
    obtain ⟨d, h1, h2⟩ := h
    exact ⟨d, e.trans h1, h2.mono p s⟩
  | ins C fs =>
    obtain ⟨dx, vs, h1, h2⟩ := h
    exact ⟨dx, vs, e.trans h1, h2.mono p s⟩
theorem RO.soft {K : PySem.W.Frag} {m : List Addr} {H : Hp} {o : Ob} {a : Addr} (h : RO K m H o a) (hn : o ≠ .hid) : ∃ u, H a = some u ∧ Soft (some u) := by
  cases o with
  | hid => exact absurd rfl hn
  | lst xs =>
    obtain ⟨vs, h1, h2⟩ := h
    exact ⟨_, h1, trivial⟩
  | dK kvs =>
    obtain ⟨vs, h1, h2⟩ := h
    exact ⟨_, h1, trivial⟩
  | dT kvs =>
    obtain ⟨vs, h1, h2⟩ := h
    exact ⟨_, h1, trivial⟩
  | exc C fs =>
    obtain ⟨d, h1, h2⟩ := h
    exact ⟨_, h1, trivial⟩
  | ins C fs =>
    obtain ⟨dx, vs, h1, h2⟩ := h
    exact ⟨_, h1, trivial⟩

theorem RO.some {K : PySem.W.Frag} {m : List Addr} {H : Hp} {o : Ob} {a : Addr} (h : RO K m H o a) : ∃ u, H a = some u ∧ True := by
  by_cases e : o = .hid
  · subst e
    obtain ⟨u, h⟩ := h
    exact ⟨u, h, True.intro⟩
  · obtain ⟨u, h, _⟩ := h.soft e
    exact ⟨u, h, True.intro⟩
section
variable {K : Kx} {m : List Addr} {S : Store} {H : Hp}
theorem RS.addr (h : RS K m S H) {r : Nat} {o : Ob} (e : S[r]? = some o) : ∃ a, m[r]? = some a := by
  have hr : r < S.length := (List.getElem?_eq_some_iff.mp e).1
  exact ⟨m[r]'(by rw [h.len]; exact hr), List.getElem?_eq_getElem _⟩
theorem RS.obj (h : RS K m S H) {r : Nat} {a : Addr} (e : m[r]? = some a) : ∃ o, S[r]? = some o := by
  have hr : r < m.length := (List.getElem?_eq_some_iff.mp e).1
  exact ⟨S[r]'(by rw [← h.len]; exact hr), List.getElem?_eq_getElem _⟩
/-- an address that the heap does not know is none of the store's -/
theorem RS.fresh (h : RS K m S H) {p : Addr} (hp : H p = none) : p ∉ m := fun hm => by
  obtain ⟨r, hr⟩ := List.getElem?_of_mem hm
  obtain ⟨o, ho⟩ := h.obj hr
  obtain ⟨u, hu, _⟩ := (h.ob r o p ho hr).some
  rw [hp] at hu
  cases hu
/-- a new object -/
theorem RS.push (h : RS K m S H) {p : Addr} {o : HO} {b : Ob} (hp : H p = none) (ho : RO K (m ++ [p]) (upd H p o) b p) : RS K (m ++ [p]) (S ++ [b]) (upd H p o) := by
  have st : Stay K H (upd H p o) := Stay.new hp
  have pr : Pre m (m ++ [p]) := List.prefix_append _ _
  have fp : ∀ a, K.j.fr a → a ≠ p := fun a fa z => (h.dj a fa).2 (by rw [z]; exact hp)
  refine ⟨K.j.st pr st (fun a fa => upd_ne (fp a fa)) h.jn, fun a fa => ⟨fun z => (List.mem_append.mp z).elim (h.dj a fa).1 fun z => fp a fa (List.mem_singleton.mp z), by rw [upd_ne (fp a fa)]; exact (h.dj a fa).2⟩, by rw [List.length_append, List.length_append, h.len]; rfl, ?_, fun r c a h1 h2 => ?_⟩
  · rw [List.nodup_append]
    refine ⟨h.nd, List.nodup_cons.mpr ⟨by simp, List.nodup_nil⟩, fun x hx y hy e => ?_⟩
    have e2 : y = p := by simpa using hy
    subst e2
    subst e
    exact h.fresh hp hx
  · by_cases hr : r < S.length
    · rw [List.getElem?_append_left hr] at h1
      rw [List.getElem?_append_left (by rw [h.len]; exact hr)] at h2
      have q := h.ob r c a h1 h2
      obtain ⟨u, hu, _⟩ := q.some
      exact q.mono pr st (upd_ne (ne_of_none hu hp))
    · have hr' : S.length ≤ r := Nat.le_of_not_lt hr
      rw [List.getElem?_append_right hr'] at h1
      rw [List.getElem?_append_right (by rw [h.len]; exact hr')] at h2
      have e0 : r - S.length = 0 := by
        have := (List.getElem?_eq_some_iff.mp h1).1
        simp at this
        omega
      rw [h.len, e0] at h2
      rw [e0] at h1
      simp at h1 h2
      subst h1
      subst h2
      exact ho
/-- a written object -/
theorem RS.put (h : RS K m S H) {r : Nat} {p : Addr} {o : HO} {b b' : Ob} (hb : S[r]? = some b) (hr : m[r]? = some p) (ho : RO K m (upd H p o) b' p) (hn : b ≠ .hid := by nofun) : RS K m (S.set r b') (upd H p o) := by
  have q := h.ob r b p hb hr
  obtain ⟨u, hu, hs⟩ := q.soft hn
  have st : Stay K H (upd H p o) := Stay.upd (by rw [hu]; exact hs)
  have fp : ∀ a, K.j.fr a → a ≠ p := fun a fa z => (h.dj a fa).1 (by rw [z]; exact List.mem_of_getElem? hr)
  refine ⟨K.j.st (List.prefix_refl _) st (fun a fa => upd_ne (fp a fa)) h.jn, fun a fa => ⟨(h.dj a fa).1, by rw [upd_ne (fp a fa)]; exact (h.dj a fa).2⟩, by rw [List.length_set]; exact h.len, h.nd, fun i c a h1 h2 => ?_⟩
  by_cases e : r = i
  · subst e
    have hl : r < S.length := (List.getElem?_eq_some_iff.mp hb).1
    rw [List.getElem?_set_self hl] at h1
    rw [hr] at h2
    cases h1
    cases h2
    exact ho
  · rw [List.getElem?_set_ne e] at h1
    have ne : a ≠ p := fun z => e (by
      subst z
      exact nodupA h.nd hr h2)
    exact (h.ob i c a h1 h2).mono (List.prefix_refl _) st (upd_ne ne)
/-- the heap grows by things of its own (tuples) -/
theorem RS.grow (h : RS K m S H) {p : Addr} {o : HO} (hp : H p = none) : RS K m S (upd H p o) :=
  have fp : ∀ a, K.j.fr a → a ≠ p := fun a fa z => (h.dj a fa).2 (by rw [z]; exact hp)
  ⟨K.j.st (List.prefix_refl _) (Stay.new hp) (fun a fa => upd_ne (fp a fa)) h.jn, fun a fa => ⟨(h.dj a fa).1, by rw [upd_ne (fp a fa)]; exact (h.dj a fa).2⟩, h.len, h.nd, fun r c a h1 h2 => by
    have q := h.ob r c a h1 h2
    obtain ⟨u, hu, _⟩ := q.some
    exact q.mono (List.prefix_refl _) (Stay.new hp) (upd_ne (ne_of_none hu hp))⟩
end

/-- slots; where one of them is kept known beside -/
def RF (K : Kx) (m : List Addr) (H : Hp) (f : Fr) (s : St) : Prop := f.length = s.length ∧ (∀ (i : Nat) (w : W), f[i]? = some (some w) → ∃ v, s[i]? = some (some v) ∧ RV K m H w v) ∧ ∀ i v, K.j.sl = some (i, v) → f[i]? = some none → s[i]? = some (some v)
theorem RF.mono {K : Kx} {m m' : List Addr} {H H' : Hp} {f : Fr} {s : St} (p : Pre m m') (st : Stay K H H') (h : RF K m H f s) : RF K m' H' f s :=
  ⟨h.1, fun i w e => let ⟨v, h1, h2⟩ := h.2.1 i w e; ⟨v, h1, h2.mono p st⟩, h.2.2⟩
theorem RF.set {K : Kx} {m : List Addr} {H : Hp} {f : Fr} {s : St} (h : RF K m H f s) {w : W} {v : V} (r : RV K m H w v) (i : Nat) : RF K m H (f.set i (some w)) (s.set i (some v)) := by
  refine ⟨by rw [List.length_set, List.length_set]; exact h.1, fun j u e => ?_, fun j u e1 e2 => ?_⟩
  · by_cases hj : i = j
    · subst hj
      by_cases hl : i < f.length
      · rw [List.getElem?_set_self hl] at e
        cases e
        exact ⟨v, List.getElem?_set_self (by rw [← h.1]; exact hl), r⟩
      · rw [List.getElem?_eq_none (by rw [List.length_set]; omega)] at e
        cases e
    · rw [List.getElem?_set_ne hj] at e ⊢
      exact h.2.1 j u e
  · by_cases hj : i = j
    · subst hj
      by_cases hl : i < f.length
      · rw [List.getElem?_set_self hl] at e2
        cases e2
      · rw [List.getElem?_eq_none (by rw [List.length_set]; omega)] at e2
        cases e2
    · rw [List.getElem?_set_ne hj] at e2 ⊢
      exact h.2.2 j u e1 e2
/-- fewer things known -/
theorem RF.drop {K : Kx} (hK : K.j.sl = none) {m : List Addr} {H : Hp} {f : Fr} {s : St} (h : RF K m H f s) (i : Nat) (o : Option V) : RF K m H (f.set i none) (s.set i o) := by
  refine ⟨by rw [List.length_set, List.length_set]; exact h.1, fun j u e => ?_, fun j u e1 => by rw [hK] at e1; cases e1⟩
  by_cases hj : i = j
  · subst hj
    by_cases hl : i < f.length
    · rw [List.getElem?_set_self hl] at e
      cases e
    · rw [List.getElem?_eq_none (by rw [List.length_set]; omega)] at e
      cases e
  · rw [List.getElem?_set_ne hj] at e ⊢
    exact h.2.1 j u e
end Wo
set_option autoImplicit true
set_option maxRecDepth 100000
set_option maxHeartbeats 4000000
namespace Wo
open PySem L2
/-! W1: what a run of the small semantics says of a run of the layer's. -/
def RX (K : PySem.W.Frag) (m : List Addr) (H : Hp) (e : Xn) (d : Option Addr) : Prop := RXd K m H e.fld d

def Post {α β : Type} (K : Kx) (E : XK) (R : List Addr → Hp → α → β → Prop) (m : List Addr) (H : Hp) (r : Rs α) (Q : β → Hp → Prop) : Prop := match r with
  | .ok a S => ∀ m' H' b, Pre m m' → Stay K H H' → RS K m' S H' → R m' H' a b → Q b H'
  | .ex e S => ∀ m' H' d, Pre m m' → Stay K H H' → RS K m' S H' → RX K m' H' e d → E (.ref (clA K e.cls)) d H'
  | .no => False

section
variable {α β γ δ : Type} {K : Kx} {E : XK} {R : List Addr → Hp → α → β → Prop} {R' : List Addr → Hp → γ → δ → Prop} {m m1 : List Addr} {H H1 : Hp} {r : Rs α} {Q Q' : β → Hp → Prop}
theorem Post.mono (h : Post K E R m H r Q) (p : Pre m m1) (s : Stay K H H1) : Post K E R m1 H1 r Q := by
  cases r with
  | ok a S => exact fun m' H' b p' s' => h m' H' b (p.trans p') (s.trans s')
  | ex e S => exact fun m' H' d p' s' => h m' H' d (p.trans p') (s.trans s')
  | no => exact h
theorem Post.imp (h : Post K E R m H r Q) (q : ∀ b H', Q b H' → Q' b H') : Post K E R m H r Q' := by
  cases r with
  | ok a S => exact fun m' H' b p' s' rs rv => q b H' (h m' H' b p' s' rs rv)
  | ex e S => exact h
  | no => exact h
theorem Post.bind {k : α → Store → Rs γ} {Q2 : δ → Hp → Prop} (h : Post K E R' m H (r.bind k) Q2) :
    Post K E R m H r (fun b H1 => ∃ m1 S1 a, Pre m m1 ∧ Stay K H H1 ∧ RS K m1 S1 H1 ∧ R m1 H1 a b ∧ Post K E R' m1 H1 (k a S1) Q2) := by
  cases r with
  | ok a S => exact fun m' H' b p s rs rv => ⟨m', S, a, p, s, rs, rv, Post.mono h p s⟩
  | ex e S => exact h
  | no => exact h
end

abbrev EX := St → XK
def tM {α β : Type} (K : Kx) (E : EX) (R : List Addr → Hp → α → β → Prop) (g : Fr → Store → Rs α) : St → Hp → (β → Hp → Prop) → Prop :=
  fun s H Q => ∃ m S f, RS K m S H ∧ RF K m H f s ∧ Post K (E s) R m H (g f S) Q
abbrev ME := Fr → Store → Rs W
abbrev MA := Fr → Store → Rs (List W)
abbrev MT := Fr → Store → Rs Bool
abbrev RB (_ : List Addr) (_ : Hp) (a b : Bool) : Prop := a = b
abbrev tE (K : Kx) (E : EX) (g : ME) : TE := tM K E (RV K) g
abbrev tA (K : Kx) (E : EX) (g : MA) : TA := tM K E (RVs K) g
abbrev tT (K : Kx) (E : EX) (g : MT) : TT := tM K E RB g

section
variable {α β γ δ : Type} {K : Kx} {E : EX} {R : List Addr → Hp → α → β → Prop} {R' : List Addr → Hp → γ → δ → Prop}
theorem tM.imp {g : Fr → Store → Rs α} {s : St} {H : Hp} {Q Q' : β → Hp → Prop} (h : tM K E R g s H Q) (q : ∀ b H', Q b H' → Q' b H') : tM K E R g s H Q' :=
  let ⟨m, S, f, h1, h2, h3⟩ := h
  ⟨m, S, f, h1, h2, h3.imp q⟩
/-- one behind the other: first g, then k -/
theorem tM.seq {g : Fr → Store → Rs α} {k : Fr → α → Store → Rs γ} {s : St} {H : Hp} {Q : δ → Hp → Prop} (h : tM K E R' (fun f S => (g f S).bind (k f)) s H Q) :
    tM K E R g s H (fun b H1 => ∃ m S f a, RS K m S H1 ∧ RF K m H1 f s ∧ R m H1 a b ∧ Post K (E s) R' m H1 (k f a S) Q) := by
  obtain ⟨m, S, f, h1, h2, h3⟩ := h
  exact ⟨m, S, f, h1, h2, h3.bind.imp fun b H1 ⟨m1, S1, a, p, st, rs, rv, q⟩ => ⟨m1, S1, f, a, rs, h2.mono p st, rv, q⟩⟩
end

/-! ### rules by values -/
abbrev G2 := W → W → Store → Rs W
def rW (K : Kx) (E : XK) (g : G2) : R2 := fun x y H Q => ∃ m S a b, RS K m S H ∧ RV K m H a x ∧ RV K m H b y ∧ Post K E (RV K) m H (g a b S) Q
def rW1 (K : Kx) (E : XK) (g : W → Store → Rs W) : V → Hp → VK → Prop := fun x H Q => ∃ m S a, RS K m S H ∧ RV K m H a x ∧ Post K E (RV K) m H (g a S) Q
def rWs (K : Kx) (E : XK) (g : List W → Store → Rs W) : List V → Hp → VK → Prop := fun xs H Q => ∃ m S ws, RS K m S H ∧ RVs K m H ws xs ∧ Post K E (RV K) m H (g ws S) Q
abbrev X0 : XK := fun _ _ _ => False
abbrev EX0 : EX := fun _ => X0
/-- a result that lets no exception out serves any wish -/
theorem Post.noex {K : Kx} {E E' : XK} {α β : Type} {R : List Addr → Hp → α → β → Prop} {m : List Addr} {H : Hp} {r : Rs α} {Q : β → Hp → Prop} (hn : ∀ e S, r ≠ .ex e S) (h : Post K E R m H r Q) : Post K E' R m H r Q := by
  cases r with
  | ok a S => exact h
  | ex e S => exact absurd rfl (hn e S)
  | no => exact h

section
variable {X : Cx}
theorem PE.imp {e : Expr} {t t' : TE} (h : PE X e t) (i : ∀ s H Q, t' s H Q → t s H Q) : PE X e t' := ⟨fun pins sh s H Q I q => h.run pins sh s H Q I (i s H Q q)⟩
theorem PT.imp {e : Expr} {t t' : TT} (h : PT X e t) (i : ∀ s H Q, t' s H Q → t s H Q) : PT X e t' := ⟨fun pins sh s H Q I q => h.run pins sh s H Q I (i s H Q q)⟩
theorem PW.imp {e : Expr} {t t' : TT} (h : PW X e t) (i : ∀ s H Q, t' s H Q → t s H Q) : PW X e t' := ⟨fun w pins sh s H Q I q => h.run w pins sh s H Q I (i s H Q q)⟩
theorem PA.imp {e : List Expr} {t t' : TA} (h : PA X e t) (i : ∀ s H Q, t' s H Q → t s H Q) : PA X e t' := ⟨fun pos pins sh s H Q I q => h.run pos pins sh s H Q I (i s H Q q)⟩
theorem PS.imp {e : Stmt} {t t' : TS} (h : PS X e t) (i : ∀ D s H, t' D s H → t D s H) : PS X e t' := ⟨fun pins sh s H D I q => h.run pins sh s H D I (i D s H q)⟩
theorem PSs.imp {e : List Stmt} {t t' : TS} (h : PSs X e t) (i : ∀ D s H, t' D s H → t D s H) : PSs X e t' := ⟨fun pins sh s H D I q => h.run pins sh s H D I (i D s H q)⟩
end

/-! ### expressions -/
namespace M
def var (i : Nat) : ME := fun f S => match f[i]? with
  | some (some w) => .ok w S
  | _ => .no
def cst (w : W) : ME := fun _ S => .ok w S
def op2 (g : G2) (a b : ME) : ME := fun f S => (a f S).bind fun x S1 => (b f S1).bind fun y S2 => g x y S2
def op1 (g : W → Store → Rs W) (a : ME) : ME := fun f S => (a f S).bind g
def nil : MA := fun _ S => .ok [] S
def cons (a : ME) (r : MA) : MA := fun f S => (a f S).bind fun x S1 => (r f S1).bind fun xs S2 => .ok (x :: xs) S2
def ops (g : List W → Store → Rs W) (a : MA) : ME := fun f S => (a f S).bind g
def lim : Nat := 100000
def mkTup : List W → Store → Rs W := fun ws S => if ws.length ≤ lim then .ok (.tup ws) S else .no
def mkLst : List W → Store → Rs W := fun ws S => if ws.length ≤ lim then .ok (.ref S.length) (S ++ [.lst ws]) else .no
end M
theorem lim_line {n : Nat} (h : n ≤ M.lim) : n ≤ sizeLine := Nat.le_trans h (by rw [sizeLine_eq]; decide)
theorem lim_lt {n : Nat} (h : n < M.lim) : n < sizeLine := Nat.lt_of_lt_of_le h (by rw [sizeLine_eq]; decide)

section
variable {X : Cx} {E : EX}
theorem e_var (i : Nat) {x : Str} {pos : Pos} (hN : X.N[i]? = some x := by rfl) (hv : Vis X.env.scope x := by first | exact Or.inl rfl | exact Or.inr (Or.inl rfl) | exact Or.inr (Or.inr rfl)) (hd : (x == ("__debug__" : Str)) = false := by decide)
    (hcd : (x == ("__classdict__" : Str)) = false := by decide) : PE X (.Name x pos) (tE (kxj X ϑ) E (M.var i)) := by
  refine PE.imp (pv i hN hv hd hcd) fun s H Q h => ?_
  obtain ⟨m, S, f, h1, h2, h3⟩ := h
  unfold M.var at h3
  cases e : f[i]? with
  | none =>
    rw [e] at h3
    exact h3.elim
  | some o =>
    cases o with
    | none =>
      rw [e] at h3
      exact h3.elim
    | some w =>
      rw [e] at h3
      obtain ⟨v, e1, e2⟩ := h2.2.1 i w e
      exact ⟨v, e1, h3 m H v (List.prefix_refl _) (Stay.refl _) h1 e2⟩
theorem e_cst {w : W} {v : V} {e : Expr} (h : PE X e (tC v)) (r : ∀ m H, RV X.K m H w v) : PE X e (tE (kxj X ϑ) E (M.cst w)) := by
  refine PE.imp h fun s H Q q => ?_
  obtain ⟨m, S, f, h1, h2, h3⟩ := q
  exact h3 m H v (List.prefix_refl _) (Stay.refl _) h1 (r m H)
theorem e_int {i : Int} {j : Nat} {pos : Pos} : PE X (.Constant (.int i) j pos) (tE (kxj X ϑ) E (M.cst (.int i))) := e_cst pe_int fun _ _ => .int i
theorem e_bl {b : Bool} {j : Nat} {pos : Pos} : PE X (.Constant (.bool b) j pos) (tE (kxj X ϑ) E (M.cst (.bl b))) := e_cst pe_bl fun _ _ => .bl b
theorem e_non {j : Nat} {pos : Pos} : PE X (.Constant .none j pos) (tE (kxj X ϑ) E (M.cst .non)) := e_cst pe_non fun _ _ => .non
theorem e_str {x : Str} {j : Nat} {pos : Pos} : PE X (.Constant (.str x) j pos) (tE (kxj X ϑ) E (M.cst (.str x))) := e_cst pe_str fun _ _ => .str x
/-- two values, one behind the other -/
theorem tE.two {K : Kx} {ga gb : ME} {g : G2} {s : St} {H : Hp} {Q : VK} (h : tE K E (M.op2 g ga gb) s H Q) : tE K E ga s H fun x H1 => tE K E gb s H1 fun y H2 => rW K (E s) g x y H2 Q := by
  refine tM.imp (tM.seq (R := RV K) (g := ga) (k := fun f x S1 => (gb f S1).bind fun y S2 => g x y S2) h) fun x H1 q => ?_
  obtain ⟨m, S, f, a, rs, rf, rv, q⟩ := q
  refine ⟨m, S, f, rs, rf, q.bind.imp fun y H2 ⟨m1, S1, b, p, st, rs1, rb, q1⟩ => ?_⟩
  exact ⟨m1, S1, a, b, rs1, rv.mono p st, rb, q1⟩
theorem e_op {a b : Expr} {pos : Pos} {op : Operator} {g : G2} {ga gb : ME} (ho : ∀ E, OpR X (binaryOp op) (rW (kxj X ϑ) E g)) (ha : PE X a (tE (kxj X ϑ) E ga)) (hb : PE X b (tE (kxj X ϑ) E gb)) : PE X (.BinOp a op b pos) (tE (kxj X ϑ) E (M.op2 g ga gb)) := by
  refine ⟨fun pins sh s H Q I h => ?_⟩
  exact (pe_op (ho (E s)) ha hb).run pins sh s H Q I (tE.two h)
theorem e_cmp {a b : Expr} {pos : Pos} {op : CmpOp} {g : G2} {ga gb : ME} (ho : ∀ E, OpR X (compareOp op) (rW (kxj X ϑ) E g)) (ha : PE X a (tE (kxj X ϑ) E ga)) (hb : PE X b (tE (kxj X ϑ) E gb)) (hm : behindInMarks op b = false) : PE X (.Compare a [op] [b] pos) (tE (kxj X ϑ) E (M.op2 g ga gb)) := by
  refine ⟨fun pins sh s H Q I h => ?_⟩
  exact (pe_cmpR (ho (E s)) ha hb hm).run pins sh s H Q I (tE.two h)
theorem e_nil : PA X [] (tA (kxj X ϑ) E M.nil) := PA.imp pa_nil fun s H Q h => by
  obtain ⟨m, S, f, h1, h2, h3⟩ := h
  exact h3 m H [] (List.prefix_refl _) (Stay.refl _) h1 .nil
theorem e_cons {e : Expr} {es : List Expr} {g : ME} {gs : MA} (ha : PE X e (tE (kxj X ϑ) E g)) (hr : PA X es (tA (kxj X ϑ) E gs)) (hs : starEach (e :: es) X.env = (false, eval e X.env) :: starEach es X.env := by rfl) : PA X (e :: es) (tA (kxj X ϑ) E (M.cons g gs)) := by
  refine PA.imp (pa_cons ha hr hs) fun s H Q h => ?_
  refine tM.imp (tM.seq (R := RV X.K) (g := g) (k := fun f x S1 => (gs f S1).bind fun xs S2 => .ok (x :: xs) S2) h) fun x H1 q => ?_
  obtain ⟨m, S, f, a, rs, rf, rv, q⟩ := q
  refine ⟨m, S, f, rs, rf, q.bind.imp fun ys H2 ⟨m1, S1, b, p, st, rs1, rb, q1⟩ => ?_⟩
  exact q1 m1 H2 (x :: ys) (List.prefix_refl _) (Stay.refl _) rs1 (.cons (rv.mono p st) rb)
theorem tE.many {K : Kx} {ga : MA} {g : List W → Store → Rs W} {s : St} {H : Hp} {Q : VK} (h : tE K E (M.ops g ga) s H Q) : tA K E ga s H fun xs H1 => rWs K (E s) g xs H1 Q :=
  tM.imp (tM.seq (R := RVs K) (g := ga) (k := fun _ => g) h) fun x H1 ⟨m, S, f, a, rs, rf, rv, q⟩ => ⟨m, S, a, rs, rv, q⟩
theorem tE.one {K : Kx} {ga : ME} {g : W → Store → Rs W} {s : St} {H : Hp} {Q : VK} (h : tE K E (M.op1 g ga) s H Q) : tE K E ga s H fun x H1 => rW1 K (E s) g x H1 Q :=
  tM.imp (tM.seq (R := RV K) (g := ga) (k := fun _ => g) h) fun x H1 ⟨m, S, f, a, rs, rf, rv, q⟩ => ⟨m, S, a, rs, rv, q⟩
theorem e_tup {es : List Expr} {x1 : Nat} {pos : Pos} {gs : MA} (h : PA X es (tA (kxj X ϑ) E gs)) : PE X (.Tuple es x1 pos) (tE (kxj X ϑ) E (M.ops M.mkTup gs)) := by
  refine PE.imp (pe_tup h) fun s H Q q => tM.imp (tE.many q) fun xs H1 q => ?_
  obtain ⟨m, S, ws, rs, rv, q⟩ := q
  unfold M.mkTup at q
  split at q
  · rename_i hl
    refine ⟨lim_line (by rw [← rv.length]; exact hl), fun p hp => ?_⟩
    exact q m _ _ (List.prefix_refl _) (Stay.new hp) (rs.grow hp) (.tup (SqT.of upd_same) (rv.mono (List.prefix_refl _) (Stay.new hp)))
  · exact q.elim
theorem RS.newList {K : Kx} {m : List Addr} {S : Store} {H : Hp} {p : Addr} {ws : List W} {vs : List V} (rs : RS K m S H) (hp : H p = none) (rv : RVs K m H ws vs) :
    Pre m (m ++ [p]) ∧ Stay K H (upd H p (.lst vs)) ∧ RS K (m ++ [p]) (S ++ [.lst ws]) (upd H p (.lst vs)) ∧ RV K (m ++ [p]) (upd H p (.lst vs)) (.ref S.length) (.ref p) := by
  have pr : Pre m (m ++ [p]) := List.prefix_append _ _
  refine ⟨pr, Stay.new hp, rs.push hp ⟨vs, upd_same, rv.mono pr (Stay.new hp)⟩, .ref ?_⟩
  rw [← rs.len]
  exact List.getElem?_concat_length
theorem e_lst {es : List Expr} {pos : Pos} {gs : MA} (h : PA X es (tA (kxj X ϑ) E gs)) : PE X (.List es pos) (tE (kxj X ϑ) E (M.ops M.mkLst gs)) := by
  refine PE.imp (pe_lst h) fun s H Q q => tM.imp (tE.many q) fun xs H1 q => ?_
  obtain ⟨m, S, ws, rs, rv, q⟩ := q
  unfold M.mkLst at q
  split at q
  · rename_i hl
    refine ⟨lim_line (by rw [← rv.length]; exact hl), fun p hp => ?_⟩
    obtain ⟨a1, a2, a3, a4⟩ := rs.newList hp rv
    exact q _ _ _ a1 a2 a3 a4
  · exact q.elim
end
end Wo
set_option autoImplicit true
set_option maxRecDepth 100000
set_option maxHeartbeats 4000000
namespace Wo
open PySem L2
/-! W2: operations by values. -/
structure Rm (X : Cx) : Prop where
  un : X.A.units + 200 < cLine
  g : X.A.guards = some []
structure Rc (X : Cx) : Prop extends Rm X where
  calm : X.calm = true
instance {X : Cx} : Coe (Rc X) (Rm X) := ⟨Rc.toRm⟩
section
variable {K : Kx} {E : XK} {m : List Addr} {S : Store} {H : Hp}
theorem Post.here {α β : Type} {R : List Addr → Hp → α → β → Prop} {a : α} {b : β} {Q : β → Hp → Prop} (q : Post K E R m H (.ok a S) Q) (rs : RS K m S H) (r : R m H a b) : Q b H := q m H b (List.prefix_refl _) (Stay.refl _) rs r
end

/-! ### whole data -/
def toD (S : Store) : Nat → W → Option PyData
  | 0, _ => none
  | n + 1, w => match w with
    | .non => some .none
    | .bl b => some (.bool b)
    | .int i => some (.int i)
    | .str x => if PyData.strOk x = true then some (.str x) else none
    | .ty _ => none
    | .tup xs => (xs.mapM (toD S n)).map .tuple
    | .fl xs => (xs.mapM (toD S n)).map .list
    | .ref r => match S[r]? with
      | some (.lst xs) => (xs.mapM (toD S n)).map .list
      | _ => none
def dd : Nat := 20
theorem mapM_all {α β : Type} {f : α → Option β} {P : α → β → Prop} (h : ∀ a b, f a = some b → P a b) : ∀ {xs : List α} {ys : List β}, xs.mapM f = some ys → Paired P xs ys
  | [], ys, e => by
    simp at e
    subst e
    exact .nil
  | x :: xs, ys, e => by
    rw [List.mapM_cons] at e
    cases e1 : f x with
    | none => simp [e1] at e
    | some y =>
      cases e2 : xs.mapM f with
      | none => simp [e1, e2] at e
      | some zs =>
        simp [e1, e2] at e
        subst e
        exact .cons (h x y e1) (mapM_all h e2)
theorem shape_all : ∀ {ds : List PyData} {n : Nat}, (∀ d ∈ ds, d.canLay0 = true ∧ d.depth ≤ n) → PyData.canLayAll0 ds = true ∧ PyData.depthAll ds ≤ n
  | [], n, _ => by
    simp [PyData.canLayAll0, PyData.depthAll]
  | d :: ds, n, h => by
    obtain ⟨h1, h2⟩ := h d (List.mem_cons_self ..)
    obtain ⟨h3, h4⟩ := shape_all fun x hx => h x (List.mem_cons_of_mem _ hx)
    simp only [PyData.canLayAll0, PyData.depthAll, h1, h3, Bool.and_self, true_and]
    omega
theorem paired_mem {α β : Type} {P : α → β → Prop} : ∀ {xs : List α} {ys : List β}, Paired P xs ys → ∀ y ∈ ys, ∃ x, P x y
  | _, _, .nil, y, h => by simp at h
  | _, _, .cons h t, y, hy => by
    rcases List.mem_cons.mp hy with rfl | hy
    · exact ⟨_, h⟩
    · exact paired_mem t y hy
theorem toD_shape {S : Store} : ∀ {n : Nat} {w : W} {d : PyData}, toD S n w = some d → d.canLay0 = true ∧ d.depth ≤ n
  | 0, w, d, h => by simp [toD] at h
  | n + 1, w, d, h => by
    cases w with
    | non =>
      simp only [toD, Option.some.injEq] at h
      subst h
      simp [PyData.canLay0, PyData.depth]
    | bl b =>
      simp only [toD, Option.some.injEq] at h
      subst h
      simp [PyData.canLay0, PyData.depth]
    | int i =>
      simp only [toD, Option.some.injEq] at h
      subst h
      simp [PyData.canLay0, PyData.depth]
    | str x =>
      simp only [toD] at h
      split at h
      · rename_i hx
        cases h
        simp [PyData.canLay0, PyData.depth, hx]
      · cases h
    | ty x => simp [toD] at h
    | tup xs =>
      simp only [toD, Option.map_eq_some_iff] at h
      obtain ⟨ds, h1, rfl⟩ := h
      obtain ⟨a, b⟩ := shape_all fun d hd => (let ⟨x, hx⟩ := paired_mem (mapM_all (P := fun _ d => d.canLay0 = true ∧ d.depth ≤ n) (fun a b e => toD_shape e) h1) d hd; hx)
      simp only [PyData.canLay0, PyData.depth]
      exact ⟨a, by omega⟩
    | fl xs =>
      simp only [toD, Option.map_eq_some_iff] at h
      obtain ⟨ds, h1, rfl⟩ := h
      obtain ⟨a, b⟩ := shape_all fun d hd => (let ⟨x, hx⟩ := paired_mem (mapM_all (P := fun _ d => d.canLay0 = true ∧ d.depth ≤ n) (fun a b e => toD_shape e) h1) d hd; hx)
      simp only [PyData.canLay0, PyData.depth]
      exact ⟨a, by omega⟩
    | ref r =>
      simp only [toD] at h
      split at h
      · simp only [Option.map_eq_some_iff] at h
        obtain ⟨ds, h1, rfl⟩ := h
        obtain ⟨a, b⟩ := shape_all fun d hd => (let ⟨x, hx⟩ := paired_mem (mapM_all (P := fun _ d => d.canLay0 = true ∧ d.depth ≤ n) (fun a b e => toD_shape e) h1) d hd; hx)
        simp only [PyData.canLay0, PyData.depth]
        exact ⟨a, by omega⟩
      · cases h
theorem toD_shaped {S : Store} {w : W} {d : PyData} (h : toD S dd w = some d) : SeqAt.shaped d = true := by
  obtain ⟨a, b⟩ := toD_shape h
  unfold SeqAt.shaped
  rw [a, Bool.true_and]
  have : dd = 20 := rfl
  exact decide_eq_true (by omega)
theorem dps_of {K : PySem.W.Frag} {m : List Addr} {H : Hp} {P : W → PyData → Prop} (hP : ∀ w d v, P w d → RV K m H w v → Dp K H v d) : ∀ {ws : List W} {ds : List PyData} {vs : List V}, Paired P ws ds → RVs K m H ws vs → DpAll K H vs ds
  | _, _, _, .nil, .nil => .nil
  | _, _, _, .cons h t, .cons r q => .cons (hP _ _ _ h r) (dps_of hP t q)
theorem toD_dp {K : Kx} {m : List Addr} {H : Hp} {S : Store} (rs : RS K m S H) : ∀ {n : Nat} {w : W} {d : PyData} {v : V}, toD S n w = some d → RV K m H w v → Dp K H v d
  | 0, w, d, v, h, r => by simp [toD] at h
  | n + 1, w, d, v, h, r => by
    cases r with
    | non =>
      simp only [toD, Option.some.injEq] at h
      subst h
      exact .non
    | bl b =>
      simp only [toD, Option.some.injEq] at h
      subst h
      exact .bl b
    | int i =>
      simp only [toD, Option.some.injEq] at h
      subst h
      exact .int i
    | str x =>
      simp only [toD] at h
      split at h
      · cases h
        exact .str x
      · cases h
    | ty x => simp [toD] at h
    | tup hq rv =>
      simp only [toD, Option.map_eq_some_iff] at h
      obtain ⟨ds, h1, rfl⟩ := h
      exact .tup hq (dps_of (P := fun w d => toD S n w = some d) (fun w d v e r => toD_dp rs e r) (mapM_all (fun _ _ e => e) h1) rv)
    | fl hq rv =>
      simp only [toD, Option.map_eq_some_iff] at h
      obtain ⟨ds, h1, rfl⟩ := h
      exact .lst hq.l (dps_of (P := fun w d => toD S n w = some d) (fun w d v e r => toD_dp rs e r) (mapM_all (fun _ _ e => e) h1) rv)
    | ref hr =>
      simp only [toD] at h
      split at h
      · rename_i xs e
        simp only [Option.map_eq_some_iff] at h
        obtain ⟨ds, h1, rfl⟩ := h
        obtain ⟨vs, e1, e2⟩ := rs.ob _ _ _ e hr
        exact .lst (SqL.of e1) (dps_of (P := fun w d => toD S n w = some d) (fun w d v e r => toD_dp rs e r) (mapM_all (fun _ _ e => e) h1) e2)
      · cases h

/-! ### operators -/
namespace M
def addW : G2 := fun a b S => match a, b with
  | .int i, .int j => .ok (.int (i + j)) S
  | .str x, .str y => if x.length + y.length ≤ lim then .ok (.str (x ++ y)) S else .no
  | .tup xs, .tup ys => if xs.length + ys.length ≤ lim then .ok (.tup (xs ++ ys)) S else .no
  | .ref r, .ref q => match S[r]?, S[q]? with
    | some (.lst xs), some (.lst ys) => if xs.length + ys.length ≤ lim then .ok (.ref S.length) (S ++ [.lst (xs ++ ys)]) else .no
    | _, _ => .no
  | _, _ => .no
def subW : G2 := fun a b S => match a, b with
  | .int i, .int j => .ok (.int (i - j)) S
  | _, _ => .no
def mulW : G2 := fun a b S => match a, b with
  | .int i, .int j => if (-18446744073709551616 < i ∧ i < 18446744073709551616) ∨ (-18446744073709551616 < j ∧ j < 18446744073709551616) then .ok (.int (i * j)) S else .no
  | .tup xs, .int k => if xs.length = 1 ∧ 0 ≤ k ∧ k ≤ 1000 then .ok (.tup (List.replicate k.toNat xs).flatten) S else .no
  | _, _ => .no
def fdivW : G2 := fun a b S => match a, b with
  | .int i, .int j => if 0 < j ∧ j < 1073741824 then .ok (.int (i / j)) S else .no
  | _, _ => .no
def modW : G2 := fun a b S => match a, b with
  | .int i, .int j => if 0 < j then .ok (.int (i % j)) S else .no
  | _, _ => .no
def powW : G2 := fun a b S => match a, b with
  | .int i, .int j => if 0 ≤ j ∧ j ≤ 1000 ∧ i.natAbs < 18446744073709551616 then .ok (.int (i ^ j.toNat)) S else .no
  | _, _ => .no
def ltW : G2 := fun a b S => match a, b with
  | .int i, .int j => .ok (.bl (decide (i < j))) S
  | _, _ => .no
def leW : G2 := fun a b S => match a, b with
  | .int i, .int j => .ok (.bl (decide (i ≤ j))) S
  | .str x, .str y => .ok (.bl (!decide (y.cps.toList < x.cps.toList))) S
  | _, _ => .no
def gtW : G2 := fun a b S => match a, b with
  | .int i, .int j => .ok (.bl (decide (j < i))) S
  | _, _ => .no
def geW : G2 := fun a b S => match a, b with
  | .int i, .int j => .ok (.bl (decide (j ≤ i))) S
  | _, _ => .no
/-- whether two things are equal; two texts at once -/
def isEq (a b : W) (S : Store) : Option Bool := match a, b with
  | .str x, .str y => some (decide (x = y))
  | a, b => match toD S dd a, toD S dd b with
    | some d, some e => some (PyData.eqv d e)
    | _, _ => none
def eqW : G2 := fun a b S => match isEq a b S with
  | some k => .ok (.bl k) S
  | none => .no
def neW : G2 := fun a b S => match isEq a b S with
  | some k => .ok (.bl (!k)) S
  | none => .no
def keyOf : W → Option Key
  | .int i => some (Sum.inl i)
  | .str x => some (Sum.inr x)
  | _ => none
def valW (kvs : List (Key × W)) (k : Key) : Option W := (kvs.find? fun kv => decide (kv.1 = k)).map (·.2)
/-- whether x is in c -/
def isIn (x c : W) (S : Store) : Option Bool := match c with
  | .tup ys => match toD S dd x, toD S dd (.tup ys) with
    | some d, some (.tuple ds) => some (ds.any fun z => PyData.eqv z d)
    | _, _ => none
  | .fl ys => match toD S dd x, toD S dd (.fl ys) with
    | some d, some (.list ds) => some (ds.any fun z => PyData.eqv z d)
    | _, _ => none
  | .ref r => match S[r]? with
    | some (.lst ys) => match toD S dd x, toD S dd (.ref r) with
      | some d, some (.list ds) => some (ds.any fun z => PyData.eqv z d)
      | _, _ => none
    | some (.dK kvs) => match keyOf x with
      | some k => some (valW kvs k).isSome
      | none => none
    | _ => none
  | .str z => match x with
    | .str y => match y.cps.toList with
      | [c] => some (decide (c ∈ z.cps.toList))
      | _ => none
    | _ => none
  | _ => none
def inW : G2 := fun x c S => match isIn x c S with
  | some b => .ok (.bl b) S
  | none => .no
def ninW : G2 := fun x c S => match isIn x c S with
  | some b => .ok (.bl (!b)) S
  | none => .no
end M

section
variable {X : Cx} {E : XK}
theorem o_add : OpR X (binaryOp .Add) (rW (kxj X ϑ) E M.addW) := by
  intro pins s σ H x y v u Q I rx ry h
  obtain ⟨m, S, a, b, rs, ra, rb, q⟩ := h
  cases ra <;> cases rb <;> try exact False.elim q
  · exact op_add pins s σ H _ _ v u Q I rx ry ⟨_, _, rfl, rfl, q.here rs (.int _)⟩
  · simp only [M.addW] at q
    split at q
    · rename_i hl
      exact op_add_str pins s σ H _ _ v u Q I rx ry ⟨_, _, rfl, rfl, lim_line hl, q.here rs (.str _)⟩
    · exact False.elim q
  · rename_i r1 a1 e1 r2 a2 e2
    simp only [M.addW] at q
    split at q
    · rename_i xs ys f1 f2
      split at q
      · rename_i hl
        obtain ⟨vs, h1, h2⟩ := rs.ob _ _ _ f1 e1
        obtain ⟨us, h3, h4⟩ := rs.ob _ _ _ f2 e2
        refine op_cat pins s σ H _ _ v u Q I rx ry ⟨_, _, vs, us, rfl, rfl, h1, h3, lim_line (by rw [← h2.length, ← h4.length]; exact hl), fun p hp => ?_⟩
        obtain ⟨b1, b2, b3, b4⟩ := rs.newList hp (h2.append h4)
        exact q _ _ _ b1 b2 b3 b4
      · exact False.elim q
    · exact False.elim q
  · rename_i a1 ws vs h1 h2 a2 zs us h3 h4
    simp only [M.addW] at q
    split at q
    · rename_i hl
      refine op_catA pins s σ H _ _ v u Q I rx ry ⟨_, _, vs, us, rfl, rfl, h1, h3, lim_line (by rw [← h2.length, ← h4.length]; exact hl), fun e => ?_, fun _ e => ?_, fun _ _ p hp => ?_⟩
      · subst e
        cases h2
        exact q.here rs (.tup h3 h4)
      · subst e
        cases h4
        rw [List.append_nil] at q
        exact q.here rs (.tup h1 h2)
      · exact q m _ _ (List.prefix_refl _) (Stay.new hp) (rs.grow hp) (.tup (SqT.of upd_same) ((h2.append h4).mono (List.prefix_refl _) (Stay.new hp)))
    · exact False.elim q
theorem o_sub : OpR X (binaryOp .Sub) (rW (kxj X ϑ) E M.subW) := by
  intro pins s σ H x y v u Q I rx ry h
  obtain ⟨m, S, a, b, rs, ra, rb, q⟩ := h
  cases ra <;> cases rb <;> try exact False.elim q
  exact op_sub pins s σ H _ _ v u Q I rx ry ⟨_, _, rfl, rfl, q.here rs (.int _)⟩
theorem o_fdiv : OpR X (binaryOp .FloorDiv) (rW (kxj X ϑ) E M.fdivW) := by
  intro pins s σ H x y v u Q I rx ry h
  obtain ⟨m, S, a, b, rs, ra, rb, q⟩ := h
  cases ra <;> cases rb <;> try exact False.elim q
  simp only [M.fdivW] at q
  split at q
  · rename_i hc
    exact op_fdiv pins s σ H _ _ v u Q I rx ry ⟨_, _, rfl, rfl, hc, q.here rs (.int _)⟩
  · exact False.elim q
theorem o_mod : OpR X (binaryOp .Mod) (rW (kxj X ϑ) E M.modW) := by
  intro pins s σ H x y v u Q I rx ry h
  obtain ⟨m, S, a, b, rs, ra, rb, q⟩ := h
  cases ra <;> cases rb <;> try exact False.elim q
  simp only [M.modW] at q
  split at q
  · rename_i hc
    exact op_mod pins s σ H _ _ v u Q I rx ry ⟨_, _, rfl, rfl, hc, q.here rs (.int _)⟩
  · exact False.elim q
theorem o_pow : OpR X (binaryOp .Pow) (rW (kxj X ϑ) E M.powW) := by
  intro pins s σ H x y v u Q I rx ry h
  obtain ⟨m, S, a, b, rs, ra, rb, q⟩ := h
  cases ra <;> cases rb <;> try exact False.elim q
  simp only [M.powW] at q
  split at q
  · rename_i hc
    exact op_pow pins s σ H _ _ v u Q I rx ry ⟨_, _, rfl, rfl, ⟨hc.1, by omega, hc.2.2⟩, q.here rs (.int _)⟩
  · exact False.elim q
theorem o_lt : OpR X (compareOp .Lt) (rW (kxj X ϑ) E M.ltW) := by
  intro pins s σ H x y v u Q I rx ry h
  obtain ⟨m, S, a, b, rs, ra, rb, q⟩ := h
  cases ra <;> cases rb <;> try exact False.elim q
  exact op_lt pins s σ H _ _ v u Q I rx ry ⟨_, _, rfl, rfl, q.here rs (.bl _)⟩
theorem o_gt : OpR X (compareOp .Gt) (rW (kxj X ϑ) E M.gtW) := by
  intro pins s σ H x y v u Q I rx ry h
  obtain ⟨m, S, a, b, rs, ra, rb, q⟩ := h
  cases ra <;> cases rb <;> try exact False.elim q
  exact op_gt pins s σ H _ _ v u Q I rx ry ⟨_, _, rfl, rfl, q.here rs (.bl _)⟩
theorem o_ge : OpR X (compareOp .GtE) (rW (kxj X ϑ) E M.geW) := by
  intro pins s σ H x y v u Q I rx ry h
  obtain ⟨m, S, a, b, rs, ra, rb, q⟩ := h
  cases ra <;> cases rb <;> try exact False.elim q
  exact op_ge pins s σ H _ _ v u Q I rx ry ⟨_, _, rfl, rfl, q.here rs (.bl _)⟩
theorem o_le : OpR X (compareOp .LtE) (rW (kxj X ϑ) E M.leW) := by
  intro pins s σ H x y v u Q I rx ry h
  obtain ⟨m, S, a, b, rs, ra, rb, q⟩ := h
  cases ra <;> cases rb <;> try exact False.elim q
  · exact op_le pins s σ H _ _ v u Q I rx ry ⟨_, _, rfl, rfl, q.here rs (.bl _)⟩
  · exact op_le_str pins s σ H _ _ v u Q I rx ry ⟨_, _, rfl, rfl, q.here rs (.bl _)⟩
theorem isEq_ok (rm : Rm X) {pins : List (Addr × Obj)} {s : Shared} {σ : St} {H : Hp} {x y : V} {v u : Value} {m : List Addr} {S : Store} {a b : W} {k : Bool} (I : Inv X pins σ H s) (rx : RelV x v) (ry : RelV y u) (rs : RS (kxj X ϑ) m S H)
    (ra : RV X.K m H a x) (rb : RV X.K m H b y) (h : M.isEq a b S = some k) (Q : VK) :
    (Q (.bl k) H → wpAny (model X.prog X.w) X.A (compareOp .Eq v u) (EP X pins σ Q) X.xe s) ∧ (Q (.bl (!k)) H → wpAny (model X.prog X.w) X.A (compareOp .NotEq v u) (EP X pins σ Q) X.xe s) := by
  unfold M.isEq at h
  split at h
  · cases ra
    cases rb
    rename_i x y
    cases h
    have e : decide (V.str x = V.str y) = decide (x = y) := by
      by_cases q : x = y
      · subst q
        simp
      · have q' : ¬ V.str x = V.str y := fun z => q (by injection z)
        rw [decide_eq_false q, decide_eq_false q']
    refine ⟨fun q => op_eq pins s σ H _ _ v u Q I rx ry ⟨rfl, ?_⟩, fun q => op_ne pins s σ H _ _ v u Q I rx ry ⟨rfl, ?_⟩⟩
    · rw [e]
      exact q
    · rw [e]
      exact q
  · split at h
    · rename_i d e hd he
      cases h
      exact ⟨fun q => op_eqD (by have := rm.un; omega) pins s σ H _ _ v u Q I rx ry ⟨d, e, toD_dp rs hd ra, toD_dp rs he rb, toD_shaped hd, toD_shaped he, q⟩,
        fun q => op_neD (by have := rm.un; omega) pins s σ H _ _ v u Q I rx ry ⟨d, e, toD_dp rs hd ra, toD_dp rs he rb, toD_shaped hd, toD_shaped he, q⟩⟩
    · cases h
theorem o_eq (rm : Rm X) : OpR X (compareOp .Eq) (rW (kxj X ϑ) E M.eqW) := by
  intro pins s σ H x y v u Q I rx ry h
  obtain ⟨m, S, a, b, rs, ra, rb, q⟩ := h
  unfold M.eqW at q
  split at q
  · rename_i k hk
    exact (isEq_ok rm I rx ry rs ra rb hk Q).1 (q.here rs (.bl _))
  · exact False.elim q
theorem o_ne (rm : Rm X) : OpR X (compareOp .NotEq) (rW (kxj X ϑ) E M.neW) := by
  intro pins s σ H x y v u Q I rx ry h
  obtain ⟨m, S, a, b, rs, ra, rb, q⟩ := h
  unfold M.neW at q
  split at q
  · rename_i k hk
    exact (isEq_ok rm I rx ry rs ra rb hk Q).2 (q.here rs (.bl _))
  · exact False.elim q
end
end Wo
set_option autoImplicit true
set_option maxRecDepth 100000
set_option maxHeartbeats 4000000
namespace Wo
open PySem L2
/-! W3: in, subscripts, slices, calls of built-ins, by values. -/
theorem valW_rel {K : PySem.W.Frag} {m : List Addr} {H : Hp} {k : Key} : ∀ {l : List (Key × W)} {l' : List (Key × V)}, RKV K m H l l' → (∀ w, M.valW l k = some w → ∃ v, valV l' k = some v ∧ RV K m H w v) ∧ (M.valW l k = none → valV l' k = none)
  | _, _, .nil => ⟨fun w h => by simp [M.valW] at h, fun _ => rfl⟩
  | (k1, w1) :: l, (k2, v2) :: l', .cons ⟨e, r⟩ t => by
    obtain ⟨i1, i2⟩ := valW_rel (k := k) t
    have e' : k1 = k2 := e
    subst e'
    unfold M.valW valV at i1 i2 ⊢
    by_cases hk : k1 = k
    · simp only [List.find?_cons, hk, decide_true]
      exact ⟨fun w h => ⟨v2, rfl, by cases h; exact r⟩, fun h => by cases h⟩
    · simp only [List.find?_cons, hk, decide_false]
      exact ⟨i1, i2⟩
theorem keyOf_rel {K : PySem.W.Frag} {m : List Addr} {H : Hp} {w : W} {v : V} {k : Key} (h : M.keyOf w = some k) (r : RV K m H w v) : v = kV k := by
  cases r <;> simp [M.keyOf] at h
  · subst h
    rfl
  · subst h
    rfl
theorem one_sign {y : Str} {c : Nat} (h : y.cps.toList = [c]) : y = ⟨#[c]⟩ := by
  obtain ⟨a⟩ := y
  simp only at h
  congr 1
  exact Array.toList_inj.mp h

section
variable {X : Cx} {E : XK}
theorem isIn_ok (rm : Rm X) {pins : List (Addr × Obj)} {s : Shared} {σ : St} {H : Hp} {x y : V} {v u : Value} {m : List Addr} {S : Store} {a b : W} {k : Bool} (I : Inv X pins σ H s) (rx : RelV x v) (ry : RelV y u) (rs : RS (kxj X ϑ) m S H)
    (ra : RV X.K m H a x) (rb : RV X.K m H b y) (h : M.isIn a b S = some k) (Q : VK) :
    (Q (.bl k) H → wpAny (model X.prog X.w) X.A (compareOp .In v u) (EP X pins σ Q) X.xe s) ∧ (Q (.bl (!k)) H → wpAny (model X.prog X.w) X.A (compareOp .NotIn v u) (EP X pins σ Q) X.xe s) := by
  have hu : X.A.units + 65 < cLine := by have := rm.un; omega
  cases rb with
  | non => simp [M.isIn] at h
  | bl _ => simp [M.isIn] at h
  | int _ => simp [M.isIn] at h
  | ty _ => simp [M.isIn] at h
  | str z =>
    cases ra <;> simp only [M.isIn] at h <;> try (cases h)
    rename_i y'
    split at h
    · rename_i c hc
      cases h
      have e := one_sign hc
      subst e
      exact ⟨fun q => op_in_sign pins s σ H _ _ v u Q I rx ry ⟨c, z, rfl, rfl, q⟩, fun q => op_notIn_sign pins s σ H _ _ v u Q I rx ry ⟨c, z, rfl, rfl, q⟩⟩
    · cases h
  | ref hr =>
    simp only [M.isIn] at h
    split at h
    · rename_i ys e
      split at h
      · rename_i d ds h1 h2
        cases h
        exact ⟨fun q => op_inD hu pins s σ H _ _ v u Q I rx ry ⟨d, ds, toD_dp rs h1 ra, toD_dp rs h2 (.ref hr), toD_shaped h1, toD_shaped h2, q⟩,
          fun q => op_notInD hu pins s σ H _ _ v u Q I rx ry ⟨d, ds, toD_dp rs h1 ra, toD_dp rs h2 (.ref hr), toD_shaped h1, toD_shaped h2, q⟩⟩
      · cases h
    · rename_i kvs e
      split at h
      · rename_i kk hk
        cases h
        obtain ⟨ls, e1, e2⟩ := rs.ob _ _ _ e hr
        have ex := keyOf_rel hk ra
        subst ex
        cases (show u = Value.ref _ from ry)
        obtain ⟨i1, i2⟩ := valW_rel (k := kk) e2
        have es : (valV ls kk).isSome = (M.valW kvs kk).isSome := by
          cases hv : M.valW kvs kk with
          | none => rw [i2 hv]; rfl
          | some w =>
            obtain ⟨z, hz, _⟩ := i1 w hv
            rw [hz]; rfl
        refine ⟨fun q => ?_, fun q => ?_⟩
        · refine d_in (A := X.A) (by omega) I (DGet.k (k := kk) e1) rx fun s' I' => ?_
          rw [es]
          exact ⟨.bl _, H, I', rfl, q⟩
        · refine d_notIn (A := X.A) (by omega) I (DGet.k (k := kk) e1) rx fun s' I' => ?_
          rw [es]
          exact ⟨.bl _, H, I', rfl, q⟩
      · cases h
    · cases h
  | tup hq rv =>
    simp only [M.isIn] at h
    split at h
    · rename_i d ds h1 h2
      cases h
      obtain ⟨as, r1⟩ := Dp.reads I d x v (toD_dp rs h1 ra) rx
      obtain ⟨bs, r2⟩ := Dp.reads I (.tuple ds) _ u (toD_dp rs h2 (.tup hq rv)) ry
      have s1 := toD_shaped h1
      have s2 := toD_shaped h2
      exact ⟨fun q => SeqAt.in_tuple_reads r2 r1 (SeqAt.canLay_of_shaped s2) (SeqAt.canLay_of_shaped s1) (PyProof.Rows.room_in_shaped s1 hu) ⟨.bl _, H, I, rfl, q⟩,
        fun q => SeqAt.notIn_tuple_reads r2 r1 (SeqAt.canLay_of_shaped s2) (SeqAt.canLay_of_shaped s1) (PyProof.Rows.room_in_shaped s1 hu) ⟨.bl _, H, I, rfl, q⟩⟩
    · cases h
  | fl hq rv =>
    simp only [M.isIn] at h
    split at h
    · rename_i d ds h1 h2
      cases h
      exact ⟨fun q => op_inD hu pins s σ H _ _ v u Q I rx ry ⟨d, ds, toD_dp rs h1 ra, toD_dp rs h2 (.fl hq rv), toD_shaped h1, toD_shaped h2, q⟩,
        fun q => op_notInD hu pins s σ H _ _ v u Q I rx ry ⟨d, ds, toD_dp rs h1 ra, toD_dp rs h2 (.fl hq rv), toD_shaped h1, toD_shaped h2, q⟩⟩
    · cases h
theorem o_in (rm : Rm X) : OpR X (compareOp .In) (rW (kxj X ϑ) E M.inW) := by
  intro pins s σ H x y v u Q I rx ry h
  obtain ⟨m, S, a, b, rs, ra, rb, q⟩ := h
  unfold M.inW at q
  split at q
  · rename_i k hk
    exact (isIn_ok rm I rx ry rs ra rb hk Q).1 (q.here rs (.bl _))
  · exact False.elim q
theorem o_nin (rm : Rm X) : OpR X (compareOp .NotIn) (rW (kxj X ϑ) E M.ninW) := by
  intro pins s σ H x y v u Q I rx ry h
  obtain ⟨m, S, a, b, rs, ra, rb, q⟩ := h
  unfold M.ninW at q
  split at q
  · rename_i k hk
    exact (isIn_ok rm I rx ry rs ra rb hk Q).2 (q.here rs (.bl _))
  · exact False.elim q
end

/-! ### subscripts -/
namespace M
def itemsOf (w : W) (S : Store) : Option (List W) := match w with
  | .tup xs => some xs
  | .fl xs => some xs
  | .ref r => match S[r]? with
    | some (.lst xs) => some xs
    | _ => none
  | _ => none
def ixW : G2 := fun a b S => match b with
  | .int i => match a with
    | .str z => if z.length ≤ lim then (match atI z.cps.toList i with
      | some c => .ok (.str ⟨#[c]⟩) S
      | none => .no) else .no
    | _ => match itemsOf a S with
      | some xs => match atI xs i with
        | some w => .ok w S
        | none => .no
      | none => .no
  | _ => .no
def cutW (xs : List W) (lo hi : Option Int) : List W := (xs.drop (HT.sIx xs.length 0 lo)).take (HT.sIx xs.length xs.length hi - HT.sIx xs.length 0 lo)
def slW (a : W) (lo hi : Option Int) (S : Store) : Rs W := match a with
  | .tup xs => .ok (.tup (cutW xs lo hi)) S
  | .fl xs => .ok (.ref S.length) (S ++ [.lst (cutW xs lo hi)])
  | .ref r => match S[r]? with
    | some (.lst xs) => .ok (.ref S.length) (S ++ [.lst (cutW xs lo hi)])
    | _ => .no
  | _ => .no
abbrev MO := Fr → Store → Rs (Option Int)
def noPart : MO := fun _ S => .ok none S
def part (g : ME) : MO := fun f S => (g f S).bind fun w S1 => match w with
  | .int i => .ok (some i) S1
  | _ => .no
def sl (a : ME) (lo hi : MO) : ME := fun f S => (a f S).bind fun x S1 => (lo f S1).bind fun l S2 => (hi f S2).bind fun u S3 => slW x l u S3
end M
theorem atI_rel {K : PySem.W.Frag} {m : List Addr} {H : Hp} {xs : List W} {vs : List V} {i : Int} {w : W} (r : RVs K m H xs vs) (h : atI xs i = some w) : ∃ v, atI vs i = some v ∧ RV K m H w v := by
  unfold atI at h ⊢
  rw [← r.length]
  cases e : ixN xs.length i with
  | none => rw [e] at h; cases h
  | some j =>
    rw [e] at h
    exact r.get h
theorem items_rel {K : Kx} {m : List Addr} {H : Hp} {S : Store} {w : W} {x : V} {xs : List W} (rs : RS K m S H) (r : RV K m H w x) (h : M.itemsOf w S = some xs) : ∃ a vs, x = .ref a ∧ RVs K m H xs vs ∧ (SqL K H a vs ∨ SqT K H a vs) := by
  cases r <;> simp only [M.itemsOf] at h <;> try (cases h)
  · split at h
    · rename_i e
      cases h
      rename_i hr _
      obtain ⟨vs, e1, e2⟩ := rs.ob _ _ _ e hr
      exact ⟨_, vs, rfl, e2, Or.inl (SqL.of e1)⟩
    · cases h
  · rename_i hq rv
    exact ⟨_, _, rfl, rv, Or.inr hq⟩
  · rename_i hq rv
    exact ⟨_, _, rfl, rv, Or.inl hq.l⟩
abbrev RPt (_ : List Addr) (_ : Hp) (a b : Option Int) : Prop := a = b
abbrev tO (K : Kx) (E : EX) (g : M.MO) : TO := tM K E RPt g
section
variable {X : Cx} {E : EX}
theorem i_seq {E : XK} : IxR X (rW (kxj X ϑ) E M.ixW) := by
  intro value slice pins s σ H x y v u Q I rx ry h hs
  obtain ⟨m, S, a, b, rs, ra, rb, q⟩ := h
  unfold M.ixW at q
  split at q
  · rename_i i
    cases rb
    split at q
    · rename_i z
      cases ra
      split at q
      · rename_i hl
        split at q
        · rename_i c hc
          exact ix_str value slice pins s σ H _ _ v u Q I rx ry ⟨z, i, c, rfl, rfl, lim_line hl, hc, q.here rs (.str _)⟩ hs
        · exact False.elim q
      · exact False.elim q
    · split at q
      · rename_i xs hx
        split at q
        · rename_i w hw
          obtain ⟨p, vs, rfl, rv, hq⟩ := items_rel rs ra hx
          obtain ⟨z, hz, rz⟩ := atI_rel rv hw
          rcases hq with hq | hq
          · exact ix_list value slice pins s σ H _ _ v u Q I rx ry ⟨p, vs, i, z, rfl, rfl, hq, hz, q.here rs rz⟩ hs
          · exact ix_tup value slice pins s σ H _ _ v u Q I rx ry ⟨p, vs, i, z, rfl, rfl, hq, hz, q.here rs rz⟩ hs
        · exact False.elim q
      · exact False.elim q
  · exact False.elim q
theorem e_ix {a b : Expr} {pos : Pos} {ga gb : ME} (ha : PE X a (tE (kxj X ϑ) E ga)) (hb : PE X b (tE (kxj X ϑ) E gb)) (hs : PlainIx b := by exact fun _ _ => rfl) : PE X (.Subscript a b pos) (tE (kxj X ϑ) E (M.op2 M.ixW ga gb)) :=
  ⟨fun pins sh s H Q I h => (pe_ix (i_seq (E := E s)) ha hb hs).run pins sh s H Q I (tE.two h)⟩
theorem PO.imp {e : Option Expr} {t t' : TO} (h : PO X e t) (i : ∀ s H Q, t' s H Q → t s H Q) : PO X e t' := ⟨fun pins sh s H Q I q => h.run pins sh s H Q I (i s H Q q)⟩
theorem e_noPart : PO X none (tO (kxj X ϑ) E M.noPart) := PO.imp po_none fun s H Q h => by
  obtain ⟨m, S, f, h1, h2, h3⟩ := h
  exact h3.here h1 rfl
theorem e_part {e : Expr} {g : ME} (h : PE X e (tE (kxj X ϑ) E g)) : PO X (some e) (tO (kxj X ϑ) E (M.part g)) := by
  refine PO.imp (po_some h) fun s H Q q => ?_
  refine tM.imp (tM.seq (R := RV X.K) (g := g) (k := fun _ w S1 => match w with | .int i => .ok (some i) S1 | _ => .no) q) fun x H1 ⟨m, S, f, a, rs, rf, rv, q⟩ => ?_
  cases rv <;> try exact False.elim q
  exact ⟨_, rfl, q.here rs rfl⟩
theorem cut_rel {K : PySem.W.Frag} {m : List Addr} {H : Hp} {xs : List W} {vs : List V} (r : RVs K m H xs vs) (lo hi : Option Int) : RVs K m H (M.cutW xs lo hi) (cutV vs lo hi) := by
  unfold M.cutW cutV
  rw [r.length]
  exact (r.drop _).take _
theorem sl_any {E : XK} : SlR X (fun x lo hi H Q => ∃ m S a, RS (kxj X ϑ) m S H ∧ RV X.K m H a x ∧ Post (kxj X ϑ) E (RV X.K) m H (M.slW a lo hi S) Q) := by
  intro pins s σ H x v vl vu lo hi sl Q I rx hs pl pu h
  obtain ⟨m, S, a, rs, ra, q⟩ := h
  cases ra <;> try exact False.elim q
  · rename_i r ad hr
    simp only [M.slW] at q
    split at q
    · rename_i xs e
      obtain ⟨vs, e1, e2⟩ := rs.ob _ _ _ e hr
      refine sl_list pins s σ H _ v vl vu lo hi sl Q I rx hs pl pu ⟨ad, vs, rfl, SqL.of e1, fun p hp => ?_⟩
      obtain ⟨b1, b2, b3, b4⟩ := rs.newList hp (cut_rel e2 lo hi)
      exact q _ _ _ b1 b2 b3 b4
    · exact False.elim q
  · rename_i ad ws vs hq rv
    simp only [M.slW] at q
    refine sl_tupA pins s σ H _ v vl vu lo hi sl Q I rx hs pl pu ⟨ad, vs, rfl, hq, fun ⟨z1, z2⟩ => ?_, fun _ p hp => ?_⟩
    · refine q.here rs ?_
      unfold M.cutW
      rw [rv.length, z1, z2]
      have e : List.take (vs.length - 0) (List.drop 0 ws) = ws := by
        rw [List.drop_zero, ← rv.length, Nat.sub_zero, List.take_length]
      rw [e]
      exact .tup hq rv
    · exact q m _ _ (List.prefix_refl _) (Stay.new hp) (rs.grow hp) (.tup (SqT.of upd_same) ((cut_rel rv lo hi).mono (List.prefix_refl _) (Stay.new hp)))
  · rename_i ad ws vs hq rv
    simp only [M.slW] at q
    refine sl_list pins s σ H _ v vl vu lo hi sl Q I rx hs pl pu ⟨ad, vs, rfl, hq.l, fun p hp => ?_⟩
    obtain ⟨b1, b2, b3, b4⟩ := rs.newList hp (cut_rel rv lo hi)
    exact q _ _ _ b1 b2 b3 b4
theorem e_sl {e : Expr} {lo hi : Option Expr} {p2 pos : Pos} {g : ME} {gl gh : M.MO} (he : PE X e (tE (kxj X ϑ) E g)) (hl : PO X lo (tO (kxj X ϑ) E gl)) (hh : PO X hi (tO (kxj X ϑ) E gh)) : PE X (.Subscript e (.Slice lo hi none p2) pos) (tE (kxj X ϑ) E (M.sl g gl gh)) := by
  refine ⟨fun pins sh s H Q I h => (pe_slice (sl_any (ϑ := ϑ) (E := E s)) he hl hh).run pins sh s H Q I ?_⟩
  refine tM.imp (tM.seq (R := RV X.K) (g := g) (k := fun f x S1 => (gl f S1).bind fun l S2 => (gh f S2).bind fun u S3 => M.slW x l u S3) h) fun x H1 ⟨m, S, f, a, rs, rf, rv, q⟩ => ?_
  refine ⟨m, S, f, rs, rf, q.bind.imp fun l H2 ⟨m1, S1, l', p, st, rs1, el, q1⟩ => ?_⟩
  cases el
  refine ⟨m1, S1, f, rs1, rf.mono p st, q1.bind.imp fun u H3 ⟨m2, S2, u', p', st', rs2, eu, q2⟩ => ?_⟩
  cases eu
  exact ⟨m2, S2, a, rs2, rv.mono (p.trans p') (st.trans st'), q2⟩
end
end Wo
set_option autoImplicit true
set_option maxRecDepth 100000
set_option maxHeartbeats 4000000
namespace Wo
open PySem L2
/-! W4: calls of built-ins. -/
/-! ### a sort of our own -/
def ins1 (x : Int) : List Int → List Int
  | [] => [x]
  | y :: ys => if x ≤ y then x :: y :: ys else y :: ins1 x ys
def isort : List Int → List Int
  | [] => []
  | x :: xs => ins1 x (isort xs)
theorem ins1_perm (x : Int) : ∀ l : List Int, (ins1 x l).Perm (x :: l)
  | [] => .refl _
  | y :: ys => by
    unfold ins1
    split
    · exact .refl _
    · exact ((ins1_perm x ys).cons y).trans (.swap x y ys)
theorem isort_perm : ∀ l : List Int, (isort l).Perm l
  | [] => .refl _
  | x :: xs => (ins1_perm x _).trans ((isort_perm xs).cons x)
theorem ins1_sorted (x : Int) : ∀ l : List Int, l.Pairwise (· ≤ ·) → (ins1 x l).Pairwise (· ≤ ·)
  | [], _ => by simp [ins1]
  | y :: ys, h => by
    unfold ins1
    rw [List.pairwise_cons] at h
    split
    · rename_i hxy
      rw [List.pairwise_cons, List.pairwise_cons]
      refine ⟨fun z hz => ?_, h⟩
      rcases List.mem_cons.mp hz with rfl | hz
      · exact hxy
      · exact Int.le_trans hxy (h.1 z hz)
    · rename_i hxy
      rw [List.pairwise_cons]
      refine ⟨fun z hz => ?_, ins1_sorted x ys h.2⟩
      have hm := (ins1_perm x ys).mem_iff.mp hz
      rcases List.mem_cons.mp hm with rfl | hm
      · omega
      · exact h.1 z hm
theorem isort_sorted : ∀ l : List Int, (isort l).Pairwise (· ≤ ·)
  | [] => .nil
  | x :: xs => ins1_sorted x _ (isort_sorted xs)
theorem sorted_uniq : ∀ {a b : List Int}, a.Perm b → a.Pairwise (· ≤ ·) → b.Pairwise (· ≤ ·) → a = b
  | [], b, p, _, _ => by
    have := p.length_eq
    cases b with
    | nil => rfl
    | cons _ _ => simp at this
  | x :: xs, [], p, _, _ => by
    have := p.length_eq
    simp at this
  | x :: xs, y :: ys, p, ha, hb => by
    have e : x = y := by
      have h1 : x ∈ y :: ys := p.mem_iff.mp (List.mem_cons_self ..)
      have h2 : y ∈ x :: xs := p.mem_iff.mpr (List.mem_cons_self ..)
      rw [List.pairwise_cons] at ha hb
      rcases List.mem_cons.mp h1 with h1 | h1
      · exact h1
      · rcases List.mem_cons.mp h2 with h2 | h2
        · exact h2.symm
        · exact Int.le_antisymm (ha.1 y h2) (hb.1 x h1)
    subst e
    rw [sorted_uniq (p.cons_inv) (List.pairwise_cons.mp ha).2 (List.pairwise_cons.mp hb).2]

namespace M
def intsW : List W → Option (List Int)
  | [] => some []
  | .int i :: r => (intsW r).map (i :: ·)
  | _ :: _ => none
def boolsW : List W → Option (List Bool)
  | [] => some []
  | .bl b :: r => (boolsW r).map (b :: ·)
  | _ :: _ => none
def lenW : List W → Store → Rs W := fun ws S => match ws with
  | [.str z] => if z.length ≤ lim then .ok (.int z.length) S else .no
  | [.ref r] => match S[r]? with
    | some (.lst xs) => .ok (.int xs.length) S
    | some (.dK kvs) => .ok (.int kvs.length) S
    | _ => .no
  | [.tup xs] => .ok (.int xs.length) S
  | [.fl xs] => .ok (.int xs.length) S
  | _ => .no
def maxW : List W → Store → Rs W := fun ws S => match ws with
  | [.int i, .int j] => .ok (.int (if j > i then j else i)) S
  | _ => .no
def minW : List W → Store → Rs W := fun ws S => match ws with
  | [.int i, .int j] => .ok (.int (if j < i then j else i)) S
  | _ => .no
def intW : List W → Store → Rs W := fun ws S => match ws with
  | [.int i] => .ok (.int i) S
  | [.bl b] => .ok (.int (if b then 1 else 0)) S
  | _ => .no
def tupleW : List W → Store → Rs W := fun ws S => match ws with
  | [.tup xs] => .ok (.tup xs) S
  | [.fl xs] => .ok (.tup xs) S
  | [.ref r] => match S[r]? with
    | some (.lst xs) => .ok (.tup xs) S
    | _ => .no
  | _ => .no
def keyW : Key → W
  | .inl i => .int i
  | .inr x => .str x
def listW : List W → Store → Rs W := fun ws S => match ws with
  | [.tup xs] => .ok (.ref S.length) (S ++ [.lst xs])
  | [.fl xs] => .ok (.ref S.length) (S ++ [.lst xs])
  | [.ref r] => match S[r]? with
    | some (.lst xs) => .ok (.ref S.length) (S ++ [.lst xs])
    | some (.dK kvs) => .ok (.ref S.length) (S ++ [.lst (kvs.map fun kv => keyW kv.1)])
    | _ => .no
  | _ => .no
def allW : List W → Store → Rs W := fun ws S => match ws with
  | [.ref r] => match S[r]? with
    | some (.lst xs) => match boolsW xs with
      | some bs => .ok (.bl (bs.all id)) S
      | none => .no
    | _ => .no
  | _ => .no
def anyW : List W → Store → Rs W := fun ws S => match ws with
  | [.ref r] => match S[r]? with
    | some (.lst xs) => match boolsW xs with
      | some bs => .ok (.bl (bs.any id)) S
      | none => .no
    | _ => .no
  | _ => .no
def sortedW : List W → Store → Rs W := fun ws S => match ws with
  | [.ref r] => match S[r]? with
    | some (.lst xs) => match intsW xs with
      | some ns => .ok (.ref S.length) (S ++ [.lst ((isort ns).map .int)])
      | none => .no
    | _ => .no
  | _ => .no
def reprW : List W → Store → Rs W := fun ws S => match ws with
  | [w] => match toD S dd w with
    | some d => if d.showable = true ∧ d.shown.length ≤ lim then .ok (.str d.shown) S else .no
    | none => .no
  | _ => .no
def tyName (w : W) (S : Store) : Option String := match w with
  | .non => some "NoneType"
  | .bl _ => some "bool"
  | .int _ => some "int"
  | .str _ => some "str"
  | .tup _ => some "tuple"
  | .fl _ => some "list"
  | .ref r => match S[r]? with
    | some (.lst _) => some "list"
    | some (.dK _) => some "dict"
    | _ => none
  | .ty _ => none
def isiB (a b : String) : Bool := a == b || (a == "bool" && b == "int")
def isiW : List W → Store → Rs W := fun ws S => match ws with
  | [w, .ty T] => match tyName w S with
    | some t => .ok (.bl (isiB t T)) S
    | none => .no
  | _ => .no
end M
theorem ints_rel {K : PySem.W.Frag} {m : List Addr} {H : Hp} : ∀ {xs : List W} {vs : List V} {ns : List Int}, M.intsW xs = some ns → RVs K m H xs vs → vs = ns.map V.int
  | [], _, ns, h, .nil => by
    cases h
    rfl
  | w :: xs, _, ns, h, .cons r t => by
    cases r <;> simp only [M.intsW, Option.map_eq_some_iff] at h <;> try (cases h)
    rename_i h1
    obtain ⟨h1, h2⟩ := h1
    subst h2
    rw [ints_rel h1 t]
    rfl
theorem bools_rel {K : PySem.W.Frag} {m : List Addr} {H : Hp} : ∀ {xs : List W} {vs : List V} {ns : List Bool}, M.boolsW xs = some ns → RVs K m H xs vs → vs = ns.map V.bl
  | [], _, ns, h, .nil => by
    cases h
    rfl
  | w :: xs, _, ns, h, .cons r t => by
    cases r <;> simp only [M.boolsW, Option.map_eq_some_iff] at h <;> try (cases h)
    rename_i h1
    obtain ⟨h1, h2⟩ := h1
    subst h2
    rw [bools_rel h1 t]
    rfl
theorem rvs_ints {K : PySem.W.Frag} {m : List Addr} {H : Hp} : ∀ ns : List Int, RVs K m H (ns.map W.int) (ns.map V.int)
  | [] => .nil
  | n :: ns => .cons (.int n) (rvs_ints ns)
theorem rvs_keys {K : PySem.W.Frag} {m : List Addr} {H : Hp} : ∀ {l : List (Key × W)} {l' : List (Key × V)}, RKV K m H l l' → RVs K m H (l.map fun kv => M.keyW kv.1) (l'.map fun kv => kV kv.1)
  | _, _, .nil => .nil
  | (k1, w1) :: l, (k2, v2) :: l', .cons ⟨e, r⟩ t => by
    have e' : k1 = k2 := e
    subst e'
    refine .cons ?_ (rvs_keys t)
    cases k1 with
    | inl i => exact .int i
    | inr x => exact .str x
theorem rkv_len {K : PySem.W.Frag} {m : List Addr} {H : Hp} {l : List (Key × W)} {l' : List (Key × V)} (h : RKV K m H l l') : l.length = l'.length := Paired.length h
theorem rvs1 {K : PySem.W.Frag} {m : List Addr} {H : Hp} {w : W} {vs : List V} (h : RVs K m H [w] vs) : ∃ v, vs = [v] ∧ RV K m H w v := by
  cases h with
  | cons r t =>
    cases t
    exact ⟨_, rfl, r⟩
theorem rvs2 {K : PySem.W.Frag} {m : List Addr} {H : Hp} {w u : W} {vs : List V} (h : RVs K m H [w, u] vs) : ∃ v z, vs = [v, z] ∧ RV K m H w v ∧ RV K m H u z := by
  cases h with
  | cons r t =>
    obtain ⟨z, rfl, r2⟩ := rvs1 t
    exact ⟨_, z, rfl, r, r2⟩
section
variable {X : Cx} {E : XK}
theorem c_len : CallR X (.builtin "len") (rWs (kxj X ϑ) E M.lenW) := by
  intro pins s σ H xs us Q I r h
  obtain ⟨m, S, ws, rs, rv, q⟩ := h
  unfold M.lenW at q
  split at q
  · obtain ⟨v, rfl, r1⟩ := rvs1 rv
    cases r1
    split at q
    · rename_i hl
      exact call_len_str pins s σ H _ us Q I r ⟨_, rfl, lim_line hl, q.here rs (.int _)⟩
    · exact False.elim q
  · obtain ⟨v, rfl, r1⟩ := rvs1 rv
    cases r1 with
    | ref hr =>
      split at q
      · rename_i ys e
        obtain ⟨vs, e1, e2⟩ := rs.ob _ _ _ e hr
        refine call_len_seq pins s σ H _ us Q I r ⟨_, vs, rfl, Or.inl (SqL.of e1), ?_⟩
        rw [← e2.length]
        exact q.here rs (.int _)
      · rename_i kvs e
        obtain ⟨ls, e1, e2⟩ := rs.ob _ _ _ e hr
        refine call_lenD pins s σ H _ us Q I r ⟨_, ls, rfl, e1, ?_⟩
        rw [← rkv_len e2]
        exact q.here rs (.int _)
      · exact False.elim q
  · obtain ⟨v, rfl, r1⟩ := rvs1 rv
    cases r1 with
    | tup hq rv' =>
      refine call_len_seq pins s σ H _ us Q I r ⟨_, _, rfl, Or.inr hq, ?_⟩
      rw [← rv'.length]
      exact q.here rs (.int _)
  · obtain ⟨v, rfl, r1⟩ := rvs1 rv
    cases r1 with
    | fl hq rv' =>
      refine call_len_seq pins s σ H _ us Q I r ⟨_, _, rfl, Or.inl hq.l, ?_⟩
      rw [← rv'.length]
      exact q.here rs (.int _)
  · exact False.elim q
theorem c_max (rm : Rc X) : CallR X (.builtin "max") (rWs (kxj X ϑ) E M.maxW) := by
  intro pins s σ H xs us Q I r h
  obtain ⟨m, S, ws, rs, rv, q⟩ := h
  unfold M.maxW at q
  split at q
  · obtain ⟨v, z, rfl, r1, r2⟩ := rvs2 rv
    cases r1
    cases r2
    exact call_max2 rm.calm pins s σ H _ us Q I r ⟨_, _, rfl, q.here rs (.int _)⟩
  · exact False.elim q
theorem c_min (rm : Rc X) : CallR X (.builtin "min") (rWs (kxj X ϑ) E M.minW) := by
  intro pins s σ H xs us Q I r h
  obtain ⟨m, S, ws, rs, rv, q⟩ := h
  unfold M.minW at q
  split at q
  · obtain ⟨v, z, rfl, r1, r2⟩ := rvs2 rv
    cases r1
    cases r2
    exact call_min2 rm.calm pins s σ H _ us Q I r ⟨_, _, rfl, q.here rs (.int _)⟩
  · exact False.elim q
theorem c_int : CallR X (.type "int") (rWs (kxj X ϑ) E M.intW) := by
  intro pins s σ H xs us Q I r h
  obtain ⟨m, S, ws, rs, rv, q⟩ := h
  unfold M.intW at q
  split at q
  · obtain ⟨v, rfl, r1⟩ := rvs1 rv
    cases r1
    exact call_int1 pins s σ H _ us Q I r (Or.inl ⟨_, rfl, q.here rs (.int _)⟩)
  · obtain ⟨v, rfl, r1⟩ := rvs1 rv
    cases r1
    exact call_int1 pins s σ H _ us Q I r (Or.inr ⟨_, rfl, q.here rs (.int _)⟩)
  · exact False.elim q
theorem c_tuple : CallR X (.type "tuple") (rWs (kxj X ϑ) E M.tupleW) := by
  intro pins s σ H xs us Q I r h
  obtain ⟨m, S, ws, rs, rv, q⟩ := h
  unfold M.tupleW at q
  have new : ∀ {ys : List W} {vs : List V} {p : Addr}, RVs X.K m H ys vs → Post (kxj X ϑ) E (RV X.K) m H (.ok (.tup ys) S) Q → H p = none → Q (.ref p) (upd H p (.tup vs)) := fun rv q hp =>
    q m _ _ (List.prefix_refl _) (Stay.new hp) (rs.grow hp) (.tup (SqT.of upd_same) (rv.mono (List.prefix_refl _) (Stay.new hp)))
  split at q
  · obtain ⟨v, rfl, r1⟩ := rvs1 rv
    cases r1 with
    | tup hq rv' => exact call_tuple_of pins s σ H _ us Q I r ⟨_, _, rfl, Or.inr ⟨hq, q.here rs (.tup hq rv')⟩⟩
  · obtain ⟨v, rfl, r1⟩ := rvs1 rv
    cases r1 with
    | fl hq rv' => exact call_tuple_of pins s σ H _ us Q I r ⟨_, _, rfl, Or.inl ⟨hq.l, fun p hp => new rv' q hp⟩⟩
  · obtain ⟨v, rfl, r1⟩ := rvs1 rv
    cases r1 with
    | ref hr =>
      split at q
      · rename_i ys e
        obtain ⟨vs, e1, e2⟩ := rs.ob _ _ _ e hr
        exact call_tuple_of pins s σ H _ us Q I r ⟨_, vs, rfl, Or.inl ⟨SqL.of e1, fun p hp => new e2 q hp⟩⟩
      · exact False.elim q
  · exact False.elim q
theorem c_list (rm : Rc X) : CallR X (.type "list") (rWs (kxj X ϑ) E M.listW) := by
  intro pins s σ H xs us Q I r h
  obtain ⟨m, S, ws, rs, rv, q⟩ := h
  unfold M.listW at q
  have new : ∀ {ys : List W} {vs : List V} {p : Addr}, RVs X.K m H ys vs → Post (kxj X ϑ) E (RV X.K) m H (.ok (.ref S.length) (S ++ [.lst ys])) Q → H p = none → Q (.ref p) (upd H p (.lst vs)) := fun rv q hp => by
    obtain ⟨b1, b2, b3, b4⟩ := rs.newList hp rv
    exact q _ _ _ b1 b2 b3 b4
  split at q
  · obtain ⟨v, rfl, r1⟩ := rvs1 rv
    cases r1 with
    | tup hq rv' => exact call_list_of pins s σ H _ us Q I r ⟨_, _, rfl, Or.inr hq, fun p hp => new rv' q hp⟩
  · obtain ⟨v, rfl, r1⟩ := rvs1 rv
    cases r1 with
    | fl hq rv' => exact call_list_of pins s σ H _ us Q I r ⟨_, _, rfl, Or.inl hq.l, fun p hp => new rv' q hp⟩
  · obtain ⟨v, rfl, r1⟩ := rvs1 rv
    cases r1 with
    | ref hr =>
      split at q
      · rename_i ys e
        obtain ⟨vs, e1, e2⟩ := rs.ob _ _ _ e hr
        exact call_list_of pins s σ H _ us Q I r ⟨_, vs, rfl, Or.inl (SqL.of e1), fun p hp => new e2 q hp⟩
      · rename_i kvs e
        obtain ⟨ls, e1, e2⟩ := rs.ob _ _ _ e hr
        exact call_list_dK rm.calm pins s σ H _ us Q I r ⟨_, ls, rfl, e1, fun p hp => new (rvs_keys e2) q hp⟩
      · exact False.elim q
  · exact False.elim q
theorem c_all (rm : Rc X) : CallR X (.builtin "all") (rWs (kxj X ϑ) E M.allW) := by
  intro pins s σ H xs us Q I r h
  obtain ⟨m, S, ws, rs, rv, q⟩ := h
  unfold M.allW at q
  split at q
  · obtain ⟨v, rfl, r1⟩ := rvs1 rv
    cases r1 with
    | ref hr =>
      split at q
      · rename_i ys e
        split at q
        · rename_i bs hb
          obtain ⟨vs, e1, e2⟩ := rs.ob _ _ _ e hr
          have e3 := bools_rel hb e2
          subst e3
          exact cr_all rm.calm pins s σ H _ us Q I r ⟨_, bs, rfl, SqL.of e1, q.here rs (.bl _)⟩
        · exact False.elim q
      · exact False.elim q
  · exact False.elim q
theorem c_any (rm : Rc X) : CallR X (.builtin "any") (rWs (kxj X ϑ) E M.anyW) := by
  intro pins s σ H xs us Q I r h
  obtain ⟨m, S, ws, rs, rv, q⟩ := h
  unfold M.anyW at q
  split at q
  · obtain ⟨v, rfl, r1⟩ := rvs1 rv
    cases r1 with
    | ref hr =>
      split at q
      · rename_i ys e
        split at q
        · rename_i bs hb
          obtain ⟨vs, e1, e2⟩ := rs.ob _ _ _ e hr
          have e3 := bools_rel hb e2
          subst e3
          exact cr_any rm.calm pins s σ H _ us Q I r ⟨_, bs, rfl, SqL.of e1, q.here rs (.bl _)⟩
        · exact False.elim q
      · exact False.elim q
  · exact False.elim q
theorem c_sorted : CallR X (.builtin "sorted") (rWs (kxj X ϑ) E M.sortedW) := by
  intro pins s σ H xs us Q I r h
  obtain ⟨m, S, ws, rs, rv, q⟩ := h
  unfold M.sortedW at q
  split at q
  · obtain ⟨v, rfl, r1⟩ := rvs1 rv
    cases r1 with
    | ref hr =>
      split at q
      · rename_i ys e
        split at q
        · rename_i ns hb
          obtain ⟨vs, e1, e2⟩ := rs.ob _ _ _ e hr
          have e3 := ints_rel hb e2
          subst e3
          refine cr_sortedI pins s σ H _ us Q I r ⟨_, ns, rfl, SqL.of e1, fun ns' p hp hs hn => ?_⟩
          have e4 : ns' = isort ns := sorted_uniq (hp.trans (isort_perm ns).symm) hs (isort_sorted ns)
          subst e4
          obtain ⟨b1, b2, b3, b4⟩ := rs.newList hn (rvs_ints (isort ns))
          exact q _ _ _ b1 b2 b3 b4
        · exact False.elim q
      · exact False.elim q
  · exact False.elim q
theorem c_repr (rm : Rm X) : CallR X (.builtin "repr") (rWs (kxj X ϑ) E M.reprW) := by
  intro pins s σ H xs us Q I r h
  obtain ⟨m, S, ws, rs, rv, q⟩ := h
  unfold M.reprW at q
  split at q
  · rename_i w
    obtain ⟨v, rfl, r1⟩ := rvs1 rv
    obtain ⟨u, rfl, ru⟩ := vals1 r
    split at q
    · rename_i d hd
      split at q
      · rename_i hc
        have hq : Q (.str d.shown) H := q.here rs (.str _)
        have hz := lim_line hc.2
        have dp := toD_dp rs hd r1
        obtain ⟨as, rd⟩ := Dp.reads I d v u dp ru
        obtain ⟨s1, s2⟩ := toD_shape hd
        have s2' : d.depth ≤ 20 := s2
        cases dp with
        | non =>
          cases ru
          exact PySem.P.repr_of_none ⟨.str _, H, I.tok _, ⟨_, rfl⟩, hq⟩
        | bl b =>
          cases ru
          exact PySem.P.repr_of_bool ⟨.str _, H, I.tok _, ⟨_, rfl⟩, hq⟩
        | int i =>
          obtain ⟨t, rfl⟩ := ru
          have hs := hc.1
          simp only [PyData.showable, decide_eq_true_eq] at hs
          exact PySem.P.repr_of_int hs ⟨.str _, H, I.tok _, ⟨_, rfl⟩, hq⟩
        | str x =>
          obtain ⟨t, rfl⟩ := ru
          exact PySem.P.repr_of_str ⟨.str _, H, I.tok _, ⟨_, rfl⟩, hq⟩ hz
        | lst hs ha =>
          cases ru
          exact repr_of_reads' rd hc.1 (PyData.noDict_hsm (PyData.hasDict_of_canLay _ s1)) rm.g (by have := rm.un; omega) (fun _ _ e => e) (fun h' u tk hk => ⟨.str _, H, I.kept hk, ⟨_, rfl⟩, hq⟩) hz
        | tup hs ha =>
          cases ru
          exact repr_of_reads' rd hc.1 (PyData.noDict_hsm (PyData.hasDict_of_canLay _ s1)) rm.g (by have := rm.un; omega) (fun _ _ e => e) (fun h' u tk hk => ⟨.str _, H, I.kept hk, ⟨_, rfl⟩, hq⟩) hz
      · exact False.elim q
    · exact False.elim q
  · exact False.elim q
end
end Wo
set_option autoImplicit true
set_option maxRecDepth 100000
set_option maxHeartbeats 4000000
namespace Wo
open PySem PySem.Spec PyProof.Rows L2
/-! W5: a tuple taken none, one or many times; isinstance; is. -/
theorem bool_no {b c : Bool} (h : b = c) (hc : c = false) : decide (b = true) = false := by
  subst h
  subst hc
  rfl
theorem bool_yes {b : Bool} (h : b = true) : decide (b = true) = true := by
  subst h
  rfl
abbrev tupObj (items : Array Value) (n : Nat) (dd : Option Addr) (sl : Array (Option Value)) : Obj := { cls := .type "tuple", dict := dd, data := .seq items n, slots := sl }
theorem mul_none (l : Addr) (items : Array Value) (n : Nat) (dd : Option Addr) (sl : Array (Option Value)) (x : Int) (u : Tok)
    (c0 : (decide (x < -(2 ^ 63)) || decide (x ≥ 2 ^ 63)) = false) (c1 : (items.isEmpty || x == 1) = false) (c2 : (decide (x ≤ 0) || items.isEmpty) = true) :
    Meets (Builtin.«tuple.__mul__» ⟨[.ref l, .int x u], []⟩) (fun _ R s => s.heap.get? l = some (tupObj items n dd sl) ∧
      R (.ok (.ret (Value.ref s.heap.objs.size))) { s with heap := s.heap.push { cls := Value.type "tuple", data := Data.seq #[] }, toks := s.toks }) := by
  refine .of_wp fun prog w A R s h => ?_
  obtain ⟨hp, g, d, tk, os⟩ := s
  obtain ⟨hl, h⟩ := h
  have ix := AutoSeq1.idx_int
  wp_walk using wpAny_loadPart' hl
  repeat (first
    | (refine wpAny_ite_false (bool_no c0 rfl) ?_; wp_walk using wpAny_loadPart' hl)
    | (refine wpAny_ite_false (bool_no c1 rfl) ?_; wp_walk using wpAny_loadPart' hl)
    | (refine wpAny_ite_true (bool_yes c2) ?_; wp_walk using wpAny_loadPart' hl))
  exact ⟨_, rfl, h⟩
theorem mul_one (l : Addr) (items : Array Value) (n : Nat) (dd : Option Addr) (sl : Array (Option Value)) (x : Int) (u : Tok)
    (c0 : (decide (x < -(2 ^ 63)) || decide (x ≥ 2 ^ 63)) = false) (c1 : (items.isEmpty || x == 1) = true) :
    Meets (Builtin.«tuple.__mul__» ⟨[.ref l, .int x u], []⟩) (fun _ R s => s.heap.get? l = some (tupObj items n dd sl) ∧ R (.ok (.ret (Value.ref l))) s) := by
  refine .of_wp fun prog w A R s h => ?_
  obtain ⟨hp, g, d, tk, os⟩ := s
  obtain ⟨hl, h⟩ := h
  have ix := AutoSeq1.idx_int
  wp_walk using wpAny_loadPart' hl
  repeat (first
    | (refine wpAny_ite_false (bool_no c0 rfl) ?_; wp_walk using wpAny_loadPart' hl)
    | (refine wpAny_ite_true (bool_yes c1) ?_; wp_walk using wpAny_loadPart' hl))
  exact ⟨_, rfl, h⟩
section
variable {X : Cx}
/-- t * k for k at most one -/
theorem op_rep01 : OpR X (binaryOp .Mult) (fun x y H Q => ∃ l k xs, x = .ref l ∧ y = .int k ∧ SqT X.K H l xs ∧ xs ≠ [] ∧ 0 ≤ k ∧ k ≤ 1 ∧ (k = 1 → Q (.ref l) H) ∧ (k = 0 → ∀ p, H p = none → Q (.ref p) (upd H p (.tup [])))) := by
  intro pins s σ H x y v u Q I rx ry h
  obtain ⟨l, k, xs, rfl, rfl, hT, hne, h1, h2, q1, q0⟩ := h
  cases rx
  obtain ⟨t, rfl⟩ := ry
  obtain ⟨its, r, ⟨⟨cls, dd, data, sl⟩, ho, hc, n, hd⟩, hs⟩ := I.tuple hT
  simp only at hc hd
  subst hc hd
  have hi : its.toArray.isEmpty = false := by
    cases its with
    | nil =>
      cases r
      exact absurd rfl hne
    | cons a b => rfl
  have c0 : (decide (k < -(2 ^ 63)) || decide (k ≥ 2 ^ 63)) = false := by
    rw [decide_eq_false (by omega), decide_eq_false (by omega)]
    rfl
  by_cases hk : k = 1
  · have c1 : (its.toArray.isEmpty || k == 1) = true := by
      rw [hi, Bool.false_or]
      exact beq_iff_eq.mpr hk
    refine wpAny_binaryOp_repeat_ref (T := "tuple") (U := "int") (by decide) ⟨_, ho, rfl⟩ (fun s' => typeIs_int s' k t) noFill_tuple_mul F.fills_int_mul F.slot_int_rmul repeat_tuple F.slot_int_index.lookup ?_
    refine call_meets F.slot_int_rmul (typeIs_int s k t) F.entry_int_rmul (F.args_int_rmul_2 _ _) (int_rmul_tuple k t l its.toArray n dd sl) ⟨ho, rfl, ⟨_, ho, rfl⟩, ?_⟩
    refine call_meets F.slot_tuple_mul ⟨_, ho, rfl⟩ F.entry_tuple_mul (F.args_tuple_mul_2 _ _) (mul_one l its.toArray n dd sl k t c0 c1) ⟨ho, ?_⟩
    exact ⟨.ref l, H, I, rfl, q1 hk⟩
  · have c1 : (its.toArray.isEmpty || k == 1) = false := by
      rw [hi, Bool.false_or]
      exact beq_eq_false_iff_ne.mpr hk
    have c2 : (decide (k ≤ 0) || its.toArray.isEmpty) = true := by
      rw [hi, Bool.or_false]
      exact decide_eq_true (by omega)
    refine wpAny_binaryOp_repeat_ref (T := "tuple") (U := "int") (by decide) ⟨_, ho, rfl⟩ (fun s' => typeIs_int s' k t) noFill_tuple_mul F.fills_int_mul F.slot_int_rmul repeat_tuple F.slot_int_index.lookup ?_
    refine call_meets F.slot_int_rmul (typeIs_int s k t) F.entry_int_rmul (F.args_int_rmul_2 _ _) (int_rmul_tuple k t l its.toArray n dd sl) ⟨ho, rfl, ⟨_, ho, rfl⟩, ?_⟩
    refine call_meets F.slot_tuple_mul ⟨_, ho, rfl⟩ F.entry_tuple_mul (F.args_tuple_mul_2 _ _) (mul_none l its.toArray n dd sl k t c0 c1 c2) ⟨ho, ?_⟩
    refine ⟨.ref s.heap.objs.size, _, I.laid (t' := s.toks) (o := .tup []) (fun b ob q => Heap.get?_push_of_some _ q) (Nat.le_refl _) ?_, rfl, q0 (by omega) _ (I.hok.fresh (Nat.le_refl _))⟩
    exact ⟨Nat.zero_le _, [], .nil, IsTup.new _ _⟩
theorem RVs.rep {K : PySem.W.Frag} {m : List Addr} {H : Hp} {ws : List W} {vs : List V} (r : RVs K m H ws vs) : ∀ k : Nat, RVs K m H (List.replicate k ws).flatten (List.replicate k vs).flatten
  | 0 => .nil
  | k + 1 => by
    rw [List.replicate_succ, List.replicate_succ, List.flatten_cons, List.flatten_cons]
    exact r.append (RVs.rep r k)
theorem o_mul {E : XK} : OpR X (binaryOp .Mult) (rW (kxj X ϑ) E M.mulW) := by
  intro pins s σ H x y v u Q I rx ry h
  obtain ⟨m, S, a, b, rs, ra, rb, q⟩ := h
  cases ra <;> cases rb <;> try exact False.elim q
  · simp only [M.mulW] at q
    split at q
    · rename_i hc
      refine op_mul pins s σ H _ _ v u Q I rx ry ⟨_, _, rfl, rfl, ?_, q.here rs (.int _)⟩
      rcases hc with hc | hc
      · exact Or.inl ⟨by omega, by omega⟩
      · exact Or.inr ⟨by omega, by omega⟩
    · exact False.elim q
  · rename_i ad ws vs hq rv k
    simp only [M.mulW] at q
    split at q
    · rename_i hc
      obtain ⟨h1, h2, h3⟩ := hc
      have hl : vs.length = 1 := by rw [← rv.length]; exact h1
      have hne : vs ≠ [] := fun e => by
        rw [e] at hl
        cases hl
      by_cases hk : 2 ≤ k
      · refine op_repT pins s σ H _ _ v u Q I rx ry ⟨_, k, vs, rfl, rfl, hq, hne, hk, h3, by omega, fun p hp => ?_⟩
        exact q m _ _ (List.prefix_refl _) (Stay.new hp) (rs.grow hp) (.tup (SqT.of upd_same) ((rv.rep k.toNat).mono (List.prefix_refl _) (Stay.new hp)))
      · refine op_rep01 pins s σ H _ _ v u Q I rx ry ⟨_, k, vs, rfl, rfl, hq, hne, h2, by omega, fun e => ?_, fun e p hp => ?_⟩
        · subst e
          refine q.here rs ?_
          have e2 : (List.replicate (1 : Int).toNat ws).flatten = ws := by simp
          rw [e2]
          exact .tup hq rv
        · subst e
          exact q m _ _ (List.prefix_refl _) (Stay.new hp) (rs.grow hp) (.tup (SqT.of upd_same) .nil)
    · exact False.elim q
end

/-! ### isinstance, is -/
namespace M
def kinds : List String := ["int", "bool", "str", "tuple", "list", "dict"]
def isiK : List W → Store → Rs W := fun ws S => match ws with
  | [w, .ty T] => if T ∈ kinds then (match tyName w S with
    | some t => .ok (.bl (isiB t T)) S
    | none => .no) else .no
  | _ => .no
def isW : G2 := fun a b S => match a, b with
  | .bl x, .bl y => .ok (.bl (decide (x = y))) S
  | .non, .non => .ok (.bl true) S
  | .bl _, .non => .ok (.bl false) S
  | .int _, .non => .ok (.bl false) S
  | .str _, .non => .ok (.bl false) S
  | .tup _, .non => .ok (.bl false) S
  | .ref _, .non => .ok (.bl false) S
  | .fl _, .non => .ok (.bl false) S
  | _, _ => .no
def isntW : G2 := fun a b S => match a, b with
  | .bl x, .bl y => .ok (.bl (!decide (x = y))) S
  | .non, .non => .ok (.bl false) S
  | .bl _, .non => .ok (.bl true) S
  | .int _, .non => .ok (.bl true) S
  | .str _, .non => .ok (.bl true) S
  | .tup _, .non => .ok (.bl true) S
  | .ref _, .non => .ok (.bl true) S
  | .fl _, .non => .ok (.bl true) S
  | _, _ => .no
end M
theorem kit_all : ∀ t ∈ ["NoneType", "bool", "int", "str", "tuple", "list", "dict"], ∀ T ∈ M.kinds, kitB t T = some (M.isiB t T) := by decide +kernel
theorem sqt_ty {K : PySem.W.Frag} {H : Hp} {a : Addr} {vs : List V} (h : SqT K H a vs) : TyX K H (.ref a) (.type "tuple") := by
  rcases h with (h | ⟨o, h⟩) | ⟨o, its, n, h1, h2, _⟩
  · exact .base (.tup h)
  · exact .fTuple h
  · exact .kTuple h1 h2
theorem sql_ty {K : PySem.W.Frag} {H : Hp} {a : Addr} {vs : List V} (h : SqL K H a vs) : TyX K H (.ref a) (.type "list") := by
  rcases h with (h | ⟨o, h⟩) | ⟨o, its, n, h1, h2, _⟩
  · exact .base (.lst h)
  · exact .base (.frz h)
  · exact .kList h1 h2
theorem ty_rel {K : Kx} {m : List Addr} {H : Hp} {S : Store} {w : W} {v : V} {t : String} (rs : RS K m S H) (r : RV K m H w v) (h : M.tyName w S = some t) :
    TyX K H v (.type t) ∧ t ∈ ["NoneType", "bool", "int", "str", "tuple", "list", "dict"] := by
  cases r <;> simp only [M.tyName] at h
  · cases h
    exact ⟨.base .non, by decide⟩
  · cases h
    exact ⟨.base (.bl _), by decide⟩
  · cases h
    exact ⟨.base (.int _), by decide⟩
  · cases h
    exact ⟨.base (.str _), by decide⟩
  · cases h
  · rename_i r a hr
    split at h
    · rename_i ys e
      cases h
      obtain ⟨vs, e1, e2⟩ := rs.ob _ _ _ e hr
      exact ⟨sql_ty (SqL.of e1), by decide⟩
    · rename_i ys e
      cases h
      obtain ⟨vs, e1, e2⟩ := rs.ob _ _ _ e hr
      exact ⟨.base (.dK e1), by decide⟩
    · cases h
  · cases h
    rename_i hq _
    exact ⟨sqt_ty hq, by decide⟩
  · cases h
    rename_i hq _
    exact ⟨sql_ty hq.l, by decide⟩
section
variable {X : Cx} {E : XK}
theorem c_isi : CallR X (.builtin "isinstance") (rWs (kxj X ϑ) E M.isiK) := by
  intro pins s σ H xs us Q I r h
  obtain ⟨m, S, ws, rs, rv, q⟩ := h
  unfold M.isiK at q
  split at q
  · rename_i w T
    obtain ⟨v, z, rfl, r1, r2⟩ := rvs2 rv
    cases r2
    split at q
    · rename_i hT
      split at q
      · rename_i t ht
        obtain ⟨ty, hm⟩ := ty_rel rs r1 ht
        exact call_isi pins s σ H _ us Q I r ⟨v, _, _, _, _, rfl, .ty T, ty, kit_ty (kit_all t hm T hT), q.here rs (.bl _)⟩
      · exact False.elim q
    · exact False.elim q
  · exact False.elim q
theorem o_is : OpR X (compareOp .Is) (rW (kxj X ϑ) E M.isW) := by
  intro pins s σ H x y v u Q I rx ry h
  obtain ⟨m, S, a, b, rs, ra, rb, q⟩ := h
  cases rb <;> cases ra <;> first
    | exact False.elim q
    | exact op_isN pins s σ H _ _ v u Q I rx ry ⟨rfl, q.here rs (.bl _)⟩
    | exact op_isBl pins s σ H _ _ v u Q I rx ry ⟨_, _, rfl, rfl, q.here rs (.bl _)⟩
theorem o_isnt : OpR X (compareOp .IsNot) (rW (kxj X ϑ) E M.isntW) := by
  intro pins s σ H x y v u Q I rx ry h
  obtain ⟨m, S, a, b, rs, ra, rb, q⟩ := h
  cases rb <;> cases ra <;> first
    | exact False.elim q
    | exact op_notN pins s σ H _ _ v u Q I rx ry ⟨rfl, q.here rs (.bl _)⟩
    | exact op_notBl pins s σ H _ _ v u Q I rx ry ⟨_, _, rfl, rfl, q.here rs (.bl _)⟩
end
end Wo
set_option autoImplicit true
set_option maxRecDepth 100000
set_option maxHeartbeats 4000000
namespace Wo
open PySem L2
/-! W6: tests, statements, targets. -/
namespace M
def truW (w : W) (S : Store) : Option Bool := match w with
  | .non => some false
  | .bl b => some b
  | .int i => some (i != 0)
  | .str x => if x.length ≤ lim then some ((x.length : Int) != 0) else none
  | .tup xs => some (!xs.isEmpty)
  | .fl xs => some (!xs.isEmpty)
  | .ref r => match S[r]? with
    | some (.lst xs) => some (!xs.isEmpty)
    | some (.dK kvs) => some (!kvs.isEmpty)
    | _ => none
  | .ty _ => none
def ofTru (w : W) (S : Store) : Rs Bool := match truW w S with
  | some b => .ok b S
  | none => .no
def ofBl (w : W) (S : Store) : Rs Bool := match w with
  | .bl b => .ok b S
  | _ => .no
def tru (g : ME) : MT := fun f S => (g f S).bind ofTru
def tst (g : ME) : MT := fun f S => (g f S).bind ofBl
def andT (a b : MT) : MT := fun f S => (a f S).bind fun c S1 => if c = true then b f S1 else .ok false S1
def orT (a b : MT) : MT := fun f S => (a f S).bind fun c S1 => if c = true then .ok true S1 else b f S1
def notT (a : MT) : MT := fun f S => (a f S).bind fun c S1 => .ok (!c) S1
def andV (a b : ME) : ME := fun f S => (a f S).bind fun x S1 => (ofTru x S1).bind fun c S2 => if c = true then b f S2 else .ok x S2
def orV (a b : ME) : ME := fun f S => (a f S).bind fun x S1 => (ofTru x S1).bind fun c S2 => if c = true then .ok x S2 else b f S2
def notV (a : ME) : ME := fun f S => (a f S).bind fun x S1 => (ofTru x S1).bind fun c S2 => .ok (.bl (!c)) S2
def ifE (c : MT) (a b : ME) : ME := fun f S => (c f S).bind fun k S1 => if k = true then a f S1 else b f S1
/-- a op b op' c -/
def chain (g g' : G2) (a b c : ME) : ME := fun f S => (a f S).bind fun x S1 => (b f S1).bind fun y S2 => (g x y S2).bind fun z S3 => (ofBl z S3).bind fun k S4 => if k = true then (c f S4).bind fun w S5 => g' y w S5 else .ok (.bl false) S4
end M
theorem tru_rel {K : Kx} {m : List Addr} {H : Hp} {S : Store} {w : W} {v : V} {b : Bool} (rs : RS K m S H) (r : RV K m H w v) (h : M.truW w S = some b) : TruV K v H b := by
  have emp : ∀ {ws : List W} {vs : List V}, RVs K m H ws vs → (!ws.isEmpty) = !vs.isEmpty := fun r => by cases r <;> rfl
  cases r <;> simp only [M.truW] at h
  · cases h
    rfl
  · cases h
    rfl
  · cases h
    rfl
  · split at h
    · rename_i hl
      cases h
      exact ⟨lim_line hl, rfl⟩
    · cases h
  · cases h
  · rename_i r a hr
    split at h
    · rename_i ys e
      cases h
      obtain ⟨vs, e1, e2⟩ := rs.ob _ _ _ e hr
      exact Or.inl ⟨vs, SqL.of e1, emp e2⟩
    · rename_i ys e
      cases h
      obtain ⟨vs, e1, e2⟩ := rs.ob _ _ _ e hr
      refine Or.inr (Or.inr ⟨vs, e1, ?_⟩)
      cases e2 <;> rfl
    · cases h
  · rename_i hq rv
    cases h
    exact Or.inr (Or.inl ⟨_, hq, emp rv⟩)
  · rename_i hq rv
    cases h
    exact Or.inl ⟨_, hq.l, emp rv⟩
section
variable {X : Cx} {E : EX} {a b c : Expr} {pos : Pos} {rest : List Expr}
theorem t_val {g : ME} (h : PE X a (tE (kxj X ϑ) E g)) (he : ∀ whole, isTrue a X.env whole = (do let v ← whole; standAt a.pos; holding [v] (truthy v)) := by intro _; rfl) : PT X a (tT (kxj X ϑ) E (M.tru g)) := by
  refine PT.imp (pt_truth h he) fun s H Q q => ?_
  refine tM.imp (tM.seq (R := RV X.K) (g := g) (k := fun _ => M.ofTru) q) fun x H1 ⟨m, S, f, w, rs, rf, rv, q⟩ => ?_
  unfold M.ofTru at q
  split at q
  · rename_i k hk
    exact ⟨k, tru_rel rs rv hk, q.here rs rfl⟩
  · exact False.elim q
theorem ofBl_at {K : Kx} {E : XK} {m : List Addr} {H : Hp} {S : Store} {w : W} {x : V} {Q : Bool → Hp → Prop} (rs : RS K m S H) (rv : RV K m H w x) (q : Post K E RB m H (M.ofBl w S) Q) : ∃ k, x = .bl k ∧ Q k H := by
  cases rv <;> try exact False.elim q
  exact ⟨_, rfl, q.here rs rfl⟩
theorem t_cmp {op : CmpOp} {g : G2} {ga gb : ME} (ho : ∀ E, OpR X (compareOp op) (rW (kxj X ϑ) E g)) (ha : PE X a (tE (kxj X ϑ) E ga)) (hb : PE X b (tE (kxj X ϑ) E gb)) (hm : behindInMarks op b = false) : PT X (.Compare a [op] [b] pos) (tT (kxj X ϑ) E (M.tst (M.op2 g ga gb))) := by
  refine ⟨fun pins sh s H Q I h => ?_⟩
  refine (pt_cmpR (ho (E s)) ha hb hm).run pins sh s H Q I ?_
  have h2 := tM.seq (R := RV X.K) (g := M.op2 g ga gb) (k := fun _ => M.ofBl) h
  exact tE.two (tM.imp h2 fun x H1 ⟨m, S, f, w, rs, rf, rv, q⟩ => ofBl_at rs rv q)
theorem t_not {g : MT} (h : PT X a (tT (kxj X ϑ) E g)) : PT X (.UnaryOp .Not a pos) (tT (kxj X ϑ) E (M.notT g)) := by
  refine PT.imp (pt_not h) fun s H Q q => ?_
  refine tM.imp (tM.seq (R := RB) (g := g) (k := fun _ c S1 => .ok (!c) S1) q) fun x H1 ⟨m, S, f, w, rs, rf, rv, q⟩ => ?_
  cases rv
  exact q.here rs rfl
theorem w_and1 {g : MT} (h : PT X a (tT (kxj X ϑ) E g)) : PW X (.BoolOp .And [a] pos) (tT (kxj X ϑ) E g) := pw_and1 h
theorem w_or1 {g : MT} (h : PT X a (tT (kxj X ϑ) E g)) : PW X (.BoolOp .Or [a] pos) (tT (kxj X ϑ) E g) := pw_or1 h
theorem w_and {ga gb : MT} (ha : PT X a (tT (kxj X ϑ) E ga)) (hb : PW X (.BoolOp .And (b :: rest) pos) (tT (kxj X ϑ) E gb)) : PW X (.BoolOp .And (a :: b :: rest) pos) (tT (kxj X ϑ) E (M.andT ga gb)) := by
  refine PW.imp (pw_and ha hb) fun s H Q q => ?_
  refine tM.imp (tM.seq (R := RB) (g := ga) (k := fun f c S1 => if c = true then gb f S1 else .ok false S1) q) fun x H1 ⟨m, S, f, w, rs, rf, rv, q⟩ => ?_
  cases rv
  cases x with
  | true => exact ⟨m, S, f, rs, rf, q⟩
  | false => exact Post.here (S := S) (a := false) q rs rfl
theorem w_or {ga gb : MT} (ha : PT X a (tT (kxj X ϑ) E ga)) (hb : PW X (.BoolOp .Or (b :: rest) pos) (tT (kxj X ϑ) E gb)) : PW X (.BoolOp .Or (a :: b :: rest) pos) (tT (kxj X ϑ) E (M.orT ga gb)) := by
  refine PW.imp (pw_or ha hb) fun s H Q q => ?_
  refine tM.imp (tM.seq (R := RB) (g := ga) (k := fun f c S1 => if c = true then .ok true S1 else gb f S1) q) fun x H1 ⟨m, S, f, w, rs, rf, rv, q⟩ => ?_
  cases rv
  cases x with
  | true => exact Post.here (S := S) (a := true) q rs rfl
  | false => exact ⟨m, S, f, rs, rf, q⟩
/-- by its truth -/
theorem tru_at {K : Kx} {E : XK} {α β : Type} {R : List Addr → Hp → α → β → Prop} {m : List Addr} {H : Hp} {S : Store} {w : W} {x : V} {k : Bool → Store → Rs α} {Q : β → Hp → Prop} (rs : RS K m S H) (rv : RV K m H w x)
    (q : Post K E R m H ((M.ofTru w S).bind k) Q) : ∃ c, TruV K x H c ∧ Post K E R m H (k c S) Q := by
  unfold M.ofTru at q
  split at q
  · rename_i c hc
    exact ⟨c, tru_rel rs rv hc, q⟩
  · exact False.elim q
theorem e_one {op : BoolOp} {g : ME} (h : PE X a (tE (kxj X ϑ) E g)) : PE X (.BoolOp op [a] pos) (tE (kxj X ϑ) E g) := pe_one h
theorem e_and {ga gb : ME} (ha : PE X a (tE (kxj X ϑ) E ga)) (hb : PE X (.BoolOp .And (b :: rest) pos) (tE (kxj X ϑ) E gb)) : PE X (.BoolOp .And (a :: b :: rest) pos) (tE (kxj X ϑ) E (M.andV ga gb)) := by
  refine PE.imp (pe_andT ha hb) fun s H Q q => ?_
  refine tM.imp (tM.seq (R := RV X.K) (g := ga) (k := fun f x S1 => (M.ofTru x S1).bind fun c S2 => if c = true then gb f S2 else .ok x S2) q) fun x H1 ⟨m, S, f, w, rs, rf, rv, q⟩ => ?_
  obtain ⟨c, hc, q⟩ := tru_at rs rv q
  refine ⟨c, hc, ?_⟩
  cases c with
  | true => exact ⟨m, S, f, rs, rf, q⟩
  | false => exact Post.here (S := S) (a := w) q rs rv
theorem e_or {ga gb : ME} (ha : PE X a (tE (kxj X ϑ) E ga)) (hb : PE X (.BoolOp .Or (b :: rest) pos) (tE (kxj X ϑ) E gb)) : PE X (.BoolOp .Or (a :: b :: rest) pos) (tE (kxj X ϑ) E (M.orV ga gb)) := by
  refine PE.imp (pe_orT ha hb) fun s H Q q => ?_
  refine tM.imp (tM.seq (R := RV X.K) (g := ga) (k := fun f x S1 => (M.ofTru x S1).bind fun c S2 => if c = true then .ok x S2 else gb f S2) q) fun x H1 ⟨m, S, f, w, rs, rf, rv, q⟩ => ?_
  obtain ⟨c, hc, q⟩ := tru_at rs rv q
  refine ⟨c, hc, ?_⟩
  cases c with
  | true => exact Post.here (S := S) (a := w) q rs rv
  | false => exact ⟨m, S, f, rs, rf, q⟩
theorem e_not {g : ME} (h : PE X a (tE (kxj X ϑ) E g)) : PE X (.UnaryOp .Not a pos) (tE (kxj X ϑ) E (M.notV g)) := by
  refine PE.imp (pe_notT h) fun s H Q q => ?_
  refine tM.imp (tM.seq (R := RV X.K) (g := g) (k := fun f x S1 => (M.ofTru x S1).bind fun c S2 => .ok (W.bl (!c)) S2) q) fun x H1 ⟨m, S, f, w, rs, rf, rv, q⟩ => ?_
  obtain ⟨c, hc, q⟩ := tru_at rs rv q
  exact ⟨c, hc, q.here rs (.bl _)⟩
theorem e_if {gc : MT} {ga gb : ME} (hc : PT X c (tT (kxj X ϑ) E gc)) (ha : PE X a (tE (kxj X ϑ) E ga)) (hb : PE X b (tE (kxj X ϑ) E gb)) : PE X (.IfExp c a b pos) (tE (kxj X ϑ) E (M.ifE gc ga gb)) := by
  refine PE.imp (pe_ifExp hc ha hb) fun s H Q q => ?_
  refine tM.imp (tM.seq (R := RB) (g := gc) (k := fun f k S1 => if k = true then ga f S1 else gb f S1) q) fun x H1 ⟨m, S, f, w, rs, rf, rv, q⟩ => ?_
  cases rv
  cases x with
  | true => exact ⟨m, S, f, rs, rf, q⟩
  | false => exact ⟨m, S, f, rs, rf, q⟩
theorem chain_at {K : Kx} {ga gb gc : ME} {g g' : G2} {s : St} {H : Hp} {Q : VK} (h : tE K E (M.chain g g' ga gb gc) s H Q) : tChain (rW K (E s) g) (rW K (E s) g') (tE K E ga) (tE K E gb) (tE K E gc) s H Q := by
  refine tM.imp (tM.seq (R := RV K) (g := ga) (k := fun f x S1 => (gb f S1).bind fun y S2 => (g x y S2).bind fun z S3 => (M.ofBl z S3).bind fun k S4 => if k = true then (gc f S4).bind fun w S5 => g' y w S5 else .ok (.bl false) S4) h) fun x H1 q => ?_
  obtain ⟨m, S, f, a, rs, rf, rv, q⟩ := q
  refine ⟨m, S, f, rs, rf, q.bind.imp fun y H2 ⟨m1, S1, b, p, st, rs1, rb, q1⟩ => ?_⟩
  refine ⟨m1, S1, a, b, rs1, rv.mono p st, rb, q1.bind.imp fun z H3 ⟨m2, S2, d, p', st', rs2, rd, q2⟩ => ?_⟩
  have hb : ∃ k, d = .bl k ∧ z = .bl k := by
    cases rd <;> first | exact False.elim q2 | exact ⟨_, rfl, rfl⟩
  obtain ⟨k, rfl, rfl⟩ := hb
  refine ⟨k, rfl, ?_⟩
  cases k with
  | true =>
    refine ⟨m2, S2, f, rs2, (rf.mono p st).mono p' st', Post.bind (r := gc f S2) (k := fun w S5 => g' b w S5) q2 |>.imp fun w H4 ⟨m3, S3, d3, p3, st3, rs3, rd3, q3⟩ => ?_⟩
    exact ⟨m3, S3, b, d3, rs3, (rb.mono p' st').mono p3 st3, rd3, q3⟩
  | false => exact Post.here (S := S2) (a := W.bl false) q2 rs2 (.bl _)
theorem e_chain {op op' : CmpOp} {g g' : G2} {ga gb gc : ME} (ho : ∀ E, OpR X (compareOp op) (rW (kxj X ϑ) E g)) (ho' : ∀ E, OpR X (compareOp op') (rW (kxj X ϑ) E g')) (ha : PE X a (tE (kxj X ϑ) E ga)) (hb : PE X b (tE (kxj X ϑ) E gb)) (hc : PE X c (tE (kxj X ϑ) E gc))
    (hm : lastMarks [op, op'] [b, c] = false := by with_unfolding_all rfl) : PE X (.Compare a [op, op'] [b, c] pos) (tE (kxj X ϑ) E (M.chain g g' ga gb gc)) :=
  ⟨fun pins sh s H Q I h => (pe_chain (ho (E s)) (ho' (E s)) ha hb hc hm).run pins sh s H Q I (chain_at h)⟩
theorem t_chain {op op' : CmpOp} {g g' : G2} {ga gb gc : ME} (ho : ∀ E, OpR X (compareOp op) (rW (kxj X ϑ) E g)) (ho' : ∀ E, OpR X (compareOp op') (rW (kxj X ϑ) E g')) (ha : PE X a (tE (kxj X ϑ) E ga)) (hb : PE X b (tE (kxj X ϑ) E gb)) (hc : PE X c (tE (kxj X ϑ) E gc))
    (hm : lastMarks [op, op'] [b, c] = false := by with_unfolding_all rfl) : PT X (.Compare a [op, op'] [b, c] pos) (tT (kxj X ϑ) E (M.tst (M.chain g g' ga gb gc))) := by
  refine ⟨fun pins sh s H Q I h => (pt_chain (ho (E s)) (ho' (E s)) ha hb hc hm).run pins sh s H Q I ?_⟩
  have h2 := tM.seq (R := RV X.K) (g := M.chain g g' ga gb gc) (k := fun _ => M.ofBl) h
  exact chain_at (tM.imp h2 fun x H1 ⟨m, S, f, w, rs, rf, rv, q⟩ => ofBl_at rs rv q)
end

/-! ### statements -/
inductive Fl where
  | next (f : Fr)
  | ret (w : W)
  | brk (f : Fr)
  | cont (f : Fr)
inductive RsS where
  | ok (l : Fl) (S : Store)
  | ex (e : Xn) (f : Fr) (S : Store)
  | no
abbrev MS := Fr → Store → RsS
def PostS (K : Kx) (E : EX) (m : List Addr) (H : Hp) (r : RsS) (D : Ends) : Prop := match r with
  | .ok (.next f) S => ∀ m' H' s', Pre m m' → Stay K H H' → RS K m' S H' → RF K m' H' f s' → D.nx s' H'
  | .ok (.ret w) S => ∀ m' H' v, Pre m m' → Stay K H H' → RS K m' S H' → RV K m' H' w v → D.rt v H'
  | .ok (.brk f) S => ∀ m' H' s', Pre m m' → Stay K H H' → RS K m' S H' → RF K m' H' f s' → D.bk s' H'
  | .ok (.cont f) S => ∀ m' H' s', Pre m m' → Stay K H H' → RS K m' S H' → RF K m' H' f s' → D.ct s' H'
  | .ex e f S => ∀ m' H' s' d, Pre m m' → Stay K H H' → RS K m' S H' → RF K m' H' f s' → RX K m' H' e d → E s' (.ref (clA K e.cls)) d H'
  | .no => False
theorem PostS.mono {K : Kx} {E : EX} {m m1 : List Addr} {H H1 : Hp} {r : RsS} {D : Ends} (h : PostS K E m H r D) (p : Pre m m1) (s : Stay K H H1) : PostS K E m1 H1 r D := by
  cases r with
  | ok l S =>
    cases l <;> exact fun m' H' b p' s' => h m' H' b (p.trans p') (s.trans s')
  | ex e f S => exact fun m' H' b d p' s' => h m' H' b d (p.trans p') (s.trans s')
  | no => exact h
def tS (K : Kx) (E : EX) (g : MS) : TS := fun D s H => ∃ m S f, RS K m S H ∧ RF K m H f s ∧ PostS K E m H (g f S) D
namespace M
/-- an expression, then a statement's end -/
def thenS {α : Type} (g : Fr → Store → Rs α) (k : α → Fr → Store → RsS) : MS := fun f S => match g f S with
  | .ok a S1 => k a f S1
  | .ex e S1 => .ex e f S1
  | .no => .no
def seq (a b : MS) : MS := fun f S => match a f S with
  | .ok (.next f1) S1 => b f1 S1
  | r => r
def skip : MS := fun f S => .ok (.next f) S
def ret (g : ME) : MS := thenS g fun w _ S => .ok (.ret w) S
def retN : MS := fun _ S => .ok (.ret .non) S
def drop (g : ME) : MS := thenS g fun _ f S => .ok (.next f) S
def ifS (c : MT) (a b : MS) : MS := thenS c fun k f S => if k = true then a f S else b f S
def brk : MS := fun f S => .ok (.brk f) S
def cont : MS := fun f S => .ok (.cont f) S
abbrev MG := W → Fr → Store → Option Fr
abbrev MGs := List W → Fr → Store → Option Fr
def tgN (i : Nat) : MG := fun w f _ => some (f.set i (some w))
def tgNil : MGs := fun ws f _ => match ws with
  | [] => some f
  | _ => none
def tgCons (t : MG) (u : MGs) : MGs := fun ws f S => match ws with
  | w :: r => (t w f S).bind fun f1 => u r f1 S
  | [] => none
def tgT (n : Nat) (t : MGs) : MG := fun w f S => match w with
  | .tup ws => if ws.length = n then t ws f S else none
  | _ => none
def asg (g : ME) (t : MG) : MS := thenS g fun w f S => match t w f S with
  | some f' => .ok (.next f') S
  | none => .no
end M
/-- an expression ahead of a statement's end -/
theorem tS.first {K : Kx} {E : EX} {α β : Type} {R : List Addr → Hp → α → β → Prop} {g : Fr → Store → Rs α} {k : α → Fr → Store → RsS} {D : Ends} {s : St} {H : Hp} (h : tS K E (M.thenS g k) D s H) :
    tM K E R g s H (fun b H1 => ∃ m S f a, RS K m S H1 ∧ RF K m H1 f s ∧ R m H1 a b ∧ PostS K E m H1 (k a f S) D) := by
  obtain ⟨m, S, f, rs, rf, q⟩ := h
  refine ⟨m, S, f, rs, rf, ?_⟩
  unfold M.thenS at q
  cases e : g f S with
  | ok a S1 =>
    rw [e] at q
    exact fun m' H' b p st rs' rv => ⟨m', S1, f, a, rs', rf.mono p st, rv, PostS.mono q p st⟩
  | ex x S1 =>
    rw [e] at q
    exact fun m' H' d p st rs' rx => q m' H' s d p st rs' (rf.mono p st) rx
  | no =>
    rw [e] at q
    exact q
section
variable {K : Kx} {E : EX} {m : List Addr} {H : Hp} {S : Store} {f : Fr} {s : St} {D : Ends}
theorem PostS.next (q : PostS K E m H (.ok (.next f) S) D) (rs : RS K m S H) (rf : RF K m H f s) : D.nx s H := q m H s (List.prefix_refl _) (Stay.refl _) rs rf
end
section
variable {X : Cx} {E : EX} {pos : Pos} {st : Stmt} {rest : List Stmt} {e : Expr}
theorem s_nil : PSs X [] (tS (kxj X ϑ) E M.skip) := PSs.imp pss_nil fun D s H ⟨m, S, f, rs, rf, q⟩ => q.next rs rf
theorem s_seq {a b : MS} (h1 : PS X st (tS (kxj X ϑ) E a)) (h2 : PSs X rest (tS (kxj X ϑ) E b)) : PSs X (st :: rest) (tS (kxj X ϑ) E (M.seq a b)) := by
  refine PSs.imp (pss_cons h1 h2) fun D s H ⟨m, S, f, rs, rf, q⟩ => ?_
  refine ⟨m, S, f, rs, rf, ?_⟩
  unfold M.seq at q
  cases ea : a f S with
  | ok l S1 =>
    rw [ea] at q
    cases l with
    | next f1 => exact fun m' H' s' p st rs' rf' => ⟨m', S1, f1, rs', rf', PostS.mono q p st⟩
    | ret w => exact q
    | brk f1 => exact q
    | cont f1 => exact q
  | ex x f1 S1 =>
    rw [ea] at q
    exact q
  | no =>
    rw [ea] at q
    exact q
theorem s_one {a : MS} (h1 : PS X st (tS (kxj X ϑ) E a)) : PSs X [st] (tS (kxj X ϑ) E a) := pss_one h1
theorem s_pass : PS X (.Pass pos) (tS (kxj X ϑ) E M.skip) := PS.imp ps_pass fun D s H ⟨m, S, f, rs, rf, q⟩ => q.next rs rf
theorem s_brk : PS X (.Break pos) (tS (kxj X ϑ) E M.brk) := PS.imp ps_break fun D s H ⟨m, S, f, rs, rf, q⟩ => q m H s (List.prefix_refl _) (Stay.refl _) rs rf
theorem s_cont : PS X (.Continue pos) (tS (kxj X ϑ) E M.cont) := PS.imp ps_continue fun D s H ⟨m, S, f, rs, rf, q⟩ => q m H s (List.prefix_refl _) (Stay.refl _) rs rf
theorem s_ret {g : ME} (h : PE X e (tE (kxj X ϑ) E g)) : PS X (.Return (some e) pos) (tS (kxj X ϑ) E (M.ret g)) :=
  PS.imp (ps_ret h) fun D s H q => tM.imp (tS.first (R := RV X.K) q) fun v H1 ⟨m, S, f, w, rs, rf, rv, q⟩ => q m H1 v (List.prefix_refl _) (Stay.refl _) rs rv
theorem s_expr {g : ME} (h : PE X e (tE (kxj X ϑ) E g)) (hs : swapsWith e none pos.line X.env = pure false := by rfl) : PS X (.Expr e pos) (tS (kxj X ϑ) E (M.drop g)) :=
  PS.imp (ps_expr h hs) fun D s H q => tM.imp (tS.first (R := RV X.K) q) fun v H1 ⟨m, S, f, w, rs, rf, rv, q⟩ => q.next rs rf
theorem s_if {c : Expr} {p q : List Stmt} {gc : MT} {a b : MS} (hc : PT X c (tT (kxj X ϑ) E gc)) (ha : PSs X p (tS (kxj X ϑ) E a)) (hb : PSs X q (tS (kxj X ϑ) E b)) : PS X (.If c p q pos) (tS (kxj X ϑ) E (M.ifS gc a b)) := by
  refine PS.imp (ps_if hc ha hb) fun D s H q => tM.imp (tS.first (R := RB) q) fun v H1 ⟨m, S, f, w, rs, rf, rv, q⟩ => ?_
  cases rv
  cases v with
  | true => exact ⟨m, S, f, rs, rf, q⟩
  | false => exact ⟨m, S, f, rs, rf, q⟩
/-! ### targets -/
def tG (K : Kx) (t : M.MG) (js : List Nat) : TG := fun v s H Q => ∃ m S f w f', RS K m S H ∧ RF K m H f s ∧ RV K m H w v ∧ t w f S = some f' ∧
  ∀ s', RF K m H f' s' → s'.length = s.length → (∀ j, j ∉ js → s'[j]? = s[j]?) → Q s' H
def tGs (K : Kx) (t : M.MGs) (js : List Nat) : TGs := fun vs s H Q => ∃ m S f ws f', RS K m S H ∧ RF K m H f s ∧ RVs K m H ws vs ∧ t ws f S = some f' ∧
  ∀ s', RF K m H f' s' → s'.length = s.length → (∀ j, j ∉ js → s'[j]? = s[j]?) → Q s' H
theorem PG.imp {e : Expr} {t t' : TG} (h : PG X e t) (i : ∀ v s H Q, t' v s H Q → t v s H Q) : PG X e t' := ⟨fun pins sh s H v u Q I r q => h.run pins sh s H v u Q I r (i v s H Q q)⟩
theorem PGs.imp {e : List Expr} {t t' : TGs} (h : PGs X e t) (i : ∀ v s H Q, t' v s H Q → t v s H Q) : PGs X e t' := ⟨fun pins sh s H v u Q I r q => h.run pins sh s H v u Q I r (i v s H Q q)⟩
theorem g_name {i : Nat} {x : Str} (hN : X.N.Nodup) (hi : X.N[i]? = some x := by rfl) (hx : Loc X.env.scope x := by first | exact Or.inl rfl | exact Or.inr rfl) (hf : X.fn x = true ∨ X.env.scope.names.lookup x = some .local := by first | exact .inl rfl | exact .inr rfl | assumption) :
    PG X (.Name x pos) (tG (kxj X ϑ) (M.tgN i) [i]) := by
  refine PG.imp (pg_name hN hi hx hf) fun v s H Q h => ?_
  obtain ⟨m, S, f, w, f', rs, rf, rv, e, q⟩ := h
  cases e
  refine q _ (rf.set rv i) (List.length_set ..) fun j hj => ?_
  exact List.getElem?_set_ne fun z => hj (by rw [z]; exact List.mem_singleton_self _)
theorem gs_nil : PGs X [] (tGs (kxj X ϑ) M.tgNil []) := by
  refine PGs.imp pgs_nil fun vs s H Q h => ?_
  obtain ⟨m, S, f, w, f', rs, rf, rv, e, q⟩ := h
  cases rv with
  | nil =>
    cases e
    exact ⟨rfl, q s rf rfl fun _ _ => rfl⟩
  | cons _ _ => cases e
theorem gs_cons {e : Expr} {es : List Expr} {t : M.MG} {u : M.MGs} {js ks : List Nat} (h1 : PG X e (tG (kxj X ϑ) t js)) (h2 : PGs X es (tGs (kxj X ϑ) u ks)) (hs : (assignEach (e :: es) X.env).map (·.2) = assign e X.env :: (assignEach es X.env).map (·.2) := by rfl) :
    PGs X (e :: es) (tGs (kxj X ϑ) (M.tgCons t u) (js ++ ks)) := by
  refine PGs.imp (pgs_cons h1 h2 hs) fun vs s H Q h => ?_
  obtain ⟨m, S, f, ws, f', rs, rf, rv, e, q⟩ := h
  cases rv with
  | nil => cases e
  | cons r rr =>
    simp only [M.tgCons, Option.bind_eq_some_iff] at e
    obtain ⟨f1, e1, e2⟩ := e
    refine ⟨_, _, rfl, m, S, f, _, f1, rs, rf, r, e1, fun s1 rf1 l1 k1 => ?_⟩
    refine ⟨m, S, f1, _, f', rs, rf1, rr, e2, fun s2 rf2 l2 k2 => ?_⟩
    refine q s2 rf2 (l2.trans l1) fun j hj => ?_
    rw [k2 j fun z => hj (List.mem_append_right _ z), k1 j fun z => hj (List.mem_append_left _ z)]
theorem g_tup {es : List Expr} {k n : Nat} {t : M.MGs} {js : List Nat} (rm : Rc X) (h : PGs X es (tGs (kxj X ϑ) t js)) (hn : (assignEach es X.env).length = n := by rfl) (hst : (assignEach es X.env).findIdx? (·.1) = none := by rfl) :
    PG X (.Tuple es k pos) (tG (kxj X ϑ) (M.tgT n t) js) := by
  refine PG.imp (pg_tup rm.calm h hn hst) fun v s H Q h => ?_
  obtain ⟨m, S, f, w, f', rs, rf, rv, e, q⟩ := h
  cases rv <;> simp only [M.tgT] at e <;> try (cases e)
  rename_i hq rvs
  split at e
  · rename_i hl
    exact ⟨_, _, rfl, hq, by rw [← rvs.length]; exact hl, m, S, f, _, f', rs, rf, rvs, e, q⟩
  · cases e
theorem s_asg {tg : Expr} {g : ME} {t : M.MG} {js : List Nat} (he : PE X e (tE (kxj X ϑ) E g)) (hg : PG X tg (tG (kxj X ϑ) t js)) (hs : swapsWithSole [tg] e pos.line X.env = pure false := by rfl) (hw : swappedStores [tg] e X.env = pure none := by rfl)
    (h1 : (assignEach [tg] X.env).map (·.2) = [assign tg X.env] := by rfl) : PS X (.Assign [tg] e pos) (tS (kxj X ϑ) E (M.asg g t)) := by
  refine PS.imp (ps_asg he hg hs hw h1) fun D s H q => tM.imp (tS.first (R := RV X.K) q) fun v H1 ⟨m, S, f, w, rs, rf, rv, q⟩ => ?_
  split at q
  · rename_i f' e
    exact ⟨m, S, f, w, f', rs, rf, rv, e, fun s' rf' _ _ => q.next rs rf'⟩
  · exact False.elim q
end
end Wo
set_option autoImplicit true
set_option maxRecDepth 100000
set_option maxHeartbeats 4000000
namespace Wo
open PySem L2
/-! W7: what is walked; comprehensions; loops. -/
abbrev Get := Store → Nat → Option (Option W)
structure ItR (K : Kx) (m0 : List Addr) (H0 : Hp) (get : Get) (J : It) : Prop where
  stop : ∀ (m : List Addr) (S : Store) (H : Hp) (i : Nat), Pre m0 m → Stay K H0 H → RS K m S H → get S i = some none → J.stop i H
  go : ∀ (m : List Addr) (S : Store) (H : Hp) (i : Nat) (x : W), Pre m0 m → Stay K H0 H → RS K m S H → get S i = some (some x) → J.go i H ∧ ∀ v H', J.yld i H v H' → Stay K H H' ∧ RS K m S H' ∧ RV K m H' x v
abbrev RIt (K : Kx) (m : List Addr) (H : Hp) (p : Nat × Get) (J : It) : Prop := ItR K m H p.2 J
abbrev MIt := Fr → Store → Rs (Nat × Get)
abbrev tI (K : Kx) (E : EX) (g : MIt) : TI := tM K E (RIt K) g
namespace M
def getF (xs : List W) : Get := fun _ i => some xs[i]?
def getR (r : Nat) : Get := fun S i => match S[r]? with
  | some (.lst ys) => some ys[i]?
  | _ => none
def iterW (w : W) (S : Store) : Rs (Nat × Get) := match w with
  | .tup xs => .ok (xs.length, getF xs) S
  | .fl xs => .ok (xs.length, getF xs) S
  | .str z => .ok (z.cps.size, getF (z.cps.toList.map fun c => .str ⟨#[c]⟩)) S
  | .ref r => match S[r]? with
    | some (.lst xs) => .ok (xs.length, getR r) S
    | _ => .no
  | _ => .no
def iter (g : ME) : MIt := fun f S => (g f S).bind iterW
def getN (lo : Int) (n : Nat) : Get := fun _ i => some (if i < n then some (.int (lo + (i : Nat))) else none)
def rng1W (ws : List W) (S : Store) : Rs (Nat × Get) := match ws with
  | [.int j] => if -1000000 ≤ j ∧ j < 1000000 then .ok (j.toNat, getN 0 j.toNat) S else .no
  | _ => .no
def rng2W (ws : List W) (S : Store) : Rs (Nat × Get) := match ws with
  | [.int i, .int j] => if (-1000000 ≤ i ∧ i < 1000000) ∧ (-1000000 ≤ j ∧ j < 1000000) then .ok ((j - i).toNat, getN i (j - i).toNat) S else .no
  | _ => .no
def rng1 (g : MA) : MIt := fun f S => (g f S).bind rng1W
def rng2 (g : MA) : MIt := fun f S => (g f S).bind rng2W
end M
section
variable {K : Kx} {m0 : List Addr} {H0 : Hp}
theorem itr_tup {a : Addr} {xs : List W} {vs : List V} (hq : SqT K H0 a vs) (rv : RVs K m0 H0 xs vs) : ItR K m0 H0 (M.getF xs) (Itt K a) := by
  refine ⟨fun m S H i p st rs e => ?_, fun m S H i x p st rs e => ?_⟩
  · have e' : xs[i]? = none := Option.some.inj e
    exact ⟨vs, st.t _ _ hq, by rw [← rv.length]; exact List.getElem?_eq_none_iff.mp e'⟩
  · have e' : xs[i]? = some x := Option.some.inj e
    obtain ⟨v, h1, h2⟩ := rv.get e'
    refine ⟨⟨vs, v, st.t _ _ hq, h1⟩, fun v' H' y => ?_⟩
    obtain ⟨rfl, y⟩ := y
    have z := y vs (st.t _ _ hq)
    rw [h1] at z
    cases z
    exact ⟨Stay.refl _, rs, h2.mono p st⟩
theorem itr_fl {a : Addr} {xs : List W} {vs : List V} (hq : SqF K H0 a vs) (rv : RVs K m0 H0 xs vs) : ItR K m0 H0 (M.getF xs) (Itl K a) := by
  refine ⟨fun m S H i p st rs e => ?_, fun m S H i x p st rs e => ?_⟩
  · have e' : xs[i]? = none := Option.some.inj e
    exact ⟨vs, (st.f _ _ hq).l, by rw [← rv.length]; exact List.getElem?_eq_none_iff.mp e'⟩
  · have e' : xs[i]? = some x := Option.some.inj e
    obtain ⟨v, h1, h2⟩ := rv.get e'
    refine ⟨⟨vs, v, (st.f _ _ hq).l, h1⟩, fun v' H' y => ?_⟩
    obtain ⟨rfl, y⟩ := y
    have z := y vs (st.f _ _ hq).l
    rw [h1] at z
    cases z
    exact ⟨Stay.refl _, rs, h2.mono p st⟩
theorem itr_str {z : Str} : ItR K m0 H0 (M.getF (z.cps.toList.map fun c => .str ⟨#[c]⟩)) (Its z) := by
  refine ⟨fun m S H i p st rs e => ?_, fun m S H i x p st rs e => ?_⟩
  · have e' : (z.cps.toList.map fun c => W.str ⟨#[c]⟩)[i]? = none := Option.some.inj e
    have := List.getElem?_eq_none_iff.mp e'
    show z.cps.size ≤ i
    simpa using this
  · have e' : (z.cps.toList.map fun c => W.str ⟨#[c]⟩)[i]? = some x := Option.some.inj e
    rw [List.getElem?_map, Option.map_eq_some_iff] at e'
    obtain ⟨c, h1, rfl⟩ := e'
    have h2 : z.cps[i]? = some c := by simpa using h1
    have hi : i < z.cps.size := (Array.getElem?_eq_some_iff.mp h2).1
    refine ⟨hi, fun v' H' y => ?_⟩
    obtain ⟨rfl, c', y1, rfl⟩ := y
    rw [h2] at y1
    cases y1
    exact ⟨Stay.refl _, rs, .str _⟩
theorem itr_ref {r : Nat} {a : Addr} (hr : m0[r]? = some a) : ItR K m0 H0 (M.getR r) (Itl K a) := by
  refine ⟨fun m S H i p st rs e => ?_, fun m S H i x p st rs e => ?_⟩
  · unfold M.getR at e
    split at e
    · rename_i ys ey
      obtain ⟨vs, h1, h2⟩ := rs.ob _ _ _ ey (p.get hr)
      have e' : ys[i]? = none := Option.some.inj e
      exact ⟨vs, SqL.of h1, by rw [← h2.length]; exact List.getElem?_eq_none_iff.mp e'⟩
    · cases e
  · unfold M.getR at e
    split at e
    · rename_i ys ey
      obtain ⟨vs, h1, h2⟩ := rs.ob _ _ _ ey (p.get hr)
      have e' : ys[i]? = some x := Option.some.inj e
      obtain ⟨v, h3, h4⟩ := h2.get e'
      refine ⟨⟨vs, v, SqL.of h1, h3⟩, fun v' H' y => ?_⟩
      obtain ⟨rfl, y⟩ := y
      have z := y vs (SqL.of h1)
      rw [h3] at z
      cases z
      exact ⟨Stay.refl _, rs, h4⟩
    · cases e
theorem itr_rng {lo : Int} {n : Nat} : ItR K m0 H0 (M.getN lo n) (Itr lo n) := by
  refine ⟨fun m S H i p st rs e => ?_, fun m S H i x p st rs e => ?_⟩
  · unfold M.getN at e
    split at e
    · cases e
    · rename_i h
      exact Nat.le_of_not_lt h
  · unfold M.getN at e
    split at e
    · rename_i h
      cases e
      refine ⟨h, fun v' H' y => ?_⟩
      obtain ⟨rfl, rfl⟩ := y
      exact ⟨Stay.refl _, rs, .int _⟩
    · cases e
end
section
variable {X : Cx} {E : EX} {tg l : Expr} {pos p : Pos}
theorem PI.imp {t t' : TI} (h : PI X tg l t) (i : ∀ s H Q, t' s H Q → t s H Q) : PI X tg l t' := ⟨fun pins sh s H Q I q => h.run pins sh s H Q I (i s H Q q)⟩
theorem i_val {g : ME} (he : PE X l (tE (kxj X ϑ) E g)) : PI X tg l (tI (kxj X ϑ) E (M.iter g)) := by
  refine ⟨fun pins sh s H R I h => ?_⟩
  obtain ⟨m, S, f, rs, rf, q⟩ := h
  unfold M.iter at q
  cases e : g f S with
  | no =>
    rw [e] at q
    exact False.elim q
  | ex x S1 =>
    rw [e] at q
    exact (pi_list he).run pins sh s H R I ⟨m, S, f, rs, rf, by rw [e]; exact q⟩
  | ok w S1 =>
    rw [e] at q
    rw [Rs.bind_ok] at q
    cases w with
    | non => exact False.elim q
    | bl _ => exact False.elim q
    | int _ => exact False.elim q
    | ty _ => exact False.elim q
    | tup xs =>
      refine (pi_tup he).run pins sh s H R I ⟨m, S, f, rs, rf, ?_⟩
      rw [e]
      intro m' H' v p st rs' rv
      cases rv with
      | tup hq rvs => exact ⟨_, rfl, ⟨_, hq⟩, q m' H' _ p st rs' (itr_tup hq rvs)⟩
    | fl xs =>
      refine (pi_list he).run pins sh s H R I ⟨m, S, f, rs, rf, ?_⟩
      rw [e]
      intro m' H' v p st rs' rv
      cases rv with
      | fl hq rvs => exact ⟨_, rfl, ⟨_, hq.l⟩, q m' H' _ p st rs' (itr_fl hq rvs)⟩
    | str z =>
      refine (pi_str he).run pins sh s H R I ⟨m, S, f, rs, rf, ?_⟩
      rw [e]
      intro m' H' v p st rs' rv
      cases rv
      exact ⟨z, rfl, q m' H' _ p st rs' itr_str⟩
    | ref r =>
      simp only [M.iterW] at q
      split at q
      · rename_i xs ex
        refine (pi_list he).run pins sh s H R I ⟨m, S, f, rs, rf, ?_⟩
        rw [e]
        intro m' H' v p st rs' rv
        cases rv with
        | ref hr =>
          obtain ⟨vs, h1, h2⟩ := rs'.ob _ _ _ ex hr
          exact ⟨_, rfl, ⟨vs, SqL.of h1⟩, q m' H' _ p st rs' (itr_ref hr)⟩
      · exact False.elim q
theorem i_rng1 {a : Expr} {g : MA} (hm : X.mg "range" = none) (ha : PA X [a] (tA (kxj X ϑ) E g)) (hg : Gl X "range" := by rfl) (hs : starEach [a] X.env = [(false, eval a X.env)] := by rfl) : PI X tg (.Call (.Name "range" p) [a] [] pos) (tI (kxj X ϑ) E (M.rng1 g)) := by
  refine PI.imp (pi_range1 hg hm ha hs) fun s H R q => ?_
  refine tM.imp (tM.seq (R := RVs X.K) (g := g) (k := fun _ => M.rng1W) q) fun xs H1 ⟨m, S, f, ws, rs, rf, rv, q⟩ => ?_
  unfold M.rng1W at q
  split at q
  · obtain ⟨v, rfl, r1⟩ := rvs1 rv
    cases r1
    split at q
    · rename_i hb
      exact ⟨_, rfl, by omega, by omega, q m H1 _ (List.prefix_refl _) (Stay.refl _) rs itr_rng⟩
    · exact False.elim q
  · exact False.elim q
theorem i_rng2 {a b : Expr} {g : MA} (hm : X.mg "range" = none) (ha : PA X [a, b] (tA (kxj X ϑ) E g)) (hg : Gl X "range" := by rfl) (hs : starEach [a, b] X.env = [(false, eval a X.env), (false, eval b X.env)] := by rfl) (hs2 : starEach [b] X.env = [(false, eval b X.env)] := by rfl) :
    PI X tg (.Call (.Name "range" p) [a, b] [] pos) (tI (kxj X ϑ) E (M.rng2 g)) := by
  refine PI.imp (pi_range2 hg hm ha hs hs2) fun s H R q => ?_
  refine tM.imp (tM.seq (R := RVs X.K) (g := g) (k := fun _ => M.rng2W) q) fun xs H1 ⟨m, S, f, ws, rs, rf, rv, q⟩ => ?_
  unfold M.rng2W at q
  split at q
  · obtain ⟨v, z, rfl, r1, r2⟩ := rvs2 rv
    cases r1
    cases r2
    split at q
    · rename_i hb
      exact ⟨_, _, rfl, ⟨by omega, by omega, by omega, by omega⟩, q m H1 _ (List.prefix_refl _) (Stay.refl _) rs itr_rng⟩
    · exact False.elim q
  · exact False.elim q
end

/-! ### comprehensions -/
def Rs.noex {α : Type} : Rs α → Rs α
  | .ex _ _ => .no
  | r => r
def wipeF (f : Fr) : List Nat → Fr
  | [] => f
  | v :: vs => (wipeF f vs).set v none
theorem RF.wipe {K : Kx} (hK : K.j.sl = none) {m : List Addr} {H : Hp} {f : Fr} {s : St} (h : RF K m H f s) : ∀ vs : List Nat, RF K m H (wipeF f vs) (L2.wipe s vs)
  | [] => h
  | v :: vs => (RF.wipe hK h vs).drop hK v none
theorem wipe_same {s s' : St} (hl : s'.length = s.length) : ∀ {vs : List Nat}, (∀ j, j ∉ vs → s'[j]? = s[j]?) → wipe s' vs = wipe s vs := by
  intro vs h
  have key : ∀ (vs : List Nat) (t : St) (i : Nat), (wipe t vs)[i]? = if i ∈ vs then (if i < t.length then some none else none) else t[i]? := by
    intro vs
    induction vs with
    | nil =>
      intro t i
      simp [wipe]
    | cons v vs ih =>
      intro t i
      unfold wipe
      by_cases hv : v = i
      · subst hv
        rw [if_pos (List.mem_cons_self ..)]
        by_cases hi : v < t.length
        · rw [List.getElem?_set_self (by rw [wipe_length]; exact hi), if_pos hi]
        · rw [List.getElem?_eq_none (by rw [List.length_set, wipe_length]; omega), if_neg hi]
      · rw [List.getElem?_set_ne hv, ih t i]
        by_cases hm : i ∈ vs
        · rw [if_pos hm, if_pos (List.mem_cons_of_mem _ hm)]
        · rw [if_neg hm, if_neg fun z => (List.mem_cons.mp z).elim (fun z => hv z.symm) hm]
  apply List.ext_getElem?
  intro i
  rw [key, key, hl]
  by_cases hm : i ∈ vs
  · rw [if_pos hm, if_pos hm]
  · rw [if_neg hm, if_neg hm, h i hm]
theorem wipe_wipe {s : St} {vs : List Nat} : ∀ (j : Nat), j ∉ vs → (wipe s vs)[j]? = s[j]? := fun j hj => wipe_out hj
theorem Post.bindN {α β γ δ : Type} {K : Kx} {E : XK} {R : List Addr → Hp → α → β → Prop} {R' : List Addr → Hp → γ → δ → Prop} {m : List Addr} {H : Hp} {r : Rs α} {k : α → Store → Rs γ} {Q2 : δ → Hp → Prop}
    (h : Post K E R' m H (r.noex.bind k) Q2) : Post K X0 R m H r (fun b H1 => ∃ m1 S1 a, Pre m m1 ∧ Stay K H H1 ∧ RS K m1 S1 H1 ∧ R m1 H1 a b ∧ Post K E R' m1 H1 (k a S1) Q2) := by
  cases r with
  | ok a S => exact fun m' H' b p s rs rv => ⟨m', S, a, p, s, rs, rv, Post.mono h p s⟩
  | ex e S => exact False.elim h
  | no => exact h
namespace M
def app (r : Nat) (y : W) (S : Store) : Rs Unit := match S[r]? with
  | some (.lst acc) => if acc.length < lim then .ok () (S.set r (.lst (acc ++ [y]))) else .no
  | _ => .no
def lcL (get : Get) (r : Nat) (t : MG) (c : MT) (e : ME) (fw : Fr) : Nat → Nat → Store → Rs Unit
  | 0, i, S => match get S i with
    | some none => .ok () S
    | _ => .no
  | n + 1, i, S => match get S i with
    | none => .no
    | some none => .ok () S
    | some (some x) => match t x fw S with
      | none => .no
      | some f2 => (c f2 S).noex.bind fun b S1 => if b = true then (e f2 S1).noex.bind fun y S2 => (app r y S2).bind fun _ S3 => lcL get r t c e fw n (i + 1) S3 else lcL get r t c e fw n (i + 1) S1
def lc (it : MIt) (vs : List Nat) (t : MG) (c : MT) (e : ME) : ME := fun f S => (it f S).bind fun p S1 => (lcL p.2 S1.length t c e (wipeF f vs) p.1 0 (S1 ++ [.lst []])).bind fun _ S2 => .ok (W.ref S1.length) S2
def yes : MT := fun _ S => .ok true S
end M
section
variable {X : Cx} {E : EX}
theorem PTs.imp {e : List Expr} {t t' : TT} (h : PTs X e t) (i : ∀ s H Q, t' s H Q → t s H Q) : PTs X e t' := ⟨fun pins sh s H Q I q => h.run pins sh s H Q I (i s H Q q)⟩
theorem ts_nil : PTs X [] (tT (kxj X ϑ) E M.yes) := PTs.imp pts_nil fun s H Q ⟨m, S, f, rs, rf, q⟩ => q.here rs rfl
theorem ts_one {c : Expr} {g : MT} (h : PT X c (tT (kxj X ϑ) E g)) : PTs X [c] (tT (kxj X ϑ) E g) := pts_one h
theorem lc_at {K : Kx} {g : MIt} {vs js : List Nat} {t : M.MG} {c : MT} {e : ME} {s : St} {H : Hp} {Q : VK} (hK : K.j.sl = none) (hj : ∀ j ∈ js, j ∈ vs) (h : tE K E (M.lc g vs t c e) s H Q) :
    tLc (tI K E g) (tG K t js) (tT K EX0 c) (tE K EX0 e) vs s H Q := by
  refine tM.imp (tM.seq (R := RIt K) (g := g) (k := fun f p S1 => (M.lcL p.2 S1.length t c e (wipeF f vs) p.1 0 (S1 ++ [.lst []])).bind fun _ S2 => .ok (W.ref S1.length) S2) h) fun J H1 ⟨m1, S1, f, p, rs1, rf1, it, q⟩ => ?_
  obtain ⟨n, get⟩ := p
  intro D hD
  obtain ⟨b1, b2, b3, b4⟩ := rs1.newList (ws := []) (vs := []) hD .nil
  have hD' : (m1 ++ [D])[S1.length]? = some D := by
    rw [← rs1.len]
    exact List.getElem?_concat_length
  refine ⟨fun i n H' => ∃ mm S, Pre (m1 ++ [D]) mm ∧ Stay K H1 H' ∧ RS K mm S H' ∧ Post K (E s) (RV K) mm H' ((M.lcL get S1.length t c e (wipeF f vs) n i S).bind fun _ S2 => .ok (W.ref S1.length) S2) Q,
    ⟨n, m1 ++ [D], _, List.prefix_refl _, b2, b3, q.mono b1 b2⟩, ?_⟩
  rintro i n H2 ⟨mm, S, pm, st, rs, q⟩
  have pD : mm[S1.length]? = some D := pm.get hD'
  have p1 : Pre m1 mm := b1.trans pm
  have stop : get S i = some none → Post K (E s) (RV K) mm H2 ((Rs.ok () S).bind fun _ S2 => .ok (W.ref S1.length) S2) Q → (J.stop i H2 ∧ Q (.ref D) H2) := fun e q => ⟨it.stop mm S H2 i p1 st rs e, q.here rs (.ref pD)⟩
  cases n with
  | zero =>
    unfold M.lcL at q
    split at q
    · rename_i eg
      exact Or.inl (stop eg q)
    · exact False.elim q
  | succ n =>
    unfold M.lcL at q
    split at q
    · exact False.elim q
    · rename_i eg
      exact Or.inl (stop eg q)
    · rename_i x eg
      split at q
      · exact False.elim q
      · rename_i f2 ef
        obtain ⟨go, yl⟩ := it.go mm S H2 i x p1 st rs eg
        refine Or.inr ⟨go, _, fun H' z => ⟨n, Nat.lt_succ_self _, z⟩, fun v H3 y => ?_⟩
        obtain ⟨st3, rs3, rv3⟩ := yl v H3 y
        have rfw : RF K mm H3 (wipeF f vs) (L2.wipe s vs) := (rf1.mono p1 (st.trans st3)).wipe hK vs
        refine ⟨mm, S, wipeF f vs, x, f2, rs3, rfw, rv3, ef, fun s' rf' hl hk => ⟨?_, ?_⟩⟩
        · refine wipe_same ?_ fun j hj' => ?_
          · rw [hl, wipe_length]
          · rw [hk j fun z => hj' (hj j z), wipe_out hj']
        · refine ⟨mm, S, f2, rs3, rf', ?_⟩
          have q3 : Post K (E s) (RV K) mm H3 ((c f2 S).noex.bind fun b S1' => (if b = true then (e f2 S1').noex.bind fun y S2 => (M.app S1.length y S2).bind fun _ S3 => M.lcL get S1.length t c e (wipeF f vs) n (i + 1) S3 else M.lcL get S1.length t c e (wipeF f vs) n (i + 1) S1').bind fun _ S2 => .ok (W.ref S1.length) S2) Q := by
            have q2 := q.mono (List.prefix_refl _) st3
            cases hc : c f2 S with
            | ok b S9 =>
              rw [hc] at q2
              exact q2
            | ex _ _ =>
              rw [hc] at q2
              exact q2
            | no =>
              rw [hc] at q2
              exact q2
          refine q3.bindN.imp fun b H4 ⟨m4, S4, b', p4, st4, rs4, eb, q4⟩ => ?_
          cases eb
          cases b with
          | false =>
            rw [if_neg Bool.false_ne_true] at q4 ⊢
            exact ⟨m4, S4, pm.trans p4, (st.trans st3).trans st4, rs4, q4⟩
          | true =>
            rw [if_pos rfl] at q4 ⊢
            refine ⟨m4, S4, f2, rs4, rf'.mono p4 st4, ?_⟩
            have q5 : Post K (E s) (RV K) m4 H4 ((e f2 S4).noex.bind fun y S2 => ((M.app S1.length y S2).bind fun _ S3 => M.lcL get S1.length t c e (wipeF f vs) n (i + 1) S3).bind fun _ S2 => .ok (W.ref S1.length) S2) Q := by
              cases hc : e f2 S4 with
              | ok b S9 =>
                rw [hc] at q4
                exact q4
              | ex _ _ =>
                rw [hc] at q4
                exact q4
              | no =>
                rw [hc] at q4
                exact q4
            refine q5.bindN.imp fun y H5 ⟨m5, S5, y', p5, st5, rs5, ry, q6⟩ => ?_
            have pD5 : m5[S1.length]? = some D := Pre.get (p4.trans p5) pD
            unfold M.app at q6
            split at q6
            · rename_i acc ea
              split at q6
              · rename_i hl5
                obtain ⟨us, e1, e2⟩ := rs5.ob _ _ _ ea pD5
                have so : Soft (H5 D) := by
                  rw [e1]
                  trivial
                refine ⟨us, e1, by rw [← e2.length]; exact lim_lt hl5, m5, _, pm.trans (p4.trans p5), (((st.trans st3).trans st4).trans st5).trans (Stay.upd so), rs5.put ea pD5 ?_, q6.mono (List.prefix_refl _) (Stay.upd so)⟩
                exact ⟨_, upd_same, (e2.append (.one ry)).mono (List.prefix_refl _) (Stay.upd so)⟩
              · exact False.elim q6
            · exact False.elim q6
theorem e_lc {elt tg iter : Expr} {ifs : List Expr} {scope : Scope} {own : List (Str × Nat)} {pos : Pos} {g : MIt} {t : M.MG} {js : List Nat} {c : MT} {e : ME} (rm : Rc X) (hN : X.N.Nodup) (hi : PI X tg iter (tI (kxj X ϑ) E g)) (ok : BlkOk X.N X.env.scope scope own) (hj : ∀ j ∈ js, j ∈ own.map (·.2))
    (hg : ∀ (s : Shared) (H : Hp) (C : Addr) (cl : List (Str × Addr)) (fp : List Addr), PG (X.blk s H scope (compEnvC scope cl C X.env) fp) tg (tG (kxj X ϑ) t js)) (ht : ∀ (s : Shared) (H : Hp) (C : Addr) (cl : List (Str × Addr)) (fp : List Addr), PTs (X.blk s H scope (compEnvC scope cl C X.env) fp) ifs (tT (kxj X ϑ) EX0 c))
    (he : ∀ (s : Shared) (H : Hp) (C : Addr) (cl : List (Str × Addr)) (fp : List Addr), PE (X.blk s H scope (compEnvC scope cl C X.env) fp) elt (tE (kxj X ϑ) EX0 e)) (hs : ∀ x, foldedSetIterable iter X.env x = pure x := by intro _; rfl)  :
    PE X (.ListComp elt [⟨tg, iter, ifs, 0⟩] scope pos) (tE (kxj X ϑ) E (M.lc g (own.map (·.2)) t c e)) :=
  PE.imp (pe_lc rm.calm hN hi ok hg ht he hs) fun s H Q h => lc_at ϑ.nn hj h
theorem s_setLc {i : Nat} {y : Str} {py : Pos} {elt tg iter : Expr} {ifs : List Expr} {scope : Scope} {own : List (Str × Nat)} {pos spos : Pos} {g : MIt} {t : M.MG} {js : List Nat} {c : MT} {e : ME} (rm : Rc X) (hN : X.N.Nodup) (hi : PI X tg iter (tI (kxj X ϑ) E g)) (ok : BlkOk X.N X.env.scope scope own) (hj : ∀ j ∈ js, j ∈ own.map (·.2))
    (hg : ∀ (s : Shared) (H : Hp) (C : Addr) (cl : List (Str × Addr)) (fp : List Addr), PG (X.blk s H scope (compEnvC scope cl C X.env) fp) tg (tG (kxj X ϑ) t js)) (ht : ∀ (s : Shared) (H : Hp) (C : Addr) (cl : List (Str × Addr)) (fp : List Addr), PTs (X.blk s H scope (compEnvC scope cl C X.env) fp) ifs (tT (kxj X ϑ) EX0 c))
    (he : ∀ (s : Shared) (H : Hp) (C : Addr) (cl : List (Str × Addr)) (fp : List Addr), PE (X.blk s H scope (compEnvC scope cl C X.env) fp) elt (tE (kxj X ϑ) EX0 e)) (hs : ∀ x, foldedSetIterable iter X.env x = pure x := by intro _; rfl) 
    (hy : X.N[i]? = some y := by rfl) (hyl : X.env.scope.names.lookup y = some .local := by rfl) (hsw : swapsWith (.ListComp elt [⟨tg, iter, ifs, 0⟩] scope pos) (some (.Name y py)) spos.line X.env = pure true := by exact sw_true rfl rfl rfl (by decide +kernel)) :
    PS X (.Assign [.Name y py] (.ListComp elt [⟨tg, iter, ifs, 0⟩] scope pos) spos) (tS (kxj X ϑ) E (M.asg (M.lc g (own.map (·.2)) t c e) (M.tgN i))) := by
  refine PS.imp (ps_setLc rm.calm hN hy hyl hsw hi ok hg ht he hs) fun D s H q => ?_
  refine lc_at (E := E) ϑ.nn hj (tM.imp (tS.first (R := RV X.K) q) fun v H1 ⟨m, S, f, w, rs, rf, rv, q⟩ => ?_)
  exact PostS.next (f := f.set i (some w)) q rs (rf.set rv i)
end
end Wo
set_option autoImplicit true
set_option maxRecDepth 100000
set_option maxHeartbeats 4000000
namespace Wo
open PySem L2
/-! W8: loops; stores into lists and dicts; methods. -/
namespace M
def forL (get : Get) (t : MG) (body : MS) : Nat → Nat → MS
  | 0, i, f, S => match get S i with
    | some none => .ok (.next f) S
    | _ => .no
  | n + 1, i, f, S => match get S i with
    | none => .no
    | some none => .ok (.next f) S
    | some (some x) => match t x f S with
      | none => .no
      | some f2 => match body f2 S with
        | .ok (.next f3) S3 => forL get t body n (i + 1) f3 S3
        | .ok (.cont f3) S3 => forL get t body n (i + 1) f3 S3
        | .ok (.brk f3) S3 => .ok (.next f3) S3
        | .ok (.ret w) S3 => .ok (.ret w) S3
        | .ex e f3 S3 => .ex e f3 S3
        | .no => .no
def forS (it : MIt) (t : MG) (body : MS) : MS := thenS it fun p f S => forL p.2 t body p.1 0 f S
def whlL (c : MT) (body : MS) : Nat → MS
  | 0, _, _ => .no
  | n + 1, f, S => match c f S with
    | .ok true S1 => (match body f S1 with
      | .ok (.next f3) S3 => whlL c body n f3 S3
      | .ok (.cont f3) S3 => whlL c body n f3 S3
      | .ok (.brk f3) S3 => .ok (.next f3) S3
      | .ok (.ret w) S3 => .ok (.ret w) S3
      | .ex e f3 S3 => .ex e f3 S3
      | .no => .no)
    | .ok false S1 => .ok (.next f) S1
    | .ex e S1 => .ex e f S1
    | .no => .no
def turns : Nat := 1000000
def whl (c : MT) (body : MS) : MS := whlL c body turns
end M
section
variable {X : Cx} {E : EX} {pos : Pos}
theorem s_for {tg iter : Expr} {body : List Stmt} {g : MIt} {t : M.MG} {js : List Nat} {b : MS} (hp : PassesOwn (model X.prog X.w) X.A X.env X.xe) (rm : Rc X) (hi : PI X tg iter (tI (kxj X ϑ) E g)) (hg : PG X tg (tG (kxj X ϑ) t js)) (hb : PSs X body (tS (kxj X ϑ) E b))
    (hs : ∀ x, foldedSetIterable iter X.env x = pure x := by intro _; rfl) : PS X (.For tg iter body [] pos) (tS (kxj X ϑ) E (M.forS g t b)) := by
  refine PS.imp (ps_for hp rm.calm hi hg hb hs) fun D s H q => ?_
  refine tM.imp (tS.first (R := RIt (kxj X ϑ)) q) fun J H1 ⟨m1, S1, f1, p, rs1, rf1, it, q⟩ => ?_
  obtain ⟨n, get⟩ := p
  refine ⟨fun i n s' H' => ∃ mm S f, Pre m1 mm ∧ Stay X.K H1 H' ∧ RS (kxj X ϑ) mm S H' ∧ RF (kxj X ϑ) mm H' f s' ∧ PostS (kxj X ϑ) E mm H' (M.forL get t b n i f S) D, ⟨n, m1, S1, f1, List.prefix_refl _, Stay.refl _, rs1, rf1, q⟩, ?_⟩
  rintro i n s2 H2 ⟨mm, S, f, pm, st, rs, rf, q⟩
  cases n with
  | zero =>
    unfold M.forL at q
    split at q
    · rename_i eg
      exact Or.inl ⟨it.stop mm S H2 i pm st rs eg, q.next rs rf⟩
    · exact False.elim q
  | succ n =>
    unfold M.forL at q
    split at q
    · exact False.elim q
    · rename_i eg
      exact Or.inl ⟨it.stop mm S H2 i pm st rs eg, q.next rs rf⟩
    · rename_i x eg
      split at q
      · exact False.elim q
      · rename_i f2 ef
        obtain ⟨go, yl⟩ := it.go mm S H2 i x pm st rs eg
        refine Or.inr ⟨go, _, fun s' H' z => ⟨n, Nat.lt_succ_self _, z⟩, fun v H3 y => ?_⟩
        obtain ⟨st3, rs3, rv3⟩ := yl v H3 y
        refine ⟨mm, S, f, x, f2, rs3, rf.mono (List.prefix_refl _) st3, rv3, ef, fun s' rf' hl hk => ?_⟩
        refine ⟨mm, S, f2, rs3, rf', ?_⟩
        have q2 := q.mono (List.prefix_refl _) st3
        cases hc : b f2 S with
        | no =>
          rw [hc] at q2
          exact q2
        | ex e f3 S3 =>
          rw [hc] at q2
          exact q2
        | ok l S3 =>
          rw [hc] at q2
          cases l with
          | ret w => exact q2
          | brk f3 => exact q2
          | next f3 => exact fun m' H' s' p' st' rs' rf' => ⟨m', S3, f3, pm.trans p', (st.trans st3).trans st', rs', rf', q2.mono p' st'⟩
          | cont f3 => exact fun m' H' s' p' st' rs' rf' => ⟨m', S3, f3, pm.trans p', (st.trans st3).trans st', rs', rf', q2.mono p' st'⟩
theorem s_while {c : Expr} {body : List Stmt} {gc : MT} {b : MS} (hp : PassesOwn (model X.prog X.w) X.A X.env X.xe) (hc : PT X c (tT (kxj X ϑ) E gc)) (hb : PSs X body (tS (kxj X ϑ) E b)) : PS X (.While c body [] pos) (tS (kxj X ϑ) E (M.whl gc b)) := by
  refine PS.imp (ps_while hp hc hb) fun D s H q => ?_
  refine ⟨fun n s' H' => ∃ mm S f, RS (kxj X ϑ) mm S H' ∧ RF (kxj X ϑ) mm H' f s' ∧ PostS (kxj X ϑ) E mm H' (M.whlL gc b n f S) D, ⟨M.turns, q⟩, ?_⟩
  rintro n s2 H2 ⟨mm, S, f, rs, rf, q⟩
  cases n with
  | zero => exact False.elim q
  | succ n =>
    refine ⟨mm, S, f, rs, rf, ?_⟩
    unfold M.whlL at q
    cases hcc : gc f S with
    | no =>
      rw [hcc] at q
      exact q
    | ex e S1 =>
      rw [hcc] at q
      exact fun m' H' d p' st' rs' rx => q m' H' s2 d p' st' rs' (rf.mono p' st') rx
    | ok k S1 =>
      rw [hcc] at q
      intro m' H' k' p' st' rs' ek
      cases ek
      cases k with
      | false =>
        rw [if_neg Bool.false_ne_true]
        exact q m' H' s2 p' st' rs' (rf.mono p' st')
      | true =>
        rw [if_pos rfl]
        refine ⟨_, fun s' H' z => ⟨n, Nat.lt_succ_self _, z⟩, m', S1, f, rs', rf.mono p' st', ?_⟩
        have q2 := q.mono p' st'
        dsimp only at q2
        cases hb2 : b f S1 with
        | no =>
          rw [hb2] at q2
          exact q2
        | ex e f3 S3 =>
          rw [hb2] at q2
          exact q2
        | ok l S3 =>
          rw [hb2] at q2
          cases l with
          | ret w => exact q2
          | brk f3 => exact q2
          | next f3 => exact fun m2 H2 s3 p2 st2 rs2 rf2 => ⟨m2, S3, f3, rs2, rf2, q2.mono p2 st2⟩
          | cont f3 => exact fun m2 H2 s3 p2 st2 rs2 rf2 => ⟨m2, S3, f3, rs2, rf2, q2.mono p2 st2⟩
end

/-! ### stores -/
namespace M
def putW (kvs : List (Key × W)) (k : Key) (v : W) : List (Key × W) := if kvs.any (fun kv => decide (kv.1 = k)) then kvs.map (fun kv => if kv.1 = k then (kv.1, v) else kv) else kvs ++ [(k, v)]
/-- o[i] = v -/
def setW (o i v : W) (S : Store) : Option Store := match o with
  | .ref r => match S[r]? with
    | some (.lst xs) => match i with
      | .int k => match ixN xs.length k with
        | some j => some (S.set r (.lst (xs.set j v)))
        | none => none
      | _ => none
    | some (.dK kvs) => match keyOf i with
      | some k => if kvs.length < lim then some (S.set r (.dK (putW kvs k v))) else none
      | none => none
    | _ => none
  | _ => none
def setSub (v o i : ME) : MS := fun f S => match v f S with
  | .no => .no
  | .ex e S1 => .ex e f S1
  | .ok x S1 => match o f S1 with
    | .no => .no
    | .ex e S2 => .ex e f S2
    | .ok y S2 => match i f S2 with
      | .no => .no
      | .ex e S3 => .ex e f S3
      | .ok z S3 => match setW y z x S3 with
        | some S4 => .ok (.next f) S4
        | none => .no
end M
end Wo
set_option autoImplicit true
set_option maxRecDepth 100000
set_option maxHeartbeats 4000000
namespace Wo
open PySem L2
/-! W9: stores into lists and dicts, methods of lists, dicts made. -/
theorem soft_lst {H : Hp} {a : Addr} {vs : List V} (h : H a = some (.lst vs)) : Soft (H a) := by
  rw [h]
  trivial
theorem rkv_put {K : PySem.W.Frag} {m : List Addr} {H : Hp} {k : Key} {w : W} {v : V} (r : RV K m H w v) : ∀ {l : List (Key × W)} {l' : List (Key × V)}, RKV K m H l l' → RKV K m H (M.putW l k w) (putK l' k v) := by
  intro l l' h
  have hany : (l.any fun kv => decide (kv.1 = k)) = (l'.any fun kv => decide (kv.1 = k)) := by
    induction h with
    | nil => rfl
    | cons p t ih =>
      rw [List.any_cons, List.any_cons, ih, p.1]
  have hmap : RKV K m H (l.map fun kv => if kv.1 = k then (kv.1, w) else kv) (l'.map fun kv => if kv.1 = k then (kv.1, v) else kv) := by
    clear hany
    induction h with
    | nil => exact .nil
    | @cons a b _ _ p t ih =>
      refine .cons ?_ ih
      obtain ⟨p1, p2⟩ := p
      by_cases hk : a.1 = k
      · have hk' : b.1 = k := p1 ▸ hk
        dsimp only
        rw [if_pos hk, if_pos hk']
        exact ⟨p1, r⟩
      · have hk' : ¬ b.1 = k := fun z => hk (p1.trans z)
        dsimp only
        rw [if_neg hk, if_neg hk']
        exact ⟨p1, p2⟩
  have happ : RKV K m H (l ++ [(k, w)]) (l' ++ [(k, v)]) := by
    clear hany hmap
    induction h with
    | nil => exact .cons ⟨rfl, r⟩ .nil
    | cons p t ih => exact .cons p ih
  unfold M.putW putK
  rw [hany]
  split
  · exact hmap
  · exact happ
def rSet (K : Kx) : TSet := fun o i v H Q => ∃ m S wo wi wv S', RS K m S H ∧ RV K m H wo o ∧ RV K m H wi i ∧ RV K m H wv v ∧ M.setW wo wi wv S = some S' ∧ ∀ H', Stay K H H' → RS K m S' H' → Q H'
section
variable {X : Cx} {E : EX} {pos : Pos}
theorem set_any (rm : Rm X) : PSet X (rSet (kxj X ϑ)) := by
  intro pins s σ H o i v ov iv u Q I ro ri rv h
  obtain ⟨m, S, wo, wi, wv, S', rs, r1, r2, r3, e, q⟩ := h
  cases r1 <;> simp only [M.setW] at e <;> try (cases e)
  rename_i r a hr
  split at e
  · rename_i xs ex
    split at e
    · rename_i k
      cases r2
      split at e
      · rename_i j hj
        cases e
        obtain ⟨vs, h1, h2⟩ := rs.ob _ _ _ ex hr
        have so : Soft (H a) := by rw [h1]; trivial
        refine set_list pins s σ H _ _ v ov iv u Q I ro ri rv ⟨a, vs, k, j, rfl, rfl, h1, by rw [← h2.length]; exact hj, q _ (Stay.upd so) (rs.put ex hr ?_)⟩
        exact ⟨_, upd_same, (h2.set r3 j).mono (List.prefix_refl _) (Stay.upd so)⟩
      · cases e
    · cases e
  · rename_i kvs ex
    split at e
    · rename_i k hk
      split at e
      · rename_i hl
        cases e
        obtain ⟨ls, h1, h2⟩ := rs.ob _ _ _ ex hr
        have so : Soft (H a) := by rw [h1]; trivial
        have ei := keyOf_rel hk r2
        subst ei
        cases ro
        refine d_setItem (A := X.A) (by have := rm.un; omega) I (DPut.k (k := k) h1 (by rw [← rkv_len h2]; exact lim_lt hl)) ri rv fun s' I' => ⟨_, I', q _ (Stay.upd so) (rs.put ex hr ?_)⟩
        exact ⟨_, upd_same, (rkv_put r3 h2).mono (List.prefix_refl _) (Stay.upd so)⟩
      · cases e
    · cases e
  · cases e
theorem s_set {o i e : Expr} {go gi ge : ME} {pos' : Pos} (rm : Rm X) (he : PE X e (tE (kxj X ϑ) E ge)) (ho : PE X o (tE (kxj X ϑ) E go)) (hi : PE X i (tE (kxj X ϑ) E gi))
    (ha : ∀ v, assign (.Subscript o i pos') X.env v = (do
      let ov ← holding [v] (eval o X.env)
      let iv ← holding [v, ov] (eval i X.env)
      standAt pos'
      holding [v, ov, iv] (setItem ov iv v)
      release [v, ov, iv] []) := by intro _; rfl) (hs : swapsWithSole [.Subscript o i pos'] e pos.line X.env = pure false := by rfl) (hw : swappedStores [.Subscript o i pos'] e X.env = pure none := by rfl)
    (h1 : (assignEach [.Subscript o i pos'] X.env).map (·.2) = [assign (.Subscript o i pos') X.env] := by rfl) : PS X (.Assign [.Subscript o i pos'] e pos) (tS (kxj X ϑ) E (M.setSub ge go gi)) := by
  refine PS.imp (ps_asg he (pg_sub ho hi (set_any (ϑ := ϑ) rm) ha) hs hw h1) fun D s H ⟨m, S, f, rs, rf, q⟩ => ?_
  refine ⟨m, S, f, rs, rf, ?_⟩
  unfold M.setSub at q
  cases e1 : ge f S with
  | no =>
    rw [e1] at q
    exact q
  | ex x S1 =>
    rw [e1] at q
    exact fun m' H' d p' st' rs' rx => q m' H' s d p' st' rs' (rf.mono p' st') rx
  | ok x S1 =>
    rw [e1] at q
    intro m1 H1 v1 p1 st1 rs1 rv1
    refine ⟨m1, S1, f, rs1, rf.mono p1 st1, ?_⟩
    have q := q.mono p1 st1
    dsimp only at q
    cases e2 : go f S1 with
    | no =>
      rw [e2] at q
      exact q
    | ex x S2 =>
      rw [e2] at q
      exact fun m' H' d p' st' rs' rx => q m' H' s d p' st' rs' ((rf.mono p1 st1).mono p' st') rx
    | ok y S2 =>
      rw [e2] at q
      intro m2 H2 v2 p2 st2 rs2 rv2
      refine ⟨m2, S2, f, rs2, (rf.mono p1 st1).mono p2 st2, ?_⟩
      have q := q.mono p2 st2
      dsimp only at q
      cases e3 : gi f S2 with
      | no =>
        rw [e3] at q
        exact q
      | ex x S3 =>
        rw [e3] at q
        exact fun m' H' d p' st' rs' rx => q m' H' s d p' st' rs' (((rf.mono p1 st1).mono p2 st2).mono p' st') rx
      | ok z S3 =>
        rw [e3] at q
        intro m3 H3 v3 p3 st3 rs3 rv3
        have q := q.mono p3 st3
        dsimp only at q
        split at q
        · rename_i S4 e4
          refine ⟨m3, S3, y, z, x, S4, rs3, rv2.mono p3 st3, rv3, (rv1.mono p2 st2).mono p3 st3, e4, fun H4 st4 rs4 => ?_⟩
          exact q m3 H4 s (List.prefix_refl _) st4 rs4 ((((rf.mono p1 st1).mono p2 st2).mono p3 st3).mono (List.prefix_refl _) st4)
        · exact False.elim q
end

/-! ### methods of lists -/
namespace M
def isLst (w : W) (S : Store) : Bool := match w with
  | .ref r => match S[r]? with
    | some (.lst _) => true
    | _ => false
  | _ => false
def mth (g : W → List W → Store → Rs W) (o : ME) (as : MA) : ME := fun f S => (o f S).bind fun x S1 => if isLst x S1 = true then (as f S1).bind fun ws S2 => g x ws S2 else .no
def appM : W → List W → Store → Rs W := fun x ws S => match x, ws with
  | .ref r, [y] => match S[r]? with
    | some (.lst xs) => if xs.length < lim then .ok .non (S.set r (.lst (xs ++ [y]))) else .no
    | _ => .no
  | _, _ => .no
def popM : W → List W → Store → Rs W := fun x ws S => match x, ws with
  | .ref r, [] => match S[r]? with
    | some (.lst xs) => match xs[xs.length - 1]? with
      | some y => .ok y (S.set r (.lst xs.dropLast))
      | none => .no
    | _ => .no
  | .ref r, [.int i] => match S[r]? with
    | some (.lst xs) => if 0 ≤ i ∧ i < xs.length ∧ xs.length ≤ lim then (match xs[i.toNat]? with
      | some y => .ok y (S.set r (.lst (xs.eraseIdx i.toNat)))
      | none => .no) else .no
    | _ => .no
  | _, _ => .no
def extM : W → List W → Store → Rs W := fun x ws S => match x, ws with
  | .ref r, [.ref q] => match S[r]?, S[q]? with
    | some (.lst xs), some (.lst ys) => if xs.length + ys.length ≤ lim then .ok .non (S.set r (.lst (xs ++ ys))) else .no
    | _, _ => .no
  | _, _ => .no
end M
theorem isLst_rel {K : Kx} {m : List Addr} {H : Hp} {S : Store} {w : W} {v : V} (rs : RS K m S H) (r : RV K m H w v) (h : M.isLst w S = true) : tyV K "list" v H := by
  cases r <;> simp only [M.isLst] at h <;> try (cases h)
  rename_i r a hr
  split at h
  · rename_i xs e
    obtain ⟨vs, h1, h2⟩ := rs.ob _ _ _ e hr
    exact Or.inl ⟨rfl, vs, SqL.of h1⟩
  · cases h
def rMth (K : Kx) (E : XK) (g : W → List W → Store → Rs W) : V → List V → Hp → VK → Prop := fun x xs H Q => ∃ m S a ws, RS K m S H ∧ RV K m H a x ∧ RVs K m H ws xs ∧ Post K E (RV K) m H (g a ws S) Q
section
variable {X : Cx} {E : EX} {o e : Expr} {es : List Expr} {apos cpos : Pos} {name : Str} {id : String}
theorem mth_at {K : Kx} {go : ME} {gs : MA} {g : W → List W → Store → Rs W} {s : St} {H : Hp} {Q : VK} (h : tE K E (M.mth g go gs) s H Q) : tBM K "list" (rMth K (E s) g) (tE K E go) (tA K E gs) s H Q := by
  refine tM.imp (tM.seq (R := RV K) (g := go) (k := fun f x S1 => if M.isLst x S1 = true then (gs f S1).bind fun ws S2 => g x ws S2 else .no) h) fun x H1 ⟨m, S, f, a, rs, rf, rv, q⟩ => ?_
  split at q
  · rename_i hl
    refine ⟨isLst_rel rs rv hl, m, S, f, rs, rf, q.bind.imp fun xs H2 ⟨m1, S1, ws, p, st, rs1, rb, q1⟩ => ?_⟩
    exact ⟨m1, S1, a, ws, rs1, rv.mono p st, rb, q1⟩
  · exact False.elim q
theorem e_mth {go : ME} {gs : MA} {g : W → List W → Store → Rs W} (hm : ∀ E, MtR X id (rMth (kxj X ϑ) E g)) (slot : Slot "list" name id) (hty : typeOf (.builtin id) = pure (.type "method_descriptor")) (ho : PE X o (tE (kxj X ϑ) E go)) (ha : PA X (e :: es) (tA (kxj X ϑ) E gs))
    (hbase : attributeBase o name X.env (eval o X.env) = eval o X.env := by rfl)
    (hfew : ((backTo cpos (starEach (e :: es) X.env)).all (fun x => !x.1) && (backToKw cpos (keywordEach [] X.env)).all (fun x => x.1.isSome)
      && decide ((e :: es).length + ([] : List Keyword).length + (if ([] : List Keyword).isEmpty then 0 else 1) < 30)) = true := by rfl)
    (hline : (apos.endLine == cpos.line) = true := by rfl) (hs : starEach (e :: es) X.env = (false, eval e X.env) :: starEach es X.env := by rfl) (hplain : (backTo cpos (starEach es X.env)).any (·.1) = false := by rfl) :
    PE X (.Call (.Attribute o name apos) (e :: es) [] cpos) (tE (kxj X ϑ) E (M.mth g go gs)) :=
  ⟨fun pins sh s H Q I h => (pe_bm PySem.F.plainAttrs_list slot hty (hm (E s)) ho ha hbase hfew hline hs hplain).run pins sh s H Q I (mth_at h)⟩
theorem e_mth0 {go : ME} {g : W → List W → Store → Rs W} (hm : ∀ E, MtR X id (rMth (kxj X ϑ) E g)) (slot : Slot "list" name id) (hty : typeOf (.builtin id) = pure (.type "method_descriptor")) (ho : PE X o (tE (kxj X ϑ) E go))
    (hbase : attributeBase o name X.env (eval o X.env) = eval o X.env := by rfl) (hline : (apos.endLine == cpos.line) = true := by rfl) :
    PE X (.Call (.Attribute o name apos) [] [] cpos) (tE (kxj X ϑ) E (M.mth g go M.nil)) := by
  refine ⟨fun pins sh s H Q I h => (pe_bm0 PySem.F.plainAttrs_list slot hty (hm (E s)) ho hbase hline).run pins sh s H Q I ?_⟩
  refine tM.imp (tM.seq (R := RV X.K) (g := go) (k := fun f x S1 => if M.isLst x S1 = true then (M.nil f S1).bind fun ws S2 => g x ws S2 else .no) h) fun x H1 ⟨m, S, f, a, rs, rf, rv, q⟩ => ?_
  split at q
  · rename_i hl
    exact ⟨isLst_rel rs rv hl, m, S, a, [], rs, rv, .nil, q⟩
  · exact False.elim q
theorem m_app {E : XK} : MtR X "list.append" (rMth (kxj X ϑ) E M.appM) := by
  intro pins s σ H x xs v us Q I rx rxs h
  obtain ⟨m, S, a, ws, rs, ra, rw', q⟩ := h
  unfold M.appM at q
  split at q
  · rename_i r y
    cases ra with
    | ref hr =>
      obtain ⟨z, rfl, rz⟩ := rvs1 rw'
      split at q
      · rename_i ys e
        split at q
        · rename_i hl
          obtain ⟨vs, h1, h2⟩ := rs.ob _ _ _ e hr
          refine mt_append pins s σ H _ _ v us Q I rx rxs ⟨_, vs, z, rfl, rfl, h1, by rw [← h2.length]; exact lim_lt hl, ?_⟩
          have so := soft_lst h1
          exact q m _ _ (List.prefix_refl _) (Stay.upd so) (rs.put e hr ⟨_, upd_same, (h2.append (.one rz)).mono (List.prefix_refl _) (Stay.upd so)⟩) .non
        · exact False.elim q
      · exact False.elim q
  · exact False.elim q
theorem m_pop {E : XK} : MtR X "list.pop" (rMth (kxj X ϑ) E M.popM) := by
  intro pins s σ H x xs v us Q I rx rxs h
  obtain ⟨m, S, a, ws, rs, ra, rw', q⟩ := h
  unfold M.popM at q
  split at q
  · rename_i r
    cases ra with
    | ref hr =>
      cases rw'
      split at q
      · rename_i ys e
        split at q
        · rename_i y hy
          obtain ⟨vs, h1, h2⟩ := rs.ob _ _ _ e hr
          obtain ⟨z, hz, rz⟩ := h2.get hy
          have so := soft_lst h1
          refine mt_pop pins s σ H _ _ v us Q I rx rxs ⟨_, vs, z, rfl, rfl, h1, by rw [← h2.length]; exact hz, ?_⟩
          exact q m _ _ (List.prefix_refl _) (Stay.upd so) (rs.put e hr ⟨_, upd_same, h2.dropLast.mono (List.prefix_refl _) (Stay.upd so)⟩) (rz.mono (List.prefix_refl _) (Stay.upd so))
        · exact False.elim q
      · exact False.elim q
  · rename_i r i
    cases ra with
    | ref hr =>
      obtain ⟨z0, rfl, r0⟩ := rvs1 rw'
      cases r0
      split at q
      · rename_i ys e
        split at q
        · rename_i hb
          split at q
          · rename_i y hy
            obtain ⟨vs, h1, h2⟩ := rs.ob _ _ _ e hr
            obtain ⟨z, hz, rz⟩ := h2.get hy
            have so := soft_lst h1
            have hl : M.lim = 100000 := rfl
            have hi : seqIndex? i vs.length = some i.toNat := by
              have hlen := h2.length
              unfold seqIndex?
              have a1 : ¬ i < 0 := by omega
              have a2 : (decide (0 ≤ i) && decide (i < (vs.length : Int))) = true := by
                rw [Bool.and_eq_true]
                exact ⟨decide_eq_true hb.1, decide_eq_true (by omega)⟩
              simp only [a1, if_false, a2, if_true]
            refine mt_popAt pins s σ H _ _ v us Q I rx rxs ⟨_, vs, i, i.toNat, z, rfl, rfl, h1, by omega, by omega, hi, hz, ?_⟩
            have er : RVs X.K m H (ys.eraseIdx i.toNat) (vs.eraseIdx i.toNat) := by
              rw [List.eraseIdx_eq_take_drop_succ, List.eraseIdx_eq_take_drop_succ]
              exact (h2.take _).append (h2.drop _)
            exact q m _ _ (List.prefix_refl _) (Stay.upd so) (rs.put e hr ⟨_, upd_same, er.mono (List.prefix_refl _) (Stay.upd so)⟩) (rz.mono (List.prefix_refl _) (Stay.upd so))
          · exact False.elim q
        · exact False.elim q
      · exact False.elim q
  · exact False.elim q
theorem m_ext {E : XK} : MtR X "list.extend" (rMth (kxj X ϑ) E M.extM) := by
  intro pins s σ H x xs v us Q I rx rxs h
  obtain ⟨m, S, a, ws, rs, ra, rw', q⟩ := h
  unfold M.extM at q
  split at q
  · rename_i r y
    cases ra with
    | ref hr =>
      obtain ⟨z, rfl, rz⟩ := rvs1 rw'
      cases rz with
      | ref hz =>
        split at q
        · rename_i ys zs e e'
          split at q
          · rename_i hl
            obtain ⟨vs, h1, h2⟩ := rs.ob _ _ _ e hr
            obtain ⟨us', h3, h4⟩ := rs.ob _ _ _ e' hz
            have so := soft_lst h1
            refine mt_extend pins s σ H _ _ v us Q I rx rxs ⟨_, _, vs, us', rfl, rfl, h1, h3, lim_line (by rw [← h2.length, ← h4.length]; exact hl), ?_⟩
            exact q m _ _ (List.prefix_refl _) (Stay.upd so) (rs.put e hr ⟨_, upd_same, (h2.append h4).mono (List.prefix_refl _) (Stay.upd so)⟩) .non
          · exact False.elim q
        · exact False.elim q
  · exact False.elim q
end

/-! ### dicts -/
namespace M
def dnew : ME := fun _ S => .ok (.ref S.length) (S ++ [.dK []])
def dput (r : Nat) (k v : W) (S : Store) : Rs Unit := match keyOf k with
  | some kk => match S[r]? with
    | some (.dK kvs) => if kvs.length < lim then .ok () (S.set r (.dK (putW kvs kk v))) else .no
    | _ => .no
  | none => .no
def dcL (get : Get) (r : Nat) (t : MG) (c : MT) (k e : ME) (fw : Fr) : Nat → Nat → Store → Rs Unit
  | 0, i, S => match get S i with
    | some none => .ok () S
    | _ => .no
  | n + 1, i, S => match get S i with
    | none => .no
    | some none => .ok () S
    | some (some x) => match t x fw S with
      | none => .no
      | some f2 => (c f2 S).noex.bind fun b S1 => if b = true then (k f2 S1).noex.bind fun y S2 => (e f2 S2).noex.bind fun z S3 => (dput r y z S3).bind fun _ S4 => dcL get r t c k e fw n (i + 1) S4 else dcL get r t c k e fw n (i + 1) S1
def dc (it : MIt) (vs : List Nat) (t : MG) (c : MT) (k e : ME) : ME := fun f S => (it f S).bind fun p S1 => (dcL p.2 S1.length t c k e (wipeF f vs) p.1 0 (S1 ++ [.dK []])).bind fun _ S2 => .ok (W.ref S1.length) S2
end M
theorem RS.newDict {K : Kx} {m : List Addr} {S : Store} {H : Hp} {p : Addr} (rs : RS K m S H) (hp : H p = none) :
    Pre m (m ++ [p]) ∧ Stay K H (upd H p (.dK [])) ∧ RS K (m ++ [p]) (S ++ [.dK []]) (upd H p (.dK [])) ∧ RV K (m ++ [p]) (upd H p (.dK [])) (.ref S.length) (.ref p) := by
  have pr : Pre m (m ++ [p]) := List.prefix_append _ _
  refine ⟨pr, Stay.new hp, rs.push hp ⟨[], upd_same, .nil⟩, .ref ?_⟩
  rw [← rs.len]
  exact List.getElem?_concat_length
section
variable {X : Cx} {E : EX}
theorem e_dnew {pos : Pos} : PE X (.Dict [] [] pos) (tE (kxj X ϑ) E M.dnew) := by
  refine PE.imp pe_dnewK fun s H Q ⟨m, S, f, rs, rf, q⟩ p hp => ?_
  obtain ⟨b1, b2, b3, b4⟩ := rs.newDict hp
  exact q _ _ _ b1 b2 b3 b4
theorem noexBind {α β γ : Type} {r : Rs α} {k : α → Store → Rs β} {l : β → Store → Rs γ} : ((r.noex.bind k).bind l) = r.noex.bind fun a S => (k a S).bind l := by
  cases r <;> rfl
theorem dc_at {K : Kx} {g : MIt} {vs js : List Nat} {t : M.MG} {c : MT} {kk e : ME} {s : St} {H : Hp} {Q : VK} (hK : K.j.sl = none) (hj : ∀ j ∈ js, j ∈ vs) (h : tE K E (M.dc g vs t c kk e) s H Q) :
    tDc (tI K E g) (tG K t js) (tT K EX0 c) (tE K EX0 kk) (tE K EX0 e) vs s H Q := by
  refine tM.imp (tM.seq (R := RIt K) (g := g) (k := fun f p S1 => (M.dcL p.2 S1.length t c kk e (wipeF f vs) p.1 0 (S1 ++ [.dK []])).bind fun _ S2 => .ok (W.ref S1.length) S2) h) fun J H1 ⟨m1, S1, f, p, rs1, rf1, it, q⟩ => ?_
  obtain ⟨n, get⟩ := p
  intro D hD
  obtain ⟨b1, b2, b3, b4⟩ := rs1.newDict hD
  have hD' : (m1 ++ [D])[S1.length]? = some D := by
    rw [← rs1.len]
    exact List.getElem?_concat_length
  refine ⟨fun i n H' => ∃ mm S, Pre (m1 ++ [D]) mm ∧ Stay K H1 H' ∧ RS K mm S H' ∧ Post K (E s) (RV K) mm H' ((M.dcL get S1.length t c kk e (wipeF f vs) n i S).bind fun _ S2 => .ok (W.ref S1.length) S2) Q,
    ⟨n, m1 ++ [D], _, List.prefix_refl _, b2, b3, q.mono b1 b2⟩, ?_⟩
  rintro i n H2 ⟨mm, S, pm, st, rs, q⟩
  have pD : mm[S1.length]? = some D := pm.get hD'
  have p1 : Pre m1 mm := b1.trans pm
  have stop : get S i = some none → Post K (E s) (RV K) mm H2 ((Rs.ok () S).bind fun _ S2 => .ok (W.ref S1.length) S2) Q → (J.stop i H2 ∧ Q (.ref D) H2) := fun e q => ⟨it.stop mm S H2 i p1 st rs e, q.here rs (.ref pD)⟩
  cases n with
  | zero =>
    unfold M.dcL at q
    split at q
    · rename_i eg
      exact Or.inl (stop eg q)
    · exact False.elim q
  | succ n =>
    unfold M.dcL at q
    split at q
    · exact False.elim q
    · rename_i eg
      exact Or.inl (stop eg q)
    · rename_i x eg
      split at q
      · exact False.elim q
      · rename_i f2 ef
        obtain ⟨go, yl⟩ := it.go mm S H2 i x p1 st rs eg
        refine Or.inr ⟨go, _, fun H' z => ⟨n, Nat.lt_succ_self _, z⟩, fun v H3 y => ?_⟩
        obtain ⟨st3, rs3, rv3⟩ := yl v H3 y
        have rfw : RF K mm H3 (wipeF f vs) (L2.wipe s vs) := (rf1.mono p1 (st.trans st3)).wipe hK vs
        refine ⟨mm, S, wipeF f vs, x, f2, rs3, rfw, rv3, ef, fun s' rf' hl hk => ⟨?_, ?_⟩⟩
        · refine wipe_same ?_ fun j hj' => ?_
          · rw [hl, wipe_length]
          · rw [hk j fun z => hj' (hj j z), wipe_out hj']
        · refine ⟨mm, S, f2, rs3, rf', ?_⟩
          rw [noexBind] at q
          refine (q.mono (List.prefix_refl _) st3).bindN.imp fun b H4 ⟨m4, S4, b', p4, st4, rs4, eb, q4⟩ => ?_
          cases eb
          cases b with
          | false =>
            rw [if_neg Bool.false_ne_true] at q4 ⊢
            exact ⟨m4, S4, pm.trans p4, (st.trans st3).trans st4, rs4, q4⟩
          | true =>
            rw [if_pos rfl] at q4 ⊢
            rw [noexBind] at q4
            refine ⟨m4, S4, f2, rs4, rf'.mono p4 st4, q4.bindN.imp fun y H5 ⟨m5, S5, y', p5, st5, rs5, ry, q5⟩ => ?_⟩
            rw [noexBind] at q5
            refine ⟨m5, S5, f2, rs5, (rf'.mono p4 st4).mono p5 st5, q5.bindN.imp fun z H6 ⟨m6, S6, z', p6, st6, rs6, rz, q6⟩ => ?_⟩
            have pD6 : m6[S1.length]? = some D := Pre.get (p4.trans (p5.trans p6)) pD
            unfold M.dput at q6
            split at q6
            · rename_i k1 hk1
              split at q6
              · rename_i kvs ea
                split at q6
                · rename_i hl5
                  obtain ⟨us, e1, e2⟩ := rs6.ob _ _ _ ea pD6
                  have so : Soft (H6 D) := by
                    rw [e1]
                    trivial
                  refine ⟨us, k1, keyOf_rel hk1 ry, e1, by rw [← rkv_len e2]; exact lim_lt hl5, m6, _, pm.trans (p4.trans (p5.trans p6)), ((((st.trans st3).trans st4).trans st5).trans st6).trans (Stay.upd so), rs6.put ea pD6 ?_, q6.mono (List.prefix_refl _) (Stay.upd so)⟩
                  exact ⟨_, upd_same, (rkv_put rz e2).mono (List.prefix_refl _) (Stay.upd so)⟩
                · exact False.elim q6
              · exact False.elim q6
            · exact False.elim q6
theorem e_dc {kx vx tg iter : Expr} {ifs : List Expr} {scope : Scope} {own : List (Str × Nat)} {pos : Pos} {g : MIt} {t : M.MG} {js : List Nat} {c : MT} {k e : ME} (rm : Rc X) (hN : X.N.Nodup) (hi : PI X tg iter (tI (kxj X ϑ) E g)) (ok : BlkOk X.N X.env.scope scope own) (hj : ∀ j ∈ js, j ∈ own.map (·.2))
    (hg : ∀ (s : Shared) (H : Hp) (C : Addr) (cl : List (Str × Addr)) (fp : List Addr), PG (X.blk s H scope (compEnvC scope cl C X.env) fp) tg (tG (kxj X ϑ) t js)) (ht : ∀ (s : Shared) (H : Hp) (C : Addr) (cl : List (Str × Addr)) (fp : List Addr), PTs (X.blk s H scope (compEnvC scope cl C X.env) fp) ifs (tT (kxj X ϑ) EX0 c))
    (hk : ∀ (s : Shared) (H : Hp) (C : Addr) (cl : List (Str × Addr)) (fp : List Addr), PE (X.blk s H scope (compEnvC scope cl C X.env) fp) kx (tE (kxj X ϑ) EX0 k))
    (he : ∀ (s : Shared) (H : Hp) (C : Addr) (cl : List (Str × Addr)) (fp : List Addr), PE (X.blk s H scope (compEnvC scope cl C X.env) fp) vx (tE (kxj X ϑ) EX0 e)) (hs : ∀ x, foldedSetIterable iter X.env x = pure x := by intro _; rfl)  :
    PE X (.DictComp kx vx [⟨tg, iter, ifs, 0⟩] scope pos) (tE (kxj X ϑ) E (M.dc g (own.map (·.2)) t c k e)) :=
  PE.imp (pe_dc rm.calm hN hi ok hg ht hk he hs) fun s H Q h => dc_at ϑ.nn hj h
end
end Wo
set_option autoImplicit true
set_option maxRecDepth 100000
set_option maxHeartbeats 4000000
namespace Wo
open PySem PySem.Spec PyProof.Rows L2
/-! W10: defs, where it is known that nothing is being shown (guards); their calls; the law's end. -/
structure FnG (P : Program) (w : World) (K : PySem.W.Frag) (mg : Str → Option Value) (base : Heap) (C : CXT) (k : Nat) (f : Addr) (fd : FuncData) (ps : List Str) (sp : Sp) : Prop where
  len : ∀ vs H Q E, sp vs H Q E → vs.length = ps.length
  run : ∀ (A : Around) (outer : List Env) (s : Shared) (H : Hp) (args : Args) (us : List Value) (vs : List V) (Q : VK) (E : XK), Room k A → A.guards = some [] → Env0 P w K mg base A outer s H → BindsTo s fd args (ps.zip us) → Vals vs us → sp vs H Q E →
    codeAny (model P w) A (.call (.ref f) args) (CR C outer P w H s Q E) s
theorem FnG.mono {P : Program} {w : World} {K : PySem.W.Frag} {mg : Str → Option Value} {base : Heap} {C : CXT} {j k : Nat} {f : Addr} {fd : FuncData} {ps : List Str} {sp : Sp} (F : FnG P w K mg base C j f fd ps sp) (h : j ≤ k) : FnG P w K mg base C k f fd ps sp :=
  ⟨F.len, fun A outer s H args us vs Q E hr => F.run A outer s H args us vs Q E (hr.mono h)⟩
section
variable {P : Program} {w : World} {K : PySem.W.Frag} {mg : Str → Option Value} {base : Heap} {C : CXT}
theorem fnG_of {x qual : Str} {st : Stmt} {f : Addr} {fd : FuncData} {N ps : List Str} {k : Nat} {sp : Sp} (F : Fun K x qual st f fd) (S : FnScope N ps (defScope st)) (len : ∀ vs H Q E, sp vs H Q E → vs.length = ps.length)
    (body : ∀ (cdv : Value) (A : Around) (outer : List Env) (s : Shared) (H : Hp) (vs : List V) (Q : VK) (E : XK), Room k (A.deeper (envOfC qual (defScope st) s.heap.objs.size f cdv)) → A.guards = some [] → sp vs H Q E →
      ∃ t, PSs (cxOf C P w K mg base N qual (defScope st) f cdv A outer s H E) (defBody st) t ∧ t { nx := fun _ H' => Q .non H', rt := Q } (start N vs) H) : FnG P w K mg base C (k + 1) f fd ps sp := by
  obtain ⟨oc, od, kV, doc, pm, an, cdv, ct, osl, rfl, lk, hcd⟩ := F.ex
  refine ⟨len, ?_⟩
  intro A outer s H args us vs Q E room guard e0 bind rel promise
  have inS : K.In s.heap := e0.mod.kin.keeps fun b o e => (e0.bs b o e).1
  have noLim : s.heap.NoLimit := e0.mod.nolimit.keeps fun b o e => (e0.bs b o e).1
  have kinds : ∀ y ∈ ps.zip us, (defScope st).names.lookup y.1 = some .local ∨ ((defScope st).names.lookup y.1 = some .cell ∧ ((cellsFrom (s.heap.objs.size + 1) (defScope st).names []).lookup y.1).isSome = true) := by
    rintro ⟨n, v⟩ hy
    exact (S.par n (List.of_mem_zip hy).1).imp id fun q => ⟨q, PySem.W.cellsFrom_some _ _ _ (Or.inl q)⟩
  refine codeAny_call_function room.depth (inS _ _ lk) rfl S.co S.gen rfl (PySem.W.codeRec_of inS hcd) (bind _ _ _ _ ?_)
  refine wpAny_newFunctionEnv_cells S.kind kinds fun env he s1 inc => ?_
  subst he
  refine ⟨noLim.keeps inc.toInCall.keep, codeAny_func ?_⟩
  obtain ⟨t, ht, hq⟩ := body cdv A outer s H vs Q E (room.deeper _) guard promise
  have I := inv_start (CX := C) (E := E) S room.hd e0 (len _ _ _ _ promise) rel inc
  refine wpAny_mono (ht.run [] s1 (start N vs) H _ I hq) (fun fl s' hs => ?_) fun e s' hs => hs
  cases fl with
  | brk => exact False.elim hs.choose_spec.choose_spec.2
  | cont => exact False.elim hs.choose_spec.choose_spec.2
  | ret u =>
    obtain ⟨v, σ', H', J, rv, q⟩ := hs
    exact ⟨v, H', J.os, J.bare, J.base, J.hok, rv, q⟩
  | next =>
    obtain ⟨σ', H', J, q⟩ := hs
    exact ⟨.non, H', J.os, J.bare, J.base, J.hok, rfl, q⟩
end
section
variable {X : Cx} {C : CXT} {k : Nat} {f : Addr} {fd : FuncData} {ps : List Str} {sp : Sp} {E : XK} {x : Str} {p pos : Pos} {e : Expr} {es : List Expr} {t : TA}
theorem run_G {pins : List (Addr × Obj)} {σ : L2.St} {H : Hp} {s : Shared} {Q : VK} {us : List Value} {vs : List V} (F : FnG X.prog X.w X.K X.mg X.base C k f fd ps sp) (hr : Room k X.A) (hG : X.A.guards = some []) (hb : Binds X.K fd ps []) (hx : Passes C X E)
    (I : Inv X pins σ H s) (r : Vals vs us) (h : sp vs H Q E) : wpAny (model X.prog X.w) X.A (call (.ref f) us) (EP X pins σ Q) X.xe s := by
  have hl : us.length = ps.length := r.length.symm.trans (F.len _ _ _ _ h)
  have bd := hb s us I.kIn (by rw [List.append_nil]; exact hl)
  rw [List.append_nil] at bd
  refine wpAny_call (codeAny_mono (F.run X.A X.stack s H ⟨us, []⟩ us vs Q E hr hG I.env0 bd r h) ?_)
  rintro (ex | (_ | _ | _ | u)) s' hq
  · exact hx pins σ H s ex s' I hq
  · exact False.elim hq
  · exact False.elim hq
  · exact False.elim hq
  · exact I.after hq
theorem call_G (F : FnG X.prog X.w X.K X.mg X.base C k f fd ps sp) (hr : Room k X.A) (hG : X.A.guards = some []) (hg : Gl X x) (hm : X.mg x = some (.ref f)) (hk : PySem.W.keepIn X.K (.ref f) = true) (hb : Binds X.K fd ps []) (hx : Passes C X E)
    (ha : PA X (e :: es) t) (hdb : (x == ("__debug__" : Str)) = false) (he : starEach (e :: es) X.env = (false, eval e X.env) :: starEach es X.env) (hpl : (backTo pos (starEach es X.env)).any (·.1) = false) :
    PE X (.Call (.Name x p) (e :: es) [] pos) (fun σ H Q => t σ H fun vs H1 => sp vs H1 Q E) := by
  refine ⟨fun pins s σ H Q I h => wpAny_Call_Name_kw (ld_glob I hg hm ?_ hdb)⟩
  refine PySem.W.callWith_K (h₀ := X.base) I.ok.mod.kin hk (thn (ha.run pos pins s σ H _ I h) ?_) he hpl
  rintro us s1 ⟨vs, H1, I1, r, q⟩
  exact ⟨I1.kIn, run_G F hr hG hb hx I1 r q⟩
theorem call_G0 (F : FnG X.prog X.w X.K X.mg X.base C k f fd ps sp) (hr : Room k X.A) (hG : X.A.guards = some []) (hg : Gl X x) (hm : X.mg x = some (.ref f)) (hk : PySem.W.keepIn X.K (.ref f) = true) (hb : Binds X.K fd ps []) (hx : Passes C X E)
    (hdb : (x == ("__debug__" : Str)) = false) : PE X (.Call (.Name x p) [] [] pos) (fun σ H Q => sp [] H Q E) := by
  refine ⟨fun pins s σ H Q I h => wpAny_Call_Name_kw (ld_glob I hg hm ?_ hdb)⟩
  exact PySem.W.callWith_K0 I.kIn hk (run_G (us := []) F hr hG hb hx I .nil h)
end

/-! ### a def by its run -/
namespace M
def endF : RsS → Rs W
  | .ok (.next _) S1 => .ok .non S1
  | .ok (.ret w) S1 => .ok w S1
  | .ok _ _ => .no
  | .ex e _ S1 => .ex e S1
  | .no => .no
def fn (ar n : Nat) (body : MS) : List W → Store → Rs W := fun ws S => if ws.length = ar then endF (body (ws.map some ++ List.replicate (n - ar) none) S) else .no
end M
theorem fn_len {ar n : Nat} {body : MS} : ∀ ws S, ws.length ≠ ar → M.fn ar n body ws S = .no := fun ws S h => if_neg h
/-- a promise of a def that raises nothing -/
def sp0 (K : PySem.W.Frag) (n : Nat) (g : List W → Store → Rs W) : Sp := fun vs H Q _ => vs.length = n ∧ ∃ (j : Jx K) (m : List Addr) (S : Store) (ws : List W), RS ⟨K, j⟩ m S H ∧ RVs K m H ws vs ∧ Post ⟨K, j⟩ X0 (RV K) m H (g ws S) Q
theorem RF.start {K : PySem.W.Frag} {m : List Addr} {H : Hp} {ws : List W} {vs : List V} {N : List Str} (j : Jx K) (r : RVs K m H ws vs) : RF ⟨K, j⟩ m H (ws.map some ++ List.replicate (N.length - ws.length) none) (L2.start N vs) := by
  have hl := r.length
  unfold L2.start
  rw [hl]
  refine ⟨by simp [hl], fun i w e => ?_, fun i v e => by rw [j.nn] at e; cases e⟩
  by_cases hi : i < ws.length
  · rw [List.getElem?_append_left (by simpa using hi), List.getElem?_map] at e
    rw [List.getElem?_append_left (by simpa [← hl] using hi), List.getElem?_map]
    cases hw : ws[i]? with
    | none =>
      rw [hw] at e
      cases e
    | some u =>
      rw [hw] at e
      cases e
      obtain ⟨v, h1, h2⟩ := r.get hw
      exact ⟨v, by rw [h1]; rfl, h2⟩
  · rw [List.getElem?_append_right (by simpa using hi), List.getElem?_replicate] at e
    split at e <;> cases e
section
variable {P : Program} {w : World} {K : PySem.W.Frag} {mg : Str → Option Value} {base : Heap}
/-- a def that raises nothing, by the walk of its body -/
theorem ok0 {x qual : Str} {st : Stmt} {f : Addr} {fd : FuncData} {N ps : List Str} {k : Nat} {body : MS} (F : Fun K x qual st f fd) (S : FnScope N ps (defScope st))
    (h : ∀ X : Cx, X.K = K → X.mg = mg → X.prog = P → X.w = w → X.base = base → X.N = N → Rc X → Room k X.A → (∃ cdv A outer s H E, X = (cxOf CX0 P w K mg base N qual (defScope st) f cdv A outer s H E).nox) → ∀ j : Jx K, PSs X (defBody st) (tS ⟨K, j⟩ EX0 body)) :
    FnG P w K mg base CX0 (k + 1) f fd ps (sp0 K ps.length (M.fn ps.length N.length body)) := by
  refine fnG_of F S (fun vs H Q E q => q.1) fun cdv A outer s H vs Q E hr hG q => ?_
  obtain ⟨hl, j, m, S0, ws, rs, rv, q⟩ := q
  have hw : ws.length = ps.length := rv.length.trans hl
  have rf := RF.start (N := N) j rv
  rw [hw] at rf
  refine ⟨_, (h (cxOf CX0 P w K mg base N qual (defScope st) f cdv A outer s H E).nox rfl rfl rfl rfl rfl rfl ⟨⟨by have := hr.un; show (A.deeper _).units + 200 < _; omega, hG⟩, rfl⟩ hr ⟨_, _, _, _, _, _, rfl⟩ j).nox, m, S0, _, rs, rf, ?_⟩
  unfold M.fn at q
  rw [if_pos hw] at q
  cases e : body (ws.map some ++ List.replicate (N.length - ps.length) none) S0 with
  | no =>
    rw [e] at q
    exact q
  | ex x f1 S1 =>
    rw [e] at q
    exact fun m' H' s' d p st rs' rf' rx => q m' H' d p st rs' rx
  | ok l S1 =>
    rw [e] at q
    cases l with
    | next f1 => exact fun m' H' s' p st rs' rf' => q m' H' .non p st rs' .non
    | ret u => exact q
    | brk f1 => exact False.elim q
    | cont f1 => exact False.elim q
end
section
variable {X : Cx} {k : Nat} {f : Addr} {fd : FuncData} {ps : List Str} {x : Str} {p pos : Pos} {e : Expr} {es : List Expr}
theorem sp0_of {K : PySem.W.Frag} {j : Jx K} {n : Nat} {g : List W → Store → Rs W} (hl : ∀ ws S, ws.length ≠ n → g ws S = .no) {vs : List V} {H : Hp} {Q : VK} {E : XK} (h : rWs ⟨K, j⟩ X0 g vs H Q) : sp0 K n g vs H Q E := by
  obtain ⟨m, S, ws, rs, rv, q⟩ := h
  by_cases hw : ws.length = n
  · exact ⟨rv.length.symm.trans hw, j, m, S, ws, rs, rv, q⟩
  · rw [hl ws S hw] at q
    exact False.elim q
theorem e_call {n : Nat} {g : List W → Store → Rs W} {gs : MA} (F : FnG X.prog X.w X.K X.mg X.base CX0 k f fd ps (sp0 X.K n g)) (hl : ∀ ws S, ws.length ≠ n → g ws S = .no) (rm : Rc X) (hr : Room k X.A) (hm : X.mg x = some (.ref f)) (hk : PySem.W.keepIn X.K (.ref f) = true) (hb : Binds X.K fd ps [])
    (ha : PA X (e :: es) (tA (kxj X ϑ) EX0 gs)) (hg : Gl X x := by rfl) (hdb : (x == ("__debug__" : Str)) = false := by decide) (he : starEach (e :: es) X.env = (false, eval e X.env) :: starEach es X.env := by rfl) (hpl : (backTo pos (starEach es X.env)).any (·.1) = false := by rfl) :
    PE X (.Call (.Name x p) (e :: es) [] pos) (tE (kxj X ϑ) EX0 (M.ops g gs)) :=
  PE.imp (call_G F hr rm.g hg hm hk hb (pass0 (X := X)) ha hdb he hpl) fun s H Q q => tM.imp (tE.many q) fun vs H1 h => sp0_of hl h
/-- a built-in by its name -/
theorem e_bi {id : String} {g : List W → Store → Rs W} {gs : MA} {E : EX} (hc : ∀ E, CallR X (.builtin id) (rWs (kxj X ϑ) E g)) (hm : X.mg x = none) (hv : bootBuiltins x = some (.builtin id)) (ha : PA X (e :: es) (tA (kxj X ϑ) E gs)) (hg : Gl X x := by rfl) (hn : x ≠ "__name__" := by decide) (hdb : (x == ("__debug__" : Str)) = false := by decide)
    (he : starEach (e :: es) X.env = (false, eval e X.env) :: starEach es X.env := by rfl) (hpl : (backTo pos (starEach es X.env)).any (·.1) = false := by rfl) : PE X (.Call (.Name x p) (e :: es) [] pos) (tE (kxj X ϑ) E (M.ops g gs)) :=
  ⟨fun pins sh s H Q I h => (pe_callB (hc (E s)) hg hm hv ha hn hdb he hpl).run pins sh s H Q I (tE.many h)⟩
theorem e_bt {T : String} {g : List W → Store → Rs W} {gs : MA} {E : EX} (hc : ∀ E, CallR X (.type T) (rWs (kxj X ϑ) E g)) (hm : X.mg x = none) (hv : bootBuiltins x = some (.type T)) (ha : PA X (e :: es) (tA (kxj X ϑ) E gs)) (hg : Gl X x := by rfl) (hn : x ≠ "__name__" := by decide) (hdb : (x == ("__debug__" : Str)) = false := by decide)
    (he : starEach (e :: es) X.env = (false, eval e X.env) :: starEach es X.env := by rfl) (hpl : (backTo pos (starEach es X.env)).any (·.1) = false := by rfl) : PE X (.Call (.Name x p) (e :: es) [] pos) (tE (kxj X ϑ) E (M.ops g gs)) :=
  ⟨fun pins sh s H Q I h => (pe_callTy (hc (E s)) hg hm hv ha hn hdb he hpl).run pins sh s H Q I (tE.many h)⟩
theorem e_ty {T : String} {E : EX} (hm : X.mg x = none) (hv : bootBuiltins x = some (.type T)) (hg : Gl X x := by rfl) (hn : x ≠ "__name__" := by decide) (hdb : (x == ("__debug__" : Str)) = false := by decide) : PE X (.Name x p) (tE (kxj X ϑ) E (M.cst (.ty T))) :=
  e_cst (pe_bltn hg hm hv (v := .ty T) rfl hn hdb) fun _ _ => .ty T
end

/-! ### the law's end -/
/-- the script as our semantics has it -/
def scriptW (ns : List Int) : W := .fl (ns.map .int)
def spLaw (g : List W → Store → Rs W) : PySem.W.Frag → Sp := fun K => sp0 K 1 g
theorem only_sqf {K : PySem.W.Frag} {H : Hp} {a : Addr} {vs : List V} (o : Only H) (h : SqL K H a vs) : SqF K H a vs := by
  rcases h with (h | ⟨ob, h⟩) | h
  · rcases o a with z | ⟨ob, xs, z⟩
    · rw [h] at z
      cases z
    · rw [h] at z
      cases z
  · exact Or.inl ⟨ob, h⟩
  · exact Or.inr fun H' => Or.inr h
theorem law_sp {K : PySem.W.Frag} {g : List W → Store → Rs W} {H : Hp} {a : Addr} {ns : List Int} (o : Only H) (h : SqL K H a (ns.map V.int)) (hg : ∃ S, g [scriptW ns] [] = .ok (.bl true) S) {E : XK} : spLaw g K [.ref a] H (fun v _ => v = .bl true) E := by
  obtain ⟨S, e⟩ := hg
  refine ⟨rfl, j0 K, [], [], [scriptW ns], ⟨True.intro, fun _ z => False.elim z, rfl, List.nodup_nil, fun r o a h => by simp at h⟩, .one (.fl (only_sqf o h) (rvs_ints ns)), ?_⟩
  rw [e]
  intro m' H' v p st rs rv
  cases rv
  rfl
end Wo
set_option autoImplicit true
set_option maxRecDepth 100000
set_option maxHeartbeats 4000000
namespace Wo
open PySem PySem.Spec PyProof.Rows L2
/-! W11: the law's def called by the claim. -/
/-- a heap in which the script alone is tracked, or nothing -/
structure Alone (K : PySem.W.Frag) (P : Program) (w : World) (h : Heap) (a : Addr) (ns : List Int) (H : Hp) : Prop where
  only : Only H
  sq : SqL K H a (ns.map V.int)
  ok : HOk P w H h
  one : ∀ b, H b ≠ none → b = a
  free : H a ≠ none → K.lookup a = none
theorem alone_some {K : PySem.W.Frag} {P : Program} {w : World} {h : Heap} {a : Addr} {vs : List Value} {ns : List Int} (KX : K.In h) (ha : h.get? a = some { cls := .type "list", data := .seq vs.toArray }) (hi : IntsAre vs ns) (hl : ns.length ≤ sizeLine) :
    ∃ H, Alone K P w h a ns H := by
  have rel := vals_ints hi
  by_cases hk : K.lookup a = none
  · have at_a : ∀ b, (if b = a then some (HO.frz { cls := .type "list", data := .seq vs.toArray } (.lst (ns.map V.int))) else none) ≠ none → b = a := fun b z => Classical.byContradiction fun n => z (if_neg n)
    refine ⟨fun b => if b = a then some (.frz { cls := .type "list", data := .seq vs.toArray } (.lst (ns.map V.int))) else none, fun b => ?_, Or.inl (Or.inr ⟨_, if_pos rfl⟩), fun b u z => ?_, at_a, fun _ => hk⟩
    · by_cases e : b = a
      · exact Or.inr ⟨_, _, if_pos e⟩
      · exact Or.inl (if_neg e)
    · have e : b = a := at_a b (by rw [z]; simp)
      subst e
      rw [if_pos rfl] at z
      cases z
      exact ⟨ha, by rw [List.length_map]; exact hl, vs, _, rel, ha⟩
  · obtain ⟨o, ho⟩ := Option.ne_none_iff_exists'.mp hk
    have e := KX a o ho
    rw [ha] at e
    cases e
    refine ⟨fun _ => none, fun _ => Or.inl rfl, Or.inr ⟨_, vs.toArray, _, ho, rfl, rfl, rfl, ?_, ?_⟩, fun b u z => ?_, fun b z => absurd rfl z, fun z => absurd rfl z⟩
    · rw [List.size_toArray, hi.length]
      exact hl
    · rw [List.toList_toArray]
      exact rel
    · cases z
theorem law_G {P : Program} {w : World} {K : PySem.W.Frag} {mg mb : Str → Option Value} {k : Nat} {fa a : Addr} {fd : FuncData} {x : Str} {sp : Sp} {s₁ : Shared} {vs : List Value} {ns : List Int}
    (KX : K.In s₁.heap) (hns : s₁.heap.Ns mainGlobals mg) (hb : s₁.heap.Ns builtinsNs mb) (hbb : ∀ x : Str, x ≠ "__name__" → mb x = bootBuiltins x) (hlim : s₁.heap.NoLimit) (hg : s₁.gens = #[])
    (ha : s₁.heap.get? a = some { cls := .type "list", data := .seq vs.toArray }) (hi : IntsAre vs ns) (hl : ns.length ≤ sizeLine) (hr : Room k callerA)
    (F : ∀ base : Heap, K.In base → base.Ns mainGlobals mg → FnG P w K mg base CX0 k fa fd [x] sp) (bind : ∀ (s : Shared) (u : Value), BindsTo s fd ⟨[u], []⟩ [(x, u)])
    (hsp : ∀ H : Hp, Only H → SqL K H a (ns.map V.int) → sp [.ref a] H (fun v _ => v = .bl true) fun _ _ _ => False) :
    codeAny (model P w) callerA (.call (.ref fa) ⟨[.ref a], []⟩) (fun r s' => r = .ok (.ret (.bool true)) ∧ OldK s₁.heap s'.heap ∧ s'.os = s₁.os ∧ AllBare s'.gens) s₁ := by
  obtain ⟨H, L⟩ := alone_some (P := P) (w := w) KX ha hi hl
  have dict_free : ∀ {b : Addr} {o : Obj} {es : Array DictEntry} {ep : Nat}, s₁.heap.get? b = some o → o.data = .dict es ep → H b = none := by
    intro b o es ep e d
    refine Classical.byContradiction fun n => ?_
    have eb := L.one b n
    subst eb
    rw [ha] at e
    cases e
    cases (show Data.seq vs.toArray _ = Data.dict es ep from d)
  have ns_kept : ∀ {b : Addr} {m : Str → Option Value}, s₁.heap.Ns b m → (hidT s₁.heap H).Ns b m := by
    rintro b m ⟨o, es, ep, e, d, r⟩
    exact ⟨o, es, ep, hidT_get e (dict_free e d), d, r⟩
  have k_kept : K.In (hidT s₁.heap H) := by
    intro b o e
    refine hidT_get (KX b o e) (Classical.byContradiction fun n => ?_)
    have eb := L.one b n
    subst eb
    rw [L.free n] at e
    cases e
  have md : Mod K mg (hidT s₁.heap H) := by
    obtain ⟨mc, l1, l2⟩ := hlim
    exact ⟨k_kept, ns_kept hns, ⟨mb, ns_kept hb, hbb⟩, ⟨mc, ns_kept l1, l2⟩⟩
  have e0 : Env0 P w K mg (hidT s₁.heap H) callerA [] s₁ H := by
    refine ⟨rfl, md, fun b o e => of_hidT e, Nat.le_of_eq (hidT_size _ _), trivial, fun b z => ?_, L.ok, .of_eq hg⟩
    exact absurd (show b ∈ ([] : List Addr) from z) (by simp)
  have go := (F _ k_kept (ns_kept hns)).run callerA [] s₁ H ⟨[.ref a], []⟩ [.ref a] [.ref a] _ _ hr rfl e0 (bind s₁ (.ref a)) (.cons rfl .nil) (hsp H L.only L.sq)
  refine codeAny_mono go ?_
  rintro (ex | (_ | _ | _ | u)) s' h
  · exact False.elim h
  · exact False.elim h
  · exact False.elim h
  · exact False.elim h
  · obtain ⟨v, H', os, bare, un, hok', rv, q⟩ := h
    cases (show v = .bl true from q)
    cases (show u = Value.bool true from rv)
    refine ⟨rfl, OldK.of_keep fun b o e => ?_, os, bare⟩
    rcases L.only b with z | ⟨ob, xs, z⟩
    · exact un.keep b o e z (fun y => absurd (show b ∈ ([] : List Addr) from y) (by simp)) (by simp)
    · have z1 := (L.ok b _ z).1
      have z2 := (hok' b _ (un.frzs b ob _ z)).1
      rw [e] at z1
      cases z1
      exact z2
/-- the goal that k_head leaves -/
theorem walk_G {l : PySem.W.OpenLaw} {k : Nat} {q : Program} {loose : List Str} {XP : (Str → Option Value) → Heap → Prop} {YP : World → Heap → Prop} {d : DefRec} {K : Params → PySem.W.Frag} {x : Str} {g : List W → Store → Rs W}
    (hn : l.most = some 63) (hdf : d.params.defaults = []) (hr : Room k callerA) (hY : ∀ (w : World) (h : Heap), YP w h → (K w.params).In h)
    (F : ∀ (w : World) (mg : Str → Option Value) (fa : Addr) (h : Heap), (K w.params).In h → h.Ns mainGlobals mg → mg d.name = some (.ref fa) →
      ∃ fd : FuncData, (∀ (s : Shared) (u : Value), BindsTo s fd ⟨[u], []⟩ [(x, u)]) ∧ ∀ base : Heap, (K w.params).In base → base.Ns mainGlobals mg → FnG l.prog w (K w.params) mg base CX0 k fa fd [x] (spLaw g (K w.params)))
    (law : ∀ ns : List Int, ns.length ≤ 63 → ∃ S, g [scriptW ns] [] = .ok (.bl true) S) : PySem.W.WalkO q loose XP YP l.row.toRowW d [] (fun f vs => PySem.call f vs) := by
  refine Att.attach_call hn hdf fun w s₀ s₁ mg mb fa o pm cd doc a vs ns G Y ho hd hcd hmg hobj hints hlen hg => ?_
  have KX := hY w _ Y
  obtain ⟨fd, hb, hF⟩ := F w mg fa _ KX G.T.g hmg
  exact law_G KX G.T.g G.T.b G.T.builtins G.T.nolimit hg hobj hints (Nat.le_trans hlen (by decide)) hr hF hb fun H hO hS => law_sp hO hS (law ns hlen)
end Wo
set_option autoImplicit true
set_option maxRecDepth 100000
set_option maxHeartbeats 4000000
namespace Wo
open PySem L2
/-! W12: what is known of a def that was walked. -/
namespace M
def negW : W → Store → Rs W := fun w S => match w with
  | .int i => .ok (.int (-i)) S
  | _ => .no
end M
theorem e_neg {X : Cx} {ϑ : Jx X.K} {E : EX} {a : Expr} {pos : Pos} {g : ME} (h : PE X a (tE (kxj X ϑ) E g)) : PE X (.UnaryOp .USub a pos) (tE (kxj X ϑ) E (M.op1 M.negW g)) := by
  refine PE.imp (pe_un un_neg h) fun s H Q q => tM.imp (tE.one q) fun x H1 ⟨m, S, a, rs, ra, q⟩ => ?_
  cases ra <;> try exact False.elim q
  exact ⟨_, rfl, q.here rs (.int _)⟩
theorem Rc.blk {X : Cx} (rm : Rc X) {s : Shared} {H : Hp} {scope : Scope} {e : Env} {fp : List Addr} : Rc (X.blk s H scope e fp) := ⟨⟨rm.un, rm.g⟩, rm.calm⟩
structure Dn (P : Program) (w : World) (K : PySem.W.Frag) (mg : Str → Option Value) (base : Heap) (k : Nat) (x : Str) (ps : List Str) (g : List W → Store → Rs W) (f : Addr) (fd : FuncData) : Prop where
  ok : FnG P w K mg base CX0 k f fd ps (sp0 K ps.length g)
  at_ : mg x = some (.ref f)
  kp : PySem.W.keepIn K (.ref f) = true
  bd : Binds K fd ps []
theorem e_fn {X : Cx} {ϑ : Jx X.K} {k : Nat} {f : Addr} {fd : FuncData} {ps : List Str} {x : Str} {p pos : Pos} {e : Expr} {es : List Expr} {g : List W → Store → Rs W} {gs : MA} (D : Dn X.prog X.w X.K X.mg X.base k x ps g f fd) (hl : ∀ ws S, ws.length ≠ ps.length → g ws S = .no) (rm : Rc X) (hr : Room k X.A)
    (ha : PA X (e :: es) (tA (kxj X ϑ) EX0 gs)) (hg : Gl X x := by rfl) (hdb : (x == ("__debug__" : Str)) = false := by decide) (he : starEach (e :: es) X.env = (false, eval e X.env) :: starEach es X.env := by rfl) (hpl : (backTo pos (starEach es X.env)).any (·.1) = false := by rfl) :
    PE X (.Call (.Name x p) (e :: es) [] pos) (tE (kxj X ϑ) EX0 (M.ops g gs)) := e_call D.ok hl rm hr D.at_ D.kp D.bd ha hg hdb he hpl
theorem dn_mk {P : Program} {w : World} {K : PySem.W.Frag} {mg : Str → Option Value} {base : Heap} {x qual : Str} {st : Stmt} {f : Addr} {fd : FuncData} {N ps : List Str} {k : Nat} {body : MS} (F : Fun K x qual st f fd) (S : FnScope N ps (defScope st)) (hat : mg x = some (.ref f)) (bd : Binds K fd ps [])
    (h : ∀ (cdv : Value) (A : Around) (outer : List Env) (s : Shared) (H : Hp) (E : XK), Rc (cxOf CX0 P w K mg base N qual (defScope st) f cdv A outer s H E).nox → Room k (cxOf CX0 P w K mg base N qual (defScope st) f cdv A outer s H E).nox.A → ∀ ϑ : Jx K, PSs (cxOf CX0 P w K mg base N qual (defScope st) f cdv A outer s H E).nox (defBody st) (tS ⟨K, ϑ⟩ EX0 body)) :
    Dn P w K mg base (k + 1) x ps (M.fn ps.length N.length body) f fd := by
  refine ⟨ok0 F S ?_, hat, F.kp, bd⟩
  rintro X _ _ _ _ _ _ rm hr ⟨cdv, A, outer, s, H, E, rfl⟩ j
  exact h cdv A outer s H E rm hr j
end Wo
set_option autoImplicit true
set_option maxRecDepth 100000
set_option maxHeartbeats 4000000
namespace Wo
open PySem L2
/-! W13: how runs are reckoned: rules for the loops, stores that grow. -/
theorem lim0 : (0 ≤ M.lim) = True := eq_true (by decide)
theorem lim1 : (1 ≤ M.lim) = True := eq_true (by decide)
theorem lim2 : (2 ≤ M.lim) = True := eq_true (by decide)
theorem lim3 : (3 ≤ M.lim) = True := eq_true (by decide)
theorem lim4 : (4 ≤ M.lim) = True := eq_true (by decide)
theorem lim5 : (5 ≤ M.lim) = True := eq_true (by decide)
theorem lcL_rule {get : Get} {r : Nat} {t : M.MG} {c : MT} {e : ME} {fw : Fr} (n0 : Nat) (I : Nat → List W → Store → Prop) (hstop : ∀ acc S, I n0 acc S → get S n0 = some none)
    (hstep : ∀ i acc S, i < n0 → I i acc S → ∃ x f2, get S i = some (some x) ∧ t x fw S = some f2 ∧ ∃ b S1, c f2 S = .ok b S1 ∧ (if b = true then ∃ y S2, e f2 S1 = .ok y S2 ∧ S2[r]? = some (.lst acc) ∧ acc.length < M.lim ∧ I (i + 1) (acc ++ [y]) (S2.set r (.lst (acc ++ [y]))) else I (i + 1) acc S1)) :
    ∀ (n i : Nat) (acc : List W) (S : Store), i + n = n0 → I i acc S → ∃ acc' S', M.lcL get r t c e fw n i S = .ok () S' ∧ I n0 acc' S' := by
  intro n
  induction n with
  | zero =>
    intro i acc S hi h
    have ei : i = n0 := by omega
    subst ei
    refine ⟨acc, S, ?_, h⟩
    unfold M.lcL
    rw [hstop acc S h]
  | succ n ih =>
    intro i acc S hi h
    obtain ⟨x, f2, h1, h2, b, S1, h3, h4⟩ := hstep i acc S (by omega) h
    unfold M.lcL
    rw [h1]
    dsimp only
    rw [h2]
    dsimp only
    rw [h3]
    cases b with
    | false =>
      rw [if_neg Bool.false_ne_true] at h4
      obtain ⟨acc', S', h5, h6⟩ := ih (i + 1) acc S1 (by omega) h4
      exact ⟨acc', S', h5, h6⟩
    | true =>
      rw [if_pos rfl] at h4
      obtain ⟨y, S2, h5, h6, h7, h8⟩ := h4
      obtain ⟨acc', S', h9, h10⟩ := ih (i + 1) (acc ++ [y]) _ (by omega) h8
      refine ⟨acc', S', ?_, h10⟩
      rw [← h9]
      show ((e f2 S1).noex.bind fun y S2 => (M.app r y S2).bind fun _ S3 => M.lcL get r t c e fw n (i + 1) S3) = _
      rw [h5]
      show ((M.app r y S2).bind fun _ S3 => M.lcL get r t c e fw n (i + 1) S3) = _
      unfold M.app
      rw [h6]
      dsimp only
      rw [if_pos h7]
      rfl
theorem dcL_rule {get : Get} {r : Nat} {t : M.MG} {c : MT} {k e : ME} {fw : Fr} (n0 : Nat) (I : Nat → List (Key × W) → Store → Prop) (hstop : ∀ acc S, I n0 acc S → get S n0 = some none)
    (hstep : ∀ i acc S, i < n0 → I i acc S → ∃ x f2, get S i = some (some x) ∧ t x fw S = some f2 ∧ ∃ b S1, c f2 S = .ok b S1 ∧ (if b = true then ∃ u v kk S2 S3, k f2 S1 = .ok u S2 ∧ e f2 S2 = .ok v S3 ∧ M.keyOf u = some kk ∧ S3[r]? = some (.dK acc) ∧ acc.length < M.lim ∧ I (i + 1) (M.putW acc kk v) (S3.set r (.dK (M.putW acc kk v))) else I (i + 1) acc S1)) :
    ∀ (n i : Nat) (acc : List (Key × W)) (S : Store), i + n = n0 → I i acc S → ∃ acc' S', M.dcL get r t c k e fw n i S = .ok () S' ∧ I n0 acc' S' := by
  intro n
  induction n with
  | zero =>
    intro i acc S hi h
    have ei : i = n0 := by omega
    subst ei
    refine ⟨acc, S, ?_, h⟩
    unfold M.dcL
    rw [hstop acc S h]
  | succ n ih =>
    intro i acc S hi h
    obtain ⟨x, f2, h1, h2, b, S1, h3, h4⟩ := hstep i acc S (by omega) h
    unfold M.dcL
    rw [h1]
    dsimp only
    rw [h2]
    dsimp only
    rw [h3]
    cases b with
    | false =>
      rw [if_neg Bool.false_ne_true] at h4
      obtain ⟨acc', S', h5, h6⟩ := ih (i + 1) acc S1 (by omega) h4
      exact ⟨acc', S', h5, h6⟩
    | true =>
      rw [if_pos rfl] at h4
      obtain ⟨u, v, kk, S2, S3, h5, h5', hk, h6, h7, h8⟩ := h4
      obtain ⟨acc', S', h9, h10⟩ := ih (i + 1) _ _ (by omega) h8
      refine ⟨acc', S', ?_, h10⟩
      rw [← h9]
      show ((k f2 S1).noex.bind fun y S2 => (e f2 S2).noex.bind fun z S3 => (M.dput r y z S3).bind fun _ S4 => M.dcL get r t c k e fw n (i + 1) S4) = _
      rw [h5]
      show ((e f2 S2).noex.bind fun z S3 => (M.dput r u z S3).bind fun _ S4 => M.dcL get r t c k e fw n (i + 1) S4) = _
      rw [h5']
      show ((M.dput r u v S3).bind fun _ S4 => M.dcL get r t c k e fw n (i + 1) S4) = _
      unfold M.dput
      rw [hk]
      dsimp only
      rw [h6]
      dsimp only
      rw [if_pos h7]
      rfl
/-- a loop whose turns all go on -/
theorem forL_rule {get : Get} {t : M.MG} {body : MS} (n0 : Nat) (I : Nat → Fr → Store → Prop) (hstop : ∀ f S, I n0 f S → get S n0 = some none)
    (hstep : ∀ i f S, i < n0 → I i f S → ∃ x f2, get S i = some (some x) ∧ t x f S = some f2 ∧ ∃ f3 S3, (body f2 S = .ok (.next f3) S3 ∨ body f2 S = .ok (.cont f3) S3) ∧ I (i + 1) f3 S3) :
    ∀ (n i : Nat) (f : Fr) (S : Store), i + n = n0 → I i f S → ∃ f' S', M.forL get t body n i f S = .ok (.next f') S' ∧ I n0 f' S' := by
  intro n
  induction n with
  | zero =>
    intro i f S hi h
    have ei : i = n0 := by omega
    subst ei
    refine ⟨f, S, ?_, h⟩
    unfold M.forL
    rw [hstop f S h]
  | succ n ih =>
    intro i f S hi h
    obtain ⟨x, f2, h1, h2, f3, S3, h3, h4⟩ := hstep i f S (by omega) h
    obtain ⟨f', S', h5, h6⟩ := ih (i + 1) f3 S3 (by omega) h4
    refine ⟨f', S', ?_, h6⟩
    unfold M.forL
    rw [h1]
    dsimp only
    rw [h2]
    dsimp only
    rcases h3 with h3 | h3
    · rw [h3]
      exact h5
    · rw [h3]
      exact h5
/-- .. or one of them hands back -/
theorem forL_rule2 {get : Get} {t : M.MG} {body : MS} (n0 : Nat) (I : Nat → Fr → Store → Prop) (Z : W → Store → Prop) (hstop : ∀ f S, I n0 f S → get S n0 = some none)
    (hstep : ∀ i f S, i < n0 → I i f S → ∃ x f2, get S i = some (some x) ∧ t x f S = some f2 ∧ ((∃ f3 S3, (body f2 S = .ok (.next f3) S3 ∨ body f2 S = .ok (.cont f3) S3) ∧ I (i + 1) f3 S3) ∨ ∃ w S3, body f2 S = .ok (.ret w) S3 ∧ Z w S3)) :
    ∀ (n i : Nat) (f : Fr) (S : Store), i + n = n0 → I i f S → (∃ f' S', M.forL get t body n i f S = .ok (.next f') S' ∧ I n0 f' S') ∨ ∃ w S', M.forL get t body n i f S = .ok (.ret w) S' ∧ Z w S' := by
  intro n
  induction n with
  | zero =>
    intro i f S hi h
    have ei : i = n0 := by omega
    subst ei
    refine Or.inl ⟨f, S, ?_, h⟩
    unfold M.forL
    rw [hstop f S h]
  | succ n ih =>
    intro i f S hi h
    obtain ⟨x, f2, h1, h2, h⟩ := hstep i f S (by omega) h
    unfold M.forL
    rw [h1]
    dsimp only
    rw [h2]
    dsimp only
    rcases h with ⟨f3, S3, h3, h4⟩ | ⟨w, S3, h3, h4⟩
    · have h5 := ih (i + 1) f3 S3 (by omega) h4
      rcases h3 with h3 | h3
      · rw [h3]
        exact h5
      · rw [h3]
        exact h5
    · rw [h3]
      exact Or.inr ⟨w, S3, rfl, h4⟩
/-! ### stores that grow -/
theorem pre_get {S S' : Store} (p : S <+: S') {r : Nat} {o : Ob} (h : S[r]? = some o) : S'[r]? = some o := by
  obtain ⟨t, rfl⟩ := p
  rw [List.getElem?_append_left (List.getElem?_eq_some_iff.mp h).1]
  exact h
theorem pre_len {S S' : Store} (p : S <+: S') : S.length ≤ S'.length := p.length_le
theorem pre_push {S S' : Store} (p : S <+: S') (o : Ob) : S <+: S' ++ [o] := p.trans (List.prefix_append _ _)
theorem get_new (S : Store) (o : Ob) : (S ++ [o])[S.length]? = some o := List.getElem?_concat_length
/-- a place behind what stood is written -/
theorem pre_set {S S' : Store} (p : S <+: S') {r : Nat} (hr : S.length ≤ r) (o : Ob) : S <+: S'.set r o := by
  obtain ⟨t, rfl⟩ := p
  rw [List.set_append_right _ _ hr]
  exact List.prefix_append _ _
/-- what stood stands, but for one place -/
def But (p : Nat) (S S' : Store) : Prop := S.length ≤ S'.length ∧ ∀ i, i < S.length → i ≠ p → S'[i]? = S[i]?
theorem But.refl (p : Nat) (S : Store) : But p S S := ⟨Nat.le_refl _, fun _ _ _ => rfl⟩
theorem But.trans {p : Nat} {S S1 S2 : Store} (a : But p S S1) (b : But p S1 S2) : But p S S2 := ⟨Nat.le_trans a.1 b.1, fun i hi hp => (b.2 i (Nat.lt_of_lt_of_le hi a.1) hp).trans (a.2 i hi hp)⟩
theorem But.pre {p : Nat} {S S' : Store} (h : S <+: S') : But p S S' := ⟨h.length_le, fun i hi _ => by
  obtain ⟨t, rfl⟩ := h
  rw [List.getElem?_append_left hi]⟩
theorem But.set {p : Nat} {S S' : Store} (h : But p S S') (o : Ob) : But p S (S'.set p o) := ⟨by rw [List.length_set]; exact h.1, fun i hi hp => by rw [List.getElem?_set_ne (Ne.symm hp)]; exact h.2 i hi hp⟩
theorem But.set2 {p : Nat} {S S' : Store} (h : But p S S') {r : Nat} (hr : S.length ≤ r) (o : Ob) : But p S (S'.set r o) := ⟨by rw [List.length_set]; exact h.1, fun i hi hp => by rw [List.getElem?_set_ne (by omega)]; exact h.2 i hi hp⟩
theorem But.push {p : Nat} {S S' : Store} (h : But p S S') (o : Ob) : But p S (S' ++ [o]) := h.trans (But.pre (List.prefix_append _ _))
theorem But.get {p : Nat} {S S' : Store} (h : But p S S') {r : Nat} {o : Ob} (e : S[r]? = some o) (hp : r ≠ p) : S'[r]? = some o := (h.2 r (List.getElem?_eq_some_iff.mp e).1 hp).trans e
end Wo
set_option autoImplicit true
set_option maxRecDepth 100000
set_option maxHeartbeats 4000000
namespace Wo
open PySem L2
/-! W14: comprehensions whose turns leave what stood. -/
theorem flatMap_take {α β : Type} (y : α → List β) {xs : List α} {i : Nat} {x : α} (h : xs[i]? = some x) : (xs.take (i + 1)).flatMap y = (xs.take i).flatMap y ++ y x := by
  rw [List.take_add_one, h]
  simp
theorem lc_pure {g : MIt} {vs : List Nat} {t : M.MG} {c : MT} {e : ME} {f : Fr} {S S1 : Store} {get : Get} {xs : List W} (y : W → List W) (hg : g f S = .ok (xs.length, get) S1) (hget : ∀ S', S1 <+: S' → ∀ i, get S' i = some xs[i]?)
    (h : ∀ x ∈ xs, ∀ S', S1 <+: S' → ∃ f2 b S2, t x (wipeF f vs) S' = some f2 ∧ c f2 S' = .ok b S2 ∧ S' <+: S2 ∧ (if b = true then ∃ v S3, e f2 S2 = .ok v S3 ∧ S2 <+: S3 ∧ y x = [v] else y x = [])) (hl : xs.length ≤ 1000) :
    ∃ S', M.lc g vs t c e f S = .ok (.ref S1.length) S' ∧ S1 <+: S' ∧ S'[S1.length]? = some (.lst (xs.flatMap y)) := by
  have hy : ∀ x ∈ xs, (y x).length ≤ 1 := fun x hx => by
    obtain ⟨f2, b, S2, _, _, _, h4⟩ := h x hx S1 (List.prefix_refl _)
    cases b with
    | false =>
      rw [if_neg Bool.false_ne_true] at h4
      rw [h4]
      exact Nat.zero_le _
    | true =>
      rw [if_pos rfl] at h4
      obtain ⟨v, S3, _, _, h5⟩ := h4
      rw [h5]
      exact Nat.le_refl _
  have hlen : ∀ zs : List W, (∀ x ∈ zs, (y x).length ≤ 1) → (zs.flatMap y).length ≤ zs.length := by
    intro zs
    induction zs with
    | nil => intro _; exact Nat.le_refl _
    | cons z zs ih =>
      intro hz
      rw [List.flatMap_cons, List.length_append, List.length_cons]
      have a1 := hz z (List.mem_cons_self ..)
      have a2 := ih fun x hx => hz x (List.mem_cons_of_mem _ hx)
      omega
  obtain ⟨acc', S', h1, h2⟩ := lcL_rule (get := get) (r := S1.length) (t := t) (c := c) (e := e) (fw := wipeF f vs) xs.length (fun i acc S' => S1 <+: S' ∧ S'[S1.length]? = some (.lst acc) ∧ acc = (xs.take i).flatMap y)
    (fun acc S' ⟨p, _, _⟩ => by rw [hget S' p, List.getElem?_eq_none (Nat.le_refl _)]) (fun i acc S' hi ⟨p, ha, ea⟩ => by
      have hx : xs[i]? = some xs[i] := List.getElem?_eq_getElem hi
      obtain ⟨f2, b, S2, h1, h2, h3, h4⟩ := h xs[i] (List.getElem_mem hi) S' p
      refine ⟨xs[i], f2, by rw [hget S' p, hx], h1, b, S2, h2, ?_⟩
      cases b with
      | false =>
        rw [if_neg Bool.false_ne_true] at h4 ⊢
        refine ⟨p.trans h3, pre_get h3 ha, ?_⟩
        rw [flatMap_take y hx, h4, List.append_nil]
        exact ea
      | true =>
        rw [if_pos rfl] at h4 ⊢
        obtain ⟨v, S3, h5, h6, h7⟩ := h4
        have ha3 := pre_get (h3.trans h6) ha
        have lacc : acc.length ≤ i := by
          rw [ea]
          refine Nat.le_trans (hlen _ fun x hx => hy x (List.mem_of_mem_take hx)) ?_
          rw [List.length_take]
          omega
        have hlim : M.lim = 100000 := rfl
        refine ⟨v, S3, h5, ha3, by omega, pre_set (p.trans (h3.trans h6)) (Nat.le_refl _) _, ?_, ?_⟩
        · exact List.getElem?_set_self (List.getElem?_eq_some_iff.mp ha3).1
        · rw [flatMap_take y hx, h7, ea])
    xs.length 0 [] (S1 ++ [.lst []]) (Nat.zero_add _) ⟨List.prefix_append _ _, get_new _ _, by simp⟩
  obtain ⟨p, ha, ea⟩ := h2
  refine ⟨S', ?_, p, ?_⟩
  · unfold M.lc
    rw [hg, Rs.bind_ok]
    dsimp only
    rw [h1, Rs.bind_ok]
  · rw [ha, ea, List.take_length]
/-- items of a kind of their own -/
theorem lc_kind {γ : Type} {ds : List γ} {en : γ → W} {g : MIt} {vs : List Nat} {t : M.MG} {c : MT} {e : ME} {f : Fr} {S S1 : Store} {get : Get} (y : γ → List W) (hg : g f S = .ok (ds.length, get) S1) (hget : ∀ S', S1 <+: S' → ∀ i, get S' i = some (ds.map en)[i]?)
    (h : ∀ d ∈ ds, ∀ S', S1 <+: S' → ∃ f2 b S2, t (en d) (wipeF f vs) S' = some f2 ∧ c f2 S' = .ok b S2 ∧ S' <+: S2 ∧ (if b = true then ∃ v S3, e f2 S2 = .ok v S3 ∧ S2 <+: S3 ∧ y d = [v] else y d = [])) (hl : ds.length ≤ 1000) :
    ∃ S', M.lc g vs t c e f S = .ok (.ref S1.length) S' ∧ S1 <+: S' ∧ S'[S1.length]? = some (.lst (ds.flatMap y)) := by
  have hy : ∀ x ∈ ds, (y x).length ≤ 1 := fun x hx => by
    obtain ⟨f2, b, S2, _, _, _, h4⟩ := h x hx S1 (List.prefix_refl _)
    cases b with
    | false =>
      rw [if_neg Bool.false_ne_true] at h4
      rw [h4]
      exact Nat.zero_le _
    | true =>
      rw [if_pos rfl] at h4
      obtain ⟨v, S3, _, _, h5⟩ := h4
      rw [h5]
      exact Nat.le_refl _
  have hlen : ∀ zs : List γ, (∀ x ∈ zs, (y x).length ≤ 1) → (zs.flatMap y).length ≤ zs.length := by
    intro zs
    induction zs with
    | nil => intro _; exact Nat.le_refl _
    | cons z zs ih =>
      intro hz
      rw [List.flatMap_cons, List.length_append, List.length_cons]
      have a1 := hz z (List.mem_cons_self ..)
      have a2 := ih fun x hx => hz x (List.mem_cons_of_mem _ hx)
      omega
  obtain ⟨acc', S', h1, h2⟩ := lcL_rule (get := get) (r := S1.length) (t := t) (c := c) (e := e) (fw := wipeF f vs) ds.length (fun i acc S' => S1 <+: S' ∧ S'[S1.length]? = some (.lst acc) ∧ acc = (ds.take i).flatMap y)
    (fun acc S' ⟨p, _, _⟩ => by rw [hget S' p, List.getElem?_eq_none (by rw [List.length_map]; exact Nat.le_refl _)]) (fun i acc S' hi ⟨p, ha, ea⟩ => by
      have hx : ds[i]? = some ds[i] := List.getElem?_eq_getElem hi
      obtain ⟨f2, b, S2, h1, h2, h3, h4⟩ := h ds[i] (List.getElem_mem hi) S' p
      refine ⟨en ds[i], f2, by rw [hget S' p, List.getElem?_map, hx]; rfl, h1, b, S2, h2, ?_⟩
      cases b with
      | false =>
        rw [if_neg Bool.false_ne_true] at h4 ⊢
        refine ⟨p.trans h3, pre_get h3 ha, ?_⟩
        rw [flatMap_take y hx, h4, List.append_nil]
        exact ea
      | true =>
        rw [if_pos rfl] at h4 ⊢
        obtain ⟨v, S3, h5, h6, h7⟩ := h4
        have ha3 := pre_get (h3.trans h6) ha
        have lacc : acc.length ≤ i := by
          rw [ea]
          refine Nat.le_trans (hlen _ fun x hx => hy x (List.mem_of_mem_take hx)) ?_
          rw [List.length_take]
          omega
        have hlim : M.lim = 100000 := rfl
        refine ⟨v, S3, h5, ha3, by omega, pre_set (p.trans (h3.trans h6)) (Nat.le_refl _) _, ?_, ?_⟩
        · exact List.getElem?_set_self (List.getElem?_eq_some_iff.mp ha3).1
        · rw [flatMap_take y hx, h7, ea])
    ds.length 0 [] (S1 ++ [.lst []]) (Nat.zero_add _) ⟨List.prefix_append _ _, get_new _ _, by simp⟩
  obtain ⟨p, ha, ea⟩ := h2
  refine ⟨S', ?_, p, ?_⟩
  · unfold M.lc
    rw [hg, Rs.bind_ok]
    dsimp only
    rw [h1, Rs.bind_ok]
  · rw [ha, ea, List.take_length]
/-- over a fixed row of items -/
theorem lc_row {γ : Type} {ds : List γ} {en : γ → W} {g : MIt} {vs : List Nat} {t : M.MG} {c : MT} {e : ME} {f : Fr} {S S1 : Store} (y : γ → List W) (hg : g f S = .ok (ds.length, M.getF (ds.map en)) S1)
    (h : ∀ d ∈ ds, ∀ S', S1 <+: S' → ∃ f2 b S2, t (en d) (wipeF f vs) S' = some f2 ∧ c f2 S' = .ok b S2 ∧ S' <+: S2 ∧ (if b = true then ∃ v S3, e f2 S2 = .ok v S3 ∧ S2 <+: S3 ∧ y d = [v] else y d = [])) (hl : ds.length ≤ 1000) :
    ∃ S', M.lc g vs t c e f S = .ok (.ref S1.length) S' ∧ S1 <+: S' ∧ S'[S1.length]? = some (.lst (ds.flatMap y)) := lc_kind y hg (fun _ _ _ => rfl) h hl
/-- over a list of the store -/
theorem lc_ref {γ : Type} {ds : List γ} {en : γ → W} {g : MIt} {vs : List Nat} {t : M.MG} {c : MT} {e : ME} {f : Fr} {S S1 : Store} {r : Nat} (y : γ → List W) (hg : g f S = .ok (ds.length, M.getR r) S1) (hr : S1[r]? = some (.lst (ds.map en)))
    (h : ∀ d ∈ ds, ∀ S', S1 <+: S' → ∃ f2 b S2, t (en d) (wipeF f vs) S' = some f2 ∧ c f2 S' = .ok b S2 ∧ S' <+: S2 ∧ (if b = true then ∃ v S3, e f2 S2 = .ok v S3 ∧ S2 <+: S3 ∧ y d = [v] else y d = [])) (hl : ds.length ≤ 1000) :
    ∃ S', M.lc g vs t c e f S = .ok (.ref S1.length) S' ∧ S1 <+: S' ∧ S'[S1.length]? = some (.lst (ds.flatMap y)) :=
  lc_kind y hg (fun S' p i => by unfold M.getR; rw [pre_get p hr]) h hl
theorem flatMap_one {α β : Type} (f : α → β) : ∀ xs : List α, xs.flatMap (fun x => [f x]) = xs.map f
  | [] => rfl
  | x :: xs => by rw [List.flatMap_cons, flatMap_one f xs]; rfl
theorem flatMap_if {α β : Type} (p : α → Bool) (f : α → β) : ∀ xs : List α, xs.flatMap (fun x => if p x = true then [f x] else []) = (xs.filter p).map f
  | [] => rfl
  | x :: xs => by
    rw [List.flatMap_cons, flatMap_if p f xs, List.filter_cons]
    cases p x <;> simp
/-! ### runs put together -/
theorem r_ops1 {h : List W → Store → Rs W} {g : ME} {f : Fr} {S S1 : Store} {w : W} (e : g f S = .ok w S1) : M.ops h (M.cons g M.nil) f S = h [w] S1 := by
  unfold M.ops M.cons M.nil
  rw [e]
  rfl
theorem r_ops2 {h : List W → Store → Rs W} {g g' : ME} {f : Fr} {S S1 S2 : Store} {w w' : W} (e : g f S = .ok w S1) (e' : g' f S1 = .ok w' S2) : M.ops h (M.cons g (M.cons g' M.nil)) f S = h [w, w'] S2 := by
  unfold M.ops M.cons M.nil
  rw [e, Rs.bind_ok, e']
  rfl
theorem r_op2 {h : G2} {a b : ME} {f : Fr} {S S1 S2 : Store} {x y : W} (e : a f S = .ok x S1) (e' : b f S1 = .ok y S2) : M.op2 h a b f S = h x y S2 := by
  unfold M.op2
  rw [e, Rs.bind_ok, e']
  rfl
theorem r_asg {g : ME} {t : M.MG} {f f' : Fr} {S S1 : Store} {w : W} (e : g f S = .ok w S1) (e' : t w f S1 = some f') : M.asg g t f S = .ok (.next f') S1 := by
  unfold M.asg M.thenS
  rw [e]
  dsimp only
  rw [e']
theorem r_seq {a b : MS} {f f1 : Fr} {S S1 : Store} (e : a f S = .ok (.next f1) S1) : M.seq a b f S = b f1 S1 := by
  unfold M.seq
  rw [e]
theorem r_ret {g : ME} {f : Fr} {S S1 : Store} {w : W} (e : g f S = .ok w S1) : M.ret g f S = .ok (.ret w) S1 := by
  unfold M.ret M.thenS
  rw [e]
theorem r_drop {g : ME} {f : Fr} {S S1 : Store} {w : W} (e : g f S = .ok w S1) : M.drop g f S = .ok (.next f) S1 := by
  unfold M.drop M.thenS
  rw [e]
theorem r_ifT {c : MT} {a b : MS} {f : Fr} {S S1 : Store} (e : c f S = .ok true S1) : M.ifS c a b f S = a f S1 := by
  unfold M.ifS M.thenS
  rw [e]
  rfl
theorem r_ifF {c : MT} {a b : MS} {f : Fr} {S S1 : Store} (e : c f S = .ok false S1) : M.ifS c a b f S = b f S1 := by
  unfold M.ifS M.thenS
  rw [e]
  rfl
theorem r_tst {g : ME} {f : Fr} {S S1 : Store} {b : Bool} (e : g f S = .ok (.bl b) S1) : M.tst g f S = .ok b S1 := by
  unfold M.tst
  rw [e]
  rfl
theorem r_tru {g : ME} {f : Fr} {S S1 : Store} {b : Bool} (e : g f S = .ok (.bl b) S1) : M.tru g f S = .ok b S1 := by
  unfold M.tru
  rw [e]
  rfl
theorem r_not {c : MT} {f : Fr} {S S1 : Store} {b : Bool} (e : c f S = .ok b S1) : M.notT c f S = .ok (!b) S1 := by
  unfold M.notT
  rw [e]
  rfl
theorem r_and {c d : MT} {f : Fr} {S S1 S2 : Store} {a b : Bool} (e : c f S = .ok a S1) (e' : a = true → d f S1 = .ok b S2) (e2 : a = false → b = false ∧ S2 = S1) : M.andT c d f S = .ok (a && b) S2 := by
  unfold M.andT
  rw [e, Rs.bind_ok]
  cases a with
  | true =>
    rw [if_pos rfl, e' rfl]
    rfl
  | false =>
    obtain ⟨rfl, rfl⟩ := e2 rfl
    rfl
theorem r_for {g : MIt} {t : M.MG} {b : MS} {f : Fr} {S S1 : Store} {n : Nat} {get : Get} (e : g f S = .ok (n, get) S1) : M.forS g t b f S = M.forL get t b n 0 f S1 := by
  unfold M.forS M.thenS
  rw [e]
theorem r_fn {ar n : Nat} {b : MS} {ws : List W} {S S1 : Store} {w : W} (hl : ws.length = ar) (e : b (ws.map some ++ List.replicate (n - ar) none) S = .ok (.ret w) S1) : M.fn ar n b ws S = .ok w S1 := by
  unfold M.fn
  rw [if_pos hl, e]
  rfl
end Wo
set_option autoImplicit true
set_option maxRecDepth 100000
set_option maxHeartbeats 4000000
namespace Wo
open PySem L2
/-! W15: data of whole numbers: equality, being in, how it is shown. -/
theorem toD_i (S : Store) (n : Nat) (i : Int) : toD S (n + 1) (.int i) = some (.int i) := rfl
theorem mapM_some {α β γ : Type} {f : α → Option β} {g : γ → α} {h : γ → β} (e : ∀ c, f (g c) = some (h c)) : ∀ cs : List γ, (cs.map g).mapM f = some (cs.map h)
  | [] => rfl
  | c :: cs => by
    rw [List.map_cons, List.mapM_cons, e c, mapM_some e cs]
    rfl
theorem mapM_some' {α β γ : Type} {f : α → Option β} {g : γ → α} {h : γ → β} : ∀ {cs : List γ}, (∀ c ∈ cs, f (g c) = some (h c)) → (cs.map g).mapM f = some (cs.map h)
  | [], _ => rfl
  | c :: cs, e => by
    rw [List.map_cons, List.mapM_cons, e c (List.mem_cons_self ..), mapM_some' fun c hc => e c (List.mem_cons_of_mem _ hc)]
    rfl
theorem toD_ints (S : Store) (n : Nat) (ns : List Int) : (ns.map W.int).mapM (toD S (n + 1)) = some (ns.map PyData.int) := mapM_some (fun c => toD_i S n c) ns
theorem toD_ref {S : Store} {r : Nat} {xs : List W} {ds : List PyData} {n : Nat} (h : S[r]? = some (.lst xs)) (e : xs.mapM (toD S n) = some ds) : toD S (n + 1) (.ref r) = some (.list ds) := by
  simp only [toD, h, e, Option.map_some]
theorem toD_tup {S : Store} {xs : List W} {ds : List PyData} {n : Nat} (e : xs.mapM (toD S n) = some ds) : toD S (n + 1) (.tup xs) = some (.tuple ds) := by
  simp only [toD, e, Option.map_some]
theorem eqW_int (i j : Int) (S : Store) : M.eqW (.int i) (.int j) S = .ok (.bl (decide (i = j))) S := by
  have e : M.isEq (.int i) (.int j) S = some (i == j) := by
    show (match toD S 20 (.int i), toD S 20 (.int j) with | some d, some e => some (PyData.eqv d e) | _, _ => none) = _
    rw [toD_i, toD_i]
    simp [PyData.eqv]
  have e2 : (i == j) = decide (i = j) := by by_cases h : i = j <;> simp [h]
  unfold M.eqW
  rw [e, e2]
theorem eqvAll_ints : ∀ ns ms : List Int, PyData.eqvAll (ns.map .int) (ms.map .int) = decide (ns = ms)
  | [], [] => by simp [PyData.eqvAll]
  | [], _ :: _ => by simp [PyData.eqvAll]
  | _ :: _, [] => by simp [PyData.eqvAll]
  | n :: ns, m :: ms => by
    rw [List.map_cons, List.map_cons, PyData.eqvAll, eqvAll_ints ns ms, PyData.eqv]
    by_cases h : n = m
    · subst h
      simp
    · have h' : (n == m) = false := beq_eq_false_iff_ne.mpr h
      rw [h', Bool.false_and, decide_eq_false (by simp [h])]
theorem isEq_lists {S : Store} {r q : Nat} {ns ms : List Int} (h1 : S[r]? = some (.lst (ns.map .int))) (h2 : S[q]? = some (.lst (ms.map .int))) : M.isEq (.ref r) (.ref q) S = some (decide (ns = ms)) := by
  show (match toD S 20 (.ref r), toD S 20 (.ref q) with | some d, some e => some (PyData.eqv d e) | _, _ => none) = _
  rw [toD_ref h1 (toD_ints S 18 ns), toD_ref h2 (toD_ints S 18 ms)]
  simp only [PyData.eqv, eqvAll_ints]
theorem any_ints (i : Int) : ∀ ns : List Int, ((ns.map PyData.int).any fun z => PyData.eqv z (.int i)) = decide (i ∈ ns)
  | [] => by simp
  | n :: ns => by
    rw [List.map_cons, List.any_cons, any_ints i ns, PyData.eqv]
    by_cases h : n = i
    · subst h
      simp
    · have h' : (n == i) = false := beq_eq_false_iff_ne.mpr h
      rw [h', Bool.false_or]
      by_cases h2 : i ∈ ns
      · rw [decide_eq_true h2, decide_eq_true (List.mem_cons_of_mem _ h2)]
      · rw [decide_eq_false h2, decide_eq_false fun z => (List.mem_cons.mp z).elim (fun z => h z.symm) h2]
theorem isIn_ints {S : Store} {r : Nat} {ns : List Int} (i : Int) (h : S[r]? = some (.lst (ns.map .int))) : M.isIn (.int i) (.ref r) S = some (decide (i ∈ ns)) := by
  unfold M.isIn
  dsimp only
  rw [h]
  show (match toD S 20 (.int i), toD S 20 (.ref r) with | some d, some (.list ds) => some (ds.any fun z => PyData.eqv z d) | _, _ => none) = _
  rw [toD_i, toD_ref h (toD_ints S 18 ns)]
  dsimp only
  rw [any_ints]
theorem isIn_dict {S : Store} {r : Nat} {kvs : List (Key × W)} (i : Int) (h : S[r]? = some (.dK kvs)) : M.isIn (.int i) (.ref r) S = some (M.valW kvs (Sum.inl i)).isSome := by
  unfold M.isIn
  dsimp only
  rw [h]
  rfl
theorem inW_of {x c : W} {S : Store} {b : Bool} (h : M.isIn x c S = some b) : M.inW x c S = .ok (.bl b) S := by
  unfold M.inW
  rw [h]
theorem ninW_of {x c : W} {S : Store} {b : Bool} (h : M.isIn x c S = some b) : M.ninW x c S = .ok (.bl (!b)) S := by
  unfold M.ninW
  rw [h]
theorem eqW_of {x c : W} {S : Store} {b : Bool} (h : M.isEq x c S = some b) : M.eqW x c S = .ok (.bl b) S := by
  unfold M.eqW
  rw [h]
theorem neW_of {x c : W} {S : Store} {b : Bool} (h : M.isEq x c S = some b) : M.neW x c S = .ok (.bl (!b)) S := by
  unfold M.neW
  rw [h]
theorem boolsW_map : ∀ bs : List Bool, M.boolsW (bs.map .bl) = some bs
  | [] => rfl
  | b :: bs => by
    show (M.boolsW (bs.map .bl)).map (b :: ·) = _
    rw [boolsW_map bs]
    rfl
theorem intsW_map : ∀ ns : List Int, M.intsW (ns.map .int) = some ns
  | [] => rfl
  | b :: bs => by
    show (M.intsW (bs.map .int)).map (b :: ·) = _
    rw [intsW_map bs]
    rfl
theorem anyW_run {S : Store} {r : Nat} {bs : List Bool} (h : S[r]? = some (.lst (bs.map .bl))) : M.anyW [.ref r] S = .ok (.bl (bs.any id)) S := by
  unfold M.anyW
  dsimp only
  rw [h]
  dsimp only
  rw [boolsW_map]
theorem allW_run {S : Store} {r : Nat} {bs : List Bool} (h : S[r]? = some (.lst (bs.map .bl))) : M.allW [.ref r] S = .ok (.bl (bs.all id)) S := by
  unfold M.allW
  dsimp only
  rw [h]
  dsimp only
  rw [boolsW_map]
/-! ### how long what is shown is -/
mutual
def cost : PyData → Nat
  | .int i => i.natAbs + 2
  | .bool _ => 5
  | .none => 4
  | .str x => 10 * x.length + 2
  | .list xs => costs xs + 2
  | .tuple xs => costs xs + 3
  | .dict _ => 0
def costs : List PyData → Nat
  | [] => 0
  | x :: xs => cost x + 2 + costs xs
end
theorem textFrom_le : ∀ (ts : List Str) (k : Nat) (acc : Str), (textFrom k acc ts).length ≤ acc.length + piled ts
  | [], k, acc => by
    rw [textFrom, piled_nil]
    omega
  | t :: ts, k, acc => by
    rw [textFrom, piled_cons]
    have h := textFrom_le ts (k + 1) (acc ++ (if k > 0 then ", " else "" : String) ++ t)
    rw [strLen_append, strLen_append] at h
    have h2 : (Str.ofString (if k > 0 then ", " else "" : String)).length ≤ 2 := by
      split <;> decide
    omega
theorem piled_costs : ∀ ds : List PyData, (∀ d ∈ ds, (PyData.shown d).length ≤ cost d) → piled (PyData.shownAll ds) ≤ costs ds
  | [], _ => by
    rw [PyData.shownAll, piled_nil]
    exact Nat.zero_le _
  | d :: ds, h => by
    rw [PyData.shownAll, piled_cons, costs]
    have a := h d (List.mem_cons_self ..)
    have b := piled_costs ds fun x hx => h x (List.mem_cons_of_mem _ hx)
    omega
theorem list_cost {ds : List PyData} (h : ∀ d ∈ ds, (PyData.shown d).length ≤ cost d) : (PyData.shown (.list ds)).length ≤ cost (.list ds) := by
  rw [PyData.shown, cost, listText, strLen_append]
  have a := textFrom_le (PyData.shownAll ds) 0 "["
  have b := piled_costs ds h
  have c : (Str.ofString "[").length = 1 := by decide
  have d : (Str.ofString "]").length = 1 := by decide
  omega
theorem join_le : ∀ ts : List Str, (Str.join ", " ts).length ≤ piled ts := fun ts => by
  by_cases h : ts = []
  · subst h
    decide
  · have := join_length_add ts h
    omega
theorem tuple_cost {ds : List PyData} (h : ∀ d ∈ ds, (PyData.shown d).length ≤ cost d) : (PyData.shown (.tuple ds)).length ≤ cost (.tuple ds) := by
  rw [PyData.shown, cost, tupleText, strLen_append, strLen_append]
  have a := join_le (PyData.shownAll ds)
  have b := piled_costs ds h
  have c : (Str.ofString "(").length = 1 := by decide
  have d : (Str.ofString (if (PyData.shownAll ds).length == 1 then ",)" else ")" : String)).length ≤ 2 := by
    split <;> decide
  omega
theorem int_cost (i : Int) : (PyData.shown (.int i)).length ≤ cost (.int i) := by
  rw [PyData.shown, cost]
  have h := PyProof.Rows.len_str_of_int i
  have h2 : (Str.ofString (toString i)).length ≤ i.natAbs + 2 := by omega
  exact h2
theorem bool_cost (b : Bool) : (PyData.shown (.bool b)).length ≤ cost (.bool b) := by
  cases b <;> decide
theorem none_cost : (PyData.shown .none).length ≤ cost .none := by decide
end Wo
set_option autoImplicit true
set_option maxRecDepth 100000
set_option maxHeartbeats 4000000
namespace Wo
open PySem L2
/-! W16: runs reckoned by rewriting; every rule wants its term in full. -/
theorem via {α : Type} {a b : α} (h : a = b) : a = b := h
theorem x_bind {α β : Type} (a : α) (S : Store) (k : α → Store → Rs β) : (Rs.ok a S).bind k = k a S := via rfl
def gv (o : Option (Option W)) (S : Store) : Rs W := match o with
  | some (some w) => .ok w S
  | _ => .no
theorem x_var (i : Nat) (f : Fr) (S : Store) : M.var i f S = gv f[i]? S := by
  exact via rfl
theorem gv_some (w : W) (S : Store) : gv (some (some w)) S = .ok w S := via rfl
theorem x_cst (w : W) (f : Fr) (S : Store) : M.cst w f S = .ok w S := via rfl
def o2 (h : G2) (b : ME) (f : Fr) (r : Rs W) : Rs W := r.bind fun x S1 => (b f S1).bind fun y S2 => h x y S2
def o2b (h : G2) (x : W) (r : Rs W) : Rs W := r.bind fun y S2 => h x y S2
theorem x_op2 (h : G2) (a b : ME) (f : Fr) (S : Store) : M.op2 h a b f S = o2 h b f (a f S) := via rfl
theorem o2_ok (h : G2) (b : ME) (f : Fr) (x : W) (S : Store) : o2 h b f (.ok x S) = o2b h x (b f S) := via rfl
theorem o2b_ok (h : G2) (x y : W) (S : Store) : o2b h x (.ok y S) = h x y S := via rfl
theorem x_op1 (h : W → Store → Rs W) (a : ME) (f : Fr) (S : Store) : M.op1 h a f S = (a f S).bind h := via rfl
theorem x_ops (h : List W → Store → Rs W) (a : MA) (f : Fr) (S : Store) : M.ops h a f S = (a f S).bind h := via rfl
theorem x_nil (f : Fr) (S : Store) : M.nil f S = .ok [] S := via rfl
def c1 (r : MA) (f : Fr) (z : Rs W) : Rs (List W) := z.bind fun x S1 => (r f S1).bind fun xs S2 => .ok (x :: xs) S2
def c2 (x : W) (z : Rs (List W)) : Rs (List W) := z.bind fun xs S2 => .ok (x :: xs) S2
theorem x_cons (a : ME) (r : MA) (f : Fr) (S : Store) : M.cons a r f S = c1 r f (a f S) := via rfl
theorem c1_ok (r : MA) (f : Fr) (x : W) (S : Store) : c1 r f (.ok x S) = c2 x (r f S) := via rfl
theorem c2_ok (x : W) (xs : List W) (S : Store) : c2 x (.ok xs S) = .ok (x :: xs) S := via rfl
theorem x_tst (g : ME) (f : Fr) (S : Store) : M.tst g f S = (g f S).bind M.ofBl := via rfl
theorem x_tru (g : ME) (f : Fr) (S : Store) : M.tru g f S = (g f S).bind M.ofTru := via rfl
theorem x_ofBl (b : Bool) (S : Store) : M.ofBl (.bl b) S = .ok b S := via rfl
theorem x_truB (b : Bool) (S : Store) : M.ofTru (.bl b) S = .ok b S := via rfl
theorem x_truI (i : Int) (S : Store) : M.ofTru (.int i) S = .ok (i != 0) S := via rfl
theorem x_truN (S : Store) : M.ofTru .non S = .ok false S := via rfl
theorem x_truT (xs : List W) (S : Store) : M.ofTru (.tup xs) S = .ok (!xs.isEmpty) S := via rfl
theorem x_truL {r : Nat} {xs : List W} {S : Store} (h : S[r]? = some (.lst xs)) : M.ofTru (.ref r) S = .ok (!xs.isEmpty) S := by
  unfold M.ofTru M.truW
  dsimp only
  rw [h]
theorem x_truD {r : Nat} {xs : List (Key × W)} {S : Store} (h : S[r]? = some (.dK xs)) : M.ofTru (.ref r) S = .ok (!xs.isEmpty) S := by
  unfold M.ofTru M.truW
  dsimp only
  rw [h]
def kA (b : MT) (f : Fr) (r : Rs Bool) : Rs Bool := r.bind fun c S1 => if c = true then b f S1 else .ok false S1
theorem x_andT (a b : MT) (f : Fr) (S : Store) : M.andT a b f S = kA b f (a f S) := via rfl
theorem kA_t (b : MT) (f : Fr) (S : Store) : kA b f (.ok true S) = b f S := via rfl
theorem kA_f (b : MT) (f : Fr) (S : Store) : kA b f (.ok false S) = .ok false S := via rfl
def kO (b : MT) (f : Fr) (r : Rs Bool) : Rs Bool := r.bind fun c S1 => if c = true then .ok true S1 else b f S1
theorem x_orT (a b : MT) (f : Fr) (S : Store) : M.orT a b f S = kO b f (a f S) := via rfl
theorem kO_t (b : MT) (f : Fr) (S : Store) : kO b f (.ok true S) = .ok true S := via rfl
theorem kO_f (b : MT) (f : Fr) (S : Store) : kO b f (.ok false S) = b f S := via rfl
def kN (r : Rs Bool) : Rs Bool := r.bind fun c S1 => .ok (!c) S1
theorem x_notT (a : MT) (f : Fr) (S : Store) : M.notT a f S = kN (a f S) := via rfl
theorem kN_ok (b : Bool) (S : Store) : kN (.ok b S) = .ok (!b) S := via rfl
def vA (b : ME) (f : Fr) (r : Rs W) : Rs W := r.bind fun x S1 => (M.ofTru x S1).bind fun c S2 => if c = true then b f S2 else .ok x S2
def vA2 (b : ME) (f : Fr) (x : W) (r : Rs Bool) : Rs W := r.bind fun c S2 => if c = true then b f S2 else .ok x S2
theorem x_andV (a b : ME) (f : Fr) (S : Store) : M.andV a b f S = vA b f (a f S) := via rfl
theorem vA_ok (b : ME) (f : Fr) (x : W) (S : Store) : vA b f (.ok x S) = vA2 b f x (M.ofTru x S) := via rfl
theorem vA_t (b : ME) (f : Fr) (x : W) (S : Store) : vA2 b f x (.ok true S) = b f S := via rfl
theorem vA_f (b : ME) (f : Fr) (x : W) (S : Store) : vA2 b f x (.ok false S) = .ok x S := via rfl
def vO (b : ME) (f : Fr) (r : Rs W) : Rs W := r.bind fun x S1 => (M.ofTru x S1).bind fun c S2 => if c = true then .ok x S2 else b f S2
def vO2 (b : ME) (f : Fr) (x : W) (r : Rs Bool) : Rs W := r.bind fun c S2 => if c = true then .ok x S2 else b f S2
theorem x_orV (a b : ME) (f : Fr) (S : Store) : M.orV a b f S = vO b f (a f S) := via rfl
theorem vO_ok (b : ME) (f : Fr) (x : W) (S : Store) : vO b f (.ok x S) = vO2 b f x (M.ofTru x S) := via rfl
theorem vO_t (b : ME) (f : Fr) (x : W) (S : Store) : vO2 b f x (.ok true S) = .ok x S := via rfl
theorem vO_f (b : ME) (f : Fr) (x : W) (S : Store) : vO2 b f x (.ok false S) = b f S := via rfl
def vN (r : Rs Bool) : Rs W := r.bind fun c S2 => .ok (.bl (!c)) S2
theorem x_notV (a : ME) (f : Fr) (S : Store) : M.notV a f S = vN ((a f S).bind M.ofTru) := by
  unfold M.notV vN
  cases a f S <;> rfl
theorem vN_ok (b : Bool) (S : Store) : vN (.ok b S) = .ok (.bl (!b)) S := via rfl
def vI (a b : ME) (f : Fr) (r : Rs Bool) : Rs W := r.bind fun k S1 => if k = true then a f S1 else b f S1
theorem x_ifE (c : MT) (a b : ME) (f : Fr) (S : Store) : M.ifE c a b f S = vI a b f (c f S) := via rfl
theorem vI_t (a b : ME) (f : Fr) (S : Store) : vI a b f (.ok true S) = a f S := via rfl
theorem vI_f (a b : ME) (f : Fr) (S : Store) : vI a b f (.ok false S) = b f S := via rfl
theorem x_yes (f : Fr) (S : Store) : M.yes f S = .ok true S := via rfl
/-! operators -/
theorem x_add (i j : Int) (S : Store) : M.addW (.int i) (.int j) S = .ok (.int (i + j)) S := via rfl
theorem x_addT {xs ys : List W} (S : Store) (h : xs.length + ys.length ≤ 1000) : M.addW (.tup xs) (.tup ys) S = .ok (.tup (xs ++ ys)) S := by
  have hlim : M.lim = 100000 := via rfl
  unfold M.addW
  dsimp only
  rw [if_pos (by omega)]
theorem x_addL {S : Store} {r q : Nat} {xs ys : List W} (h1 : S[r]? = some (.lst xs)) (h2 : S[q]? = some (.lst ys)) (h : xs.length + ys.length ≤ 1000) : M.addW (.ref r) (.ref q) S = .ok (.ref S.length) (S ++ [.lst (xs ++ ys)]) := by
  have hlim : M.lim = 100000 := via rfl
  unfold M.addW
  dsimp only
  rw [h1, h2]
  dsimp only
  rw [if_pos (by omega)]
theorem x_sub (i j : Int) (S : Store) : M.subW (.int i) (.int j) S = .ok (.int (i - j)) S := via rfl
theorem x_neg (i : Int) (S : Store) : M.negW (.int i) S = .ok (.int (-i)) S := via rfl
theorem x_mul {i j : Int} (S : Store) (h : (-18446744073709551616 < i ∧ i < 18446744073709551616) ∨ (-18446744073709551616 < j ∧ j < 18446744073709551616)) : M.mulW (.int i) (.int j) S = .ok (.int (i * j)) S := by
  unfold M.mulW
  dsimp only
  rw [if_pos h]
theorem rep_one {α : Type} (x : α) : ∀ k : Nat, (List.replicate k [x]).flatten = List.replicate k x
  | 0 => rfl
  | k + 1 => by
    rw [List.replicate_succ, List.flatten_cons, rep_one x k]
    rfl
theorem x_mulT {x : W} {k : Int} (S : Store) (h0 : 0 ≤ k) (h : k ≤ 1000) : M.mulW (.tup [x]) (.int k) S = .ok (.tup (List.replicate k.toNat x)) S := by
  unfold M.mulW
  dsimp only
  rw [if_pos ⟨rfl, h0, h⟩, rep_one]
theorem x_fdiv {i j : Int} (S : Store) (h0 : 0 < j) (h1 : j < 1073741824) : M.fdivW (.int i) (.int j) S = .ok (.int (i / j)) S := by
  unfold M.fdivW
  dsimp only
  rw [if_pos ⟨h0, h1⟩]
theorem x_mod {i j : Int} (S : Store) (h0 : 0 < j) : M.modW (.int i) (.int j) S = .ok (.int (i % j)) S := by
  unfold M.modW
  dsimp only
  rw [if_pos h0]
theorem x_pow {i j : Int} (S : Store) (h0 : 0 ≤ j) (h1 : j ≤ 1000) (h2 : i.natAbs < 18446744073709551616) : M.powW (.int i) (.int j) S = .ok (.int (i ^ j.toNat)) S := by
  unfold M.powW
  dsimp only
  rw [if_pos ⟨h0, h1, h2⟩]
theorem x_lt (i j : Int) (S : Store) : M.ltW (.int i) (.int j) S = .ok (.bl (decide (i < j))) S := via rfl
theorem x_le (i j : Int) (S : Store) : M.leW (.int i) (.int j) S = .ok (.bl (decide (i ≤ j))) S := via rfl
theorem x_gt (i j : Int) (S : Store) : M.gtW (.int i) (.int j) S = .ok (.bl (decide (j < i))) S := via rfl
theorem x_ge (i j : Int) (S : Store) : M.geW (.int i) (.int j) S = .ok (.bl (decide (j ≤ i))) S := via rfl
theorem x_ne (i j : Int) (S : Store) : M.neW (.int i) (.int j) S = .ok (.bl (!decide (i = j))) S := by
  have h := eqW_int i j S
  unfold M.eqW at h
  unfold M.neW
  cases e : M.isEq (.int i) (.int j) S with
  | none => rw [e] at h; exact nomatch h
  | some k =>
    rw [e] at h
    injection h with h
    injection h with h
    rw [h]
theorem x_max (i j : Int) (S : Store) : M.maxW [.int i, .int j] S = .ok (.int (if j > i then j else i)) S := via rfl
theorem x_min (i j : Int) (S : Store) : M.minW [.int i, .int j] S = .ok (.int (if j < i then j else i)) S := via rfl
theorem x_intI (i : Int) (S : Store) : M.intW [.int i] S = .ok (.int i) S := via rfl
theorem x_intB (b : Bool) (S : Store) : M.intW [.bl b] S = .ok (.int (if b then 1 else 0)) S := via rfl
theorem x_lenT (xs : List W) (S : Store) : M.lenW [.tup xs] S = .ok (.int xs.length) S := via rfl
theorem x_lenF (xs : List W) (S : Store) : M.lenW [.fl xs] S = .ok (.int xs.length) S := via rfl
theorem x_lenL {r : Nat} {xs : List W} {S : Store} (h : S[r]? = some (.lst xs)) : M.lenW [.ref r] S = .ok (.int xs.length) S := by
  unfold M.lenW
  dsimp only
  rw [h]
theorem x_tupT (xs : List W) (S : Store) : M.tupleW [.tup xs] S = .ok (.tup xs) S := via rfl
theorem x_tupL {r : Nat} {xs : List W} {S : Store} (h : S[r]? = some (.lst xs)) : M.tupleW [.ref r] S = .ok (.tup xs) S := by
  unfold M.tupleW
  dsimp only
  rw [h]
theorem x_mkT {ws : List W} (S : Store) (h : ws.length ≤ 1000) : M.mkTup ws S = .ok (.tup ws) S := by
  have hlim : M.lim = 100000 := via rfl
  unfold M.mkTup
  rw [if_pos (by omega)]
theorem x_mkL {ws : List W} (S : Store) (h : ws.length ≤ 1000) : M.mkLst ws S = .ok (.ref S.length) (S ++ [.lst ws]) := by
  have hlim : M.lim = 100000 := via rfl
  unfold M.mkLst
  rw [if_pos (by omega)]
/-! items -/
def gx (o : Option W) (S : Store) : Rs W := match o with
  | some w => .ok w S
  | none => .no
theorem gx_some (w : W) (S : Store) : gx (some w) S = .ok w S := via rfl
theorem x_ixT (xs : List W) (i : Int) (S : Store) : M.ixW (.tup xs) (.int i) S = gx (atI xs i) S := by
  unfold M.ixW gx
  rfl
theorem x_ixF (xs : List W) (i : Int) (S : Store) : M.ixW (.fl xs) (.int i) S = gx (atI xs i) S := by
  unfold M.ixW gx
  rfl
theorem x_ixL {r : Nat} {xs : List W} {S : Store} (h : S[r]? = some (.lst xs)) (i : Int) : M.ixW (.ref r) (.int i) S = gx (atI xs i) S := by
  unfold M.ixW gx M.itemsOf
  dsimp only
  rw [h]
  all_goals rfl
theorem x_at {xs : List W} {i : Int} {w : W} (k : Nat) (e : i = k) (h : xs[k]? = some w) : atI xs i = some w := by
  have hk := (List.getElem?_eq_some_iff.mp h).1
  subst e
  unfold atI ixN
  rw [if_pos (by omega), if_pos (by omega)]
  exact h
theorem x_at0 (x : W) (xs : List W) : atI (x :: xs) 0 = some x := x_at 0 rfl rfl
theorem x_at1 (x y : W) (xs : List W) : atI (x :: y :: xs) 1 = some y := x_at 1 rfl rfl
theorem x_at2 (x y z : W) (xs : List W) : atI (x :: y :: z :: xs) 2 = some z := x_at 2 rfl rfl
theorem x_at3 (x y z v : W) (xs : List W) : atI (x :: y :: z :: v :: xs) 3 = some v := x_at 3 rfl rfl
theorem x_at4 (x y z v u : W) (xs : List W) : atI (x :: y :: z :: v :: u :: xs) 4 = some u := x_at 4 rfl rfl
theorem x_slT (xs : List W) (lo hi : Option Int) (S : Store) : M.slW (.tup xs) lo hi S = .ok (.tup (M.cutW xs lo hi)) S := via rfl
def l1 (lo hi : M.MO) (f : Fr) (r : Rs W) : Rs W := r.bind fun x S1 => (lo f S1).bind fun l S2 => (hi f S2).bind fun u S3 => M.slW x l u S3
def l2 (hi : M.MO) (f : Fr) (x : W) (r : Rs (Option Int)) : Rs W := r.bind fun l S2 => (hi f S2).bind fun u S3 => M.slW x l u S3
def l3 (x : W) (l : Option Int) (r : Rs (Option Int)) : Rs W := r.bind fun u S3 => M.slW x l u S3
theorem x_sl (a : ME) (lo hi : M.MO) (f : Fr) (S : Store) : M.sl a lo hi f S = l1 lo hi f (a f S) := via rfl
theorem l1_ok (lo hi : M.MO) (f : Fr) (x : W) (S : Store) : l1 lo hi f (.ok x S) = l2 hi f x (lo f S) := via rfl
theorem l2_ok (hi : M.MO) (f : Fr) (x : W) (l : Option Int) (S : Store) : l2 hi f x (.ok l S) = l3 x l (hi f S) := via rfl
theorem l3_ok (x : W) (l u : Option Int) (S : Store) : l3 x l (.ok u S) = M.slW x l u S := via rfl
def gp (w : W) (S : Store) : Rs (Option Int) := match w with
  | .int i => .ok (some i) S
  | _ => .no
theorem x_part (g : ME) (f : Fr) (S : Store) : M.part g f S = (g f S).bind gp := via rfl
theorem gp_int (i : Int) (S : Store) : gp (.int i) S = .ok (some i) S := via rfl
theorem x_noPart (f : Fr) (S : Store) : M.noPart f S = .ok none S := via rfl
/-! iterations -/
theorem x_iter (g : ME) (f : Fr) (S : Store) : M.iter g f S = (g f S).bind M.iterW := via rfl
theorem x_itT (xs : List W) (S : Store) : M.iterW (.tup xs) S = .ok (xs.length, M.getF xs) S := via rfl
theorem x_itL {r : Nat} {xs : List W} {S : Store} (h : S[r]? = some (.lst xs)) : M.iterW (.ref r) S = .ok (xs.length, M.getR r) S := by
  unfold M.iterW
  dsimp only
  rw [h]
theorem x_rng1 (g : MA) (f : Fr) (S : Store) : M.rng1 g f S = (g f S).bind M.rng1W := via rfl
theorem x_rng2 (g : MA) (f : Fr) (S : Store) : M.rng2 g f S = (g f S).bind M.rng2W := via rfl
theorem x_rng1W {j : Int} (S : Store) (h : -1000000 ≤ j) (h' : j < 1000000) : M.rng1W [.int j] S = .ok (j.toNat, M.getN 0 j.toNat) S := by
  unfold M.rng1W
  dsimp only
  rw [if_pos ⟨h, h'⟩]
/-! statements -/
def sq (r : RsS) (b : MS) : RsS := match r with
  | .ok (.next f1) S1 => b f1 S1
  | r => r
theorem x_seq (a b : MS) (f : Fr) (S : Store) : M.seq a b f S = sq (a f S) b := by
  unfold M.seq sq
  rfl
theorem sq_next (b : MS) (f : Fr) (S : Store) : sq (.ok (.next f) S) b = b f S := via rfl
theorem sq_ret (b : MS) (w : W) (S : Store) : sq (.ok (.ret w) S) b = .ok (.ret w) S := via rfl
theorem sq_cont (b : MS) (f : Fr) (S : Store) : sq (.ok (.cont f) S) b = .ok (.cont f) S := via rfl
theorem sq_brk (b : MS) (f : Fr) (S : Store) : sq (.ok (.brk f) S) b = .ok (.brk f) S := via rfl
def sn (o : Option Fr) (S : Store) : RsS := match o with
  | some f' => .ok (.next f') S
  | none => .no
theorem sn_some (f : Fr) (S : Store) : sn (some f) S = .ok (.next f) S := via rfl
def sA (t : M.MG) (f : Fr) (r : Rs W) : RsS := match r with
  | .ok w S1 => sn (t w f S1) S1
  | .ex e S1 => .ex e f S1
  | .no => .no
theorem x_asg (g : ME) (t : M.MG) (f : Fr) (S : Store) : M.asg g t f S = sA t f (g f S) := by
  unfold M.asg M.thenS sA sn
  cases g f S <;> rfl
theorem sA_ok (t : M.MG) (f : Fr) (w : W) (S : Store) : sA t f (.ok w S) = sn (t w f S) S := via rfl
def sR (f : Fr) (r : Rs W) : RsS := match r with
  | .ok w S1 => .ok (.ret w) S1
  | .ex e S1 => .ex e f S1
  | .no => .no
theorem x_ret (g : ME) (f : Fr) (S : Store) : M.ret g f S = sR f (g f S) := by
  unfold M.ret M.thenS sR
  cases g f S <;> rfl
theorem sR_ok (f : Fr) (w : W) (S : Store) : sR f (.ok w S) = .ok (.ret w) S := via rfl
theorem x_retN (f : Fr) (S : Store) : M.retN f S = .ok (.ret .non) S := via rfl
def sD (f : Fr) (r : Rs W) : RsS := match r with
  | .ok w S1 => .ok (.next f) S1
  | .ex e S1 => .ex e f S1
  | .no => .no
theorem x_drop (g : ME) (f : Fr) (S : Store) : M.drop g f S = sD f (g f S) := by
  unfold M.drop M.thenS sD
  cases g f S <;> rfl
theorem sD_ok (f : Fr) (w : W) (S : Store) : sD f (.ok w S) = .ok (.next f) S := via rfl
def sI (a b : MS) (f : Fr) (r : Rs Bool) : RsS := match r with
  | .ok k S1 => if k = true then a f S1 else b f S1
  | .ex e S1 => .ex e f S1
  | .no => .no
theorem x_ifS (c : MT) (a b : MS) (f : Fr) (S : Store) : M.ifS c a b f S = sI a b f (c f S) := by
  unfold M.ifS M.thenS sI
  cases c f S <;> rfl
theorem sI_t (a b : MS) (f : Fr) (S : Store) : sI a b f (.ok true S) = a f S := via rfl
theorem sI_f (a b : MS) (f : Fr) (S : Store) : sI a b f (.ok false S) = b f S := via rfl
theorem x_skip (f : Fr) (S : Store) : M.skip f S = .ok (.next f) S := via rfl
theorem x_brk (f : Fr) (S : Store) : M.brk f S = .ok (.brk f) S := via rfl
theorem x_cont (f : Fr) (S : Store) : M.cont f S = .ok (.cont f) S := via rfl
theorem x_tgN (i : Nat) (w : W) (f : Fr) (S : Store) : M.tgN i w f S = some (f.set i (some w)) := via rfl
theorem x_tgT {n : Nat} {ws : List W} (t : M.MGs) (f : Fr) (S : Store) (h : ws.length = n) : M.tgT n t (.tup ws) f S = t ws f S := by
  unfold M.tgT
  dsimp only
  rw [if_pos h]
theorem x_tgC (t : M.MG) (u : M.MGs) (w : W) (r : List W) (f : Fr) (S : Store) : M.tgCons t u (w :: r) f S = (t w f S).bind fun f1 => u r f1 S := via rfl
theorem x_tgO (f : Fr) (S : Store) : M.tgNil [] f S = some f := via rfl
def so (o : Option Store) (f : Fr) : RsS := match o with
  | some S => .ok (.next f) S
  | none => .no
theorem so_some (S : Store) (f : Fr) : so (some S) f = .ok (.next f) S := via rfl
def s1 (o i : ME) (f : Fr) (r : Rs W) : RsS := match r with
  | .no => .no
  | .ex e S1 => .ex e f S1
  | .ok x S1 => match o f S1 with
    | .no => .no
    | .ex e S2 => .ex e f S2
    | .ok y S2 => match i f S2 with
      | .no => .no
      | .ex e S3 => .ex e f S3
      | .ok z S3 => so (M.setW y z x S3) f
def s2 (i : ME) (f : Fr) (x : W) (r : Rs W) : RsS := match r with
    | .no => .no
    | .ex e S2 => .ex e f S2
    | .ok y S2 => match i f S2 with
      | .no => .no
      | .ex e S3 => .ex e f S3
      | .ok z S3 => so (M.setW y z x S3) f
def s3 (f : Fr) (x y : W) (r : Rs W) : RsS := match r with
      | .no => .no
      | .ex e S3 => .ex e f S3
      | .ok z S3 => so (M.setW y z x S3) f
theorem x_set (v o i : ME) (f : Fr) (S : Store) : M.setSub v o i f S = s1 o i f (v f S) := by
  unfold M.setSub s1 so
  rfl
theorem s1_ok (o i : ME) (f : Fr) (x : W) (S : Store) : s1 o i f (.ok x S) = s2 i f x (o f S) := via rfl
theorem s2_ok (i : ME) (f : Fr) (x y : W) (S : Store) : s2 i f x (.ok y S) = s3 f x y (i f S) := via rfl
theorem s3_ok (f : Fr) (x y z : W) (S : Store) : s3 f x y (.ok z S) = so (M.setW y z x S) f := via rfl
theorem x_setL {r : Nat} {xs : List W} {S : Store} (h : S[r]? = some (.lst xs)) (k : Nat) (v : W) (hk : k < xs.length) {i : Int} (e : i = k) : M.setW (.ref r) (.int i) v S = some (S.set r (.lst (xs.set k v))) := by
  subst e
  unfold M.setW
  dsimp only
  rw [h]
  dsimp only
  have e : ixN xs.length (k : Int) = some k := by
    unfold ixN
    rw [if_pos (by omega), if_pos (by omega)]
    rfl
  rw [e]
theorem x_setD {r : Nat} {kvs : List (Key × W)} {S : Store} (h : S[r]? = some (.dK kvs)) (i : Int) (v : W) (hl : kvs.length ≤ 1000) : M.setW (.ref r) (.int i) v S = some (S.set r (.dK (M.putW kvs (Sum.inl i) v))) := by
  have hlim : M.lim = 100000 := via rfl
  unfold M.setW
  dsimp only
  rw [h]
  dsimp only [M.keyOf]
  rw [if_pos (by omega)]
theorem x_app {r : Nat} {xs : List W} {S : Store} (g : ME) (a : ME) (f : Fr) {S1 : Store} {y : W} (h0 : g f S1 = .ok (.ref r) S1) (h1 : a f S1 = .ok y S) (hi : M.isLst (.ref r) S1 = true) (h : S[r]? = some (.lst xs)) (hl : xs.length ≤ 1000) : M.mth M.appM g (M.cons a M.nil) f S1 = .ok .non (S.set r (.lst (xs ++ [y]))) := by
  have hlim : M.lim = 100000 := via rfl
  unfold M.mth
  rw [h0, Rs.bind_ok, if_pos hi]
  unfold M.cons M.nil
  rw [h1]
  show M.appM (.ref r) [y] S = _
  unfold M.appM
  dsimp only
  rw [h]
  dsimp only
  rw [if_pos (by omega)]
theorem isLst_of {r : Nat} {xs : List W} {S : Store} (h : S[r]? = some (.lst xs)) : M.isLst (.ref r) S = true := by
  unfold M.isLst
  dsimp only
  rw [h]
end Wo
set_option autoImplicit true
set_option maxRecDepth 100000
set_option maxHeartbeats 4000000
namespace Wo
open PySem L2
/-! W17: things that repr shows in few signs. -/
structure OkD (B : Nat) (d : PyData) : Prop where
  sh : d.showable = true
  le : (PyData.shown d).length ≤ cost d
  co : cost d ≤ B
theorem OkD.mono {B B' : Nat} {d : PyData} (h : OkD B d) (e : B ≤ B') : OkD B' d := ⟨h.sh, h.le, Nat.le_trans h.co e⟩
theorem okInt {i : Int} {N : Nat} (h : i.natAbs ≤ N) (hN : N < 1900) : OkD (N + 2) (.int i) := by
  refine ⟨?_, int_cost i, ?_⟩
  · rw [PyData.showable]
    exact decide_eq_true (Nat.lt_of_le_of_lt (Nat.log2_le_self _) (by omega))
  · rw [cost]
    omega
theorem showAll : ∀ ds : List PyData, (∀ d ∈ ds, d.showable = true) → PyData.showableAll ds = true
  | [], _ => by rw [PyData.showableAll]
  | d :: ds, h => by
    rw [PyData.showableAll, h d (List.mem_cons_self ..), showAll ds fun x hx => h x (List.mem_cons_of_mem _ hx)]
    rfl
theorem costs_le {B : Nat} : ∀ ds : List PyData, (∀ d ∈ ds, cost d ≤ B) → costs ds ≤ ds.length * (B + 2)
  | [], _ => by
    rw [costs]
    exact Nat.zero_le _
  | d :: ds, h => by
    rw [costs, List.length_cons, Nat.succ_mul]
    have a := h d (List.mem_cons_self ..)
    have b := costs_le ds fun x hx => h x (List.mem_cons_of_mem _ hx)
    omega
theorem okTup {B n : Nat} {ds : List PyData} (h : ∀ d ∈ ds, OkD B d) (hn : ds.length ≤ n) : OkD (n * (B + 2) + 3) (.tuple ds) := by
  refine ⟨?_, tuple_cost fun d hd => (h d hd).le, ?_⟩
  · rw [PyData.showable]
    exact showAll ds fun d hd => (h d hd).sh
  · rw [cost]
    have a := costs_le ds fun d hd => (h d hd).co
    have b := Nat.mul_le_mul_right (B + 2) hn
    omega
theorem okList {B n : Nat} {ds : List PyData} (h : ∀ d ∈ ds, OkD B d) (hn : ds.length ≤ n) : OkD (n * (B + 2) + 2) (.list ds) := by
  refine ⟨?_, list_cost fun d hd => (h d hd).le, ?_⟩
  · rw [PyData.showable]
    exact showAll ds fun d hd => (h d hd).sh
  · rw [cost]
    have a := costs_le ds fun d hd => (h d hd).co
    have b := Nat.mul_le_mul_right (B + 2) hn
    omega
theorem repr_run {w : W} {S : Store} {d : PyData} {B : Nat} (h : toD S dd w = some d) (o : OkD B d) (hB : B ≤ 100000) : M.reprW [w] S = .ok (.str d.shown) S := by
  have hlim : M.lim = 100000 := rfl
  unfold M.reprW
  dsimp only
  rw [h]
  dsimp only
  rw [if_pos ⟨o.sh, by have := o.le; have := o.co; omega⟩]
theorem isi_list {S : Store} {q : Nat} {xs : List W} (h : S[q]? = some (.lst xs)) : M.isiK [.ref q, .ty "list"] S = .ok (.bl true) S := by
  unfold M.isiK
  dsimp only
  rw [if_pos (by decide)]
  unfold M.tyName
  dsimp only
  rw [h]
  rfl
theorem x_eqS (x y : Str) (S : Store) : M.eqW (.str x) (.str y) S = .ok (.bl (decide (x = y))) S := by exact via rfl
theorem x_neS (x y : Str) (S : Store) : M.neW (.str x) (.str y) S = .ok (.bl (!decide (x = y))) S := by exact via rfl
end Wo
set_option autoImplicit true
set_option maxRecDepth 100000
set_option maxHeartbeats 4000000
namespace Wo
open PySem L2
/-! W18: what is never come to; the module's own values. -/
namespace M
def bad : MS := fun _ _ => .no
def badE : ME := fun _ _ => .no
end M
section
variable {X : Cx} {E : EX}
theorem s_bad {st : Stmt} : PS X st (tS (kxj X ϑ) E M.bad) := ⟨fun _ _ _ _ _ _ h => by
  obtain ⟨_, _, _, _, _, h⟩ := h
  exact h.elim⟩
theorem e_bad {e : Expr} : PE X e (tE (kxj X ϑ) E M.badE) := ⟨fun _ _ _ _ _ _ h => by
  obtain ⟨_, _, _, _, _, h⟩ := h
  exact h.elim⟩
theorem e_glob {x : Str} {p : Pos} {v : V} {w : W} (hg : Gl X x) (h : ∃ u, X.mg x = some u ∧ RelV v u) (r : ∀ m H, RV X.K m H w v) (hd : (x == ("__debug__" : Str)) = false := by decide) : PE X (.Name x p) (tE (kxj X ϑ) E (M.cst w)) := by
  obtain ⟨u, hm, rr⟩ := h
  exact e_cst (pe_glob hg hm rr hd) r
end
theorem x_chain (g g' : G2) (a b c : ME) (f : Fr) (S : Store) : M.chain g g' a b c f S = (a f S).bind fun x S1 => (b f S1).bind fun y S2 => (g x y S2).bind fun z S3 => (M.ofBl z S3).bind fun k S4 => if k = true then (c f S4).bind fun w S5 => g' y w S5 else .ok (.bl false) S4 := rfl
end Wo
set_option autoImplicit true
set_option maxRecDepth 100000
set_option maxHeartbeats 4000000
namespace Wo
open PySem L2
/-! W19: slices from the front; a thing is equal to itself. -/
theorem cut_nn (xs : List W) (a b : Nat) : M.cutW xs (some (a : Int)) (some (b : Int)) = (xs.drop a).take (b - a) := by
  unfold M.cutW
  rw [HT.sIx_nat, HT.sIx_nat]
  by_cases h : a ≤ xs.length
  · rw [Nat.min_eq_left h, List.take_eq_take_iff, List.length_drop]
    omega
  · rw [List.drop_eq_nil_of_le (by omega), List.drop_eq_nil_of_le (by omega)]
    simp
theorem cut_0n (xs : List W) (b : Nat) : M.cutW xs none (some (b : Int)) = xs.take b := by
  unfold M.cutW
  rw [HT.sIx_nat]
  have e : HT.sIx xs.length 0 none = 0 := rfl
  rw [e, List.drop_zero, List.take_eq_take_iff]
  omega
theorem cut_n0 (xs : List W) (a : Nat) : M.cutW xs (some (a : Int)) none = xs.drop a := by
  unfold M.cutW
  rw [HT.sIx_nat]
  have e : HT.sIx xs.length xs.length none = xs.length := rfl
  rw [e]
  by_cases h : a ≤ xs.length
  · rw [Nat.min_eq_left h, List.take_of_length_le]
    rw [List.length_drop]
    exact Nat.le_refl _
  · rw [List.drop_eq_nil_of_le (by omega), List.drop_eq_nil_of_le (by omega)]
    simp
theorem lay_all {f : W → Option PyData} (hf : ∀ w d, f w = some d → d.canLay0 = true) : ∀ (xs : List W) (ds : List PyData), xs.mapM f = some ds → PyData.canLayAll0 ds = true
  | [], ds, e => by
    simp at e
    subst e
    rw [PyData.canLayAll0]
  | x :: xs, ds, e => by
    rw [List.mapM_cons] at e
    cases h1 : f x with
    | none => rw [h1] at e; exact nomatch e
    | some d =>
      cases h2 : xs.mapM f with
      | none => rw [h1, h2] at e; exact nomatch e
      | some es =>
        rw [h1, h2] at e
        have e' : ds = d :: es := by
          have : some (d :: es) = some ds := e
          injection this with this
          exact this.symm
        subst e'
        rw [PyData.canLayAll0, hf x d h1, lay_all hf xs es h2]
        rfl
theorem toD_lay (S : Store) : ∀ (n : Nat) (w : W) (d : PyData), toD S n w = some d → d.canLay0 = true
  | 0, _, _, e => nomatch e
  | n + 1, w, d, e => by
    cases w with
    | non => cases e; rw [PyData.canLay0]
    | bl b => cases e; rw [PyData.canLay0]
    | int i => cases e; rw [PyData.canLay0]
    | ty t => exact nomatch e
    | str x =>
      unfold toD at e
      dsimp only at e
      split at e
      · rename_i h
        cases e
        rw [PyData.canLay0]
        exact h
      · exact nomatch e
    | tup xs =>
      unfold toD at e
      dsimp only at e
      cases h : xs.mapM (toD S n) with
      | none => rw [h] at e; exact nomatch e
      | some ds =>
        rw [h] at e
        cases e
        rw [PyData.canLay0]
        exact lay_all (toD_lay S n) xs ds h
    | fl xs =>
      unfold toD at e
      dsimp only at e
      cases h : xs.mapM (toD S n) with
      | none => rw [h] at e; exact nomatch e
      | some ds =>
        rw [h] at e
        cases e
        rw [PyData.canLay0]
        exact lay_all (toD_lay S n) xs ds h
    | ref r =>
      unfold toD at e
      dsimp only at e
      split at e
      · rename_i xs hr
        cases h : xs.mapM (toD S n) with
        | none => rw [h] at e; exact nomatch e
        | some ds =>
          rw [h] at e
          cases e
          rw [PyData.canLay0]
          exact lay_all (toD_lay S n) xs ds h
      · exact nomatch e
theorem isEq_self {w : W} {S : Store} {d : PyData} (h : toD S dd w = some d) : M.isEq w w S = some true := by
  unfold M.isEq
  cases w with
  | str x =>
    dsimp only
    rw [decide_eq_true rfl]
  | _ =>
    dsimp only
    rw [h]
    dsimp only
    rw [PySem.SeqAt.eqv_refl d (toD_lay S dd _ d h)]
end Wo
set_option autoImplicit true
set_option maxRecDepth 100000
set_option maxHeartbeats 4000000
namespace Wo
open PySem L2
/-! W20: reversed(list), dict.update(dict), sorted of a dict of ints. -/
namespace M
def getV (r n : Nat) : Get := fun S i => if i < n then (match S[r]? with
  | some (.lst ys) => (match ys[n - 1 - i]? with
    | some x => some (some x)
    | none => none)
  | _ => none) else some none
def revW (w : W) (S : Store) : Rs (Nat × Get) := match w with
  | .ref r => match S[r]? with
    | some (.lst xs) => .ok (xs.length, getV r xs.length) S
    | _ => .no
  | _ => .no
def rev (g : MA) : MIt := fun f S => (g f S).bind fun ws S1 => match ws with
  | [w] => revW w S1
  | _ => .no
end M
section
variable {K : Kx} {m0 : List Addr} {H0 : Hp}
theorem itr_rev {r n : Nat} {a : Addr} (hr : m0[r]? = some a) : ItR K m0 H0 (M.getV r n) (Itv K a n) := by
  refine ⟨fun m S H i p st rs e => ?_, fun m S H i x p st rs e => ?_⟩
  · unfold M.getV at e
    split at e
    · split at e
      · split at e <;> cases e
      · cases e
    · rename_i h
      exact Nat.le_of_not_lt h
  · unfold M.getV at e
    split at e
    · rename_i hi
      split at e
      · rename_i ys ey
        split at e
        · rename_i y hy
          cases e
          obtain ⟨vs, h1, h2⟩ := rs.ob _ _ _ ey (p.get hr)
          obtain ⟨v, h3, h4⟩ := h2.get hy
          refine ⟨⟨hi, vs, v, SqL.of h1, h3⟩, fun v' H' y => ?_⟩
          obtain ⟨rfl, y⟩ := y
          have z := y vs (SqL.of h1)
          rw [h3] at z
          cases z
          exact ⟨Stay.refl _, rs, h4⟩
        · cases e
      · cases e
    · cases e
end
section
variable {X : Cx} {E : EX} {tg : Expr} {pos p : Pos}
theorem i_rev {e : Expr} {g : MA} (hm : X.mg "reversed" = none) (ha : PA X [e] (tA (kxj X ϑ) E g)) (hg : Gl X "reversed" := by rfl) (hs : starEach [e] X.env = [(false, eval e X.env)] := by rfl) : PI X tg (.Call (.Name "reversed" p) [e] [] pos) (tI (kxj X ϑ) E (M.rev g)) := by
  refine PI.imp (pi_reversed hg hm ha hs) fun s H Q h => ?_
  refine tM.imp (tM.seq (R := RVs X.K) (g := g) (k := fun _ ws S1 => match ws with | [w] => M.revW w S1 | _ => .no) h) fun xs H1 ⟨m, S, f, ws, rs, rf, rv, q⟩ => ?_
  split at q
  · rename_i w
    obtain ⟨v, rfl, r1⟩ := rvs1 rv
    unfold M.revW at q
    cases r1 with
    | @ref r a hr =>
      dsimp only at q
      split at q
      · rename_i ys e
        obtain ⟨vs, h1, h2⟩ := rs.ob _ _ _ e hr
        refine ⟨a, vs, rfl, SqL.of h1, q.here rs ?_⟩
        rw [← h2.length]
        exact itr_rev hr
      · exact False.elim q
    | _ => exact False.elim q
  · exact False.elim q
end
/-! ### d.update(e) -/
def mrgK (kvs more : List (Key × V)) : List (Key × V) := more.foldl (fun acc kv => putK acc kv.1 kv.2) kvs
theorem mrg_len (more : List (Key × V)) : ∀ kvs : List (Key × V), (mrgK kvs more).length ≤ kvs.length + more.length := by
  induction more with
  | nil => intro kvs; exact Nat.le_refl _
  | cons kv more ih =>
    intro kvs
    have h := ih (putK kvs kv.1 kv.2)
    have h2 := length_putK kvs kv.1 kv.2
    show (mrgK (putK kvs kv.1 kv.2) more).length ≤ _
    rw [List.length_cons]
    omega
theorem mrg_rel {kvs more : List (Key × V)} {vs us : List (Key × Value)} (r : KV kvs vs) (q : KV more us) : KV (mrgK kvs more) (merged vs us) := by
  induction q generalizing kvs vs with
  | nil => exact r
  | @cons p t ps ts hp hq ih =>
    show KV (mrgK (putK kvs _ _) _) (merged (stored vs _ _) _)
    obtain ⟨e1, e2⟩ := hp
    have := r.put p.1 e2
    rw [← e1]
    exact ih this
theorem d_update {X : Cx} {pins : List (Addr × Obj)} {σ : L2.St} {H : Hp} {s : Shared} {a b : Addr} {kvs more : List (Key × V)} {A : Around} {E : Value → Shared → Prop} {Q : Value → Shared → Prop} (I : Inv X pins σ H s) (e : H a = some (.dK kvs)) (e' : H b = some (.dK more)) (hab : a ≠ b) (hl : kvs.length + more.length ≤ sizeLine)
    (h : ∀ s', Inv X pins σ (upd H a (.dK (mrgK kvs more))) s' → Q .none s') : wpAny (model X.prog X.w) A (call (.builtin "dict.update") [.ref a, .ref b]) Q E s := by
  obtain ⟨z, hd, vs, rel, dd⟩ := dk_of I.hok e
  obtain ⟨z', hd', vs', rel', dd'⟩ := dk_of I.hok e'
  refine call_meetsIn PySem.F.slot_dict_update dd.typeIs PySem.F.entry_dict_update (PySem.F.args_dict_update_2 _ _) (meets_dict_update (mixKind X.prog X.w) a b hab hd') ⟨vs, vs', dd, dd', by rw [← rel.length, ← rel'.length]; exact hl, fun h' d1 d2 hs => h _ ?_⟩
  have he : ∃ q, h'.get? a = some q := let ⟨q, _, _, hq, _⟩ := d1; ⟨q, hq⟩
  have hl2 := mrg_len more kvs
  exact d_write (t' := s.toks) I (by rw [e]; exact True.intro) hs he (dk_new (by omega) hd (mrg_rel rel rel') d1)
namespace M
def mrgW (kvs more : List (Key × W)) : List (Key × W) := more.foldl (fun acc kv => putW acc kv.1 kv.2) kvs
def isDct (w : W) (S : Store) : Bool := match w with
  | .ref r => match S[r]? with
    | some (.dK _) => true
    | _ => false
  | _ => false
def updM : W → List W → Store → Rs W := fun x ws S => match x, ws with
  | .ref r, [.ref q] => match S[r]?, S[q]? with
    | some (.dK kvs), some (.dK more) => if r ≠ q ∧ kvs.length + more.length ≤ lim then .ok .non (S.set r (.dK (mrgW kvs more))) else .no
    | _, _ => .no
  | _, _ => .no
def mthD (g : W → List W → Store → Rs W) (o : ME) (a : MA) : ME := fun f S => (o f S).bind fun x S1 => if isDct x S1 = true then (a f S1).bind fun ws S2 => g x ws S2 else .no
end M
theorem mrgW_rel {K : PySem.W.Frag} {m : List Addr} {H : Hp} {kvs more : List (Key × W)} {vs us : List (Key × V)} (r : RKV K m H kvs vs) (q : RKV K m H more us) : RKV K m H (M.mrgW kvs more) (mrgK vs us) := by
  induction q generalizing kvs vs with
  | nil => exact r
  | @cons p t ps ts hp hq ih =>
    show RKV K m H (M.mrgW (M.putW kvs _ _) _) (mrgK (putK vs _ _) _)
    obtain ⟨e1, e2⟩ := hp
    have := rkv_put (k := p.1) e2 r
    rw [← e1]
    exact ih this
theorem isDct_rel {K : Kx} {m : List Addr} {H : Hp} {S : Store} {w : W} {v : V} (rs : RS K m S H) (r : RV K m H w v) (h : M.isDct w S = true) : tyV K "dict" v H := by
  cases r <;> simp only [M.isDct] at h <;> try (cases h)
  rename_i r a hr
  split at h
  · rename_i xs e
    obtain ⟨vs, h1, h2⟩ := rs.ob _ _ _ e hr
    exact Or.inr (Or.inr (Or.inl ⟨rfl, Or.inl ⟨vs, h1⟩⟩))
  · cases h
section
variable {X : Cx} {E : EX} {o e : Expr} {es : List Expr} {apos cpos : Pos} {name : Str} {id : String}
theorem mthD_at {K : Kx} {go : ME} {gs : MA} {g : W → List W → Store → Rs W} {s : L2.St} {H : Hp} {Q : VK} (h : tE K E (M.mthD g go gs) s H Q) : tBM K "dict" (rMth K (E s) g) (tE K E go) (tA K E gs) s H Q := by
  refine tM.imp (tM.seq (R := RV K) (g := go) (k := fun f x S1 => if M.isDct x S1 = true then (gs f S1).bind fun ws S2 => g x ws S2 else .no) h) fun x H1 ⟨m, S, f, a, rs, rf, rv, q⟩ => ?_
  split at q
  · rename_i hl
    refine ⟨isDct_rel rs rv hl, m, S, f, rs, rf, q.bind.imp fun xs H2 ⟨m1, S1, ws, p, st, rs1, rb, q1⟩ => ?_⟩
    exact ⟨m1, S1, a, ws, rs1, rv.mono p st, rb, q1⟩
  · exact False.elim q
theorem e_mthD {go : ME} {gs : MA} {g : W → List W → Store → Rs W} (hm : ∀ E, MtR X id (rMth (kxj X ϑ) E g)) (slot : Slot "dict" name id) (hty : typeOf (.builtin id) = pure (.type "method_descriptor")) (ho : PE X o (tE (kxj X ϑ) E go)) (ha : PA X (e :: es) (tA (kxj X ϑ) E gs))
    (hbase : attributeBase o name X.env (eval o X.env) = eval o X.env := by rfl)
    (hfew : ((backTo cpos (starEach (e :: es) X.env)).all (fun x => !x.1) && (backToKw cpos (keywordEach [] X.env)).all (fun x => x.1.isSome)
      && decide ((e :: es).length + ([] : List Keyword).length + (if ([] : List Keyword).isEmpty then 0 else 1) < 30)) = true := by rfl)
    (hline : (apos.endLine == cpos.line) = true := by rfl) (hs : starEach (e :: es) X.env = (false, eval e X.env) :: starEach es X.env := by rfl) (hplain : (backTo cpos (starEach es X.env)).any (·.1) = false := by rfl) :
    PE X (.Call (.Attribute o name apos) (e :: es) [] cpos) (tE (kxj X ϑ) E (M.mthD g go gs)) :=
  ⟨fun pins sh s H Q I h => (pe_bm PySem.F.plainAttrs_dict slot hty (hm (E s)) ho ha hbase hfew hline hs hplain).run pins sh s H Q I (mthD_at h)⟩
theorem m_upd {E : XK} : MtR X "dict.update" (rMth (kxj X ϑ) E M.updM) := by
  intro pins s σ H x xs v us Q I rx rxs h
  obtain ⟨m, S, a, ws, rs, ra, rw', q⟩ := h
  unfold M.updM at q
  split at q
  · rename_i r y
    cases ra with
    | @ref _ a1 hr =>
      obtain ⟨z, rfl, rz⟩ := rvs1 rw'
      cases rz with
      | @ref _ b1 hz =>
        split at q
        · rename_i ys zs e e'
          split at q
          · rename_i hl
            obtain ⟨vs, h1, h2⟩ := rs.ob _ _ _ e hr
            obtain ⟨us', h3, h4⟩ := rs.ob _ _ _ e' hz
            have so : Soft (H a1) := by
              rw [h1]
              trivial
            have hne : a1 ≠ b1 := fun z => hl.1 (by
              subst z
              exact nodupA rs.nd hr hz)
            obtain rfl : v = Value.ref a1 := rx
            obtain ⟨u, rfl, ru⟩ := vals1 rxs
            obtain rfl : u = Value.ref b1 := ru
            refine d_update I h1 h3 hne (lim_line (by rw [← rkv_len h2, ← rkv_len h4]; exact hl.2)) fun s' I' => ⟨.non, _, I', rfl, ?_⟩
            exact q m _ _ (List.prefix_refl _) (Stay.upd so) (rs.put e hr ⟨_, upd_same, (mrgW_rel h2 h4).mono (List.prefix_refl _) (Stay.upd so)⟩) .non
          · exact False.elim q
        · exact False.elim q
  · exact False.elim q
end
/-! ### sorted(d) -/
namespace M
def keysI : List (Key × W) → Option (List Int)
  | [] => some []
  | (.inl i, _) :: r => (keysI r).map (i :: ·)
  | _ => none
def sorted2W : List W → Store → Rs W := fun ws S => match ws with
  | [.ref r] => match S[r]? with
    | some (.dK kvs) => match keysI kvs with
      | some ks => if ks.length < 64 then .ok (.ref S.length) (S ++ [.lst ((isort ks).map .int)]) else .no
      | none => .no
    | _ => sortedW [.ref r] S
  | ws => sortedW ws S
end M
theorem keysI_rel {K : PySem.W.Frag} {m : List Addr} {H : Hp} : ∀ {kvs : List (Key × W)} {vs : List (Key × V)} {ks : List Int}, RKV K m H kvs vs → M.keysI kvs = some ks → vs.map (·.1) = ks.map Sum.inl
  | _, _, ks, .nil, h => by
    cases h
    rfl
  | (k, w) :: kvs, (k', v) :: vs, ks, .cons ⟨e, r⟩ t, h => by
    have e' : k = k' := e
    subst e'
    cases k with
    | inr z => cases h
    | inl i =>
      simp only [M.keysI, Option.map_eq_some_iff] at h
      obtain ⟨ks', h1, rfl⟩ := h
      rw [List.map_cons, keysI_rel t h1]
      rfl
theorem c_sorted2 {X : Cx} {ϑ : Jx X.K} {E : XK} (rm : Rc X) : CallR X (.builtin "sorted") (rWs (kxj X ϑ) E M.sorted2W) := by
  intro pins s σ H xs us Q I r h
  obtain ⟨m, S, ws, rs, rv, q⟩ := h
  unfold M.sorted2W at q
  split at q
  · rename_i rr
    split at q
    · rename_i kvs e
      split at q
      · rename_i ks hk
        split at q
        · rename_i hl
          obtain ⟨v, rfl, r1⟩ := rvs1 rv
          cases r1 with
          | ref hr =>
            obtain ⟨vs, e1, e2⟩ := rs.ob _ _ _ e hr
            refine call_sortedDI rm.calm pins s σ H _ us Q I r ⟨_, vs, ks, rfl, .inl e1, keysI_rel e2 hk, hl, fun ns' p hp hs hn => ?_⟩
            have e4 : ns' = isort ks := sorted_uniq (hp.trans (isort_perm ks).symm) hs (isort_sorted ks)
            subst e4
            obtain ⟨b1, b2, b3, b4⟩ := rs.newList hn (rvs_ints (isort ks))
            exact q _ _ _ b1 b2 b3 b4
        · exact False.elim q
      · exact False.elim q
    · exact c_sorted pins s σ H xs us Q I r ⟨m, S, _, rs, rv, q⟩
  · exact c_sorted pins s σ H xs us Q I r ⟨m, S, _, rs, rv, q⟩
/-! ### x = {k: v for ..}, x a plain local -/
section
variable {X : Cx} {E : EX}
theorem sw_trueD {kx vx : Expr} {gs : List Comprehension} {scope : Scope} {pos py : Pos} {y : Str} {l : Nat} {env : Env} (hk : env.scope.kind = .function) (hy : env.scope.names.lookup y = some .local) (hl : (py.line == pos.line) = true)
    (ha : (scope.names.any fun (n, k) => n == y && (k == .local || k == .cell)) = false) : swapsWith (.DictComp kx vx gs scope pos) (some (.Name y py)) l env = pure true := by
  have ky : env.kindOf y = some .local := hy
  have hb : env.blockKind = .function := by unfold Env.blockKind; rw [hk]; rfl
  unfold swapsWith
  simp only [hb, ky, ha, Expr.pos, hl]
  rfl
theorem ps_setDc {i : Nat} {y : Str} {py : Pos} {kx vx tg iter : Expr} {ifs : List Expr} {scope : Scope} {own : List (Str × Nat)} {pos spos : Pos} {wi : TI} {g : TG} {tt : TT} {tk tv : TE} (hc : X.calm = true) (hN : X.N.Nodup) (hy : X.N[i]? = some y) (hyl : X.env.scope.names.lookup y = some .local)
    (hsw : swapsWith (.DictComp kx vx [⟨tg, iter, ifs, 0⟩] scope pos) (some (.Name y py)) spos.line X.env = pure true) (hi : PI X tg iter wi) (ok : BlkOk X.N X.env.scope scope own)
    (hg : ∀ (s : Shared) (H : Hp) (C : Addr) (cl : List (Str × Addr)) (fp : List Addr), PG (X.blk s H scope (compEnvC scope cl C X.env) fp) tg g) (ht : ∀ (s : Shared) (H : Hp) (C : Addr) (cl : List (Str × Addr)) (fp : List Addr), PTs (X.blk s H scope (compEnvC scope cl C X.env) fp) ifs tt)
    (hk : ∀ (s : Shared) (H : Hp) (C : Addr) (cl : List (Str × Addr)) (fp : List Addr), PE (X.blk s H scope (compEnvC scope cl C X.env) fp) kx tk)
    (he : ∀ (s : Shared) (H : Hp) (C : Addr) (cl : List (Str × Addr)) (fp : List Addr), PE (X.blk s H scope (compEnvC scope cl C X.env) fp) vx tv) (hs : ∀ x, foldedSetIterable iter X.env x = pure x := by intro _; rfl) :
    PS X (.Assign [.Name y py] (.DictComp kx vx [⟨tg, iter, ifs, 0⟩] scope pos) spos) (tAsg (tDc wi g tt tk tv (own.map (·.2))) (gName i)) := by
  refine ⟨fun pins s σ H D I h => ?_⟩
  rw [exec_Assign_Name_used _ _ _ _ hsw]
  refine wpAny_bind (wpAny_standAt (wpAny_bind ?_))
  show wpAny _ X.A (do let _ ← comprehension (.DictComp kx vx [⟨tg, iter, ifs, 0⟩] scope pos) scope X.env (firstIterPos [⟨tg, iter, ifs, 0⟩] pos) newDict false (eval iter X.env) (some (assign (.Name y py) X.env))) _ _ s
  have h : tDc wi g tt tk tv (own.map (·.2)) σ H (fun x H1 => gName i x σ H1 D.nx) := h
  refine wpAny_bind (thn (dc_core (Qf := fun _ s' => SP X pins D .next s') hc hN I hi ok hg ht hk he hs h fun L C s' m H' I' q hn f => ?_) fun _ s' hq => wpAny_pure (wpAny_pure hq))
  show wpAny _ _ (assign (.Name y py) X.env (.ref L)) _ _ _
  refine wpAny_assign_Name (store_ok2 (v := V.ref L) I' hN hy (.inl hyl) rfl (fun s2 I2 ⟨a, sb, ha⟩ => ?_) (.inr hyl))
  obtain ⟨f0, f1, f2, f3, f4, f5⟩ := f
  have haC : C ≠ a := by
    rcases ha with z | z
    · rw [z]; exact f1
    · exact fun e => f4 y a z e.symm
  refine ⟨m, hn.sameBut sb haC, fun h3 sb3 => ?_⟩
  exact ⟨_, H', I2.turned (t' := s2.toks) (fun b o hb e => (sb3.2 b hb).trans e) f0 f1 f3 f4 f5, q⟩
theorem s_setDc {i : Nat} {y : Str} {py : Pos} {kx vx tg iter : Expr} {ifs : List Expr} {scope : Scope} {own : List (Str × Nat)} {pos spos : Pos} {g : MIt} {t : M.MG} {js : List Nat} {c : MT} {k e : ME} (rm : Rc X) (hN : X.N.Nodup) (hi : PI X tg iter (tI (kxj X ϑ) E g)) (ok : BlkOk X.N X.env.scope scope own) (hj : ∀ j ∈ js, j ∈ own.map (·.2))
    (hg : ∀ (s : Shared) (H : Hp) (C : Addr) (cl : List (Str × Addr)) (fp : List Addr), PG (X.blk s H scope (compEnvC scope cl C X.env) fp) tg (tG (kxj X ϑ) t js)) (ht : ∀ (s : Shared) (H : Hp) (C : Addr) (cl : List (Str × Addr)) (fp : List Addr), PTs (X.blk s H scope (compEnvC scope cl C X.env) fp) ifs (tT (kxj X ϑ) EX0 c))
    (hk : ∀ (s : Shared) (H : Hp) (C : Addr) (cl : List (Str × Addr)) (fp : List Addr), PE (X.blk s H scope (compEnvC scope cl C X.env) fp) kx (tE (kxj X ϑ) EX0 k))
    (he : ∀ (s : Shared) (H : Hp) (C : Addr) (cl : List (Str × Addr)) (fp : List Addr), PE (X.blk s H scope (compEnvC scope cl C X.env) fp) vx (tE (kxj X ϑ) EX0 e)) (hs : ∀ x, foldedSetIterable iter X.env x = pure x := by intro _; rfl) 
    (hy : X.N[i]? = some y := by rfl) (hyl : X.env.scope.names.lookup y = some .local := by rfl) (hsw : swapsWith (.DictComp kx vx [⟨tg, iter, ifs, 0⟩] scope pos) (some (.Name y py)) spos.line X.env = pure true := by exact sw_trueD rfl rfl rfl (by decide +kernel)) :
    PS X (.Assign [.Name y py] (.DictComp kx vx [⟨tg, iter, ifs, 0⟩] scope pos) spos) (tS (kxj X ϑ) E (M.asg (M.dc g (own.map (·.2)) t c k e) (M.tgN i))) := by
  refine PS.imp (ps_setDc rm.calm hN hy hyl hsw hi ok hg ht hk he hs) fun D s H q => ?_
  refine dc_at (E := E) ϑ.nn hj (tM.imp (tS.first (R := RV X.K) q) fun v H1 ⟨m, S, f, w, rs, rf, rv, q⟩ => ?_)
  exact PostS.next (f := f.set i (some w)) q rs (rf.set rv i)
end
end Wo
set_option autoImplicit true
set_option maxRecDepth 100000
set_option maxHeartbeats 4000000
namespace Wo
open PySem L2
/-! W21: what is wished for behind a run; the run steps by rewriting, what comes behind waits in a named wish. -/
structure Pst (α : Type) where
  ok : α → Store → Prop
  ex : Xn → Store → Prop
structure PstS where
  nx : Fr → Store → Prop
  rt : W → Store → Prop
  ex : Xn → Fr → Store → Prop
def Wp {α : Type} (r : Rs α) (P : Pst α) : Prop := match r with
  | .ok a S => P.ok a S
  | .ex e S => P.ex e S
  | .no => False
def WpS (r : RsS) (P : PstS) : Prop := match r with
  | .ok (.next f) S => P.nx f S
  | .ok (.ret w) S => P.rt w S
  | .ok _ _ => False
  | .ex e f S => P.ex e f S
  | .no => False
/-- nothing is raised -/
def on {α : Type} (Q : α → Store → Prop) : Pst α := ⟨Q, fun _ _ => False⟩
theorem on_ok {α : Type} (Q : α → Store → Prop) (a : α) (S : Store) : (on Q).ok a S = Q a S := via rfl
theorem Wp.mono {α : Type} {r : Rs α} {P P' : Pst α} (h : Wp r P) (k : ∀ a S, P.ok a S → P'.ok a S) (x : ∀ e S, P.ex e S → P'.ex e S) : Wp r P' := by
  cases r with
  | ok a S => exact k a S h
  | ex e S => exact x e S h
  | no => exact h
/-- a promise used -/
theorem Wp.then {α : Type} {r : Rs α} {Q : α → Store → Prop} {P : Pst α} (h : Wp r (on Q)) (k : ∀ a S, Q a S → P.ok a S) : Wp r P := h.mono k fun _ _ z => z.elim
theorem WpS.mono {r : RsS} {P P' : PstS} (h : WpS r P) (k : ∀ f S, P.nx f S → P'.nx f S) (q : ∀ w S, P.rt w S → P'.rt w S) (x : ∀ e f S, P.ex e f S → P'.ex e f S) : WpS r P' := by
  cases r with
  | ok l S =>
    cases l with
    | next f => exact k f S h
    | ret w => exact q w S h
    | brk f => exact h
    | cont f => exact h
  | ex e f S => exact x e f S h
  | no => exact h
theorem Wp.eq {α : Type} {r : Rs α} {Q : α → Store → Prop} (h : Wp r (on Q)) : ∃ a S, r = .ok a S ∧ Q a S := by
  cases r with
  | ok a S => exact ⟨a, S, rfl, h⟩
  | ex e S => exact h.elim
  | no => exact h.elim
theorem Wp.of {α : Type} {r : Rs α} {Q : α → Store → Prop} (h : ∃ a S, r = .ok a S ∧ Q a S) : Wp r (on Q) := by
  obtain ⟨a, S, rfl, q⟩ := h
  exact q
theorem wp_ok {α : Type} (a : α) (S : Store) (P : Pst α) : Wp (.ok a S) P = P.ok a S := via rfl
theorem wp_no {α : Type} (P : Pst α) : Wp (.no : Rs α) P = False := via rfl
namespace K
def bd {α β : Type} (k : α → Store → Rs β) (P : Pst β) : Pst α := ⟨fun a S => Wp (k a S) P, P.ex⟩
def o2 (g : G2) (b : ME) (f : Fr) (P : Pst W) : Pst W := ⟨fun x S => Wp (b f S) ⟨fun y S => Wp (g x y S) P, P.ex⟩, P.ex⟩
def o2b (g : G2) (x : W) (P : Pst W) : Pst W := ⟨fun y S => Wp (g x y S) P, P.ex⟩
def c1 (r : MA) (f : Fr) (P : Pst (List W)) : Pst W := ⟨fun x S => Wp (r f S) ⟨fun xs S => P.ok (x :: xs) S, P.ex⟩, P.ex⟩
def c2 (x : W) (P : Pst (List W)) : Pst (List W) := ⟨fun xs S => P.ok (x :: xs) S, P.ex⟩
def aT (b : MT) (f : Fr) (P : Pst Bool) : Pst Bool := ⟨fun c S => if c = true then Wp (b f S) P else P.ok false S, P.ex⟩
def oT (b : MT) (f : Fr) (P : Pst Bool) : Pst Bool := ⟨fun c S => if c = true then P.ok true S else Wp (b f S) P, P.ex⟩
def nT (P : Pst Bool) : Pst Bool := ⟨fun c S => P.ok (!c) S, P.ex⟩
def aV2 (b : ME) (f : Fr) (x : W) (P : Pst W) : Pst Bool := ⟨fun c S => if c = true then Wp (b f S) P else P.ok x S, P.ex⟩
def oV2 (b : ME) (f : Fr) (x : W) (P : Pst W) : Pst Bool := ⟨fun c S => if c = true then P.ok x S else Wp (b f S) P, P.ex⟩
def aV (b : ME) (f : Fr) (P : Pst W) : Pst W := ⟨fun x S => Wp (M.ofTru x S) (aV2 b f x P), P.ex⟩
def oV (b : ME) (f : Fr) (P : Pst W) : Pst W := ⟨fun x S => Wp (M.ofTru x S) (oV2 b f x P), P.ex⟩
def nV2 (P : Pst W) : Pst Bool := ⟨fun c S => P.ok (.bl (!c)) S, P.ex⟩
def nV (P : Pst W) : Pst W := ⟨fun x S => Wp (M.ofTru x S) (nV2 P), P.ex⟩
def iE (a b : ME) (f : Fr) (P : Pst W) : Pst Bool := ⟨fun c S => if c = true then Wp (a f S) P else Wp (b f S) P, P.ex⟩
def ch4 (g' : G2) (y : W) (P : Pst W) : Pst W := ⟨fun w S => Wp (g' y w S) P, P.ex⟩
def ch3 (g' : G2) (c : ME) (f : Fr) (y : W) (P : Pst W) : Pst Bool := ⟨fun k S => if k = true then Wp (c f S) (ch4 g' y P) else P.ok (.bl false) S, P.ex⟩
def ch2 (g g' : G2) (c : ME) (f : Fr) (x : W) (P : Pst W) : Pst W := ⟨fun y S => Wp (g x y S) (bd M.ofBl (ch3 g' c f y P)), P.ex⟩
def ch1 (g g' : G2) (b c : ME) (f : Fr) (P : Pst W) : Pst W := ⟨fun x S => Wp (b f S) (ch2 g g' c f x P), P.ex⟩
def l3 (x : W) (l : Option Int) (P : Pst W) : Pst (Option Int) := ⟨fun u S => Wp (M.slW x l u S) P, P.ex⟩
def l2 (hi : M.MO) (f : Fr) (x : W) (P : Pst W) : Pst (Option Int) := ⟨fun l S => Wp (hi f S) (l3 x l P), P.ex⟩
def l1 (lo hi : M.MO) (f : Fr) (P : Pst W) : Pst W := ⟨fun x S => Wp (lo f S) (l2 hi f x P), P.ex⟩
def m2 (g : W → List W → Store → Rs W) (x : W) (P : Pst W) : Pst (List W) := ⟨fun ws S => Wp (g x ws S) P, P.ex⟩
def m1 (g : W → List W → Store → Rs W) (a : MA) (f : Fr) (P : Pst W) : Pst W := ⟨fun x S => M.isLst x S = true ∧ Wp (a f S) (m2 g x P), P.ex⟩
def d1 (g : W → List W → Store → Rs W) (a : MA) (f : Fr) (P : Pst W) : Pst W := ⟨fun x S => M.isDct x S = true ∧ Wp (a f S) (m2 g x P), P.ex⟩
def lc (vs : List Nat) (t : M.MG) (c : MT) (e : ME) (f : Fr) (P : Pst W) : Pst (Nat × Get) := ⟨fun p S => Wp (M.lcL p.2 S.length t c e (wipeF f vs) p.1 0 (S ++ [.lst []])) ⟨fun _ S2 => P.ok (.ref S.length) S2, P.ex⟩, P.ex⟩
def dc (vs : List Nat) (t : M.MG) (c : MT) (k e : ME) (f : Fr) (P : Pst W) : Pst (Nat × Get) := ⟨fun p S => Wp (M.dcL p.2 S.length t c k e (wipeF f vs) p.1 0 (S ++ [.dK []])) ⟨fun _ S2 => P.ok (.ref S.length) S2, P.ex⟩, P.ex⟩
def rv (P : Pst (Nat × Get)) : Pst (List W) := ⟨fun ws S => match ws with
  | [w] => Wp (M.revW w S) P
  | _ => False, P.ex⟩
-- statements
def fn (P : Pst W) : PstS := ⟨fun _ S => P.ok .non S, P.ok, fun e _ S => P.ex e S⟩
def sq (b : MS) (P : PstS) : PstS := ⟨fun f S => WpS (b f S) P, P.rt, P.ex⟩
def tg (o : Option Fr) (S : Store) (P : PstS) : Prop := match o with
  | some f => P.nx f S
  | none => False
def as (t : M.MG) (f : Fr) (P : PstS) : Pst W := ⟨fun w S => tg (t w f S) S P, fun e S => P.ex e f S⟩
def rt (f : Fr) (P : PstS) : Pst W := ⟨fun w S => P.rt w S, fun e S => P.ex e f S⟩
def dr (f : Fr) (P : PstS) : Pst W := ⟨fun _ S => P.nx f S, fun e S => P.ex e f S⟩
def is (a b : MS) (f : Fr) (P : PstS) : Pst Bool := ⟨fun c S => if c = true then WpS (a f S) P else WpS (b f S) P, fun e S => P.ex e f S⟩
def st (o : Option Store) (f : Fr) (P : PstS) : Prop := match o with
  | some S => P.nx f S
  | none => False
def s3 (f : Fr) (x y : W) (P : PstS) : Pst W := ⟨fun z S => st (M.setW y z x S) f P, fun e S => P.ex e f S⟩
def s2 (i : ME) (f : Fr) (x : W) (P : PstS) : Pst W := ⟨fun y S => Wp (i f S) (s3 f x y P), fun e S => P.ex e f S⟩
def s1 (o i : ME) (f : Fr) (P : PstS) : Pst W := ⟨fun x S => Wp (o f S) (s2 i f x P), fun e S => P.ex e f S⟩
def fo (t : M.MG) (b : MS) (f : Fr) (P : PstS) : Pst (Nat × Get) := ⟨fun p S => WpS (M.forL p.2 t b p.1 0 f S) P, fun e S => P.ex e f S⟩
end K
theorem wp_bind {α β : Type} (r : Rs α) (k : α → Store → Rs β) (P : Pst β) : Wp (r.bind k) P = Wp r (K.bd k P) := by
  cases r <;> exact via rfl
theorem k_bd {α β : Type} (k : α → Store → Rs β) (P : Pst β) (a : α) (S : Store) : (K.bd k P).ok a S = Wp (k a S) P := via rfl
theorem wp_op2 (g : G2) (a b : ME) (f : Fr) (S : Store) (P : Pst W) : Wp (M.op2 g a b f S) P = Wp (a f S) (K.o2 g b f P) := by
  unfold M.op2
  rw [wp_bind]
  congr 1
  unfold K.bd K.o2
  congr 1
  funext x S
  rw [wp_bind]
  rfl
theorem k_o2 (g : G2) (b : ME) (f : Fr) (P : Pst W) (x : W) (S : Store) : (K.o2 g b f P).ok x S = Wp (b f S) (K.o2b g x P) := via rfl
theorem k_o2b (g : G2) (x : W) (P : Pst W) (y : W) (S : Store) : (K.o2b g x P).ok y S = Wp (g x y S) P := via rfl
theorem wp_op1 (g : W → Store → Rs W) (a : ME) (f : Fr) (S : Store) (P : Pst W) : Wp (M.op1 g a f S) P = Wp (a f S) (K.bd g P) := wp_bind _ _ _
theorem wp_ops (g : List W → Store → Rs W) (a : MA) (f : Fr) (S : Store) (P : Pst W) : Wp (M.ops g a f S) P = Wp (a f S) (K.bd g P) := wp_bind _ _ _
theorem wp_nil (f : Fr) (S : Store) (P : Pst (List W)) : Wp (M.nil f S) P = P.ok [] S := via rfl
theorem wp_cons (a : ME) (r : MA) (f : Fr) (S : Store) (P : Pst (List W)) : Wp (M.cons a r f S) P = Wp (a f S) (K.c1 r f P) := by
  unfold M.cons
  rw [wp_bind]
  congr 1
  unfold K.bd K.c1
  congr 1
  funext x S
  rw [wp_bind]
  rfl
theorem k_c1 (r : MA) (f : Fr) (P : Pst (List W)) (x : W) (S : Store) : (K.c1 r f P).ok x S = Wp (r f S) (K.c2 x P) := via rfl
theorem k_c2 (x : W) (P : Pst (List W)) (xs : List W) (S : Store) : (K.c2 x P).ok xs S = P.ok (x :: xs) S := via rfl
theorem wp_var (i : Nat) (f : Fr) (S : Store) (P : Pst W) : Wp (M.var i f S) P = Wp (gv f[i]? S) P := via rfl
theorem wp_cst (w : W) (f : Fr) (S : Store) (P : Pst W) : Wp (M.cst w f S) P = P.ok w S := via rfl
theorem wp_yes (f : Fr) (S : Store) (P : Pst Bool) : Wp (M.yes f S) P = P.ok true S := via rfl
theorem wp_tst (g : ME) (f : Fr) (S : Store) (P : Pst Bool) : Wp (M.tst g f S) P = Wp (g f S) (K.bd M.ofBl P) := wp_bind _ _ _
theorem wp_tru (g : ME) (f : Fr) (S : Store) (P : Pst Bool) : Wp (M.tru g f S) P = Wp (g f S) (K.bd M.ofTru P) := wp_bind _ _ _
theorem wp_andT (a b : MT) (f : Fr) (S : Store) (P : Pst Bool) : Wp (M.andT a b f S) P = Wp (a f S) (K.aT b f P) := by
  unfold M.andT
  rw [wp_bind]
  congr 1
  unfold K.bd K.aT
  congr 1
  funext x S
  cases x <;> exact via rfl
theorem k_aTt (b : MT) (f : Fr) (P : Pst Bool) (S : Store) : (K.aT b f P).ok true S = Wp (b f S) P := via rfl
theorem k_aTf (b : MT) (f : Fr) (P : Pst Bool) (S : Store) : (K.aT b f P).ok false S = P.ok false S := via rfl
theorem wp_orT (a b : MT) (f : Fr) (S : Store) (P : Pst Bool) : Wp (M.orT a b f S) P = Wp (a f S) (K.oT b f P) := by
  unfold M.orT
  rw [wp_bind]
  congr 1
  unfold K.bd K.oT
  congr 1
  funext x S
  cases x <;> exact via rfl
theorem k_oTt (b : MT) (f : Fr) (P : Pst Bool) (S : Store) : (K.oT b f P).ok true S = P.ok true S := via rfl
theorem k_oTf (b : MT) (f : Fr) (P : Pst Bool) (S : Store) : (K.oT b f P).ok false S = Wp (b f S) P := via rfl
theorem wp_notT (a : MT) (f : Fr) (S : Store) (P : Pst Bool) : Wp (M.notT a f S) P = Wp (a f S) (K.nT P) := wp_bind _ _ _
theorem k_nT (P : Pst Bool) (c : Bool) (S : Store) : (K.nT P).ok c S = P.ok (!c) S := via rfl
theorem wp_andV (a b : ME) (f : Fr) (S : Store) (P : Pst W) : Wp (M.andV a b f S) P = Wp (a f S) (K.aV b f P) := by
  unfold M.andV
  rw [wp_bind]
  congr 1
  unfold K.bd K.aV
  congr 1
  funext x S
  rw [wp_bind]
  congr 1
  unfold K.bd K.aV2
  congr 1
  funext c S
  cases c <;> exact via rfl
theorem k_aV (b : ME) (f : Fr) (P : Pst W) (x : W) (S : Store) : (K.aV b f P).ok x S = Wp (M.ofTru x S) (K.aV2 b f x P) := via rfl
theorem k_aV2t (b : ME) (f : Fr) (x : W) (P : Pst W) (S : Store) : (K.aV2 b f x P).ok true S = Wp (b f S) P := via rfl
theorem k_aV2f (b : ME) (f : Fr) (x : W) (P : Pst W) (S : Store) : (K.aV2 b f x P).ok false S = P.ok x S := via rfl
theorem wp_orV (a b : ME) (f : Fr) (S : Store) (P : Pst W) : Wp (M.orV a b f S) P = Wp (a f S) (K.oV b f P) := by
  unfold M.orV
  rw [wp_bind]
  congr 1
  unfold K.bd K.oV
  congr 1
  funext x S
  rw [wp_bind]
  congr 1
  unfold K.bd K.oV2
  congr 1
  funext c S
  cases c <;> exact via rfl
theorem k_oV (b : ME) (f : Fr) (P : Pst W) (x : W) (S : Store) : (K.oV b f P).ok x S = Wp (M.ofTru x S) (K.oV2 b f x P) := via rfl
theorem k_oV2t (b : ME) (f : Fr) (x : W) (P : Pst W) (S : Store) : (K.oV2 b f x P).ok true S = P.ok x S := via rfl
theorem k_oV2f (b : ME) (f : Fr) (x : W) (P : Pst W) (S : Store) : (K.oV2 b f x P).ok false S = Wp (b f S) P := via rfl
theorem wp_notV (a : ME) (f : Fr) (S : Store) (P : Pst W) : Wp (M.notV a f S) P = Wp (a f S) (K.nV P) := by
  unfold M.notV
  rw [wp_bind]
  congr 1
  unfold K.bd K.nV
  congr 1
  funext x S
  rw [wp_bind]
  rfl
theorem k_nV (P : Pst W) (x : W) (S : Store) : (K.nV P).ok x S = Wp (M.ofTru x S) (K.nV2 P) := via rfl
theorem k_nV2 (P : Pst W) (c : Bool) (S : Store) : (K.nV2 P).ok c S = P.ok (.bl (!c)) S := via rfl
theorem wp_ifE (c : MT) (a b : ME) (f : Fr) (S : Store) (P : Pst W) : Wp (M.ifE c a b f S) P = Wp (c f S) (K.iE a b f P) := by
  unfold M.ifE
  rw [wp_bind]
  congr 1
  unfold K.bd K.iE
  congr 1
  funext x S
  cases x <;> exact via rfl
theorem k_iEt (a b : ME) (f : Fr) (P : Pst W) (S : Store) : (K.iE a b f P).ok true S = Wp (a f S) P := via rfl
theorem k_iEf (a b : ME) (f : Fr) (P : Pst W) (S : Store) : (K.iE a b f P).ok false S = Wp (b f S) P := via rfl
theorem wp_chain (g g' : G2) (a b c : ME) (f : Fr) (S : Store) (P : Pst W) : Wp (M.chain g g' a b c f S) P = Wp (a f S) (K.ch1 g g' b c f P) := by
  unfold M.chain
  rw [wp_bind]
  congr 1
  unfold K.bd K.ch1
  congr 1
  funext x S
  rw [wp_bind]
  congr 1
  unfold K.bd K.ch2
  congr 1
  funext y S
  rw [wp_bind]
  congr 1
  unfold K.bd
  congr 1
  funext z S
  rw [wp_bind]
  congr 1
  unfold K.bd K.ch3
  congr 1
  funext k S
  cases k with
  | false => exact via rfl
  | true =>
    show Wp ((c f S).bind fun w S5 => g' y w S5) P = Wp (c f S) (K.ch4 g' y P)
    rw [wp_bind]
    rfl
theorem k_ch1 (g g' : G2) (b c : ME) (f : Fr) (P : Pst W) (x : W) (S : Store) : (K.ch1 g g' b c f P).ok x S = Wp (b f S) (K.ch2 g g' c f x P) := via rfl
theorem k_ch2 (g g' : G2) (c : ME) (f : Fr) (x : W) (P : Pst W) (y : W) (S : Store) : (K.ch2 g g' c f x P).ok y S = Wp (g x y S) (K.bd M.ofBl (K.ch3 g' c f y P)) := via rfl
theorem k_ch3t (g' : G2) (c : ME) (f : Fr) (y : W) (P : Pst W) (S : Store) : (K.ch3 g' c f y P).ok true S = Wp (c f S) (K.ch4 g' y P) := via rfl
theorem k_ch3f (g' : G2) (c : ME) (f : Fr) (y : W) (P : Pst W) (S : Store) : (K.ch3 g' c f y P).ok false S = P.ok (.bl false) S := via rfl
theorem k_ch4 (g' : G2) (y : W) (P : Pst W) (w : W) (S : Store) : (K.ch4 g' y P).ok w S = Wp (g' y w S) P := via rfl
theorem wp_sl (a : ME) (lo hi : M.MO) (f : Fr) (S : Store) (P : Pst W) : Wp (M.sl a lo hi f S) P = Wp (a f S) (K.l1 lo hi f P) := by
  unfold M.sl
  rw [wp_bind]
  congr 1
  unfold K.bd K.l1
  congr 1
  funext x S
  rw [wp_bind]
  congr 1
  unfold K.bd K.l2
  congr 1
  funext l S
  rw [wp_bind]
  rfl
theorem k_l1 (lo hi : M.MO) (f : Fr) (P : Pst W) (x : W) (S : Store) : (K.l1 lo hi f P).ok x S = Wp (lo f S) (K.l2 hi f x P) := via rfl
theorem k_l2 (hi : M.MO) (f : Fr) (x : W) (P : Pst W) (l : Option Int) (S : Store) : (K.l2 hi f x P).ok l S = Wp (hi f S) (K.l3 x l P) := via rfl
theorem k_l3 (x : W) (l : Option Int) (P : Pst W) (u : Option Int) (S : Store) : (K.l3 x l P).ok u S = Wp (M.slW x l u S) P := via rfl
theorem wp_part (g : ME) (f : Fr) (S : Store) (P : Pst (Option Int)) : Wp (M.part g f S) P = Wp (g f S) (K.bd gp P) := wp_bind _ _ _
theorem wp_noPart (f : Fr) (S : Store) (P : Pst (Option Int)) : Wp (M.noPart f S) P = P.ok none S := via rfl
theorem wp_iter (g : ME) (f : Fr) (S : Store) (P : Pst (Nat × Get)) : Wp (M.iter g f S) P = Wp (g f S) (K.bd M.iterW P) := wp_bind _ _ _
theorem wp_rng1 (g : MA) (f : Fr) (S : Store) (P : Pst (Nat × Get)) : Wp (M.rng1 g f S) P = Wp (g f S) (K.bd M.rng1W P) := wp_bind _ _ _
theorem wp_rng2 (g : MA) (f : Fr) (S : Store) (P : Pst (Nat × Get)) : Wp (M.rng2 g f S) P = Wp (g f S) (K.bd M.rng2W P) := wp_bind _ _ _
theorem wp_rev (g : MA) (f : Fr) (S : Store) (P : Pst (Nat × Get)) : Wp (M.rev g f S) P = Wp (g f S) (K.rv P) := by
  unfold M.rev
  rw [wp_bind]
  congr 1
  unfold K.bd K.rv
  congr 1
  funext ws S
  cases ws with
  | nil => exact via rfl
  | cons w r => cases r <;> exact via rfl
theorem k_rv (P : Pst (Nat × Get)) (w : W) (S : Store) : (K.rv P).ok [w] S = Wp (M.revW w S) P := via rfl
theorem wp_mth (g : W → List W → Store → Rs W) (o : ME) (a : MA) (f : Fr) (S : Store) (P : Pst W) : Wp (M.mth g o a f S) P = Wp (o f S) (K.m1 g a f P) := by
  unfold M.mth
  rw [wp_bind]
  congr 1
  unfold K.bd K.m1
  congr 1
  funext x S
  dsimp only
  by_cases h : M.isLst x S = true
  · rw [if_pos h, wp_bind, eq_true h, true_and]
    rfl
  · rw [if_neg h, eq_false h, false_and]
    rfl
theorem k_m1 (g : W → List W → Store → Rs W) (a : MA) (f : Fr) (P : Pst W) (x : W) (S : Store) : (K.m1 g a f P).ok x S = (M.isLst x S = true ∧ Wp (a f S) (K.m2 g x P)) := via rfl
theorem k_m2 (g : W → List W → Store → Rs W) (x : W) (P : Pst W) (ws : List W) (S : Store) : (K.m2 g x P).ok ws S = Wp (g x ws S) P := via rfl
theorem wp_mthD (g : W → List W → Store → Rs W) (o : ME) (a : MA) (f : Fr) (S : Store) (P : Pst W) : Wp (M.mthD g o a f S) P = Wp (o f S) (K.d1 g a f P) := by
  unfold M.mthD
  rw [wp_bind]
  congr 1
  unfold K.bd K.d1
  congr 1
  funext x S
  dsimp only
  by_cases h : M.isDct x S = true
  · rw [if_pos h, wp_bind, eq_true h, true_and]
    rfl
  · rw [if_neg h, eq_false h, false_and]
    rfl
theorem k_d1 (g : W → List W → Store → Rs W) (a : MA) (f : Fr) (P : Pst W) (x : W) (S : Store) : (K.d1 g a f P).ok x S = (M.isDct x S = true ∧ Wp (a f S) (K.m2 g x P)) := via rfl
theorem wp_lc (it : MIt) (vs : List Nat) (t : M.MG) (c : MT) (e : ME) (f : Fr) (S : Store) (P : Pst W) : Wp (M.lc it vs t c e f S) P = Wp (it f S) (K.lc vs t c e f P) := by
  unfold M.lc
  rw [wp_bind]
  congr 1
  unfold K.bd K.lc
  congr 1
  funext p S
  rw [wp_bind]
  rfl
theorem wp_dc (it : MIt) (vs : List Nat) (t : M.MG) (c : MT) (k e : ME) (f : Fr) (S : Store) (P : Pst W) : Wp (M.dc it vs t c k e f S) P = Wp (it f S) (K.dc vs t c k e f P) := by
  unfold M.dc
  rw [wp_bind]
  congr 1
  unfold K.bd K.dc
  congr 1
  funext p S
  rw [wp_bind]
  rfl
theorem wp_dnew (f : Fr) (S : Store) (P : Pst W) : Wp (M.dnew f S) P = P.ok (.ref S.length) (S ++ [.dK []]) := via rfl
/-! statements -/
theorem wp_fn {ar n : Nat} {b : MS} {ws : List W} {S : Store} {P : Pst W} (hl : ws.length = ar) : Wp (M.fn ar n b ws S) P = WpS (b (ws.map some ++ List.replicate (n - ar) none) S) (K.fn P) := by
  unfold M.fn
  rw [if_pos hl]
  cases b (ws.map some ++ List.replicate (n - ar) none) S with
  | ok l S => cases l <;> exact via rfl
  | ex e f S => exact via rfl
  | no => exact via rfl
theorem k_fnN (P : Pst W) (f : Fr) (S : Store) : (K.fn P).nx f S = P.ok .non S := via rfl
theorem k_fnR (P : Pst W) (w : W) (S : Store) : (K.fn P).rt w S = P.ok w S := via rfl
theorem k_fnE (P : Pst W) (e : Xn) (f : Fr) (S : Store) : (K.fn P).ex e f S = P.ex e S := via rfl
theorem ws_seq (a b : MS) (f : Fr) (S : Store) (P : PstS) : WpS (M.seq a b f S) P = WpS (a f S) (K.sq b P) := by
  unfold M.seq
  cases a f S with
  | ok l S => cases l <;> exact via rfl
  | ex e f S => exact via rfl
  | no => exact via rfl
theorem k_sqN (b : MS) (P : PstS) (f : Fr) (S : Store) : (K.sq b P).nx f S = WpS (b f S) P := via rfl
theorem k_sqR (b : MS) (P : PstS) (w : W) (S : Store) : (K.sq b P).rt w S = P.rt w S := via rfl
theorem k_sqE (b : MS) (P : PstS) (e : Xn) (f : Fr) (S : Store) : (K.sq b P).ex e f S = P.ex e f S := via rfl
theorem ws_skip (f : Fr) (S : Store) (P : PstS) : WpS (M.skip f S) P = P.nx f S := via rfl
theorem ws_asg (g : ME) (t : M.MG) (f : Fr) (S : Store) (P : PstS) : WpS (M.asg g t f S) P = Wp (g f S) (K.as t f P) := by
  unfold M.asg M.thenS
  cases g f S with
  | ok w S1 =>
    show WpS (match t w f S1 with | some f' => .ok (.next f') S1 | none => .no) P = K.tg (t w f S1) S1 P
    cases t w f S1 <;> exact via rfl
  | ex e S => exact via rfl
  | no => exact via rfl
theorem k_as (t : M.MG) (f : Fr) (P : PstS) (w : W) (S : Store) : (K.as t f P).ok w S = K.tg (t w f S) S P := via rfl
theorem k_tg (f : Fr) (S : Store) (P : PstS) : K.tg (some f) S P = P.nx f S := via rfl
theorem ws_ret (g : ME) (f : Fr) (S : Store) (P : PstS) : WpS (M.ret g f S) P = Wp (g f S) (K.rt f P) := by
  unfold M.ret M.thenS
  cases g f S <;> exact via rfl
theorem k_rt (f : Fr) (P : PstS) (w : W) (S : Store) : (K.rt f P).ok w S = P.rt w S := via rfl
theorem ws_retN (f : Fr) (S : Store) (P : PstS) : WpS (M.retN f S) P = P.rt .non S := via rfl
theorem ws_drop (g : ME) (f : Fr) (S : Store) (P : PstS) : WpS (M.drop g f S) P = Wp (g f S) (K.dr f P) := by
  unfold M.drop M.thenS
  cases g f S <;> exact via rfl
theorem k_dr (f : Fr) (P : PstS) (w : W) (S : Store) : (K.dr f P).ok w S = P.nx f S := via rfl
theorem ws_if (c : MT) (a b : MS) (f : Fr) (S : Store) (P : PstS) : WpS (M.ifS c a b f S) P = Wp (c f S) (K.is a b f P) := by
  unfold M.ifS M.thenS
  cases c f S with
  | ok k S => cases k <;> exact via rfl
  | ex e S => exact via rfl
  | no => exact via rfl
theorem k_ist (a b : MS) (f : Fr) (P : PstS) (S : Store) : (K.is a b f P).ok true S = WpS (a f S) P := via rfl
theorem k_isf (a b : MS) (f : Fr) (P : PstS) (S : Store) : (K.is a b f P).ok false S = WpS (b f S) P := via rfl
theorem ws_set (v o i : ME) (f : Fr) (S : Store) (P : PstS) : WpS (M.setSub v o i f S) P = Wp (v f S) (K.s1 o i f P) := by
  rw [x_set]
  cases v f S with
  | no => exact via rfl
  | ex e S => exact via rfl
  | ok x S1 =>
    rw [s1_ok]
    show _ = Wp (o f S1) (K.s2 i f x P)
    cases o f S1 with
    | no => exact via rfl
    | ex e S => exact via rfl
    | ok y S2 =>
      rw [s2_ok]
      show _ = Wp (i f S2) (K.s3 f x y P)
      cases i f S2 with
      | no => exact via rfl
      | ex e S => exact via rfl
      | ok z S3 =>
        rw [s3_ok]
        show _ = K.st (M.setW y z x S3) f P
        cases M.setW y z x S3 <;> exact via rfl
theorem k_s1 (o i : ME) (f : Fr) (P : PstS) (x : W) (S : Store) : (K.s1 o i f P).ok x S = Wp (o f S) (K.s2 i f x P) := via rfl
theorem k_s2 (i : ME) (f : Fr) (x : W) (P : PstS) (y : W) (S : Store) : (K.s2 i f x P).ok y S = Wp (i f S) (K.s3 f x y P) := via rfl
theorem k_s3 (f : Fr) (x y : W) (P : PstS) (z : W) (S : Store) : (K.s3 f x y P).ok z S = K.st (M.setW y z x S) f P := via rfl
theorem k_st (S : Store) (f : Fr) (P : PstS) : K.st (some S) f P = P.nx f S := via rfl
theorem ws_for (g : MIt) (t : M.MG) (b : MS) (f : Fr) (S : Store) (P : PstS) : WpS (M.forS g t b f S) P = Wp (g f S) (K.fo t b f P) := by
  unfold M.forS M.thenS
  cases g f S <;> exact via rfl
theorem k_fo (t : M.MG) (b : MS) (f : Fr) (P : PstS) (n : Nat) (get : Get) (S : Store) : (K.fo t b f P).ok (n, get) S = WpS (M.forL get t b n 0 f S) P := via rfl
theorem ws_bad (f : Fr) (S : Store) (P : PstS) : WpS (M.bad f S) P = False := via rfl
end Wo
set_option autoImplicit true
set_option maxRecDepth 100000
set_option maxHeartbeats 4000000
namespace Wo
open PySem L2
/-! W22: primitives by what the store holds; loops. -/
theorem m_lim : M.lim = 100000 := via rfl
/-- by the store's object -/
def gxl (o : Option Ob) (i : Int) (S : Store) : Rs W := match o with
  | some (.lst xs) => gx (atI xs i) S
  | _ => .no
theorem y_ixR (r : Nat) (i : Int) (S : Store) : M.ixW (.ref r) (.int i) S = gxl S[r]? i S := by
  unfold M.ixW gxl M.itemsOf gx
  dsimp only
  cases S[r]? with
  | none => rfl
  | some o => cases o <;> rfl
theorem gxl_lst (xs : List W) (i : Int) (S : Store) : gxl (some (.lst xs)) i S = gx (atI xs i) S := via rfl
def lnl (o : Option Ob) (S : Store) : Rs W := match o with
  | some (.lst xs) => .ok (.int xs.length) S
  | some (.dK xs) => M.lenW [.ref 0] [.dK xs]
  | _ => .no
theorem y_iterT (xs : List W) (S : Store) (P : Pst (Nat × Get)) : Wp (M.iterW (.tup xs) S) P = P.ok (xs.length, M.getF xs) S := via rfl
theorem y_iterF (xs : List W) (S : Store) (P : Pst (Nat × Get)) : Wp (M.iterW (.fl xs) S) P = P.ok (xs.length, M.getF xs) S := via rfl
theorem y_iterS (z : Str) (S : Store) (P : Pst (Nat × Get)) : Wp (M.iterW (.str z) S) P = P.ok (z.cps.size, M.getF (z.cps.toList.map fun c => .str ⟨#[c]⟩)) S := via rfl
def itl (o : Option Ob) (r : Nat) (S : Store) (P : Pst (Nat × Get)) : Prop := match o with
  | some (.lst xs) => P.ok (xs.length, M.getR r) S
  | _ => False
theorem y_iterR (r : Nat) (S : Store) (P : Pst (Nat × Get)) : Wp (M.iterW (.ref r) S) P = itl S[r]? r S P := by
  unfold M.iterW itl
  dsimp only
  cases S[r]? with
  | none => rfl
  | some o => cases o <;> rfl
theorem itl_lst (xs : List W) (r : Nat) (S : Store) (P : Pst (Nat × Get)) : itl (some (.lst xs)) r S P = P.ok (xs.length, M.getR r) S := via rfl
def rvl (o : Option Ob) (r : Nat) (S : Store) (P : Pst (Nat × Get)) : Prop := match o with
  | some (.lst xs) => P.ok (xs.length, M.getV r xs.length) S
  | _ => False
theorem y_revR (r : Nat) (S : Store) (P : Pst (Nat × Get)) : Wp (M.revW (.ref r) S) P = rvl S[r]? r S P := by
  unfold M.revW rvl
  dsimp only
  cases S[r]? with
  | none => rfl
  | some o => cases o <;> rfl
theorem rvl_lst (xs : List W) (r : Nat) (S : Store) (P : Pst (Nat × Get)) : rvl (some (.lst xs)) r S P = P.ok (xs.length, M.getV r xs.length) S := via rfl
theorem y_rng1 (j : Int) (S : Store) (P : Pst (Nat × Get)) : Wp (M.rng1W [.int j] S) P = ((-1000000 ≤ j ∧ j < 1000000) ∧ P.ok (j.toNat, M.getN 0 j.toNat) S) := by
  unfold M.rng1W
  dsimp only
  by_cases h : -1000000 ≤ j ∧ j < 1000000
  · rw [if_pos h, eq_true h, true_and]
    rfl
  · rw [if_neg h, eq_false h, false_and]
    rfl
theorem y_rng2 (i j : Int) (S : Store) (P : Pst (Nat × Get)) : Wp (M.rng2W [.int i, .int j] S) P = (((-1000000 ≤ i ∧ i < 1000000) ∧ (-1000000 ≤ j ∧ j < 1000000)) ∧ P.ok ((j - i).toNat, M.getN i (j - i).toNat) S) := by
  unfold M.rng2W
  dsimp only
  by_cases h : (-1000000 ≤ i ∧ i < 1000000) ∧ (-1000000 ≤ j ∧ j < 1000000)
  · rw [if_pos h, eq_true h, true_and]
    rfl
  · rw [if_neg h, eq_false h, false_and]
    rfl
def len1 (o : Option Ob) (S : Store) (P : Pst W) : Prop := match o with
  | some (.lst xs) => P.ok (.int xs.length) S
  | _ => False
theorem y_lenR {r : Nat} {xs : List W} (S : Store) (P : Pst W) (h : S[r]? = some (.lst xs)) : Wp (M.lenW [.ref r] S) P = P.ok (.int xs.length) S := by
  rw [x_lenL h]
  rfl
theorem y_mul (i j : Int) (S : Store) (P : Pst W) : Wp (M.mulW (.int i) (.int j) S) P = (((-18446744073709551616 < i ∧ i < 18446744073709551616) ∨ (-18446744073709551616 < j ∧ j < 18446744073709551616)) ∧ P.ok (.int (i * j)) S) := by
  unfold M.mulW
  dsimp only
  by_cases h : (-18446744073709551616 < i ∧ i < 18446744073709551616) ∨ (-18446744073709551616 < j ∧ j < 18446744073709551616)
  · rw [if_pos h, eq_true h, true_and]
    rfl
  · rw [if_neg h, eq_false h, false_and]
    rfl
theorem y_fdiv (i j : Int) (S : Store) (P : Pst W) : Wp (M.fdivW (.int i) (.int j) S) P = ((0 < j ∧ j < 1073741824) ∧ P.ok (.int (i / j)) S) := by
  unfold M.fdivW
  dsimp only
  by_cases h : 0 < j ∧ j < 1073741824
  · rw [if_pos h, eq_true h, true_and]
    rfl
  · rw [if_neg h, eq_false h, false_and]
    rfl
theorem y_mod (i j : Int) (S : Store) (P : Pst W) : Wp (M.modW (.int i) (.int j) S) P = (0 < j ∧ P.ok (.int (i % j)) S) := by
  unfold M.modW
  dsimp only
  by_cases h : 0 < j
  · rw [if_pos h, eq_true h, true_and]
    rfl
  · rw [if_neg h, eq_false h, false_and]
    rfl
theorem y_mkT (ws : List W) (S : Store) (P : Pst W) : Wp (M.mkTup ws S) P = (ws.length ≤ 100000 ∧ P.ok (.tup ws) S) := by
  unfold M.mkTup
  rw [m_lim]
  by_cases h : ws.length ≤ 100000
  · rw [if_pos h, eq_true h, true_and]
    rfl
  · rw [if_neg h, eq_false h, false_and]
    rfl
theorem y_mkL (ws : List W) (S : Store) (P : Pst W) : Wp (M.mkLst ws S) P = (ws.length ≤ 100000 ∧ P.ok (.ref S.length) (S ++ [.lst ws])) := by
  unfold M.mkLst
  rw [m_lim]
  by_cases h : ws.length ≤ 100000
  · rw [if_pos h, eq_true h, true_and]
    rfl
  · rw [if_neg h, eq_false h, false_and]
    rfl
theorem y_addT (xs ys : List W) (S : Store) (P : Pst W) : Wp (M.addW (.tup xs) (.tup ys) S) P = (xs.length + ys.length ≤ 100000 ∧ P.ok (.tup (xs ++ ys)) S) := by
  unfold M.addW
  dsimp only
  rw [m_lim]
  by_cases h : xs.length + ys.length ≤ 100000
  · rw [if_pos h, eq_true h, true_and]
    rfl
  · rw [if_neg h, eq_false h, false_and]
    rfl
def adl (a b : Option Ob) (S : Store) (P : Pst W) : Prop := match a, b with
  | some (.lst xs), some (.lst ys) => xs.length + ys.length ≤ 100000 ∧ P.ok (.ref S.length) (S ++ [.lst (xs ++ ys)])
  | _, _ => False
theorem y_addR (r q : Nat) (S : Store) (P : Pst W) : Wp (M.addW (.ref r) (.ref q) S) P = adl S[r]? S[q]? S P := by
  unfold M.addW adl
  dsimp only
  cases S[r]? with
  | none => rfl
  | some o =>
    cases o with
    | dK _ => rfl
    | dT _ => rfl
    | exc _ _ => rfl
    | ins _ _ => rfl
    | hid => rfl
    | lst xs =>
      cases S[q]? with
      | none => rfl
      | some o =>
        cases o with
        | dK _ => rfl
        | dT _ => rfl
        | exc _ _ => rfl
        | ins _ _ => rfl
        | hid => rfl
        | lst ys =>
          dsimp only
          rw [m_lim]
          by_cases h : xs.length + ys.length ≤ 100000
          · rw [if_pos h, eq_true h, true_and]
            rfl
          · rw [if_neg h, eq_false h, false_and]
            rfl
theorem adl_lst (xs ys : List W) (S : Store) (P : Pst W) : adl (some (.lst xs)) (some (.lst ys)) S P = (xs.length + ys.length ≤ 100000 ∧ P.ok (.ref S.length) (S ++ [.lst (xs ++ ys)])) := via rfl
/-- what is known of the store is told by equations about S[r]? -/
theorem y_app {r : Nat} {xs : List W} {S : Store} (h : S[r]? = some (.lst xs)) (y : W) (P : Pst W) : Wp (M.appM (.ref r) [y] S) P = (xs.length < 100000 ∧ P.ok .non (S.set r (.lst (xs ++ [y])))) := by
  unfold M.appM
  dsimp only
  rw [h]
  dsimp only
  rw [m_lim]
  by_cases h : xs.length < 100000
  · rw [if_pos h, eq_true h, true_and]
    rfl
  · rw [if_neg h, eq_false h, false_and]
    rfl
theorem y_ext {r q : Nat} {xs ys : List W} {S : Store} (h : S[r]? = some (.lst xs)) (h' : S[q]? = some (.lst ys)) (P : Pst W) : Wp (M.extM (.ref r) [.ref q] S) P = (xs.length + ys.length ≤ 100000 ∧ P.ok .non (S.set r (.lst (xs ++ ys)))) := by
  unfold M.extM
  dsimp only
  rw [h, h']
  dsimp only
  rw [m_lim]
  by_cases h : xs.length + ys.length ≤ 100000
  · rw [if_pos h, eq_true h, true_and]
    rfl
  · rw [if_neg h, eq_false h, false_and]
    rfl
theorem y_pop {r : Nat} {xs : List W} {S : Store} (h : S[r]? = some (.lst xs)) {y : W} (hy : xs.getLast? = some y) (P : Pst W) : Wp (M.popM (.ref r) [] S) P = P.ok y (S.set r (.lst xs.dropLast)) := by
  unfold M.popM
  dsimp only
  rw [h]
  dsimp only
  rw [List.getLast?_eq_getElem?] at hy
  rw [hy]
  rfl
theorem y_upd {r q : Nat} {xs ys : List (Key × W)} {S : Store} (h : S[r]? = some (.dK xs)) (h' : S[q]? = some (.dK ys)) (hn : r ≠ q) (P : Pst W) : Wp (M.updM (.ref r) [.ref q] S) P = (xs.length + ys.length ≤ 100000 ∧ P.ok .non (S.set r (.dK (M.mrgW xs ys)))) := by
  unfold M.updM
  dsimp only
  rw [h, h']
  dsimp only
  rw [m_lim]
  by_cases h : xs.length + ys.length ≤ 100000
  · rw [if_pos ⟨hn, h⟩, eq_true h, true_and]
    rfl
  · rw [if_neg fun z => h z.2, eq_false h, false_and]
    rfl
theorem isDct_of {r : Nat} {xs : List (Key × W)} {S : Store} (h : S[r]? = some (.dK xs)) : M.isDct (.ref r) S = true := by
  unfold M.isDct
  dsimp only
  rw [h]
theorem y_tupR {r : Nat} {xs : List W} {S : Store} (h : S[r]? = some (.lst xs)) (P : Pst W) : Wp (M.tupleW [.ref r] S) P = P.ok (.tup xs) S := by
  rw [x_tupL h]
  rfl
theorem y_listR {r : Nat} {xs : List W} {S : Store} (h : S[r]? = some (.lst xs)) (P : Pst W) : Wp (M.listW [.ref r] S) P = P.ok (.ref S.length) (S ++ [.lst xs]) := by
  unfold M.listW
  dsimp only
  rw [h]
  rfl
theorem y_listD {r : Nat} {xs : List (Key × W)} {S : Store} (h : S[r]? = some (.dK xs)) (P : Pst W) : Wp (M.listW [.ref r] S) P = P.ok (.ref S.length) (S ++ [.lst (xs.map fun kv => M.keyW kv.1)]) := by
  unfold M.listW
  dsimp only
  rw [h]
  rfl
theorem y_any {r : Nat} {bs : List Bool} {S : Store} (h : S[r]? = some (.lst (bs.map .bl))) (P : Pst W) : Wp (M.anyW [.ref r] S) P = P.ok (.bl (bs.any id)) S := by
  rw [anyW_run h]
  rfl
theorem y_all {r : Nat} {bs : List Bool} {S : Store} (h : S[r]? = some (.lst (bs.map .bl))) (P : Pst W) : Wp (M.allW [.ref r] S) P = P.ok (.bl (bs.all id)) S := by
  rw [allW_run h]
  rfl
theorem y_truR {r : Nat} {xs : List W} {S : Store} (h : S[r]? = some (.lst xs)) : M.ofTru (.ref r) S = .ok (!xs.isEmpty) S := x_truL h
theorem y_sortI {r : Nat} {ns : List Int} {S : Store} (h : S[r]? = some (.lst (ns.map .int))) (P : Pst W) : Wp (M.sorted2W [.ref r] S) P = P.ok (.ref S.length) (S ++ [.lst ((isort ns).map .int)]) := by
  unfold M.sorted2W
  dsimp only
  rw [h]
  dsimp only
  unfold M.sortedW
  dsimp only
  rw [h]
  dsimp only
  rw [intsW_map]
  rfl
theorem y_sortD {r : Nat} {ks : List Int} {kvs : List (Key × W)} {S : Store} (h : S[r]? = some (.dK kvs)) (hk : M.keysI kvs = some ks) (P : Pst W) : Wp (M.sorted2W [.ref r] S) P = (ks.length < 64 ∧ P.ok (.ref S.length) (S ++ [.lst ((isort ks).map .int)])) := by
  unfold M.sorted2W
  dsimp only
  rw [h]
  dsimp only
  rw [hk]
  dsimp only
  by_cases h : ks.length < 64
  · rw [if_pos h, eq_true h, true_and]
    rfl
  · rw [if_neg h, eq_false h, false_and]
    rfl
/-! ### comprehensions -/
/-- what one turn of a list comprehension gives -/
def LcEl (t : M.MG) (c : MT) (e : ME) (fw : Fr) (x : W) (S : Store) (Q : List W → Store → Prop) : Prop := match t x fw S with
  | some f2 => Wp (c f2 S) (on fun b S2 => if b = true then Wp (e f2 S2) (on fun v S3 => Q [v] S3) else Q [] S2)
  | none => False
def elT (c : MT) (e : ME) (S : Store) (Q : List W → Store → Prop) (o : Option Fr) : Prop := match o with
  | some f2 => Wp (c f2 S) (on fun b S2 => if b = true then Wp (e f2 S2) (on fun v S3 => Q [v] S3) else Q [] S2)
  | none => False
def elC (e : ME) (f2 : Fr) (Q : List W → Store → Prop) : Pst Bool := on fun b S2 => if b = true then Wp (e f2 S2) (on fun v S3 => Q [v] S3) else Q [] S2
theorem y_el (t : M.MG) (c : MT) (e : ME) (fw : Fr) (x : W) (S : Store) (Q : List W → Store → Prop) : LcEl t c e fw x S Q = elT c e S Q (t x fw S) := via rfl
theorem y_elT (c : MT) (e : ME) (S : Store) (Q : List W → Store → Prop) (f2 : Fr) : elT c e S Q (some f2) = Wp (c f2 S) (elC e f2 Q) := via rfl
theorem y_elt (e : ME) (f2 : Fr) (Q : List W → Store → Prop) (S : Store) : (elC e f2 Q).ok true S = Wp (e f2 S) (on fun v S3 => Q [v] S3) := via rfl
theorem y_elf (e : ME) (f2 : Fr) (Q : List W → Store → Prop) (S : Store) : (elC e f2 Q).ok false S = Q [] S := via rfl
/-- the general rule: an invariant of what was gathered and of the store -/
theorem k_lc {get : Get} {n : Nat} {vs : List Nat} {t : M.MG} {c : MT} {e : ME} {f : Fr} {S : Store} {P : Pst W} (I : Nat → List W → Store → Prop) (h0 : I 0 [] (S ++ [.lst []])) (hlen : n ≤ 10000)
    (hk : ∀ i acc S', I i acc S' → S'[S.length]? = some (.lst acc))
    (hg : ∀ i acc S', i ≤ n → I i acc S' → (i < n → ∃ x, get S' i = some (some x) ∧ LcEl t c e (wipeF f vs) x S' fun ys S2 => S2[S.length]? = some (.lst acc) ∧ I (i + 1) (acc ++ ys) (S2.set S.length (.lst (acc ++ ys)))) ∧ (i = n → get S' i = some none))
    (hq : ∀ acc S', I n acc S' → P.ok (.ref S.length) S') : (K.lc vs t c e f P).ok (n, get) S := by
  have aux : ∀ (m i : Nat) (acc : List W) (S' : Store), i + m = n → acc.length ≤ i → I i acc S' → Wp (M.lcL get S.length t c e (wipeF f vs) m i S') ⟨fun _ S2 => P.ok (.ref S.length) S2, P.ex⟩ := by
    intro m
    induction m with
    | zero =>
      intro i acc S' hi ha h
      have ei : i = n := by omega
      unfold M.lcL
      rw [(hg i acc S' (by omega) h).2 ei]
      subst ei
      exact hq acc S' h
    | succ m ih =>
      intro i acc S' hi ha h
      obtain ⟨x, h1, h2⟩ := (hg i acc S' (by omega) h).1 (by omega)
      unfold M.lcL
      rw [h1]
      dsimp only
      unfold LcEl at h2
      cases ht : t x (wipeF f vs) S' with
      | none =>
        rw [ht] at h2
        exact h2.elim
      | some f2 =>
        rw [ht] at h2
        dsimp only at h2 ⊢
        obtain ⟨b, S1, hb, h3⟩ := Wp.eq h2
        rw [hb]
        cases b with
        | false =>
          rw [if_neg Bool.false_ne_true] at h3
          obtain ⟨h4, h5⟩ := h3
          rw [List.append_nil] at h5
          have e5 : S1.set S.length (.lst acc) = S1 := by
            obtain ⟨z1, z2⟩ := List.getElem?_eq_some_iff.mp h4
            rw [← z2]
            exact List.set_getElem_self _
          rw [e5] at h5
          exact ih (i + 1) acc S1 (by omega) (by omega) h5
        | true =>
          rw [if_pos rfl] at h3
          obtain ⟨v, S2, hv, h4, h5⟩ := Wp.eq h3
          show Wp (((e f2 S1).noex).bind fun y S2 => (M.app S.length y S2).bind fun _ S3 => M.lcL get S.length t c e (wipeF f vs) m (i + 1) S3) _
          rw [hv]
          show Wp ((M.app S.length v S2).bind fun _ S3 => M.lcL get S.length t c e (wipeF f vs) m (i + 1) S3) _
          unfold M.app
          rw [h4]
          dsimp only
          rw [m_lim, if_pos (by omega)]
          exact ih (i + 1) (acc ++ [v]) _ (by omega) (by rw [List.length_append]; exact Nat.succ_le_succ ha) h5
  exact aux n 0 [] _ (Nat.zero_add _) (Nat.le_refl _) h0
/-- over known items; the turns leave what stood -/
theorem k_lcP {γ : Type} {ds : List γ} {en : γ → W} {get : Get} {n : Nat} {vs : List Nat} {t : M.MG} {c : MT} {e : ME} {f : Fr} {S : Store} {P : Pst W} (y : γ → List W) (hn : n = ds.length) (hl : ds.length ≤ 10000) (hget : ∀ S', S <+: S' → ∀ i, get S' i = some (ds.map en)[i]?)
    (h : ∀ d ∈ ds, ∀ S', S <+: S' → LcEl t c e (wipeF f vs) (en d) S' fun ys S2 => S' <+: S2 ∧ ys = y d) (hq : ∀ S', S <+: S' → S'[S.length]? = some (.lst (ds.flatMap y)) → P.ok (.ref S.length) S') : (K.lc vs t c e f P).ok (n, get) S := by
  subst hn
  refine k_lc (fun i acc S' => S <+: S' ∧ S'[S.length]? = some (.lst acc) ∧ acc = (ds.take i).flatMap y) ⟨List.prefix_append _ _, get_new _ _, by simp⟩ hl (fun i acc S' h => h.2.1) (fun i acc S' hi h => ?_) fun acc S' h => ?_
  · obtain ⟨p, ha, ea⟩ := h
    refine ⟨fun hlt => ?_, fun e => ?_⟩
    · have hx : ds[i]? = some ds[i] := List.getElem?_eq_getElem hlt
      refine ⟨en ds[i], by rw [hget S' p, List.getElem?_map, hx]; rfl, ?_⟩
      have q := h ds[i] (List.getElem_mem hlt) S' p
      unfold LcEl at q ⊢
      cases ht : t (en ds[i]) (wipeF f vs) S' with
      | none => rw [ht] at q; exact q
      | some f2 =>
        rw [ht] at q
        dsimp only at q ⊢
        refine q.mono (fun b S2 hb => ?_) fun _ _ z => z
        have fin : ∀ ys S3, (S' <+: S3 ∧ ys = y ds[i]) → S3[S.length]? = some (.lst acc) ∧ S <+: S3.set S.length (.lst (acc ++ ys)) ∧ (S3.set S.length (.lst (acc ++ ys)))[S.length]? = some (.lst (acc ++ ys)) ∧ acc ++ ys = (ds.take (i + 1)).flatMap y := by
          rintro ys S3 ⟨p3, rfl⟩
          have g := pre_get p3 ha
          refine ⟨g, pre_set (p.trans p3) (Nat.le_refl _) _, List.getElem?_set_self (List.getElem?_eq_some_iff.mp g).1, ?_⟩
          rw [flatMap_take y hx, ea]
        dsimp only [on] at hb ⊢
        cases b with
        | false =>
          rw [if_neg Bool.false_ne_true] at hb ⊢
          exact fin [] S2 hb
        | true =>
          rw [if_pos rfl] at hb ⊢
          exact hb.mono (fun v S3 h3 => fin [v] S3 h3) fun _ _ z => z
    · rw [hget S' p, List.getElem?_eq_none (by rw [List.length_map]; omega)]
  · obtain ⟨p, ha, ea⟩ := h
    rw [List.take_length] at ea
    subst ea
    exact hq S' p ha
theorem k_lcF {γ : Type} {ds : List γ} {en : γ → W} {n : Nat} {vs : List Nat} {t : M.MG} {c : MT} {e : ME} {f : Fr} {S : Store} {P : Pst W} (y : γ → List W) (hl : ds.length ≤ 10000)
    (h : ∀ d ∈ ds, ∀ S', S <+: S' → LcEl t c e (wipeF f vs) (en d) S' fun ys S2 => S' <+: S2 ∧ ys = y d) (hq : ∀ S', S <+: S' → S'[S.length]? = some (.lst (ds.flatMap y)) → P.ok (.ref S.length) S') (hn : n = ds.length := by simp only [List.length_map]) : (K.lc vs t c e f P).ok (n, M.getF (ds.map en)) S :=
  k_lcP y hn hl (fun _ _ _ => rfl) h hq
theorem k_lcR {γ : Type} {ds : List γ} {en : γ → W} {r n : Nat} {vs : List Nat} {t : M.MG} {c : MT} {e : ME} {f : Fr} {S : Store} {P : Pst W} (y : γ → List W) (hr : S[r]? = some (.lst (ds.map en))) (hl : ds.length ≤ 10000)
    (h : ∀ d ∈ ds, ∀ S', S <+: S' → LcEl t c e (wipeF f vs) (en d) S' fun ys S2 => S' <+: S2 ∧ ys = y d) (hq : ∀ S', S <+: S' → S'[S.length]? = some (.lst (ds.flatMap y)) → P.ok (.ref S.length) S') (hn : n = ds.length := by simp only [List.length_map]) : (K.lc vs t c e f P).ok (n, M.getR r) S :=
  k_lcP y hn hl (fun S' p i => by unfold M.getR; rw [pre_get p hr]) h hq
/-! ### loops -/
def FoEl (t : M.MG) (b : MS) (x : W) (f : Fr) (S : Store) (P : PstS) : Prop := match t x f S with
  | some f2 => WpS (b f2 S) P
  | none => False
def foT (b : MS) (S : Store) (P : PstS) (o : Option Fr) : Prop := match o with
  | some f2 => WpS (b f2 S) P
  | none => False
theorem y_fo (t : M.MG) (b : MS) (x : W) (f : Fr) (S : Store) (P : PstS) : FoEl t b x f S P = foT b S P (t x f S) := via rfl
theorem y_foT (b : MS) (S : Store) (P : PstS) (f : Fr) : foT b S P (some f) = WpS (b f S) P := via rfl
theorem k_for {get : Get} {n : Nat} {t : M.MG} {b : MS} {f : Fr} {S : Store} {P : PstS} (I : Nat → Fr → Store → Prop) (h0 : I 0 f S)
    (hs : ∀ i f S, i < n → I i f S → ∃ x, get S i = some (some x) ∧ FoEl t b x f S ⟨I (i + 1), P.rt, P.ex⟩) (hq : ∀ f S, I n f S → get S n = some none ∧ P.nx f S) : WpS (M.forL get t b n 0 f S) P := by
  have aux : ∀ (m i : Nat) (f : Fr) (S : Store), i + m = n → I i f S → WpS (M.forL get t b m i f S) P := by
    intro m
    induction m with
    | zero =>
      intro i f S hi h
      have ei : i = n := by omega
      subst ei
      obtain ⟨h1, h2⟩ := hq f S h
      unfold M.forL
      rw [h1]
      exact h2
    | succ m ih =>
      intro i f S hi h
      obtain ⟨x, h1, h2⟩ := hs i f S (by omega) h
      unfold M.forL
      rw [h1]
      dsimp only
      unfold FoEl at h2
      cases ht : t x f S with
      | none =>
        rw [ht] at h2
        exact h2.elim
      | some f2 =>
        rw [ht] at h2
        dsimp only at h2 ⊢
        cases hb : b f2 S with
        | no =>
          rw [hb] at h2
          exact h2
        | ex e f3 S3 =>
          rw [hb] at h2
          exact h2
        | ok l S3 =>
          rw [hb] at h2
          cases l with
          | next f3 => exact ih (i + 1) f3 S3 (by omega) h2
          | ret w => exact h2
          | brk f3 => exact h2.elim
          | cont f3 => exact h2.elim
  exact aux n 0 f S (Nat.zero_add _) h0
theorem k_forN {n : Nat} {lo : Int} {t : M.MG} {b : MS} {f : Fr} {S : Store} {P : PstS} (I : Nat → Fr → Store → Prop) (h0 : I 0 f S) (hs : ∀ i f S, i < n → I i f S → FoEl t b (.int (lo + (i : Nat))) f S ⟨I (i + 1), P.rt, P.ex⟩) (hq : ∀ f S, I n f S → P.nx f S) : WpS (M.forL (M.getN lo n) t b n 0 f S) P :=
  k_for I h0 (fun i f S hi h => ⟨_, by unfold M.getN; rw [if_pos hi], hs i f S hi h⟩) fun f S h => ⟨by unfold M.getN; rw [if_neg (Nat.lt_irrefl _)], hq f S h⟩
theorem k_forF {γ : Type} {ds : List γ} {en : γ → W} {n : Nat} {t : M.MG} {b : MS} {f : Fr} {S : Store} {P : PstS} (I : Nat → Fr → Store → Prop) (h0 : I 0 f S) (hs : ∀ i d f S, ds[i]? = some d → I i f S → FoEl t b (en d) f S ⟨I (i + 1), P.rt, P.ex⟩) (hq : ∀ f S, I ds.length f S → P.nx f S) (hn : n = ds.length := by simp only [List.length_map]) : WpS (M.forL (M.getF (ds.map en)) t b n 0 f S) P := by
  subst hn
  refine k_for I h0 (fun i f S hi h => ⟨en ds[i], ?_, hs i ds[i] f S (List.getElem?_eq_getElem hi) h⟩) fun f S h => ⟨?_, hq f S h⟩
  · unfold M.getF
    rw [List.getElem?_map, List.getElem?_eq_getElem hi]
    rfl
  · unfold M.getF
    rw [List.getElem?_eq_none (by rw [List.length_map]; exact Nat.le_refl _)]
theorem k_forR {γ : Type} {ds : List γ} {en : γ → W} {n r : Nat} {t : M.MG} {b : MS} {f : Fr} {S : Store} {P : PstS} (I : Nat → Fr → Store → Prop) (h0 : I 0 f S) (hr : ∀ i f S, I i f S → S[r]? = some (.lst (ds.map en))) (hs : ∀ i d f S, ds[i]? = some d → I i f S → FoEl t b (en d) f S ⟨I (i + 1), P.rt, P.ex⟩) (hq : ∀ f S, I ds.length f S → P.nx f S) (hn : n = ds.length := by simp only [List.length_map]) : WpS (M.forL (M.getR r) t b n 0 f S) P := by
  subst hn
  refine k_for I h0 (fun i f S hi h => ⟨en ds[i], ?_, hs i ds[i] f S (List.getElem?_eq_getElem hi) h⟩) fun f S h => ⟨?_, hq f S h⟩
  · unfold M.getR
    rw [hr i f S h]
    dsimp only
    rw [List.getElem?_map, List.getElem?_eq_getElem hi]
    rfl
  · unfold M.getR
    rw [hr _ f S h]
    dsimp only
    rw [List.getElem?_eq_none (by rw [List.length_map]; exact Nat.le_refl _)]
/-- reversed(list) -/
theorem k_forV {γ : Type} {ds : List γ} {en : γ → W} {n r : Nat} {t : M.MG} {b : MS} {f : Fr} {S : Store} {P : PstS} (I : Nat → Fr → Store → Prop) (h0 : I 0 f S) (hr : ∀ i f S, I i f S → S[r]? = some (.lst (ds.map en))) (hs : ∀ i d f S, ds.reverse[i]? = some d → I i f S → FoEl t b (en d) f S ⟨I (i + 1), P.rt, P.ex⟩) (hq : ∀ f S, I ds.length f S → P.nx f S) (hn : n = ds.length := by simp only [List.length_map]) : WpS (M.forL (M.getV r n) t b n 0 f S) P := by
  subst hn
  refine k_for I h0 (fun i f S hi h => ?_) fun f S h => ⟨?_, hq f S h⟩
  · have hx : ds[ds.length - 1 - i]? = some ds[ds.length - 1 - i] := List.getElem?_eq_getElem (by omega)
    refine ⟨en ds[ds.length - 1 - i], ?_, hs i _ f S (by rw [List.getElem?_reverse hi]; exact hx) h⟩
    unfold M.getV
    rw [if_pos hi, hr i f S h]
    dsimp only
    rw [List.getElem?_map, hx]
    rfl
  · unfold M.getV
    rw [if_neg (Nat.lt_irrefl _)]
/-- while, by a measure -/
theorem k_whl {c : MT} {b : MS} {f : Fr} {S : Store} {P : PstS} (I : Nat → Fr → Store → Prop) (m : Nat) (hm : m < 1000000) (h0 : I m f S)
    (hs : ∀ n f S, n ≤ m → I n f S → Wp (c f S) ⟨fun k S1 => if k = true then WpS (b f S1) ⟨fun f2 S2 => ∃ n', n' < n ∧ I n' f2 S2, P.rt, P.ex⟩ else P.nx f S1, fun e S1 => P.ex e f S1⟩) : WpS (M.whl c b f S) P := by
  have aux : ∀ (u n : Nat) (f : Fr) (S : Store), n < u → n ≤ m → I n f S → WpS (M.whlL c b u f S) P := by
    intro u
    induction u with
    | zero =>
      intro n f S h
      omega
    | succ u ih =>
      intro n f S hu hn h
      have q := hs n f S hn h
      unfold M.whlL
      cases hc : c f S with
      | no => rw [hc] at q; exact q
      | ex e S1 => rw [hc] at q; exact q
      | ok k S1 =>
        rw [hc] at q
        cases k with
        | false => exact q
        | true =>
          have q : WpS (b f S1) ⟨fun f2 S2 => ∃ n', n' < n ∧ I n' f2 S2, P.rt, P.ex⟩ := q
          dsimp only
          cases hb : b f S1 with
          | no => rw [hb] at q; exact q
          | ex e f3 S3 => rw [hb] at q; exact q
          | ok l S3 =>
            rw [hb] at q
            cases l with
            | next f3 =>
              obtain ⟨n', h1, h2⟩ := q
              exact ih n' f3 S3 (by omega) (by omega) h2
            | ret w => exact q
            | brk f3 => exact q.elim
            | cont f3 => exact q.elim
  exact aux M.turns m f S hm (Nat.le_refl _) h0
end Wo
set_option autoImplicit true
set_option maxRecDepth 100000
set_option maxHeartbeats 4000000
namespace Wo
open PySem L2
/-! W23: dicts as rows of keys; dict comprehensions; draws. -/
def dOf (ns : List Int) : List (Key × W) := ns.map fun n => (Sum.inl n, W.bl true)
def addN (ns : List Int) (x : Int) : List Int := if x ∈ ns then ns else ns ++ [x]
def addAll (ns more : List Int) : List Int := more.foldl addN ns
theorem mem_addN {ns : List Int} {x y : Int} : y ∈ addN ns x ↔ y ∈ ns ∨ y = x := by
  unfold addN
  split
  · rename_i h
    exact ⟨Or.inl, fun z => z.elim id fun e => e ▸ h⟩
  · rw [List.mem_append, List.mem_singleton]
theorem nodup_addN {ns : List Int} {x : Int} (h : ns.Nodup) : (addN ns x).Nodup := by
  unfold addN
  split
  · exact h
  · rename_i hx
    rw [List.nodup_append]
    exact ⟨h, List.nodup_cons.mpr ⟨List.not_mem_nil, List.nodup_nil⟩, fun a ha b hb e => hx (by
      have : b = x := by simpa using hb
      exact this ▸ e ▸ ha)⟩
theorem mem_addAll {more : List Int} : ∀ {ns : List Int} {y : Int}, y ∈ addAll ns more ↔ y ∈ ns ∨ y ∈ more := by
  induction more with
  | nil => intro ns y; simp [addAll]
  | cons x xs ih =>
    intro ns y
    show y ∈ addAll (addN ns x) xs ↔ _
    rw [ih, mem_addN, List.mem_cons, or_assoc]
theorem nodup_addAll {more : List Int} : ∀ {ns : List Int}, ns.Nodup → (addAll ns more).Nodup := by
  induction more with
  | nil => intro ns h; exact h
  | cons x xs ih => intro ns h; exact ih (nodup_addN h)
theorem val_dOf (i : Int) : ∀ ns : List Int, (M.valW (dOf ns) (Sum.inl i)).isSome = decide (i ∈ ns)
  | [] => by simp [dOf, M.valW]
  | n :: ns => by
    have ih := val_dOf i ns
    unfold dOf M.valW at ih ⊢
    rw [List.map_cons, List.find?_cons]
    by_cases h : n = i
    · subst h
      simp
    · have h' : decide ((Sum.inl n : Key) = Sum.inl i) = false := decide_eq_false fun z => h (by injection z)
      rw [h']
      dsimp only
      rw [ih]
      by_cases h2 : i ∈ ns
      · rw [decide_eq_true h2, decide_eq_true (List.mem_cons_of_mem _ h2)]
      · rw [decide_eq_false h2, decide_eq_false fun z => (List.mem_cons.mp z).elim (fun z => h z.symm) h2]
theorem any_dOf (x : Int) (ns : List Int) : ((dOf ns).any fun kv => decide (kv.1 = Sum.inl x)) = decide (x ∈ ns) := by
  induction ns with
  | nil => rfl
  | cons n ns ih =>
    show (decide ((Sum.inl n : Key) = Sum.inl x) || (dOf ns).any _) = _
    rw [ih]
    by_cases h : n = x
    · subst h
      simp
    · have h' : decide ((Sum.inl n : Key) = Sum.inl x) = false := decide_eq_false fun z => h (by injection z)
      rw [h', Bool.false_or]
      by_cases h2 : x ∈ ns
      · rw [decide_eq_true h2, decide_eq_true (List.mem_cons_of_mem _ h2)]
      · rw [decide_eq_false h2, decide_eq_false fun z => (List.mem_cons.mp z).elim (fun z => h z.symm) h2]
theorem put_dOf (ns : List Int) (x : Int) : M.putW (dOf ns) (Sum.inl x) (.bl true) = dOf (addN ns x) := by
  unfold M.putW addN
  rw [any_dOf]
  by_cases h : x ∈ ns
  · rw [if_pos (decide_eq_true h), if_pos h]
    unfold dOf
    rw [List.map_map]
    refine List.map_congr_left fun n _ => ?_
    show (if _ then _ else _) = _
    split
    · rename_i e
      exact Prod.ext (by simpa using e.symm) rfl
    · rfl
  · rw [if_neg (by simp [h]), if_neg h]
    unfold dOf
    rw [List.map_append]
    rfl
theorem mrg_dOf (more : List Int) : ∀ ns : List Int, M.mrgW (dOf ns) (dOf more) = dOf (addAll ns more) := by
  induction more with
  | nil => intro ns; rfl
  | cons x xs ih =>
    intro ns
    show M.mrgW (M.putW (dOf ns) (Sum.inl x) (.bl true)) (dOf xs) = dOf (addAll (addN ns x) xs)
    rw [put_dOf, ih]
theorem keys_dOf (ns : List Int) : M.keysI (dOf ns) = some ns := by
  induction ns with
  | nil => rfl
  | cons n ns ih =>
    show (M.keysI (dOf ns)).map (n :: ·) = _
    rw [ih]
    rfl
theorem len_dOf (ns : List Int) : (dOf ns).length = ns.length := List.length_map _
theorem len_addN (ns : List Int) (x : Int) : (addN ns x).length ≤ ns.length + 1 := by
  unfold addN
  split
  · exact Nat.le_succ _
  · rw [List.length_append]
    exact Nat.le_refl _
theorem len_addAll (more : List Int) : ∀ ns : List Int, (addAll ns more).length ≤ ns.length + more.length := by
  induction more with
  | nil => intro ns; exact Nat.le_refl _
  | cons x xs ih =>
    intro ns
    have a := ih (addN ns x)
    have b := len_addN ns x
    show (addAll (addN ns x) xs).length ≤ _
    rw [List.length_cons]
    omega
theorem inD {S : Store} {r : Nat} {ns : List Int} (i : Int) (h : S[r]? = some (.dK (dOf ns))) : M.inW (.int i) (.ref r) S = .ok (.bl (decide (i ∈ ns))) S := by
  rw [inW_of (isIn_dict i h), val_dOf]
theorem ninD {S : Store} {r : Nat} {ns : List Int} (i : Int) (h : S[r]? = some (.dK (dOf ns))) : M.ninW (.int i) (.ref r) S = .ok (.bl (!decide (i ∈ ns))) S := by
  rw [ninW_of (isIn_dict i h), val_dOf]
theorem inL {S : Store} {r : Nat} {ns : List Int} (i : Int) (h : S[r]? = some (.lst (ns.map .int))) : M.inW (.int i) (.ref r) S = .ok (.bl (decide (i ∈ ns))) S := inW_of (isIn_ints i h)
theorem ninL {S : Store} {r : Nat} {ns : List Int} (i : Int) (h : S[r]? = some (.lst (ns.map .int))) : M.ninW (.int i) (.ref r) S = .ok (.bl (!decide (i ∈ ns))) S := ninW_of (isIn_ints i h)
theorem neL {S : Store} {r q : Nat} {ns ms : List Int} (h1 : S[r]? = some (.lst (ns.map .int))) (h2 : S[q]? = some (.lst (ms.map .int))) : M.neW (.ref r) (.ref q) S = .ok (.bl (!decide (ns = ms))) S := neW_of (isEq_lists h1 h2)
theorem eqL {S : Store} {r q : Nat} {ns ms : List Int} (h1 : S[r]? = some (.lst (ns.map .int))) (h2 : S[q]? = some (.lst (ms.map .int))) : M.eqW (.ref r) (.ref q) S = .ok (.bl (decide (ns = ms))) S := eqW_of (isEq_lists h1 h2)
/-! ### dict comprehensions whose keys are ints and whose values are True -/
def DcEl (t : M.MG) (c : MT) (k e : ME) (fw : Fr) (x : W) (S : Store) (Q : List Int → Store → Prop) : Prop := match t x fw S with
  | some f2 => Wp (c f2 S) (on fun b S2 => if b = true then Wp (k f2 S2) (on fun u S3 => Wp (e f2 S3) (on fun v S4 => ∃ i, u = .int i ∧ v = .bl true ∧ Q [i] S4)) else Q [] S2)
  | none => False
def dlT (c : MT) (k e : ME) (S : Store) (Q : List Int → Store → Prop) (o : Option Fr) : Prop := match o with
  | some f2 => Wp (c f2 S) (on fun b S2 => if b = true then Wp (k f2 S2) (on fun u S3 => Wp (e f2 S3) (on fun v S4 => ∃ i, u = .int i ∧ v = .bl true ∧ Q [i] S4)) else Q [] S2)
  | none => False
def dlC (k e : ME) (f2 : Fr) (Q : List Int → Store → Prop) : Pst Bool := on fun b S2 => if b = true then Wp (k f2 S2) (on fun u S3 => Wp (e f2 S3) (on fun v S4 => ∃ i, u = .int i ∧ v = .bl true ∧ Q [i] S4)) else Q [] S2
def dlK (e : ME) (f2 : Fr) (Q : List Int → Store → Prop) : Pst W := on fun u S3 => Wp (e f2 S3) (on fun v S4 => ∃ i, u = .int i ∧ v = .bl true ∧ Q [i] S4)
def dlV (i : Int) (Q : List Int → Store → Prop) : Pst W := on fun v S4 => ∃ i', W.int i = .int i' ∧ v = .bl true ∧ Q [i'] S4
theorem y_dl (t : M.MG) (c : MT) (k e : ME) (fw : Fr) (x : W) (S : Store) (Q : List Int → Store → Prop) : DcEl t c k e fw x S Q = dlT c k e S Q (t x fw S) := via rfl
theorem y_dlT (c : MT) (k e : ME) (S : Store) (Q : List Int → Store → Prop) (f2 : Fr) : dlT c k e S Q (some f2) = Wp (c f2 S) (dlC k e f2 Q) := via rfl
theorem y_dlt (k e : ME) (f2 : Fr) (Q : List Int → Store → Prop) (S : Store) : (dlC k e f2 Q).ok true S = Wp (k f2 S) (dlK e f2 Q) := via rfl
theorem y_dlf (k e : ME) (f2 : Fr) (Q : List Int → Store → Prop) (S : Store) : (dlC k e f2 Q).ok false S = Q [] S := via rfl
theorem y_dlk (e : ME) (f2 : Fr) (Q : List Int → Store → Prop) (i : Int) (S : Store) : (dlK e f2 Q).ok (.int i) S = Wp (e f2 S) (dlV i Q) := via rfl
theorem y_dlv (i : Int) (Q : List Int → Store → Prop) (S : Store) : (dlV i Q).ok (.bl true) S = Q [i] S := by
  refine propext ⟨fun ⟨i', e, _, q⟩ => ?_, fun q => ⟨i, rfl, rfl, q⟩⟩
  injection e with e
  rw [e]
  exact q
theorem k_dcP {γ : Type} {ds : List γ} {en : γ → W} {get : Get} {n : Nat} {vs : List Nat} {t : M.MG} {c : MT} {k e : ME} {f : Fr} {S : Store} {P : Pst W} (y : γ → List Int) (hn : n = ds.length) (hl : ds.length ≤ 10000) (hget : ∀ S', S <+: S' → ∀ i, get S' i = some (ds.map en)[i]?)
    (h : ∀ d ∈ ds, ∀ S', S <+: S' → DcEl t c k e (wipeF f vs) (en d) S' fun ys S2 => S' <+: S2 ∧ ys = y d) (hq : ∀ S', S <+: S' → S'[S.length]? = some (.dK (dOf (addAll [] (ds.flatMap y)))) → P.ok (.ref S.length) S') : (K.dc vs t c k e f P).ok (n, get) S := by
  subst hn
  have aux : ∀ (m i : Nat) (S' : Store), i + m = ds.length → S <+: S' → S'[S.length]? = some (.dK (dOf (addAll [] ((ds.take i).flatMap y)))) → (addAll [] ((ds.take i).flatMap y)).length ≤ i → Wp (M.dcL get S.length t c k e (wipeF f vs) m i S') ⟨fun _ S2 => P.ok (.ref S.length) S2, P.ex⟩ := by
    intro m
    induction m with
    | zero =>
      intro i S' hi p ha hle
      have ei : i = ds.length := by omega
      subst ei
      unfold M.dcL
      rw [hget S' p, List.getElem?_eq_none (by rw [List.length_map]; exact Nat.le_refl _)]
      rw [List.take_length] at ha
      exact hq S' p ha
    | succ m ih =>
      intro i S' hi p ha hle
      have hlt : i < ds.length := by omega
      have hx : ds[i]? = some ds[i] := List.getElem?_eq_getElem hlt
      have q := h ds[i] (List.getElem_mem hlt) S' p
      unfold M.dcL
      rw [hget S' p, List.getElem?_map, hx]
      dsimp only [Option.map_some]
      unfold DcEl at q
      cases ht : t (en ds[i]) (wipeF f vs) S' with
      | none => rw [ht] at q; exact q.elim
      | some f2 =>
        rw [ht] at q
        dsimp only at q ⊢
        obtain ⟨b, S1, hb, q1⟩ := Wp.eq q
        rw [hb]
        cases b with
        | false =>
          rw [if_neg Bool.false_ne_true] at q1
          obtain ⟨p1, e1⟩ := q1
          refine ih (i + 1) S1 (by omega) (p.trans p1) ?_ ?_
          · rw [flatMap_take y hx, ← e1, List.append_nil]
            exact pre_get p1 ha
          · rw [flatMap_take y hx, ← e1, List.append_nil]
            omega
        | true =>
          rw [if_pos rfl] at q1
          obtain ⟨u, S2, hu, q2⟩ := Wp.eq q1
          obtain ⟨v, S3, hv, j, rfl, rfl, p3, e3⟩ := Wp.eq q2
          show Wp (((k f2 S1).noex).bind fun y S2 => ((e f2 S2).noex).bind fun z S3 => (M.dput S.length y z S3).bind fun _ S4 => M.dcL get S.length t c k e (wipeF f vs) m (i + 1) S4) _
          rw [hu]
          show Wp (((e f2 S2).noex).bind fun z S3 => (M.dput S.length (.int j) z S3).bind fun _ S4 => M.dcL get S.length t c k e (wipeF f vs) m (i + 1) S4) _
          rw [hv]
          show Wp ((M.dput S.length (.int j) (.bl true) S3).bind fun _ S4 => M.dcL get S.length t c k e (wipeF f vs) m (i + 1) S4) _
          have g := pre_get p3 ha
          unfold M.dput
          dsimp only [M.keyOf]
          rw [g]
          dsimp only
          rw [m_lim, if_pos (by rw [len_dOf]; omega), put_dOf]
          have ea : addAll [] ((ds.take (i + 1)).flatMap y) = addN (addAll [] ((ds.take i).flatMap y)) j := by
            rw [flatMap_take y hx, ← e3]
            unfold addAll
            rw [List.foldl_append]
            rfl
          have := len_addN (addAll [] ((ds.take i).flatMap y)) j
          refine ih (i + 1) _ (by omega) (pre_set (p.trans p3) (Nat.le_refl _) _) ?_ (by rw [ea]; omega)
          rw [ea]
          exact List.getElem?_set_self (List.getElem?_eq_some_iff.mp g).1
  exact aux ds.length 0 _ (Nat.zero_add _) (List.prefix_append _ _) (get_new _ _) (Nat.le_refl _)
theorem k_dcR {γ : Type} {ds : List γ} {en : γ → W} {r n : Nat} {vs : List Nat} {t : M.MG} {c : MT} {k e : ME} {f : Fr} {S : Store} {P : Pst W} (y : γ → List Int) (hr : S[r]? = some (.lst (ds.map en))) (hl : ds.length ≤ 10000)
    (h : ∀ d ∈ ds, ∀ S', S <+: S' → DcEl t c k e (wipeF f vs) (en d) S' fun ys S2 => S' <+: S2 ∧ ys = y d) (hq : ∀ S', S <+: S' → S'[S.length]? = some (.dK (dOf (addAll [] (ds.flatMap y)))) → P.ok (.ref S.length) S') (hn : n = ds.length := by simp only [List.length_map]) : (K.dc vs t c k e f P).ok (n, M.getR r) S :=
  k_dcP y hn hl (fun S' p i => by unfold M.getR; rw [pre_get p hr]) h hq
theorem addAll_nodup : ∀ (more ns : List Int), (ns ++ more).Nodup → addAll ns more = ns ++ more
  | [], ns, _ => (List.append_nil _).symm
  | x :: xs, ns, h => by
    have hx : x ∉ ns := fun hm => by
      rw [List.nodup_append] at h
      exact h.2.2 x hm x (List.mem_cons_self ..) rfl
    show addAll (addN ns x) xs = _
    have e : addN ns x = ns ++ [x] := if_neg hx
    rw [e, addAll_nodup xs (ns ++ [x]) (by rw [List.append_assoc]; exact h), List.append_assoc]
    rfl
end Wo
set_option autoImplicit true
set_option maxRecDepth 100000
set_option maxHeartbeats 4000000
namespace Wo
open PySem PySem.Spec PySem.W PyProof.Rows L2
/-! W24: a, b, *rest = a tuple. -/
theorem unpack_star {prog : Program} {w : World} {A : Around} {E : Value → Shared → Prop} {s : Shared} {l : Addr} {items : Array Value} {n : Nat} {Q : List Value → Shared → Prop} (hl : IsTup s.heap l items) (hh : A.handled = none) (hn : n ≤ items.size) (hz : items.size ≤ sizeLine)
    (h : ∀ (h' : Heap) tk, (∀ b o, s.heap.get? b = some o → h'.get? b = some o) → Q (items.toList.take n ++ [.ref h'.objs.size]) { s with heap := h'.push { cls := .type "list", data := .seq (items.toList.drop n).toArray }, toks := tk }) :
    wpAny (model prog w) A (unpackItems (.ref l) (n + 1) (some n)) Q E s := by
  have hlt : l ≠ s.heap.objs.size := by obtain ⟨o, ho, _⟩ := hl; exact Nat.ne_of_lt (Heap.lt_size ho)
  have hll : l < s.heap.objs.size := by obtain ⟨o, ho, _⟩ := hl; exact Heap.lt_size ho
  unfold unpackItems
  refine wpAny_bind ?_
  unfold notIterableAtAll
  refine wpAny_bind (wpAny_specialOf hl.typeIs slot_tuple_iter.lookup ?_)
  refine wpAny_pure ?_
  simp only [Bool.false_eq_true, if_false]
  refine wpAny_bind (wpAny_holding (iter_tuple hl ?_))
  refine wpAny_bind (wpAny_holding (draw_tuple hlt n 0 _ _ ⟨_, Heap.get?_push_size _ rfl, rfl, rfl⟩ (hl.push _) (by omega) fun h₁ hit₁ hs₁ => ?_))
  have hl₁ : IsTup h₁ l items := (hl.push _).extBut hs₁.extBut hlt
  rw [Nat.zero_add] at hit₁
  have hit₁' := hit₁
  obtain ⟨oi, hoi, _⟩ := hit₁'
  have hl₁' := hl₁
  obtain ⟨ol, hol, _⟩ := hl₁'
  rw [List.drop_zero]
  have hfl : (items.toList.take n).length = n := by rw [List.length_take, Array.length_toList]; omega
  rw [if_neg (show ¬ ((items.toList.take n).length < n) by rw [hfl]; omega)]
  refine wpAny_bind (wpAny_holding (kun_collect (s := { s with heap := h₁ }) (T := "tuple_iterator") (.inr (.inr (.inr rfl))) (Walks.tuple (A := A.in1) hh s.heap.objs.size l hlt items) (fun j u st => st.1.typeIs) (k := n) (by omega) ⟨hit₁, hl₁⟩ (Heap.lt_size hoi) (Heap.lt_size hol) (fun h₂ tk hk => ?_) hz))
  have hrl : (items.toList.drop n).length = items.size - n := by rw [List.length_drop, Array.length_toList]
  show wpAny _ _ (if (items.toList.drop n).length < n + 1 - 1 - n then _ else _) _ _ _
  rw [if_neg (by rw [hrl]; omega)]
  show wpAny _ _ (newList ((items.toList.drop n).take ((items.toList.drop n).length - (n + 1 - 1 - n))) >>= fun d => pure (items.toList.take n ++ [d] ++ (items.toList.drop n).drop ((items.toList.drop n).length - (n + 1 - 1 - n)))) _ _ _
  have e1 : (items.toList.drop n).length - (n + 1 - 1 - n) = (items.toList.drop n).length := by omega
  rw [e1, List.take_length, List.drop_length]
  have he : ∀ b o, s.heap.get? b = some o → h₂.get? b = some o := fun b o e => hk b o (Nat.ne_of_lt (Heap.lt_size e)) (hs₁.extBut b o (Nat.ne_of_lt (Heap.lt_size e)) (Heap.get?_push_of_some _ e))
  refine wpAny_bind (wpAny_newObj_type (wpAny_pure ?_) (by show (items.toList.drop n).toArray.size ≤ _; rw [List.size_toArray, hrl]; omega))
  rw [List.append_nil]
  exact h h₂ tk he
section
variable {X : Cx} {E : EX} {pos : Pos}
def gStar (K : PySem.W.Frag) (n : Nat) (t : TGs) : TG := fun v σ H Q => ∃ a xs, v = .ref a ∧ SqT K H a xs ∧ n ≤ xs.length ∧ ∀ p, H p = none → t (xs.take n ++ [.ref p]) σ (upd H p (.lst (xs.drop n))) Q
theorem vals_take {vs : List V} {us : List Value} (r : Vals vs us) (n : Nat) : Vals (vs.take n) (us.take n) := by
  induction r generalizing n with
  | nil => rw [List.take_nil, List.take_nil]; exact .nil
  | cons r rr ih =>
    cases n with
    | zero => exact .nil
    | succ n => exact .cons r (ih n)
theorem vals_drop {vs : List V} {us : List Value} (r : Vals vs us) (n : Nat) : Vals (vs.drop n) (us.drop n) := by
  induction r generalizing n with
  | nil => rw [List.drop_nil, List.drop_nil]; exact .nil
  | cons r rr ih =>
    cases n with
    | zero => exact .cons r rr
    | succ n => exact ih n
theorem vals_app {vs vs' : List V} {us us' : List Value} (r : Vals vs us) (q : Vals vs' us') : Vals (vs ++ vs') (us ++ us') := by
  induction r with
  | nil => exact q
  | cons r rr ih => exact .cons r ih
theorem pg_star {es : List Expr} {k : Nat} {t : TGs} {n : Nat} (hc : X.calm = true) (h : PGs X es t) (hn : (assignEach es X.env).length = n + 1 := by rfl) (hst : (assignEach es X.env).findIdx? (·.1) = some n := by rfl) : PG X (.Tuple es k pos) (gStar X.K n t) := by
  refine ⟨fun pins s σ H v u Q I r hw => ?_⟩
  obtain ⟨a, xs, e1, hq, hl, hw⟩ := hw
  subst e1
  cases r
  obtain ⟨its, rv, ht, hz⟩ := I.tuple hq
  rw [assign_Tuple]
  refine wpAny_bind (wpAny_standAt ?_)
  unfold unpack
  rw [hn, hst]
  refine wpAny_bind (wpAny_holding (unpack_star ht (I.ok.hd hc) (by simp [← rv.length]; exact hl) (by simp [← rv.length]; exact hz) fun h' tk hk => ?_))
  have I1 : Inv X pins σ H { s with heap := h', toks := tk } := I.kept hk
  have hf : H h'.objs.size = none := I1.hok.fresh (Nat.le_refl _)
  have I2 : Inv X pins σ (upd H h'.objs.size (.lst (xs.drop n))) { s with heap := h'.push { cls := .type "list", data := .seq (its.toArray.toList.drop n).toArray }, toks := tk } :=
    I1.laid (t' := tk) (fun b u e => Heap.get?_push_of_some _ e) (Nat.le_refl _) ⟨by rw [List.length_drop]; omega, _, 0, vals_drop rv n, Heap.get?_push_size _ rfl⟩
  exact h.run pins _ σ _ (xs.take n ++ [.ref h'.objs.size]) _ Q I2 (vals_app (vals_take rv n) (.cons (show RelV (.ref h'.objs.size) (.ref h'.objs.size) from rfl) .nil)) (hw _ hf)
theorem pgs_star {e : Expr} {es : List Expr} {t : TG} {u : TGs} {p : Pos} (h1 : PG X e t) (h2 : PGs X es u)
    (hs : (assignEach (.Starred e p :: es) X.env).map (·.2) = assign e X.env :: (assignEach es X.env).map (·.2) := by rfl) : PGs X (.Starred e p :: es) (gCons t u) := by
  refine ⟨fun pins s σ H vs us Q I r h => ?_⟩
  obtain ⟨v, vr, e1, h⟩ := h
  subst e1
  cases r with
  | cons r rr =>
    rw [hs]
    refine assignInOrder_cons (thn (h1.run pins s σ H _ _ _ I r h) fun _ s1 ⟨σ1, H1, I1, q1⟩ => ?_)
    exact h2.run pins s1 σ1 H1 _ _ Q I1 rr q1
theorem gs_star {e : Expr} {p : Pos} {t : M.MG} {js : List Nat} (h1 : PG X e (tG (kxj X ϑ) t js)) (hs : (assignEach [.Starred e p] X.env).map (·.2) = [assign e X.env] := by rfl) :
    PGs X [.Starred e p] (tGs (kxj X ϑ) (M.tgCons t M.tgNil) (js ++ [])) := by
  refine PGs.imp (pgs_star h1 (gs_nil (ϑ := ϑ)) hs) fun vs s H Q h => ?_
  obtain ⟨m, S, f, ws, f', rs, rf, rv, e, q⟩ := h
  cases rv with
  | nil => cases e
  | cons r rr =>
    simp only [M.tgCons, Option.bind_eq_some_iff] at e
    obtain ⟨f1, e1, e2⟩ := e
    refine ⟨_, _, rfl, m, S, f, _, f1, rs, rf, r, e1, fun s1 rf1 l1 k1 => ?_⟩
    refine ⟨m, S, f1, _, f', rs, rf1, rr, e2, fun s2 rf2 l2 k2 => ?_⟩
    refine q s2 rf2 (l2.trans l1) fun j hj => ?_
    rw [k2 j fun z => hj (List.mem_append_right _ z), k1 j fun z => hj (List.mem_append_left _ z)]
end
namespace M
def asgStar (g : ME) (n : Nat) (t : MGs) : MS := thenS g fun w f S => match w with
  | .tup ws => if n ≤ ws.length then (match t (ws.take n ++ [.ref S.length]) f (S ++ [.lst (ws.drop n)]) with
    | some f' => .ok (.next f') (S ++ [.lst (ws.drop n)])
    | none => .no) else .no
  | _ => .no
end M
section
variable {X : Cx} {E : EX} {pos : Pos}
theorem s_asgStar {es : List Expr} {e : Expr} {k n : Nat} {p2 : Pos} {g : ME} {t : M.MGs} {js : List Nat} (rm : Rc X) (he : PE X e (tE (kxj X ϑ) E g)) (h : PGs X es (tGs (kxj X ϑ) t js)) (hn : (assignEach es X.env).length = n + 1 := by rfl) (hst : (assignEach es X.env).findIdx? (·.1) = some n := by rfl)
    (hs : swapsWithSole [.Tuple es k p2] e pos.line X.env = pure false := by rfl) (hw : swappedStores [.Tuple es k p2] e X.env = pure none := by rfl) (h1 : (assignEach [.Tuple es k p2] X.env).map (·.2) = [assign (.Tuple es k p2) X.env] := by rfl) :
    PS X (.Assign [.Tuple es k p2] e pos) (tS (kxj X ϑ) E (M.asgStar g n t)) := by
  refine PS.imp (ps_asg he (pg_star rm.calm h hn hst) hs hw h1) fun D s H q => tM.imp (tS.first (R := RV X.K) q) fun v H1 ⟨m, S, f, w, rs, rf, rv, q⟩ => ?_
  cases rv with
  | tup hq rvs =>
    dsimp only at q
    split at q
    · rename_i hl
      split at q
      · rename_i f' e
        refine ⟨_, _, rfl, hq, by rw [← rvs.length]; exact hl, fun p hp => ?_⟩
        obtain ⟨b1, b2, b3, b4⟩ := rs.newList hp (rvs.drop n)
        exact ⟨m ++ [p], _, f, _, f', b3, rf.mono b1 b2, ((rvs.take n).mono b1 b2).append (.one b4), e, fun s' rf' _ _ => (q.mono b1 b2).next b3 rf'⟩
      · exact False.elim q
    · exact False.elim q
  | _ => exact False.elim q
end
theorem ws_star (g : ME) (n : Nat) (t : M.MGs) (f : Fr) (S : Store) (P : PstS) : WpS (M.asgStar g n t f S) P = Wp (g f S) ⟨fun w S => match w with
    | .tup ws => n ≤ ws.length ∧ K.tg (t (ws.take n ++ [.ref S.length]) f (S ++ [.lst (ws.drop n)])) (S ++ [.lst (ws.drop n)]) P
    | _ => False, fun e S => P.ex e f S⟩ := by
  unfold M.asgStar M.thenS
  cases g f S with
  | ok w S1 =>
    cases w with
    | tup ws =>
      show WpS (if n ≤ ws.length then _ else _) P = (n ≤ ws.length ∧ _)
      by_cases h : n ≤ ws.length
      · rw [if_pos h, eq_true h, true_and]
        cases t (ws.take n ++ [.ref S1.length]) f (S1 ++ [.lst (ws.drop n)]) <;> exact via rfl
      · rw [if_neg h, eq_false h, false_and]
        rfl
    | _ => exact via rfl
  | ex e S => exact via rfl
  | no => exact via rfl
namespace K
def sr (n : Nat) (t : M.MGs) (f : Fr) (P : PstS) : Pst W := ⟨fun w S => match w with
    | .tup ws => n ≤ ws.length ∧ K.tg (t (ws.take n ++ [.ref S.length]) f (S ++ [.lst (ws.drop n)])) (S ++ [.lst (ws.drop n)]) P
    | _ => False, fun e S => P.ex e f S⟩
end K
theorem ws_asgStar (g : ME) (n : Nat) (t : M.MGs) (f : Fr) (S : Store) (P : PstS) : WpS (M.asgStar g n t f S) P = Wp (g f S) (K.sr n t f P) := ws_star g n t f S P
theorem k_sr (n : Nat) (t : M.MGs) (f : Fr) (P : PstS) (ws : List W) (S : Store) : (K.sr n t f P).ok (.tup ws) S = (n ≤ ws.length ∧ K.tg (t (ws.take n ++ [.ref S.length]) f (S ++ [.lst (ws.drop n)])) (S ++ [.lst (ws.drop n)]) P) := via rfl
end Wo
set_option autoImplicit true
set_option maxRecDepth 100000
set_option maxHeartbeats 4000000
namespace Wo
open PySem L2
/-! W25: repr of data in which empty dicts stand, too. -/
def toR (S : Store) : Nat → W → Option PyData
  | 0, _ => none
  | n + 1, w => match w with
    | .non => some .none
    | .bl b => some (.bool b)
    | .int i => some (.int i)
    | .str x => some (.str x)
    | .ty _ => none
    | .tup xs => (xs.mapM (toR S n)).map .tuple
    | .fl xs => (xs.mapM (toR S n)).map .list
    | .ref r => match S[r]? with
      | some (.lst xs) => (xs.mapM (toR S n)).map .list
      | some (.dK []) => some (.dict [])
      | _ => none
def rr : Nat := 20
structure Shw (P : Program) (w : World) (h : Heap) (u : Value) (d : PyData) : Prop where
  ex : ∃ as bs, Reads h u d as ∧ ReadAtMost h d.depth bs ∧ ReprK P w bs h d.depth u d.shown
structure ShwAll (P : Program) (w : World) (h : Heap) (us : List Value) (ds : List PyData) : Prop where
  ex : ∃ as bs, ReadsAll h us ds as ∧ ReadAtMost h (PyData.depthAll ds) bs ∧ ReprAllK P w bs h (PyData.depthAll ds) us (PyData.shownAll ds)
section
variable {P : Program} {w : World} {h : Heap}
theorem shwAll_nil : ShwAll P w h [] [] := by
  refine ⟨[], [], .nil, fun b z => absurd z List.not_mem_nil, ?_⟩
  simp only [PyData.shownAll]
  exact .nil
theorem shwAll_cons {u : Value} {us : List Value} {d : PyData} {ds : List PyData} (x : Shw P w h u d) (y : ShwAll P w h us ds) : ShwAll P w h (u :: us) (d :: ds) := by
  obtain ⟨a1, b1, r1, m1, k1⟩ := x.ex
  obtain ⟨a2, b2, r2, m2, k2⟩ := y.ex
  have le1 : d.depth ≤ PyData.depthAll (d :: ds) := by simp only [PyData.depthAll]; exact Nat.le_max_left _ _
  have le2 : PyData.depthAll ds ≤ PyData.depthAll (d :: ds) := by simp only [PyData.depthAll]; exact Nat.le_max_right _ _
  refine ⟨a1 ++ a2, b1 ++ b2, .cons r1 r2, (m1.mono le1).append (m2.mono le2), ?_⟩
  simp only [PyData.shownAll]
  exact .cons ((k1.more fun b z => List.mem_append_left _ z).level_le le1) (k2.more_le (fun b z => List.mem_append_right _ z) le2)
theorem shw_list {a : Addr} {o : Obj} {vs : List Value} {n : Nat} {ds : List PyData} (h1 : h.get? a = some o) (h2 : o.cls = .type "list") (h3 : o.data = .seq vs.toArray n) (y : ShwAll P w h vs ds) : Shw P w h (.ref a) (.list ds) := by
  obtain ⟨a2, b2, r2, m2, k2⟩ := y.ex
  have r : Reads h (.ref a) (.list ds) (a :: a2) := .list h1 h2 h3 r2
  have dl : PyData.depthAll ds < (PyData.list ds).depth := by simp only [PyData.depth]; omega
  have hna : a ∉ b2 := not_mem_of_deeper r dl m2
  refine ⟨a :: a2, a :: b2, r, ReadAtMost.cons r (Nat.le_of_lt dl) m2, ?_⟩
  simp only [PyData.depth, PyData.shown]
  cases vs with
  | nil =>
    cases r2
    simp only [PyData.shownAll, listText_nil]
    exact ReprK.listEmpty h1 h2 h3
  | cons x l => exact ReprK.list h1 h2 h3 hna (by simpa using k2.length_eq) fun i y e => k2.item i y (by simpa using e)
theorem shw_tup {a : Addr} {o : Obj} {vs : List Value} {n : Nat} {ds : List PyData} (h1 : h.get? a = some o) (h2 : o.cls = .type "tuple") (h3 : o.data = .seq vs.toArray n) (y : ShwAll P w h vs ds) : Shw P w h (.ref a) (.tuple ds) := by
  obtain ⟨a2, b2, r2, m2, k2⟩ := y.ex
  have r : Reads h (.ref a) (.tuple ds) a2 := .tuple h1 h2 h3 r2
  have dl : PyData.depthAll ds < (PyData.tuple ds).depth := by simp only [PyData.depth]; omega
  have hna : a ∉ b2 := not_mem_of_deeper r dl m2
  refine ⟨a2, a :: b2, r, ReadAtMost.cons r (Nat.le_of_lt dl) m2, ?_⟩
  simp only [PyData.depth, PyData.shown]
  exact ReprK.tuple h1 h2 h3 hna k2
theorem shw_dict {a : Addr} {o : Obj} {n : Nat} (h1 : h.get? a = some o) (h2 : o.cls = .type "dict") (h3 : o.data = .dict #[] n) (hs : (a == sysModules) = false) : Shw P w h (.ref a) (.dict []) := by
  have r : Reads h (.ref a) (.dict []) [a] := .dict (as := []) (bs := []) h1 h2 h3 .nil .nil
  refine ⟨[a], [a], r, fun b hb => ⟨.dict [], [a], by rw [List.mem_singleton.mp hb]; exact r, Nat.le_refl _⟩, ?_⟩
  have k := ReprK.dict (prog := P) (w := w) (as := []) (d := 0) (ps := []) h1 h2 h3 hs (by simp) .nil
  simp only [PyData.depth, PyData.depthKv, PyData.shown, PyData.shownKv]
  exact k
end
section
variable {X : Cx} {pins : List (Addr × Obj)} {σ : L2.St} {H : Hp} {s : Shared}
def InR (S : Store) (n : Nat) (w : W) (d : PyData) : Prop := toR S n w = some d ∧ d.showable = true ∧ d.shown.length ≤ sizeLine
theorem show_all {ds : List PyData} (h : PyData.showableAll ds = true) : ∀ d ∈ ds, d.showable = true := by
  induction ds with
  | nil => exact fun d hd => absurd hd List.not_mem_nil
  | cons e es ih =>
    simp only [PyData.showableAll, Bool.and_eq_true] at h
    intro d hd
    rcases List.mem_cons.mp hd with rfl | hd
    · exact h.1
    · exact ih h.2 d hd
theorem shown_mem {ds : List PyData} {d : PyData} (h : d ∈ ds) : d.shown ∈ PyData.shownAll ds := by
  induction ds with
  | nil => exact absurd h List.not_mem_nil
  | cons e es ih =>
    simp only [PyData.shownAll]
    rcases List.mem_cons.mp h with rfl | h
    · exact List.mem_cons_self ..
    · exact List.mem_cons_of_mem _ (ih h)
theorem shw_items {K : PySem.W.Frag} {m : List Addr} {P : Program} {w : World} {h : Heap} {F : W → PyData → Prop} (hF : ∀ x d v u, F x d → RV K m H x v → RelV v u → d.showable = true → d.shown.length ≤ sizeLine → Shw P w h u d) :
    ∀ {xs : List W} {ds : List PyData} {vs : List V} {us : List Value}, Paired F xs ds → RVs K m H xs vs → Vals vs us → (∀ d ∈ ds, d.showable = true ∧ d.shown.length ≤ sizeLine) → ShwAll P w h us ds
  | _, _, _, _, .nil, .nil, .nil, _ => shwAll_nil
  | _, _, _, _, .cons p ps, .cons r rr, .cons q qs, hd => shwAll_cons (hF _ _ _ _ p r q (hd _ (List.mem_cons_self ..)).1 (hd _ (List.mem_cons_self ..)).2) (shw_items hF ps rr qs fun d h => hd d (List.mem_cons_of_mem _ h))
theorem toR_shw (I : Inv X pins σ H s) {m : List Addr} {S : Store} (rs : RS (kxj X ϑ) m S H) : ∀ (n : Nat) (w : W) (d : PyData) (v : V) (u : Value), toR S n w = some d → RV X.K m H w v → RelV v u → d.showable = true → d.shown.length ≤ sizeLine → Shw X.prog X.w s.heap u d
  | 0, _, _, _, _, h, _, _, _, _ => nomatch h
  | n + 1, w, d, v, u, h, r, q, hs, hz => by
    cases r with
    | non =>
      simp only [toR, Option.some.injEq] at h
      subst h
      cases q
      exact ⟨[], [], .none, fun b z => absurd z List.not_mem_nil, by simp only [PyData.shown]; exact .of_is ReprIs.none _ _ _⟩
    | bl b =>
      simp only [toR, Option.some.injEq] at h
      subst h
      cases q
      exact ⟨[], [], .bool b, fun b z => absurd z List.not_mem_nil, by simp only [PyData.shown]; exact .of_is (ReprIs.bool b) _ _ _⟩
    | int i =>
      simp only [toR, Option.some.injEq] at h
      subst h
      obtain ⟨t, rfl⟩ := q
      exact ⟨[], [], .int i t, fun b z => absurd z List.not_mem_nil, by simp only [PyData.shown]; exact .of_is (ReprIs.int t (by simpa [PyData.showable] using hs)) _ _ _⟩
    | str x =>
      simp only [toR, Option.some.injEq] at h
      subst h
      obtain ⟨t, rfl⟩ := q
      exact ⟨[], [], .str x t, fun b z => absurd z List.not_mem_nil, by simp only [PyData.shown]; exact .of_is (ReprIs.str x t (by simpa only [PyData.shown] using hz)) _ _ _⟩
    | ty x => simp [toR] at h
    | tup hq rv =>
      simp only [toR, Option.map_eq_some_iff] at h
      obtain ⟨ds, h1, rfl⟩ := h
      cases q
      obtain ⟨its, rl, ⟨o, ho, hc, k, hd⟩, _⟩ := I.tuple hq
      simp only [PyData.showable] at hs
      simp only [PyData.shown] at hz
      exact shw_tup ho hc hd (shw_items (F := fun w d => toR S n w = some d) (fun x d v u e r q a b => toR_shw I rs n x d v u e r q a b) (mapM_all (fun _ _ e => e) h1) rv rl fun d hd => ⟨show_all hs d hd, Nat.le_trans (tupleText_mem_le (shown_mem hd)) hz⟩)
    | fl hq rv =>
      simp only [toR, Option.map_eq_some_iff] at h
      obtain ⟨ds, h1, rfl⟩ := h
      cases q
      obtain ⟨its, rl, ⟨o, k, ho, hc, _, hd⟩, _⟩ := I.list hq.l
      simp only [PyData.showable] at hs
      simp only [PyData.shown] at hz
      exact shw_list ho hc hd (shw_items (F := fun w d => toR S n w = some d) (fun x d v u e r q a b => toR_shw I rs n x d v u e r q a b) (mapM_all (fun _ _ e => e) h1) rv rl fun d hd => ⟨show_all hs d hd, Nat.le_trans (listText_mem_le (shown_mem hd)) hz⟩)
    | ref hr =>
      simp only [toR] at h
      split at h
      · rename_i xs e
        simp only [Option.map_eq_some_iff] at h
        obtain ⟨ds, h1, rfl⟩ := h
        cases q
        obtain ⟨vs, e1, rv⟩ := rs.ob _ _ _ e hr
        obtain ⟨its, rl, ⟨o, k, ho, hc, _, hd⟩, _⟩ := I.list (SqL.of e1)
        simp only [PyData.showable] at hs
        simp only [PyData.shown] at hz
        exact shw_list ho hc hd (shw_items (F := fun w d => toR S n w = some d) (fun x d v u e r q a b => toR_shw I rs n x d v u e r q a b) (mapM_all (fun _ _ e => e) h1) rv rl fun d hd => ⟨show_all hs d hd, Nat.le_trans (listText_mem_le (shown_mem hd)) hz⟩)
      · rename_i e
        cases h
        cases q
        obtain ⟨vs, e1, rv⟩ := rs.ob _ _ _ e hr
        cases rv
        obtain ⟨_, hy, vs, rl, o, es, ep, ho, hc, hd, _, hp, _⟩ := dk_of I.hok e1
        cases rl
        have e0 : es = #[] := by
          have := hp.length
          simpa using this
        subst e0
        exact shw_dict ho hc.1 hd hy
      · cases h
end
namespace M
def repr2W : List W → Store → Rs W := fun ws S => match ws with
  | [w] => match toR S rr w with
    | some d => if d.showable = true ∧ d.shown.length ≤ lim ∧ d.depth ≤ 30 then .ok (.str d.shown) S else .no
    | none => .no
  | _ => .no
end M
section
variable {P : Program} {w : World} {A : Around} {E : Value → Shared → Prop} {s : Shared} {Q : Value → Shared → Prop} {a : Addr} {o : Obj} {n : Nat}
theorem repr_tupS {vs : List Value} {ds : List PyData} (h1 : s.heap.get? a = some o) (h2 : o.cls = .type "tuple") (h3 : o.data = .seq vs.toArray n) (y : ShwAll P w s.heap vs ds) (hg : A.guards = some []) (hu : A.units + 40 < cLine) (hd : (PyData.tuple ds).depth ≤ 30)
    (hQ : ∀ h' u tk, (∀ b o, s.heap.get? b = some o → h'.get? b = some o) → Q (.str (PyData.shown (.tuple ds)) u) { s with heap := h', toks := tk }) (hz : (PyData.shown (.tuple ds)).length ≤ sizeLine) : wpAny (model P w) A (call (.builtin "repr") [.ref a]) Q E s := by
  obtain ⟨a2, b2, r2, m2, k2⟩ := y.ex
  have r : Reads s.heap (.ref a) (.tuple ds) a2 := .tuple h1 h2 h3 r2
  have dl : PyData.depthAll ds < (PyData.tuple ds).depth := by simp only [PyData.depth]; omega
  have hna : a ∉ b2 := not_mem_of_deeper r dl m2
  simp only [PyData.shown] at hQ hz
  exact call_repr_slot (by omega) ⟨o, h1, h2⟩ F.slot_tuple_repr (call_tuple_reprK h1 h2 h3 hna k2 (A := A.in1) hg (fun b _ => Clear.nil b) (by show A.units + 1 + _ < cLine; omega) (fun _ _ e => e) (fun h' u tk hk => ⟨_, _, rfl, hQ h' u tk hk⟩) hz)
theorem repr_lstS {vs : List Value} {ds : List PyData} (h1 : s.heap.get? a = some o) (h2 : o.cls = .type "list") (h3 : o.data = .seq vs.toArray n) (y : ShwAll P w s.heap vs ds) (hg : A.guards = some []) (hu : A.units + 40 < cLine) (hd : (PyData.list ds).depth ≤ 30)
    (hQ : ∀ h' u tk, (∀ b o, s.heap.get? b = some o → h'.get? b = some o) → Q (.str (PyData.shown (.list ds)) u) { s with heap := h', toks := tk }) (hz : (PyData.shown (.list ds)).length ≤ sizeLine) : wpAny (model P w) A (call (.builtin "repr") [.ref a]) Q E s := by
  obtain ⟨a2, b2, r2, m2, k2⟩ := y.ex
  have r : Reads s.heap (.ref a) (.list ds) (a :: a2) := .list h1 h2 h3 r2
  have dl : PyData.depthAll ds < (PyData.list ds).depth := by simp only [PyData.depth]; omega
  have hna : a ∉ b2 := not_mem_of_deeper r dl m2
  simp only [PyData.shown] at hQ hz
  refine call_repr_slot (by omega) ⟨o, h1, h2⟩ F.slot_list_repr.toG ?_
  cases vs with
  | nil =>
    cases r2
    simp only [PyData.shownAll, listText_nil] at hQ
    exact call_list_repr_empty ⟨o, h1, h2⟩ h1 h3 ⟨_, _, rfl, hQ s.heap _ _ fun _ _ e => e⟩
  | cons x l => exact call_list_reprK h1 h2 h3 hna (by simpa using k2.length_eq) (fun i y e => k2.item i y (by simpa using e)) (A := A.in1) hg (fun b _ => Clear.nil b) (by show A.units + 1 + _ < cLine; omega) (fun _ _ e => e) (fun h' u tk hk => ⟨_, _, rfl, hQ h' u tk hk⟩) hz
theorem repr_dctS (h1 : s.heap.get? a = some o) (h2 : o.cls = .type "dict") (h3 : o.data = .dict #[] n) (hs : (a == sysModules) = false) (hg : A.guards = some []) (hu : A.units + 40 < cLine)
    (hQ : ∀ h' u tk, (∀ b o, s.heap.get? b = some o → h'.get? b = some o) → Q (.str (PyData.shown (.dict [])) u) { s with heap := h', toks := tk }) (hz : (PyData.shown (.dict [])).length ≤ sizeLine) : wpAny (model P w) A (call (.builtin "repr") [.ref a]) Q E s := by
  simp only [PyData.shown, PyData.shownKv] at hQ hz
  exact call_repr_slot (by omega) ⟨o, h1, h2⟩ F.slot_dict_repr (call_dict_reprK (as := []) (d := 0) (ps := []) h1 h2 h3 hs (by simp) .nil (A := A.in1) hg (fun b _ => Clear.nil b) (by show A.units + 1 + _ < cLine; omega) (fun _ _ e => e) (fun h' u tk hk => ⟨_, _, rfl, hQ h' u tk hk⟩) hz)
end
theorem c_repr2 {X : Cx} {ϑ : Jx X.K} {E : XK} (rm : Rm X) : CallR X (.builtin "repr") (rWs (kxj X ϑ) E M.repr2W) := by
  intro pins s σ H xs us Q I r h
  obtain ⟨m, S, ws, rs, rv, q⟩ := h
  unfold M.repr2W at q
  split at q
  · rename_i w
    obtain ⟨v, rfl, r1⟩ := rvs1 rv
    obtain ⟨u, rfl, ru⟩ := vals1 r
    split at q
    · rename_i d hd
      split at q
      · rename_i hc
        have hq : Q (.str d.shown) H := q.here rs (.str _)
        have hz := lim_line hc.2.1
        have hu : X.A.units + 40 < cLine := by have := rm.un; omega
        have fin : ∀ h' u tk, (∀ b o, s.heap.get? b = some o → h'.get? b = some o) → EP X pins σ Q (.str d.shown u) { s with heap := h', toks := tk } := fun h' u tk hk => ⟨.str _, H, I.kept hk, ⟨_, rfl⟩, hq⟩
        obtain ⟨hsh, _, hdp⟩ := hc
        cases r1 with
        | non =>
          cases hd
          cases ru
          exact PySem.P.repr_of_none ⟨.str _, H, I.tok _, ⟨_, rfl⟩, hq⟩
        | bl b =>
          cases hd
          cases ru
          exact PySem.P.repr_of_bool ⟨.str _, H, I.tok _, ⟨_, rfl⟩, hq⟩
        | int i =>
          cases hd
          obtain ⟨t, rfl⟩ := ru
          simp only [PyData.showable, decide_eq_true_eq] at hsh
          exact PySem.P.repr_of_int hsh ⟨.str _, H, I.tok _, ⟨_, rfl⟩, hq⟩
        | str x =>
          cases hd
          obtain ⟨t, rfl⟩ := ru
          exact PySem.P.repr_of_str ⟨.str _, H, I.tok _, ⟨_, rfl⟩, hq⟩ hz
        | ty x => cases hd
        | tup hs rvs =>
          have h : (List.mapM (toR S 19) _).map PyData.tuple = some d := hd
          simp only [Option.map_eq_some_iff] at h
          obtain ⟨ds, h1, rfl⟩ := h
          cases ru
          obtain ⟨its, rl, ⟨o, ho, hc, k, hdat⟩, _⟩ := I.tuple hs
          refine repr_tupS ho hc hdat (shw_items (F := fun w d => toR S 19 w = some d) (fun x d v u e r q a b => toR_shw I rs 19 x d v u e r q a b) (mapM_all (fun _ _ e => e) h1) rvs rl fun d hd => ?_) rm.g hu hdp fin hz
          simp only [PyData.showable] at hsh
          simp only [PyData.shown] at hz
          exact ⟨show_all hsh d hd, Nat.le_trans (tupleText_mem_le (shown_mem hd)) hz⟩
        | fl hs rvs =>
          have h : (List.mapM (toR S 19) _).map PyData.list = some d := hd
          simp only [Option.map_eq_some_iff] at h
          obtain ⟨ds, h1, rfl⟩ := h
          cases ru
          obtain ⟨its, rl, ⟨o, k, ho, hc, _, hdat⟩, _⟩ := I.list hs.l
          refine repr_lstS ho hc hdat (shw_items (F := fun w d => toR S 19 w = some d) (fun x d v u e r q a b => toR_shw I rs 19 x d v u e r q a b) (mapM_all (fun _ _ e => e) h1) rvs rl fun d hd => ?_) rm.g hu hdp fin hz
          simp only [PyData.showable] at hsh
          simp only [PyData.shown] at hz
          exact ⟨show_all hsh d hd, Nat.le_trans (listText_mem_le (shown_mem hd)) hz⟩
        | @ref rf ad hr =>
          have h : (match S[rf]? with
            | some (.lst xs) => (xs.mapM (toR S 19)).map PyData.list
            | some (.dK []) => some (.dict [])
            | _ => none) = some d := hd
          split at h
          · rename_i xs e
            simp only [Option.map_eq_some_iff] at h
            obtain ⟨ds, h1, rfl⟩ := h
            cases ru
            obtain ⟨vs, e1, rvs⟩ := rs.ob _ _ _ e hr
            obtain ⟨its, rl, ⟨o, k, ho, hc, _, hdat⟩, _⟩ := I.list (SqL.of e1)
            refine repr_lstS ho hc hdat (shw_items (F := fun w d => toR S 19 w = some d) (fun x d v u e r q a b => toR_shw I rs 19 x d v u e r q a b) (mapM_all (fun _ _ e => e) h1) rvs rl fun d hd => ?_) rm.g hu hdp fin hz
            simp only [PyData.showable] at hsh
            simp only [PyData.shown] at hz
            exact ⟨show_all hsh d hd, Nat.le_trans (listText_mem_le (shown_mem hd)) hz⟩
          · rename_i e
            cases h
            cases ru
            obtain ⟨vs, e1, rv⟩ := rs.ob _ _ _ e hr
            cases rv
            obtain ⟨_, hy, vs, rl, o, es, ep, ho, hc, hd, _, hp, _⟩ := dk_of I.hok e1
            cases rl
            have e0 : es = #[] := by
              have := hp.length
              simpa using this
            subst e0
            exact repr_dctS ho hc.1 hd hy rm.g hu fin hz
          · cases h
      · exact False.elim q
    · exact False.elim q
  · exact False.elim q
end Wo
set_option autoImplicit true
set_option maxRecDepth 100000
set_option maxHeartbeats 4000000
namespace Wo
open PySem L2 PySem.SeqAt
open AutoSeq1 (wpAny_loadPart')
open MeetsSeq
/-! W26: anything == a text; rows == rows of None. -/
section
variable {A : Around} {s : Shared} {l : Addr} {dd : Option Addr} {es : Array DictEntry} {n : Nat} {sl : Array (Option Value)}
theorem deq_none (l : Addr) (dd : Option Addr) (es : Array DictEntry) (n : Nat) (sl : Array (Option Value)) : Meets (Builtin.«dict.__eq__» ⟨[.ref l, .none], []⟩) (fun _ R s => s.heap.get? l = some ⟨.type "dict", dd, .dict es n, sl⟩ ∧ R (.ok (.ret .notImplemented)) s) :=
  .of_wp fun prog w A R s h => by
    obtain ⟨hp, g, d, tk, os⟩ := s
    obtain ⟨hl, h⟩ := h
    have f1 := F.sub_NoneType_dict
    wp_walk using wpAny_loadPart' hl
    exact ⟨_, rfl, h⟩
theorem deq_str (l : Addr) (dd : Option Addr) (es : Array DictEntry) (n : Nat) (sl : Array (Option Value)) (b : Str) (u : Tok) : Meets (Builtin.«dict.__eq__» ⟨[.ref l, .str b u], []⟩) (fun _ R s => s.heap.get? l = some ⟨.type "dict", dd, .dict es n, sl⟩ ∧ R (.ok (.ret .notImplemented)) s) :=
  .of_wp fun prog w A R s h => by
    obtain ⟨hp, g, d, tk, os⟩ := s
    obtain ⟨hl, h⟩ := h
    have f1 := F.sub_str_dict
    wp_walk using wpAny_loadPart' hl
    exact ⟨_, rfl, h⟩
theorem dne_str (l : Addr) (dd : Option Addr) (es : Array DictEntry) (n : Nat) (sl : Array (Option Value)) (b : Str) (u : Tok) : Meets (Builtin.«dict.__ne__» ⟨[.ref l, .str b u], []⟩) (fun _ R s => s.heap.get? l = some ⟨.type "dict", dd, .dict es n, sl⟩ ∧ R (.ok (.ret .notImplemented)) s) :=
  .of_wp fun prog w A R s h => by
    obtain ⟨hp, g, d, tk, os⟩ := s
    obtain ⟨hl, h⟩ := h
    have f1 := F.sub_str_dict
    wp_walk using wpAny_loadPart' hl
    exact ⟨_, rfl, h⟩
theorem seq_str_d (b : Str) (u : Tok) (l : Addr) (dd : Option Addr) (es : Array DictEntry) (n : Nat) (sl : Array (Option Value)) : Meets (Builtin.«str.__eq__» ⟨[.str b u, .ref l], []⟩) (fun _ R s => s.heap.get? l = some ⟨.type "dict", dd, .dict es n, sl⟩ ∧ R (.ok (.ret .notImplemented)) s) :=
  .of_wp fun prog w A R s h => by
    obtain ⟨hp, g, d, tk, os⟩ := s
    obtain ⟨hl, h⟩ := h
    wp_walk using wpAny_loadPart' hl, wpAny_load hl
    exact ⟨_, rfl, h⟩
theorem sne_str_d (b : Str) (u : Tok) (l : Addr) (dd : Option Addr) (es : Array DictEntry) (n : Nat) (sl : Array (Option Value)) : Meets (Builtin.«str.__ne__» ⟨[.str b u, .ref l], []⟩) (fun _ R s => s.heap.get? l = some ⟨.type "dict", dd, .dict es n, sl⟩ ∧ R (.ok (.ret .notImplemented)) s) :=
  .of_wp fun prog w A R s h => by
    obtain ⟨hp, g, d, tk, os⟩ := s
    obtain ⟨hl, h⟩ := h
    wp_walk using wpAny_loadPart' hl, wpAny_load hl
    exact ⟨_, rfl, h⟩
theorem rc_dict_none (ho : s.heap.get? l = some ⟨.type "dict", dd, .dict es n, sl⟩) (hu : A.units < cLine) : RcAt A s (.ref l) .none false := fun prog w E Q h =>
  rc_eq_decline_or (k := false) ⟨_, ho, rfl⟩ rfl (by decide) F.sub_NoneType_dict F.slot_dict_eq F.slot_NoneType_eq_refl
    (fun _ hq => call_meets F.slot_dict_eq ⟨_, ho, rfl⟩ F.entry_dict_eq (F.args_dict_eq_2 _ _) (deq_none l dd es n sl) ⟨ho, hq⟩)
    (fun _ hq => call_gives F.slot_NoneType_eq_refl rfl F.entry_NoneType_eq (F.args_NoneType_eq_2 _ _) (NoneType___eq___none_ref_0 l) hq)
    (fun _ hq => wpAny_of_eq (rfl : isSame (.ref l) .none = pure false) hq) (.inr hu) h
theorem eqAt_dict_none (ho : s.heap.get? l = some ⟨.type "dict", dd, .dict es n, sl⟩) (hu : A.units < cLine) : EqAt A s (.ref l) .none false := fun prog w E Q h => by
  unfold eqBool
  refine wpAny_holding ?_
  refine wpAny_ite_split (fun hab => absurd (eq_of_beq hab) nofun) (fun _ => ?_)
  exact wpAny_bind (rc_dict_none ho hu prog w E _ (wpAny_truthy_bool h))
theorem rc_dict_str (b : Str) (u : Tok) (ho : s.heap.get? l = some ⟨.type "dict", dd, .dict es n, sl⟩) (hu : A.units < cLine) : RcAt A s (.ref l) (.str b u) false := fun prog w E Q h =>
  rc_eq_decline_or (k := false) ⟨_, ho, rfl⟩ (typeIs_str s b u) (by decide) F.sub_str_dict F.slot_dict_eq F.slot_str_eq_refl
    (fun _ hq => call_meets F.slot_dict_eq ⟨_, ho, rfl⟩ F.entry_dict_eq (F.args_dict_eq_2 _ _) (deq_str l dd es n sl b u) ⟨ho, hq⟩)
    (fun _ hq => call_meets F.slot_str_eq_refl (typeIs_str s b u) F.entry_str_eq (F.args_str_eq_2 _ _) (seq_str_d b u l dd es n sl) ⟨ho, hq⟩)
    (fun _ hq => wpAny_of_eq (rfl : isSame (.ref l) (.str b u) = pure false) hq) (.inr hu) h
theorem rcn_dict_str (b : Str) (u : Tok) (ho : s.heap.get? l = some ⟨.type "dict", dd, .dict es n, sl⟩) (hu : A.units < cLine) : RcNeAt A s (.ref l) (.str b u) true := fun prog w E Q h =>
  rc_ne_decline_or (k := false) ⟨_, ho, rfl⟩ (typeIs_str s b u) (by decide) F.sub_str_dict F.slot_dict_ne F.slot_str_ne_refl
    (fun _ hq => call_meets F.slot_dict_ne ⟨_, ho, rfl⟩ F.entry_dict_ne (F.args_dict_ne_2 _ _) (dne_str l dd es n sl b u) ⟨ho, hq⟩)
    (fun _ hq => call_meets F.slot_str_ne_refl (typeIs_str s b u) F.entry_str_ne (F.args_str_ne_2 _ _) (sne_str_d b u l dd es n sl) ⟨ho, hq⟩)
    (fun _ hq => wpAny_of_eq (rfl : isSame (.ref l) (.str b u) = pure false) hq) (.inr hu) h
end
namespace M
/-- a thing of which it is known what kind it is -/
def plain (S : Store) (w : W) : Bool := match w with
  | .ty _ => false
  | .ref r => match S[r]? with
    | some (.lst _) => true
    | some (.dK _) => true
    | _ => false
  | _ => true
def isNon : W → Bool
  | .non => true
  | _ => false
def isStr : W → Bool
  | .str _ => true
  | _ => false
def isEq2 (a b : W) (S : Store) : Option Bool := match a, b with
  | .str x, .str y => some (decide (x = y))
  | a, .str _ => if plain S a then some false else none
  | .tup xs, .tup ys => if ys.all isNon = true ∧ xs.all (plain S) = true then some (xs.all isNon && decide (xs.length = ys.length)) else isEq (.tup xs) (.tup ys) S
  | .ref r, .ref q => match S[r]?, S[q]? with
    | some (.lst xs), some (.lst ys) => if ys.all isNon = true ∧ xs.all (plain S) = true then some (xs.all isNon && decide (xs.length = ys.length)) else isEq (.ref r) (.ref q) S
    | _, _ => isEq (.ref r) (.ref q) S
  | a, b => isEq a b S
def eq2W : G2 := fun a b S => match isEq2 a b S with
  | some k => .ok (.bl k) S
  | none => .no
def ne2W : G2 := fun a b S => match isEq2 a b S with
  | some k => .ok (.bl (!k)) S
  | none => .no
end M
section
variable {X : Cx} {pins : List (Addr × Obj)} {σ : L2.St} {H : Hp} {s : Shared}
theorem dict_obj (I : Inv X pins σ H s) {a : Addr} {kvs : List (Key × V)} (e : H a = some (.dK kvs)) : ∃ dd es n sl, s.heap.get? a = some ⟨.type "dict", dd, .dict es n, sl⟩ := by
  obtain ⟨_, hy, vs, rl, o, es, ep, ho, hc, hd, _⟩ := dk_of I.hok e
  obtain ⟨c, dd, dt, sl⟩ := o
  have hc' : c = .type "dict" := hc.1
  have hd' : dt = .dict es ep := hd
  subst hc'
  subst hd'
  exact ⟨dd, es, ep, sl, ho⟩
/-- a plain thing against None -/
theorem eqAt_non (I : Inv X pins σ H s) {m : List Addr} {S : Store} (rs : RS (kxj X ϑ) m S H) {A : Around} (hu : A.units + 10 < cLine) {w : W} {v : V} {u : Value} (r : RV X.K m H w v) (q : RelV v u) (hp : M.plain S w = true) : EqAt A s u .none (M.isNon w) := by
  cases r with
  | non =>
    cases q
    exact EqAt.same _
  | bl b =>
    cases q
    exact EqAt.bool_none b
  | int i =>
    obtain ⟨t, rfl⟩ := q
    exact EqAt.int_none i t
  | str x =>
    obtain ⟨t, rfl⟩ := q
    exact EqAt.str_none x t
  | ty x => cases hp
  | tup hq rv =>
    cases q
    obtain ⟨its, rl, ht, _⟩ := I.tuple hq
    exact EqAt.tuple_none (items := its.toArray) ht (by omega)
  | fl hq rv =>
    cases q
    obtain ⟨its, rl, ht, _⟩ := I.list hq.l
    exact EqAt.list_none ht.isList (by omega)
  | @ref rf a hr =>
    cases q
    cases e : S[rf]? with
    | none =>
      unfold M.plain at hp
      simp only [e] at hp
      cases hp
    | some o =>
      cases o with
      | lst xs =>
        obtain ⟨vs, e1, rv⟩ := rs.ob _ _ _ e hr
        obtain ⟨its, rl, ht, _⟩ := I.list (SqL.of e1)
        exact EqAt.list_none ht.isList (by omega)
      | dK kvs =>
        obtain ⟨vs, e1, rv⟩ := rs.ob _ _ _ e hr
        obtain ⟨dd, es, n, sl, ho⟩ := dict_obj I e1
        exact eqAt_dict_none ho (by omega)
      | dT _ => simp [M.plain, e] at hp
      | exc _ _ => simp [M.plain, e] at hp
      | ins _ _ => simp [M.plain, e] at hp
      | hid => simp [M.plain, e] at hp
/-- a plain thing that is no text against a text -/
theorem rc_str (I : Inv X pins σ H s) {m : List Addr} {S : Store} (rs : RS (kxj X ϑ) m S H) {A : Around} (hu : A.units + 10 < cLine) {w : W} {v : V} {u : Value} (r : RV X.K m H w v) (q : RelV v u) (hp : M.plain S w = true) (hs : M.isStr w = false) (y : Str) (t : Tok) : RcAt A s u (.str y t) false ∧ RcNeAt A s u (.str y t) true := by
  cases r with
  | non =>
    cases q
    exact ⟨RcAt.none_str y t, RcNeAt.none_str y t⟩
  | bl b =>
    cases q
    exact ⟨RcAt.bool_str b y t, RcNeAt.bool_str b y t⟩
  | int i =>
    obtain ⟨t', rfl⟩ := q
    exact ⟨RcAt.int_str i t' y t, RcNeAt.int_str i t' y t⟩
  | str x => cases hs
  | ty x => cases hp
  | tup hq rv =>
    cases q
    obtain ⟨its, rl, ht, _⟩ := I.tuple hq
    exact ⟨RcAt.tuple_str (items := its.toArray) y t ht (by omega), RcNeAt.tuple_str (items := its.toArray) y t ht (by omega)⟩
  | fl hq rv =>
    cases q
    obtain ⟨its, rl, ht, _⟩ := I.list hq.l
    exact ⟨RcAt.list_str y t ht.isList (by omega), RcNeAt.list_str y t ht.isList (by omega)⟩
  | @ref rf a hr =>
    cases q
    cases e : S[rf]? with
    | none =>
      unfold M.plain at hp
      simp only [e] at hp
      cases hp
    | some o =>
      cases o with
      | lst xs =>
        obtain ⟨vs, e1, rv⟩ := rs.ob _ _ _ e hr
        obtain ⟨its, rl, ht, _⟩ := I.list (SqL.of e1)
        exact ⟨RcAt.list_str y t ht.isList (by omega), RcNeAt.list_str y t ht.isList (by omega)⟩
      | dK kvs =>
        obtain ⟨vs, e1, rv⟩ := rs.ob _ _ _ e hr
        obtain ⟨dd, es, n, sl, ho⟩ := dict_obj I e1
        exact ⟨rc_dict_str y t ho (by omega), rcn_dict_str y t ho (by omega)⟩
      | dT _ => simp [M.plain, e] at hp
      | exc _ _ => simp [M.plain, e] at hp
      | ins _ _ => simp [M.plain, e] at hp
      | hid => simp [M.plain, e] at hp
end
section
variable {X : Cx} {pins : List (Addr × Obj)} {σ : L2.St} {H : Hp} {s : Shared}
theorem non_vals {K : PySem.W.Frag} {m : List Addr} : ∀ {ys : List W} {vs : List V} {us : List Value}, ys.all M.isNon = true → RVs K m H ys vs → Vals vs us → ∀ u ∈ us, u = Value.none
  | _, _, _, _, .nil, .nil => fun u hu => absurd hu List.not_mem_nil
  | _, _, _, h, .cons r rr, .cons q qs => fun u hu => by
    rw [List.all_cons, Bool.and_eq_true] at h
    rcases List.mem_cons.mp hu with rfl | hu
    · cases r with
      | non =>
        cases q
        rfl
      | _ => exact nomatch h.1
    · exact non_vals h.2 rr qs u hu
/-- item by item against None -/
theorem items_non (I : Inv X pins σ H s) {m : List Addr} {S : Store} (rs : RS (kxj X ϑ) m S H) {A : Around} (hu : A.units + 10 < cLine) : ∀ {xs : List W} {vs : List V} {us : List Value}, RVs X.K m H xs vs → Vals vs us → xs.all (M.plain S) = true → ∀ (j : Nat) (h : j < us.length) (y : Value), y = Value.none → EqAt A s us[j] y ((xs.map M.isNon).getD j false)
  | _, _, _, .nil, .nil, _, j, h, _, _ => nomatch h
  | _, _, _, .cons r rr, .cons q qs, hp, 0, h, y, e => by
    rw [List.all_cons, Bool.and_eq_true] at hp
    subst e
    exact eqAt_non I rs hu r q hp.1
  | _, _, _, .cons r rr, .cons q qs, hp, j + 1, h, y, e => by
    rw [List.all_cons, Bool.and_eq_true] at hp
    exact items_non I rs hu rr qs hp.2 j (Nat.lt_of_succ_lt_succ h) y e
theorem all_range (bs : List Bool) (n : Nat) (h : n = bs.length) : ((List.range n).all fun j => bs.getD j false) = bs.all id := by
  subst h
  induction bs with
  | nil => rfl
  | cons b bs ih =>
    rw [List.length_cons, List.range_succ_eq_map, List.all_cons, List.all_map, List.all_cons, ← ih]
    rfl
end
end Wo
set_option autoImplicit true
set_option maxRecDepth 100000
set_option maxHeartbeats 4000000
namespace Wo
open PySem L2 PySem.SeqAt
/-! W27: == and != with these. -/
theorem tuple_bool (xs : List W) (n k : Nat) (hn : n = xs.length) : ((List.range (min n k)).all (fun j => (xs.map M.isNon).getD j false) && (n == k)) = (xs.all M.isNon && decide (xs.length = k)) := by
  subst hn
  by_cases h : xs.length = k
  · subst h
    rw [Nat.min_self, all_range _ _ (by rw [List.length_map]), List.all_map, beq_self_eq_true, decide_eq_true rfl]
    rfl
  · rw [decide_eq_false h, beq_eq_false_iff_ne.mpr h, Bool.and_false, Bool.and_false]
section
variable {X : Cx} {E : XK}
theorem isEq2_ok (rm : Rm X) {pins : List (Addr × Obj)} {s : Shared} {σ : L2.St} {H : Hp} {x y : V} {v u : Value} {m : List Addr} {S : Store} {a b : W} {k : Bool} (I : Inv X pins σ H s) (rx : RelV x v) (ry : RelV y u) (rs : RS (kxj X ϑ) m S H)
    (ra : RV X.K m H a x) (rb : RV X.K m H b y) (h : M.isEq2 a b S = some k) (Q : VK) :
    (Q (.bl k) H → wpAny (model X.prog X.w) X.A (compareOp .Eq v u) (EP X pins σ Q) X.xe s) ∧ (Q (.bl (!k)) H → wpAny (model X.prog X.w) X.A (compareOp .NotEq v u) (EP X pins σ Q) X.xe s) := by
  have hu : X.A.units < cLine := by have := rm.un; omega
  have hu1 : X.A.in1.units + 10 < cLine := by have := rm.un; show X.A.units + 1 + 10 < cLine; omega
  have hu0 : X.A.units + 10 < cLine := by have := rm.un; omega
  have fin : ∀ {b : Bool}, RcAt X.A s v u b → RcNeAt X.A s v u (!b) → (Q (.bl b) H → wpAny (model X.prog X.w) X.A (compareOp .Eq v u) (EP X pins σ Q) X.xe s) ∧ (Q (.bl (!b)) H → wpAny (model X.prog X.w) X.A (compareOp .NotEq v u) (EP X pins σ Q) X.xe s) :=
    fun h1 h2 => ⟨fun q => h1 X.prog X.w _ _ ⟨.bl _, H, I, rfl, q⟩, fun q => h2 X.prog X.w _ _ ⟨.bl _, H, I, rfl, q⟩⟩
  unfold M.isEq2 at h
  split at h
  · cases h
    exact isEq_ok rm I rx ry rs ra rb rfl Q
  · rename_i y0 hne
    split at h
    · rename_i hp
      cases h
      cases rb
      obtain ⟨t, rfl⟩ := ry
      have hs : M.isStr a = false := by
        cases ha : a with
        | str z => exact (hne z ha).elim
        | _ => rfl
      obtain ⟨h1, h2⟩ := rc_str I rs hu0 ra rx hp hs y0 t
      exact fin h1 h2
    · cases h
  · rename_i xs ys
    split at h
    · rename_i hc
      cases h
      cases ra with
      | tup hq rv =>
        cases rb with
        | tup hq' rv' =>
          cases rx
          cases ry
          obtain ⟨its, rl, ht, _⟩ := I.tuple hq
          obtain ⟨its', rl', ht', _⟩ := I.tuple hq'
          have l1 : its.toArray.size = xs.length := by rw [List.size_toArray, ← rl.length, ← rv.length]
          have l2 : its'.toArray.size = ys.length := by rw [List.size_toArray, ← rl'.length, ← rv'.length]
          have he : ∀ j (h1 : j < its.toArray.size) (h2 : j < its'.toArray.size), EqAt X.A.in1 s its.toArray[j] its'.toArray[j] ((xs.map M.isNon).getD j false) := fun j h1 h2 => by
            have k := items_non I rs hu1 rv rl hc.2 j (by simpa using h1) (its'[j]'(by simpa using h2)) (non_vals hc.1 rv' rl' _ (List.getElem_mem _))
            simpa using k
          have r1 := RcAt.tuples ht ht' hu he
          have r2 := RcNeAt.tuples ht ht' hu he
          rw [tuple_bool xs _ _ l1, l2] at r1 r2
          exact fin r1 r2
    · exact isEq_ok rm I rx ry rs ra rb h Q
  · rename_i r q
    split at h
    · rename_i xs ys e e'
      split at h
      · rename_i hc
        cases h
        cases ra with
        | ref hr =>
          cases rb with
          | ref hr' =>
            cases rx
            cases ry
            obtain ⟨vs, e1, rv⟩ := rs.ob _ _ _ e hr
            obtain ⟨vs', e1', rv'⟩ := rs.ob _ _ _ e' hr'
            obtain ⟨its, rl, ht, _⟩ := I.list (SqL.of e1)
            obtain ⟨its', rl', ht', _⟩ := I.list (SqL.of e1')
            have l1 : its.toArray.size = xs.length := by rw [List.size_toArray, ← rl.length, ← rv.length]
            have l2 : its'.toArray.size = ys.length := by rw [List.size_toArray, ← rl'.length, ← rv'.length]
            have he : ∀ j (h1 : j < its.toArray.size) (h2 : j < its'.toArray.size), EqAt X.A.in1 s its.toArray[j] its'.toArray[j] ((xs.map M.isNon).getD j false) := fun j h1 h2 => by
              have k := items_non I rs hu1 rv rl hc.2 j (by simpa using h1) (its'[j]'(by simpa using h2)) (non_vals hc.1 rv' rl' _ (List.getElem_mem _))
              simpa using k
            by_cases hl : xs.length = ys.length
            · have hsz : its.toArray.size = its'.toArray.size := by omega
              have r1 := RcAt.lists ht.isList ht'.isList hsz hu he
              have r2 := RcNeAt.lists ht.isList ht'.isList hsz hu he
              have ea : ((List.range its.toArray.size).all fun j => (xs.map M.isNon).getD j false) = (xs.all M.isNon && decide (xs.length = ys.length)) := by
                rw [all_range _ _ (by rw [List.length_map]; exact l1), List.all_map, decide_eq_true hl, Bool.and_true]
                rfl
              rw [ea] at r1 r2
              exact fin r1 r2
            · have hsz : (its.toArray.size != its'.toArray.size) = true := by rw [l1, l2]; simpa using hl
              have r1 := RcAt.lists_lengths (A := X.A) ht.isList ht'.isList hsz hu
              have r2 := RcNeAt.lists_lengths (A := X.A) ht.isList ht'.isList hsz hu
              rw [decide_eq_false hl, Bool.and_false]
              exact fin r1 r2
      · exact isEq_ok rm I rx ry rs ra rb h Q
    · exact isEq_ok rm I rx ry rs ra rb h Q
  · exact isEq_ok rm I rx ry rs ra rb h Q
theorem o_eq2 (rm : Rm X) : OpR X (compareOp .Eq) (rW (kxj X ϑ) E M.eq2W) := by
  intro pins s σ H x y v u Q I rx ry h
  obtain ⟨m, S, a, b, rs, ra, rb, q⟩ := h
  unfold M.eq2W at q
  split at q
  · rename_i k hk
    exact (isEq2_ok rm I rx ry rs ra rb hk Q).1 (q.here rs (.bl _))
  · exact False.elim q
theorem o_ne2 (rm : Rm X) : OpR X (compareOp .NotEq) (rW (kxj X ϑ) E M.ne2W) := by
  intro pins s σ H x y v u Q I rx ry h
  obtain ⟨m, S, a, b, rs, ra, rb, q⟩ := h
  unfold M.ne2W at q
  split at q
  · rename_i k hk
    exact (isEq2_ok rm I rx ry rs ra rb hk Q).2 (q.here rs (.bl _))
  · exact False.elim q
end
theorem eq2_int (i j : Int) (S : Store) : M.eq2W (.int i) (.int j) S = .ok (.bl (decide (i = j))) S := (show M.eq2W (.int i) (.int j) S = M.eqW (.int i) (.int j) S from rfl).trans (eqW_int i j S)
theorem ne2_int (i j : Int) (S : Store) : M.ne2W (.int i) (.int j) S = .ok (.bl (!decide (i = j))) S := (show M.ne2W (.int i) (.int j) S = M.neW (.int i) (.int j) S from rfl).trans (x_ne i j S)
theorem eq2_str (x y : Str) (S : Store) : M.eq2W (.str x) (.str y) S = .ok (.bl (decide (x = y))) S := by exact via rfl
theorem ne2_str (x y : Str) (S : Store) : M.ne2W (.str x) (.str y) S = .ok (.bl (!decide (x = y))) S := by exact via rfl
end Wo
set_option autoImplicit true
set_option maxRecDepth 100000
set_option maxHeartbeats 4000000
namespace Wo
open PySem L2
/-! W28: list * int, text * int, list(text); the module's tuples; a def that calls itself. -/
namespace M
def mul2W : G2 := fun a b S => match a, b with
  | .str x, .int k => if 0 ≤ k ∧ k ≤ 1000 ∧ x.length ≤ 1000 then .ok (.str (Txt.mul x k)) S else .no
  | .ref r, .int k => match S[r]? with
    | some (.lst xs) => if 0 ≤ k ∧ k ≤ 1000 ∧ xs.length ≤ 1000 then .ok (.ref S.length) (S ++ [.lst (List.replicate k.toNat xs).flatten]) else .no
    | _ => .no
  | a, b => mulW a b S
def signs (x : Str) : List W := x.cps.toList.map fun c => .str ⟨#[c]⟩
def list2W : List W → Store → Rs W := fun ws S => match ws with
  | [.str x] => if x.length ≤ lim then .ok (.ref S.length) (S ++ [.lst (signs x)]) else .no
  | ws => listW ws S
end M
theorem mulOk {x : Str} {k : Int} (h0 : 0 ≤ k) (h1 : k ≤ 1000) (hx : x.length ≤ 1000) : MulOk x k := by
  have hm : x.length * k.toNat ≤ 1000 * 1000 := Nat.mul_le_mul hx (by omega)
  refine ⟨?_, fun a _ => ?_, fun _ _ => ?_⟩
  · rw [Bool.or_eq_false_iff]
    exact ⟨decide_eq_false (by omega), decide_eq_false (by omega)⟩
  · have hk : 0 < k := by omega
    have : (1000 : Int) ≤ (2 ^ 63 - 1) / k := by
      rw [Int.le_ediv_iff_mul_le hk]
      omega
    omega
  · have e : sizeLine = 16777216 := sizeLine_eq
    exact decide_eq_false (by omega)
theorem signs_rel {K : PySem.W.Frag} {m : List Addr} {H : Hp} : ∀ cs : List Nat, RVs K m H (cs.map fun c => W.str ⟨#[c]⟩) (cs.map fun c => V.str ⟨#[c]⟩)
  | [] => .nil
  | c :: cs => .cons (.str _) (signs_rel cs)
theorem signs_vals {x : Str} {acc : Array Value} (h : ItemsOf (SignAt x) acc x.cps.size) : Vals (x.cps.toList.map fun c => V.str ⟨#[c]⟩) acc.toList := by
  have hl : x.cps.toList.length = acc.toList.length := by
    rw [Array.length_toList, Array.length_toList]
    exact h.1.symm
  have key : ∀ (cs : List Nat) (us : List Value), cs.length = us.length → (∀ (j : Nat) (v : Value), us[j]? = some v → ∃ (c : Nat) (t : Tok), cs[j]? = some c ∧ v = Value.str ⟨#[c]⟩ t) → Vals (cs.map fun c => V.str ⟨#[c]⟩) us := by
    intro cs
    induction cs with
    | nil =>
      intro us hl _
      cases us with
      | nil => exact .nil
      | cons _ _ => cases hl
    | cons c cs ih =>
      intro us hl hj
      cases us with
      | nil => cases hl
      | cons u us =>
        obtain ⟨c', t, e1, e2⟩ := hj 0 u rfl
        cases e1
        exact .cons ⟨t, e2⟩ (ih us (by simpa using hl) fun j v e => by
          obtain ⟨c'', t', e3, e4⟩ := hj (j + 1) v (by simpa using e)
          exact ⟨c'', t', by simpa using e3, e4⟩)
  refine key _ _ hl fun j v e => ?_
  obtain ⟨c, t, e1, e2⟩ := h.2 j v (by simpa using e)
  exact ⟨c, t, by simpa using e1, e2⟩
section
variable {X : Cx} {E : XK}
theorem o_mul2 : OpR X (binaryOp .Mult) (rW (kxj X ϑ) E M.mul2W) := by
  intro pins s σ H x y v u Q I rx ry h
  obtain ⟨m, S, a, b, rs, ra, rb, q⟩ := h
  unfold M.mul2W at q
  split at q
  · rename_i x0 k
    cases ra
    cases rb
    split at q
    · rename_i hc
      obtain ⟨t, rfl⟩ := rx
      obtain ⟨t', rfl⟩ := ry
      refine SB.mul (mulOk hc.1 hc.2.1 hc.2.2) fun t2 k2 => ?_
      exact ⟨.str _, H, I.tok _, ⟨_, rfl⟩, q.here rs (.str _)⟩
    · exact False.elim q
  · rename_i r k
    split at q
    · rename_i xs e
      split at q
      · rename_i hc
        cases ra with
        | ref hr =>
          cases rb
          obtain ⟨vs, e1, rv⟩ := rs.ob _ _ _ e hr
          have hl := rv.length
          have hm : vs.length * k.toNat ≤ 1000 * 1000 := Nat.mul_le_mul (by omega) (by omega)
          refine op_rep pins s σ H _ _ v u Q I rx ry ⟨_, k, vs, rfl, rfl, e1, by omega, by omega, by rw [sizeLine_eq]; omega, fun p hp => ?_⟩
          obtain ⟨b1, b2, b3, b4⟩ := rs.newList hp (rv.rep k.toNat)
          exact q _ _ _ b1 b2 b3 b4
      · exact False.elim q
    · exact False.elim q
  · exact o_mul pins s σ H x y v u Q I rx ry ⟨m, S, a, b, rs, ra, rb, q⟩
theorem c_list2 (rm : Rc X) : CallR X (.type "list") (rWs (kxj X ϑ) E M.list2W) := by
  intro pins s σ H xs us Q I r h
  obtain ⟨m, S, ws, rs, rv, q⟩ := h
  unfold M.list2W at q
  split at q
  · rename_i x
    split at q
    · rename_i hl
      obtain ⟨v, rfl, r1⟩ := rvs1 rv
      obtain ⟨u, rfl, ru⟩ := vals1 r
      cases r1
      obtain ⟨t, rfl⟩ := ru
      have hz : x.cps.size ≤ sizeLine := lim_line hl
      refine call_list_str (I.ok.hd rm.calm) x t (fun h' tk acc c hk hg hi => ?_) hz
      have hf : H s.heap.objs.size = none := I.hok.fresh (Nat.le_refl _)
      have I1 : Inv X pins σ (upd H s.heap.objs.size (.lst (x.cps.toList.map fun c => V.str ⟨#[c]⟩))) { s with heap := h', toks := tk } :=
        I.laid (t' := tk) hk (Nat.le_refl _) ⟨by rw [List.length_map, Array.length_toList]; exact hz, acc.toList, c, signs_vals hi, by simpa using hg⟩
      obtain ⟨b1, b2, b3, b4⟩ := rs.newList hf (signs_rel x.cps.toList)
      exact ⟨.ref _, _, I1, rfl, q _ _ _ b1 b2 b3 b4⟩
    · exact False.elim q
  · exact c_list rm pins s σ H xs us Q I r ⟨m, S, _, rs, rv, q⟩
end
/-! ### tuples of the module -/
theorem sqt_in {K : PySem.W.Frag} {H : Hp} {a : Addr} {o : Obj} {its : Array Value} {n : Nat} {vs : List V} (hk : K.lookup a = some o) (hc : o.cls = .type "tuple") (hs : o.data = .seq its n) (hz : its.size ≤ sizeLine) (r : Vals vs its.toList) : SqT K H a vs := Or.inr ⟨o, its, n, hk, hc, hs, hz, r⟩
/-- a tuple of texts -/
theorem rv_texts {K : PySem.W.Frag} {m : List Addr} {H : Hp} : ∀ xs : List Str, RVs K m H (xs.map .str) (xs.map .str)
  | [] => .nil
  | x :: xs => .cons (.str x) (rv_texts xs)
theorem rv_nons {K : PySem.W.Frag} {m : List Addr} {H : Hp} : ∀ n : Nat, RVs K m H (List.replicate n .non) (List.replicate n .non)
  | 0 => .nil
  | n + 1 => .cons .non (rv_nons n)
/-! ### a def that calls itself -/
def noFn : List W → Store → Rs W := fun _ _ => .no
theorem dn_zero {P : Program} {w : World} {K : PySem.W.Frag} {mg : Str → Option Value} {base : Heap} {x : Str} {ps : List Str} {f : Addr} {fd : FuncData} (k : Nat) (hat : mg x = some (.ref f)) (kp : PySem.W.keepIn K (.ref f) = true) (bd : Binds K fd ps []) : Dn P w K mg base k x ps noFn f fd := by
  refine ⟨⟨fun vs H Q E q => q.1, ?_⟩, hat, kp, bd⟩
  intro A outer s H args us vs Q E _ _ _ _ _ q
  obtain ⟨_, _, m, S, ws, _, _, q⟩ := q
  exact q.elim
theorem noFn_len {n : Nat} : ∀ ws S, ws.length ≠ n → noFn ws S = .no := fun _ _ _ => rfl
end Wo
set_option autoImplicit true
set_option maxRecDepth 100000
set_option maxHeartbeats 4000000
namespace Wo
open PySem L2
/-! W29: words for these in the walks, and how they step. -/
section
variable {X : Cx} {E : EX}
theorem e_globT {x : Str} {p : Pos} {vs : List V} {ws : List W} (hg : Gl X x) (h : ∃ a, X.mg x = some (.ref a) ∧ ∀ H, SqT X.K H a vs) (r : ∀ m H, RVs X.K m H ws vs) (hd : (x == ("__debug__" : Str)) = false := by decide) : PE X (.Name x p) (tE (kxj X ϑ) E (M.cst (.tup ws))) := by
  obtain ⟨a, hm, hs⟩ := h
  exact e_cst (pe_glob hg hm (v := .ref a) rfl hd) fun m H => .tup (hs H) (r m H)
end
theorem eq2_nil {S : Store} {r q : Nat} {xs : List W} (h1 : S[r]? = some (.lst xs)) (h2 : S[q]? = some (.lst [])) (hp : xs.all (M.plain S) = true) : M.isEq2 (.ref r) (.ref q) S = some (decide (xs = [])) := by
  unfold M.isEq2
  dsimp only
  rw [h1, h2]
  dsimp only
  rw [if_pos ⟨rfl, hp⟩]
  cases xs with
  | nil => rfl
  | cons x xs => rw [decide_eq_false (by simp), decide_eq_false (by simp), Bool.and_false]
theorem eq2W_of {x c : W} {S : Store} {b : Bool} (h : M.isEq2 x c S = some b) : M.eq2W x c S = .ok (.bl b) S := by
  unfold M.eq2W
  rw [h]
theorem ne2W_of {x c : W} {S : Store} {b : Bool} (h : M.isEq2 x c S = some b) : M.ne2W x c S = .ok (.bl (!b)) S := by
  unfold M.ne2W
  rw [h]
theorem repr2_run {w : W} {S : Store} {d : PyData} {B : Nat} (h : toR S rr w = some d) (o : OkD B d) (hB : B ≤ 100000) (hd : d.depth ≤ 30) : M.repr2W [w] S = .ok (.str d.shown) S := by
  unfold M.repr2W
  dsimp only
  rw [h]
  dsimp only
  rw [m_lim, if_pos ⟨o.sh, by have := o.le; have := o.co; omega, hd⟩]
theorem y_mul2 (i j : Int) (S : Store) (P : Pst W) : Wp (M.mul2W (.int i) (.int j) S) P = (((-18446744073709551616 < i ∧ i < 18446744073709551616) ∨ (-18446744073709551616 < j ∧ j < 18446744073709551616)) ∧ P.ok (.int (i * j)) S) := y_mul i j S P
theorem y_mul2T (x : W) (k : Int) (S : Store) (P : Pst W) : Wp (M.mul2W (.tup [x]) (.int k) S) P = ((0 ≤ k ∧ k ≤ 1000) ∧ P.ok (.tup (List.replicate k.toNat x)) S) := by
  show Wp (M.mulW (.tup [x]) (.int k) S) P = _
  by_cases h : 0 ≤ k ∧ k ≤ 1000
  · rw [x_mulT S h.1 h.2, eq_true h, true_and]
    rfl
  · unfold M.mulW
    dsimp only
    rw [if_neg fun z => h z.2, eq_false h, false_and]
    rfl
theorem y_list2R {r : Nat} {xs : List W} {S : Store} (h : S[r]? = some (.lst xs)) (P : Pst W) : Wp (M.list2W [.ref r] S) P = P.ok (.ref S.length) (S ++ [.lst xs]) := y_listR h P
theorem y_list2T (xs : List W) (S : Store) (P : Pst W) : Wp (M.list2W [.tup xs] S) P = P.ok (.ref S.length) (S ++ [.lst xs]) := via rfl
end Wo
set_option autoImplicit true
set_option maxRecDepth 100000
set_option maxHeartbeats 4000000
namespace Wo
open PySem PySem.Spec PyProof.Rows L2
/-! W30: dict displays of constants, d[k], text.join, tuple[::-1]. -/
namespace M
/-- a display all of whose keys and values are constants -/
def disp (kvs : List (Key × W)) : ME := fun _ S => .ok (.ref S.length) (S ++ [.dK kvs])
def dgetW : G2 := fun d k S => match d with
  | .ref r => match S[r]? with
    | some (.dK kvs) => match keyOf k with
      | some kk => match valW kvs kk with
        | some v => .ok v S
        | none => .no
      | none => .no
    | _ => .no
  | _ => .no
def strsW : List W → Option (List Str)
  | [] => some []
  | .str x :: r => (strsW r).map (x :: ·)
  | _ :: _ => none
def joinW : G2 := fun a b S => match a, b with
  | .str x, .ref r => match S[r]? with
    | some (.lst xs) => match strsW xs with
      | some ys => if (ys.map (·.length)).sum + ys.length * x.length ≤ lim then .ok (.str (Txt.join x ys)) S else .no
      | none => .no
    | _ => .no
  | _, _ => .no
def revTW : W → Store → Rs W := fun a S => match a with
  | .tup xs => .ok (.tup xs.reverse) S
  | _ => .no
end M
theorem tPairs_c : ∀ (kvs : List (Key × V)) {σ : L2.St} {H : Hp} {Q : List (V × V) → Hp → Prop}, Q (kvs.map fun kv => (kV kv.1, kv.2)) H → tPairs (kvs.map fun kv => (tC (kV kv.1), tC kv.2)) σ H Q
  | [], _, _, _, h => h
  | kv :: kvs, σ, H, Q, h => tPairs_c kvs (Q := fun ps H3 => Q ((kV kv.1, kv.2) :: ps) H3) h
section
variable {X : Cx} {E : EX} {pos : Pos}
theorem upd_twice {H : Hp} {p : Addr} {a b : HO} : upd (upd H p a) p b = upd H p b := by
  funext q
  unfold upd
  by_cases h : q = p <;> simp [h]
theorem e_disp {keys : List (Option Expr)} {values : List Expr} {kvs : List (Key × V)} {ws : List (Key × W)} (h : PPs X pos keys values (kvs.map fun kv => (tC (kV kv.1), tC kv.2))) (hm : mergeK [] kvs = kvs) (hr : ∀ m H, RKV X.K m H ws kvs)
    (hall : keys.all (·.isSome) = true := by rfl) (hl : keys.length = values.length := by rfl) (h0 : keys ≠ [] := by nofun) (h15 : keys.length ≤ 15 := by exact Nat.le_of_ble_eq_true rfl) (hk : kvs.length ≤ 15 := by exact Nat.le_of_ble_eq_true rfl) : PE X (.Dict keys values pos) (tE (kxj X ϑ) E (M.disp ws)) := by
  refine PE.imp (pe_disp h hall hl h0 h15) fun s H Q ⟨m, S, f, rs, rf, q⟩ p hp => tPairs_c kvs ⟨upd_same, kvs, rfl, hk, ?_⟩
  rw [hm, upd_twice]
  have pr : Pre m (m ++ [p]) := List.prefix_append _ _
  refine q (m ++ [p]) (upd H p (.dK kvs)) (.ref p) pr (Stay.new hp) (rs.push hp ⟨kvs, upd_same, hr _ _⟩) (.ref ?_)
  rw [← rs.len]
  exact List.getElem?_concat_length
theorem e_dget {o i : Expr} {go gi : ME} (rm : Rm X) (ho : PE X o (tE (kxj X ϑ) E go)) (hi : PE X i (tE (kxj X ϑ) E gi)) (hs : NoSl i := by exact fun _ _ => rfl) : PE X (.Subscript o i pos) (tE (kxj X ϑ) E (M.op2 M.dgetW go gi)) := by
  have hu : X.A.units + 1 < cLine := by have := rm.un; omega
  refine PE.imp (pe_dget hu ho hi hs) fun s H Q q => tM.imp (tE.two q) fun x H1 q1 => tM.imp q1 fun y H2 ⟨m, S, a, b, rs, ra, rb, q⟩ => ?_
  unfold M.dgetW at q
  cases ra with
  | ref hr =>
    dsimp only at q
    split at q <;> try exact False.elim q
    rename_i kvs e
    split at q <;> try exact False.elim q
    rename_i kk hk
    split at q <;> try exact False.elim q
    rename_i v hv
    obtain ⟨ls, e1, rk⟩ := rs.ob _ _ _ e hr
    obtain ⟨i1, i2⟩ := valW_rel (k := kk) rk
    obtain ⟨v', hv', rv⟩ := i1 v hv
    have ey : y = kV kk := by
      cases rb <;> simp only [M.keyOf] at hk <;> first | (cases hk; rfl) | cases hk
    exact ⟨_, v', rfl, .inl ⟨ls, kk, .inl e1, ey, hv'.symm⟩, q.here rs rv⟩
  | _ => exact False.elim q
theorem strs_rel {K : PySem.W.Frag} {m : List Addr} {H : Hp} : ∀ {xs : List W} {vs : List V} {ys : List Str}, M.strsW xs = some ys → RVs K m H xs vs → vs = ys.map V.str
  | [], _, ys, h, .nil => by
    cases h
    rfl
  | w :: xs, _, ys, h, .cons r t => by
    cases r <;> simp only [M.strsW, Option.map_eq_some_iff] at h <;> try (cases h)
    rename_i h1
    obtain ⟨h1, h2⟩ := h1
    subst h2
    rw [strs_rel h1 t]
    rfl
theorem e_joinC {x : Str} {e : Expr} {j : Nat} {cp apos : Pos} {ge : ME} (he : PE X e (tE (kxj X ϑ) E ge)) (hs : starEach [e] X.env = [(false, eval e X.env)] := by rfl) (hbase : attributeBase (.Constant (.str x) j cp) "join" X.env (eval (.Constant (.str x) j cp) X.env) = eval (.Constant (.str x) j cp) X.env := by rfl) (hline : (apos.endLine == pos.line) = true := by rfl) :
    PE X (.Call (.Attribute (.Constant (.str x) j cp) "join" apos) [e] [] pos) (tE (kxj X ϑ) E (M.op1 (M.joinW (.str x)) ge)) := by
  refine PE.imp (pe_join pe_str he hs hbase hline) fun s H Q q => ⟨⟨x, rfl⟩, tM.imp (tE.one q) fun y H2 ⟨m, S, b, rs, rb, q⟩ => ?_⟩
  unfold M.joinW at q
  cases rb with
  | ref hr =>
    dsimp only at q
    split at q <;> try exact False.elim q
    rename_i xs e1
    split at q <;> try exact False.elim q
    rename_i ys hy
    split at q <;> try exact False.elim q
    rename_i hz
    obtain ⟨vs, e2, rv⟩ := rs.ob _ _ _ e1 hr
    have := strs_rel hy rv
    subst this
    have hlim : M.lim = 100000 := rfl
    exact ⟨_, _, ys, rfl, rfl, .inl (SqL.of e2), by omega, q.here rs (.str _)⟩
  | _ => exact False.elim q
/-! ### a tuple turned round -/
theorem fm_congr {α β : Type} {f g : α → Option β} : ∀ {l : List α}, (∀ x ∈ l, f x = g x) → l.filterMap f = l.filterMap g
  | [], _ => rfl
  | x :: l, h => by
    rw [List.filterMap_cons, List.filterMap_cons, h x (List.mem_cons_self ..), fm_congr fun y hy => h y (List.mem_cons_of_mem _ hy)]
theorem rev_pick (xs : Array Value) : ((List.range xs.size).filterMap fun (k : Nat) => xs[(((xs.size : Int) - 1) + (k : Int) * (-1)).toNat]?).toArray = xs.toList.reverse.toArray := by
  have e : (List.range xs.size).filterMap (fun (k : Nat) => xs[(((xs.size : Int) - 1) + (k : Int) * (-1)).toNat]?) = ((List.range xs.size).map fun k => xs.size - 1 - k).filterMap (xs[·]?) := by
    rw [List.filterMap_map]
    apply fm_congr
    intro k hk
    have := List.mem_range.mp hk
    have e : (((xs.size : Int) - 1) + (k : Int) * (-1)).toNat = xs.size - 1 - k := by omega
    rw [e]
    rfl
  rw [e, PySem.W.krv_range, List.filterMap_reverse, PySem.W.krv_all]
theorem rev_adjust (n : Nat) : Builtin.Slice.sliceAdjust none none (-1) (n : Int) = ((n : Int) - 1, -1) := rfl
theorem rev_places (n : Nat) : Builtin.Slice.slicePlaces ((n : Int) - 1) (-1) (-1) = n := by
  unfold Builtin.Slice.slicePlaces
  rw [if_neg (by decide)]
  by_cases h : (n : Int) - 1 > -1
  · rw [if_pos h, show (- -1 : Int) = 1 from rfl, Int.ediv_one]
    omega
  · rw [if_neg h]
    omega
section
variable {prog : Program} {w : World} {A : Around} {E : Value → Shared → Prop} {s : Shared}
theorem getItem_tuple_rev {t sl : Addr} {items : Array Value} {vl vu vs : Value} {Q : Value → Shared → Prop} (ht : PyProof.Rows.IsTup s.heap t items) (hs : s.heap.IsSliceOf sl vl vu vs) (pl : IsPart vl none) (pu : IsPart vu none) (ps : IsPart vs (some (-1)))
    (h : Q (.ref s.heap.objs.size) { s with heap := s.heap.push { cls := .type "tuple", data := .seq items.toList.reverse.toArray } }) (hsz : items.size ≤ sizeLine) : wpAny (model prog w) A (getItem (.ref t) (.ref sl)) Q E s := by
  have htake : sizeOk (.seq items.toList.reverse.toArray) := by
    show items.toList.reverse.toArray.size ≤ sizeLine
    rw [List.size_toArray, List.length_reverse, Array.length_toList]
    exact hsz
  obtain ⟨os, hos, hcs, hds⟩ := id hs
  have hTs : s.TypeIs (.ref sl) "slice" := ⟨os, hos, hcs⟩
  unfold getItem
  try with_reducible refine wpAny_holding ?_
  first | refine wpAny_bind (wpAny_pure ?_) | skip
  refine wpAny_bind (wpAny_sequenceKey ht.typeIs (by decide) ?_)
  refine wpAny_bind (wpAny_callSpecial?_slot (name := Str.ofString "__getitem__") ht.typeIs PyProof.Rows.slot_tuple_getitem
    (wpAny_call_entry PyProof.Rows.slot_tuple_getitem ht.typeIs PyProof.Rows.entry_tuple_getitem ?_ (PyProof.Rows.args_tuple_getitem _ _)))
  show wpAny _ _ (Builtin.Tuple.tupleItemsOf (.ref t) >>= _) _ _ s
  refine wpAny_bind (PyProof.Rows.tupleItemsOf_ ht ?_)
  refine wpAny_bind (wpAny_typeOf hTs ?_)
  rw [if_pos (by decide)]
  refine wpAny_bind ?_
  unfold Builtin.Slice.sliceApplied Builtin.Slice.sliceFields
  refine wpAny_bind (wpAny_bind (wpAny_field hos hds (x := vl) rfl (wpAny_bind (wpAny_field hos hds (x := vu) rfl (wpAny_bind (wpAny_field hos hds (x := vs) rfl (wpAny_pure ?_)))))))
  refine wpAny_bind (HT.slicePart_ ps ?_)
  show wpAny _ _ (if ((-1 : Int) == 0) = true then _ else _) _ _ s
  rw [if_neg (by decide)]
  refine wpAny_bind (HT.slicePart_ pl (wpAny_bind (HT.slicePart_ pu (wpAny_bind (wpAny_pure ?_)))))
  show wpAny _ _ (match Builtin.Slice.sliceAdjust none none (-1) (items.size : Int) with | (lo, hi) => pure (lo, (-1 : Int), Builtin.Slice.slicePlaces lo hi (-1))) _ _ s
  rw [rev_adjust]
  show wpAny _ _ (pure ((items.size : Int) - 1, (-1 : Int), Builtin.Slice.slicePlaces ((items.size : Int) - 1) (-1) (-1))) _ _ s
  rw [rev_places]
  refine wpAny_pure ?_
  have hno : ¬ ((((items.size : Int) - 1) == 0 && (-1 : Int) == 1 && items.size == items.size) = true) := by
    intro q
    rw [Bool.and_eq_true, Bool.and_eq_true] at q
    exact absurd q.1.2 (by decide)
  show wpAny _ _ (if (((items.size : Int) - 1) == 0 && (-1 : Int) == 1 && items.size == items.size) = true then _ else _) _ _ s
  rw [if_neg hno, rev_pick]
  first
    | exact wpAny_bind (m := Builtin.Tuple.tupleExact _) (wpAny_newObj_type (wpAny_pure ⟨_, rfl, wpAny_pure h⟩) htake)
    | exact wpAny_bind (m := Builtin.Tuple.tupleExact _) (wpAny_newObj_type (wpAny_bind (wpAny_pure (wpAny_pure ⟨_, rfl, wpAny_pure h⟩))) htake)
    | exact wpAny_bind (wpAny_bind (m := Builtin.Tuple.tupleExact _) (wpAny_newObj_type (wpAny_pure (wpAny_pure ⟨_, rfl, wpAny_pure h⟩)) htake))
    | exact wpAny_bind (wpAny_bind (m := Builtin.Tuple.tupleExact _) (wpAny_newObj_type (wpAny_pure ⟨_, rfl, wpAny_pure h⟩) htake))
end
section
variable {X : Cx} {E : EX}
theorem RVs.rev {K : PySem.W.Frag} {m : List Addr} {H : Hp} : ∀ {ws : List W} {vs : List V}, RVs K m H ws vs → RVs K m H ws.reverse vs.reverse
  | _, _, .nil => .nil
  | _, _, .cons a b => by
    rw [List.reverse_cons, List.reverse_cons]
    exact (RVs.rev b).append (.one a)
theorem pe_revT {e : Expr} {te : TE} {k : Nat} {p1 p2 p3 pos : Pos} (he : PE X e te) : PE X (.Subscript e (.Slice none none (some (.UnaryOp .USub (.Constant (.int 1) k p1) p2)) p3) pos) (fun σ H Q => te σ H fun x H1 => ∃ a xs, x = .ref a ∧ SqT X.K H1 a xs ∧ ∀ p, H1 p = none → Q (.ref p) (upd H1 p (.tup xs.reverse))) := by
  refine ⟨fun pins s σ H Q I h => ?_⟩
  refine Subscript_ (thn (he.run pins s σ H _ I h) fun v s1 ⟨x, H1, I1, r1, q1⟩ => ?_)
  obtain ⟨a, xs, ex, hx, q⟩ := q1
  subst ex
  cases r1
  have hst : PO X (some (.UnaryOp .USub (.Constant (.int 1) k p1) p2)) (tPart (tUn (rU fun i => .int (-i)) (tC (.int 1)))) := po_some (pe_un un_neg pe_int)
  refine wpAny_Slice (thn (po_none.run pins s1 σ H1 (fun o H2 => o = none ∧ H2 = H1) I1 ⟨rfl, rfl⟩) fun vl s2 ⟨l, H2, I2, pl, el, e2⟩ => ?_)
  subst el e2
  refine thn (po_none.run pins s2 σ H2 (fun o H3 => o = none ∧ H3 = H2) I2 ⟨rfl, rfl⟩) fun vu s3 ⟨u, H3, I3, pu, eu, e3⟩ => ?_
  subst eu e3
  refine thn (hst.run pins s3 σ H3 (fun o H4 => o = some (-1) ∧ H4 = H3) I3 ⟨1, rfl, -1, rfl, rfl, rfl⟩) fun vs s4 ⟨o, H4, I4, ps, eo, e4⟩ => ?_
  subst eo e4
  have I5 : Inv X pins σ H4 { s4 with heap := s4.heap.push { cls := .type "slice", data := .fields #[vl, vu, vs] } } := I4.kept (t' := s4.toks) fun b ob q => Heap.get?_push_of_some _ q
  obtain ⟨its, r, ht, hz⟩ := I5.tuple hx
  show wpAny (model X.prog X.w) X.A (subscriptTail e (.Slice none none (some (.UnaryOp .USub (.Constant (.int 1) k p1) p2)) p3) (.ref a) (.ref s4.heap.objs.size)) (EP X pins σ Q) X.xe { s4 with heap := s4.heap.push { cls := .type "slice", data := .fields #[vl, vu, vs] } }
  refine tail_any (ops := [.ref a, .ref s4.heap.objs.size]) ht.typeIs (PyProof.Rows.slot_tuple_getitem.lookup) ?_ (by with_unfolding_all rfl)
  refine getItem_tuple_rev ht (Heap.IsSliceOf.new _ vl vu vs) pl pu ps ?_ (by rw [List.size_toArray]; have := r.length; omega)
  refine ⟨.ref _, _, I5.laid (t' := s4.toks) (o := .tup xs.reverse) (fun b ob q => Heap.get?_push_of_some _ q) (Nat.le_refl _) ?_, rfl, q _ (I5.hok.fresh (Nat.le_refl _))⟩
  have hz' : xs.reverse.length ≤ sizeLine := by rw [List.length_reverse]; exact hz
  exact ⟨hz', _, r.reverse, _, Heap.get?_push_size _ rfl, rfl, _, rfl⟩
theorem e_revT {e : Expr} {g : ME} {k : Nat} {p1 p2 p3 pos : Pos} (he : PE X e (tE (kxj X ϑ) E g)) : PE X (.Subscript e (.Slice none none (some (.UnaryOp .USub (.Constant (.int 1) k p1) p2)) p3) pos) (tE (kxj X ϑ) E (M.op1 M.revTW g)) := by
  refine PE.imp (pe_revT he) fun s H Q q => tM.imp (tE.one q) fun y H2 ⟨m, S, b, rs, rb, q⟩ => ?_
  unfold M.revTW at q
  cases rb with
  | tup hq rv => exact ⟨_, _, rfl, hq, fun p hp => q m _ _ (List.prefix_refl _) (Stay.new hp) (rs.grow hp) (.tup (SqT.of upd_same) (rv.rev.mono (List.prefix_refl _) (Stay.new hp)))⟩
  | _ => exact False.elim q
end
end
end Wo
set_option autoImplicit true
set_option maxRecDepth 100000
set_option maxHeartbeats 4000000
namespace Wo
open PySem PySem.Spec PyProof.Rows L2
/-! W31: defs with defaults, a call by one keyword, d.get of a dict of the module. -/
section
variable {P : Program} {w : World} {K : PySem.W.Frag} {mg : Str → Option Value} {base : Heap} {C : CXT}
theorem fnGD_of {x qual : Str} {params : Arguments} {body : List Stmt} {scope : Scope} {dvs : List V} {kws : List (Str × V)} {f : Addr} {fd : FuncData} {N ps : List Str} {k : Nat} {sp : Sp} (F : FunD K x qual params body scope dvs kws f fd) (S : FnScope N ps scope) (len : ∀ vs H Q E, sp vs H Q E → vs.length = ps.length)
    (hbody : ∀ (cdv : Value) (A : Around) (outer : List Env) (s : Shared) (H : Hp) (vs : List V) (Q : VK) (E : XK), Room k (A.deeper (envOfC qual scope s.heap.objs.size f cdv)) → A.guards = some [] → sp vs H Q E →
      ∃ t, PSs (cxOf C P w K mg base N qual scope f cdv A outer s H E) body t ∧ t { nx := fun _ H' => Q .non H', rt := Q } (start N vs) H) : FnG P w K mg base C (k + 1) f fd ps sp := by
  obtain ⟨oc, od, dV, kV, doc, pm, an, cdv, ct, osl, rfl, lk, hcd, _, _⟩ := F.ex
  refine ⟨len, ?_⟩
  intro A outer s H args us vs Q E room guard e0 bind rel promise
  have inS : K.In s.heap := e0.mod.kin.keeps fun b o e => (e0.bs b o e).1
  have noLim : s.heap.NoLimit := e0.mod.nolimit.keeps fun b o e => (e0.bs b o e).1
  have kinds : ∀ y ∈ ps.zip us, scope.names.lookup y.1 = some .local ∨ (scope.names.lookup y.1 = some .cell ∧ ((cellsFrom (s.heap.objs.size + 1) scope.names []).lookup y.1).isSome = true) := by
    rintro ⟨n, v⟩ hy
    exact (S.par n (List.of_mem_zip hy).1).imp id fun q => ⟨q, PySem.W.cellsFrom_some _ _ _ (Or.inl q)⟩
  refine codeAny_call_function room.depth (inS _ _ lk) rfl S.co S.gen rfl (PySem.W.codeRec_of inS hcd) (bind _ _ _ _ ?_)
  refine wpAny_newFunctionEnv_cells S.kind kinds fun env he s1 inc => ?_
  subst he
  refine ⟨noLim.keeps inc.toInCall.keep, codeAny_func ?_⟩
  obtain ⟨t, ht, hq⟩ := hbody cdv A outer s H vs Q E (room.deeper _) guard promise
  have I := inv_start (CX := C) (E := E) S room.hd e0 (len _ _ _ _ promise) rel inc
  refine wpAny_mono (ht.run [] s1 (start N vs) H _ I hq) (fun fl s' hs => ?_) fun e s' hs => hs
  cases fl with
  | brk => exact False.elim hs.choose_spec.choose_spec.2
  | cont => exact False.elim hs.choose_spec.choose_spec.2
  | ret u =>
    obtain ⟨v, σ', H', J, rv, q⟩ := hs
    exact ⟨v, H', J.os, J.bare, J.base, J.hok, rv, q⟩
  | next =>
    obtain ⟨σ', H', J, q⟩ := hs
    exact ⟨.non, H', J.os, J.bare, J.base, J.hok, rfl, q⟩
end
/-- a def with defaults: ds stand behind the n values that a call writes -/
structure DnD (P : Program) (w : World) (K : PySem.W.Frag) (mg : Str → Option Value) (base : Heap) (k : Nat) (x : Str) (ps : List Str) (g : List W → Store → Rs W) (dws : List W) (f : Addr) (fd : FuncData) : Prop where
  ok : FnG P w K mg base CX0 k f fd ps (sp0 K ps.length g)
  at_ : mg x = some (.ref f)
  kp : PySem.W.keepIn K (.ref f) = true
  bd : ∃ (dvs : List V) (ds : List Value), Vals dvs ds ∧ Binds K fd ps ds ∧ ∀ m H, RVs K m H dws dvs
section
variable {X : Cx} {C : CXT} {k : Nat} {f : Addr} {fd : FuncData} {ps : List Str} {sp : Sp} {E : XK} {x : Str} {p pos : Pos} {e : Expr} {es : List Expr} {t : TA}
theorem run_GD {pins : List (Addr × Obj)} {σ : L2.St} {H : Hp} {s : Shared} {Q : VK} {us ds : List Value} {vs dvs : List V} (F : FnG X.prog X.w X.K X.mg X.base C k f fd ps sp) (hr : Room k X.A) (hG : X.A.guards = some []) (hb : Binds X.K fd ps ds) (hd : Vals dvs ds) (hx : Passes C X E)
    (I : Inv X pins σ H s) (r : Vals vs us) (h : sp (vs ++ dvs) H Q E) : wpAny (model X.prog X.w) X.A (call (.ref f) us) (EP X pins σ Q) X.xe s := by
  have r2 : Vals (vs ++ dvs) (us ++ ds) := r.append hd
  have hl : (us ++ ds).length = ps.length := r2.length.symm.trans (F.len _ _ _ _ h)
  have bd := hb s us I.kIn hl
  refine wpAny_call (codeAny_mono (F.run X.A X.stack s H ⟨us, []⟩ (us ++ ds) (vs ++ dvs) Q E hr hG I.env0 bd r2 h) ?_)
  rintro (ex | (_ | _ | _ | u)) s' hq
  · exact hx pins σ H s ex s' I hq
  · exact False.elim hq
  · exact False.elim hq
  · exact False.elim hq
  · exact I.after hq
end
section
variable {X : Cx} {k : Nat} {f : Addr} {fd : FuncData} {ps : List Str} {x : Str} {p pos : Pos} {e : Expr} {es : List Expr}
theorem e_fnD {g : List W → Store → Rs W} {dws : List W} {gs : MA} (D : DnD X.prog X.w X.K X.mg X.base k x ps g dws f fd) (hl : ∀ ws S, ws.length ≠ ps.length → g ws S = .no) (rm : Rc X) (hr : Room k X.A)
    (ha : PA X (e :: es) (tA (kxj X ϑ) EX0 gs)) (hg : Gl X x := by rfl) (hdb : (x == ("__debug__" : Str)) = false := by decide) (he : starEach (e :: es) X.env = (false, eval e X.env) :: starEach es X.env := by rfl) (hpl : (backTo pos (starEach es X.env)).any (·.1) = false := by rfl) :
    PE X (.Call (.Name x p) (e :: es) [] pos) (tE (kxj X ϑ) EX0 (M.ops (fun ws S => g (ws ++ dws) S) gs)) := by
  obtain ⟨dvs, ds, hv, hb, hw⟩ := D.bd
  refine ⟨fun pins s σ H Q I h => wpAny_Call_Name_kw (ld_glob I hg D.at_ ?_ hdb)⟩
  refine PySem.W.callWith_K (h₀ := X.base) I.ok.mod.kin D.kp (thn (ha.run pos pins s σ H _ I (tE.many h)) ?_) he hpl
  rintro us s1 ⟨vs, H1, I1, r, q⟩
  refine ⟨I1.kIn, run_GD D.ok hr rm.g hb hv (pass0 (X := X)) I1 r (sp0_of (j := ϑ) hl ?_)⟩
  obtain ⟨m, S, ws, rs, rv, q⟩ := q
  exact ⟨m, S, ws ++ dws, rs, rv.append (hw _ _), q⟩
/-- f(k = e), the only parameter -/
theorem e_fnK {g : List W → Store → Rs W} {ge : ME} {ky : Str} {kpos : Pos} (D : Dn X.prog X.w X.K X.mg X.base k x ps g f fd) (hk1 : ∀ (s : Shared) (v : Value), BindsTo s fd ⟨[], [(ky, v)]⟩ (ps.zip [v])) (hl : ∀ ws S, ws.length ≠ ps.length → g ws S = .no) (rm : Rc X) (hr : Room k X.A)
    (ha : PE X e (tE (kxj X ϑ) EX0 ge)) (hg : Gl X x := by rfl) (hdb : (x == ("__debug__" : Str)) = false := by decide)
    (hall : (backToKw pos (keywordEach [⟨some ky, e, kpos⟩] X.env)).all (·.1.isSome) = true := by rfl) (hks : (backToKw pos (keywordEach [⟨some ky, e, kpos⟩] X.env)).filterMap (·.1) = [ky] := by rfl)
    (hpl : ((backTo pos (starEach [] X.env)).any (·.1) || (backToKw pos (keywordEach [⟨some ky, e, kpos⟩] X.env)).any (·.1.isNone)) = false := by rfl) :
    PE X (.Call (.Name x p) [] [⟨some ky, e, kpos⟩] pos) (tE (kxj X ϑ) EX0 (M.op1 (fun w S => g [w] S) ge)) := by
  refine ⟨fun pins s σ H Q I h => wpAny_Call_Name_kw (ld_glob I hg D.at_ ?_ hdb)⟩
  refine PySem.W.callWith_KW0 (h₀ := X.base) I.ok.mod.kin D.kp hall (thn ((pk_cons (nm := some ky) (kpos := kpos) ha pk_nil).run pos pins s σ H (fun vs H1 => ∃ v, vs = [v] ∧ rW1 (kxj X ϑ) X0 (fun w S => g [w] S) v H1 Q) I (tM.imp (tE.one h) fun v H1 q => ⟨v, rfl, q⟩)) ?_) hpl
  rintro us s1 ⟨vs, H1, I1, r, v, rfl, m, S, a, rs, ra, q⟩
  refine ⟨I1.kIn, ?_⟩
  rw [hks]
  cases r with
  | cons r1 r2 =>
    cases r2
    rename_i u
    refine wpAny_call (codeAny_mono (D.ok.run X.A X.stack s1 H1 ⟨[], [(ky, u)]⟩ [u] [v] Q X0 hr rm.g I1.env0 (hk1 s1 u) (.cons r1 .nil) (sp0_of (j := ϑ) hl ⟨m, S, [a], rs, .one ra, q⟩)) ?_)
    rintro (ex | (_ | _ | _ | u)) s' hq
    · exact pass0 (X := X) pins σ H1 s1 ex s' I1 hq
    · exact False.elim hq
    · exact False.elim hq
    · exact False.elim hq
    · exact I1.after hq
end
end Wo
set_option autoImplicit true
set_option maxRecDepth 100000
set_option maxHeartbeats 4000000
namespace Wo
open PySem PySem.Spec PyProof.Rows L2
/-! W32: a def with defaults by its walk; d.get of a dict of the module. -/
section
variable {P : Program} {w : World} {K : PySem.W.Frag} {mg : Str → Option Value} {base : Heap}
theorem dnD_mk {x qual : Str} {st : Stmt} {dvs : List V} {f : Addr} {fd : FuncData} {N ps : List Str} {k : Nat} {body : MS} {dws : List W} (F : FunD K x qual (defArgs st) (defBody st) (defScope st) dvs [] f fd) (S : FnScope N ps (defScope st)) (hat : mg x = some (.ref f))
    (bd : ∃ (dvs : List V) (ds : List Value), Vals dvs ds ∧ Binds K fd ps ds ∧ ∀ m H, RVs K m H dws dvs)
    (h : ∀ (cdv : Value) (A : Around) (outer : List Env) (s : Shared) (H : Hp) (E : XK), Rc (cxOf CX0 P w K mg base N qual (defScope st) f cdv A outer s H E).nox → Room k (cxOf CX0 P w K mg base N qual (defScope st) f cdv A outer s H E).nox.A → ∀ ϑ : Jx K, PSs (cxOf CX0 P w K mg base N qual (defScope st) f cdv A outer s H E).nox (defBody st) (tS ⟨K, ϑ⟩ EX0 body)) :
    DnD P w K mg base (k + 1) x ps (M.fn ps.length N.length body) dws f fd := by
  refine ⟨fnGD_of F S (fun vs H Q E q => q.1) fun cdv A outer s H vs Q E hr hG q => ?_, hat, F.kp, bd⟩
  obtain ⟨hl, j, m, S0, ws, rs, rv, q⟩ := q
  have hw : ws.length = ps.length := rv.length.trans hl
  have rf := RF.start (N := N) j rv
  rw [hw] at rf
  refine ⟨_, (h cdv A outer s H E ⟨⟨by have := hr.un; show (A.deeper _).units + 200 < _; omega, hG⟩, rfl⟩ hr j).nox, m, S0, _, rs, rf, ?_⟩
  unfold M.fn at q
  rw [if_pos hw] at q
  cases e : body (ws.map some ++ List.replicate (N.length - ps.length) none) S0 with
  | no =>
    rw [e] at q
    exact q
  | ex x f1 S1 =>
    rw [e] at q
    exact fun m' H' s' d p st rs' rf' rx => q m' H' d p st rs' rx
  | ok l S1 =>
    rw [e] at q
    cases l with
    | next f1 => exact fun m' H' s' p st rs' rf' => q m' H' .non p st rs' .non
    | ret u => exact q
    | brk f1 => exact False.elim q
    | cont f1 => exact False.elim q
/-- how it stands behind the top: the defaults a tuple of ints -/
theorem funD_mk {x qual : Str} {st : Stmt} {f T : Addr} {oc : Value} {od an : Option Addr} {osl : Array (Option Value)} {kV doc pm cdv ct : Value} {o : Obj} {its : List Value} {n : Nat} {dvs : List V}
    (l : K.lookup f = some ⟨oc, od, .func (PySem.W.fnOf x qual (defArgs st) (defBody st) (defScope st) (.ref T) kV doc pm an cdv ct), osl⟩) (c : PySem.W.codeIn K cdv qual = true) (k : PySem.W.keepIn K (.ref f) = true) (hT : K.lookup T = some o) (ho : o.data = .seq its.toArray n) (hv : Vals dvs its) (h0 : dvs ≠ []) :
    FunD K x qual (defArgs st) (defBody st) (defScope st) dvs [] f (PySem.W.fnOf x qual (defArgs st) (defBody st) (defScope st) (.ref T) kV doc pm an cdv ct) :=
  ⟨⟨oc, od, .ref T, kV, doc, pm, an, cdv, ct, osl, rfl, l, c, .inr ⟨h0, T, o, its, n, rfl, hT, ho, hv⟩, .inl rfl⟩, k⟩
end
/-! ### a dict of the module, texts to ints -/
namespace M
def getZ (kvs : List (Str × Int)) (z : Str) : W := match kvs.find? fun kv => decide (kv.1 = z) with
  | some kv => .int kv.2
  | none => .non
def getC (kvs : List (Str × Int)) : W → Store → Rs W := fun x S => match x with
  | .str z => .ok (getZ kvs z) S
  | _ => .no
end M
/-- its entries -/
abbrev Ents (P : Params) (es : List DictEntry) (kvs : List (Str × Int)) : Prop := Paired (fun e kv => e.hash = PyData.keyHash P kv.1 ∧ (∃ t, e.key = .str kv.1 t) ∧ ∃ u, e.val = .int kv.2 u) es kvs
theorem Ents.lit {P : Params} : ∀ {es : List DictEntry} {kvs : List (Str × Int)}, Ents P es kvs → PySem.W.KeysLit P es
  | _, _, .nil => True.intro
  | _, _, .cons ⟨h1, ⟨t, h2⟩, _⟩ r => ⟨⟨_, t, h2, h1⟩, Ents.lit r⟩
theorem Ents.get {P : Params} {K : PySem.W.Frag} (z : Str) : ∀ {es : List DictEntry} {kvs : List (Str × Int)}, Ents P es kvs → ∃ v : V, RelV v (((es.find? fun e => Value.isStrOf z e.key).map (·.val)).getD .none) ∧ ∀ m H, RV K m H (M.getZ kvs z) v
  | _, _, .nil => ⟨.non, rfl, fun _ _ => .non⟩
  | e :: es, kv :: kvs, .cons ⟨h1, ⟨t, h2⟩, ⟨u, h3⟩⟩ r => by
    by_cases hz : kv.1 = z
    · have e1 : Value.isStrOf z e.key = true := by rw [h2]; show (kv.1 == z) = true; rw [hz]; exact beq_self_eq_true z
      rw [List.find?_cons_of_pos (p := fun e : DictEntry => Value.isStrOf z e.key) e1]
      have e2 : M.getZ (kv :: kvs) z = .int kv.2 := by
        unfold M.getZ
        rw [List.find?_cons_of_pos (p := fun kv : Str × Int => decide (kv.1 = z)) (decide_eq_true hz)]
      rw [e2]
      refine ⟨.int kv.2, ?_, fun _ _ => .int _⟩
      show ∃ t, e.val = .int kv.2 t
      exact ⟨u, h3⟩
    · have e1 : ¬ Value.isStrOf z e.key = true := by
        rw [h2]
        show ¬ (kv.1 == z) = true
        intro q
        exact hz (eq_of_beq q)
      rw [List.find?_cons_of_neg (p := fun e : DictEntry => Value.isStrOf z e.key) e1]
      have e2 : M.getZ (kv :: kvs) z = M.getZ kvs z := by
        unfold M.getZ
        rw [List.find?_cons_of_neg (p := fun kv : Str × Int => decide (kv.1 = z)) (by simpa using hz)]
      rw [e2]
      exact Ents.get z r
section
variable {X : Cx} {E : EX}
structure KGet (K : PySem.W.Frag) (w : World) (a : Addr) (kvs : List (Str × Int)) : Prop where
  ex : ∃ es n, K.lookup a = some ⟨.type "dict", none, .dict es n, #[]⟩ ∧ (a == sysModules) = false ∧ Ents w.params es.toList kvs
theorem e_getC {x : Str} {p apos cpos : Pos} {e : Expr} {kvs : List (Str × Int)} {ge : ME} (hg : Gl X x) (hk : ∃ a, X.mg x = some (.ref a) ∧ KGet X.K X.w a kvs) (he : PE X e (tE (kxj X ϑ) E ge)) (m : M1 X (.Name x p) "get" apos e cpos := by exact ⟨rfl, rfl, rfl, rfl⟩) (hd : (x == ("__debug__" : Str)) = false := by decide) :
    PE X (.Call (.Attribute (.Name x p) "get" apos) [e] [] cpos) (tE (kxj X ϑ) E (M.op1 (M.getC kvs) ge)) := by
  obtain ⟨a, hm, kg⟩ := hk
  obtain ⟨es, n, hl, hs, hE⟩ := kg.ex
  refine ⟨fun pins s σ H Q I h => ?_⟩
  have ho : PE X (.Name x p) (tC (.ref a)) := pe_glob hg hm (v := .ref a) rfl hd
  refine wpAny_Call_method m.base m.few m.line PySem.F.plainAttrs_dict PySem.F.slot_dict_get PySem.F.type_dict_get (thn (ho.run pins s σ H (fun v H1 => v = .ref a ∧ H1 = H) I ⟨rfl, rfl⟩) fun u s1 ⟨v, H1, I1, rx, ev, eH⟩ => ?_)
  subst ev eH
  obtain rfl : u = Value.ref a := rx
  have hm1 := PySem.W.mapOf_K (prog := X.prog) (w := X.w) I1.kIn hl (Ents.lit hE)
  refine ⟨hm1.typeIs, fun b q => ?_, ?_⟩
  · cases q
    exact ⟨_, I1.kIn _ _ hl, rfl⟩
  · rw [m.trees]
    refine Calls.callWith_builtin rfl (Calls.evalArgs_plain (Calls.spliced_cons (thn (he.run pins s1 σ H1 _ I1 (tE.one h)) fun iv s2 ⟨y, H2, I2, ry, mm, S, b, rs, rb, q2⟩ => Calls.spliced_nil ?_)))
    unfold M.getC at q2
    cases rb with
    | str z =>
      obtain ⟨t, rfl⟩ := (show ∃ t, iv = Value.str z t from ry)
      have hm2 := PySem.W.mapOf_K (prog := X.prog) (w := X.w) I2.kIn hl (Ents.lit hE)
      obtain ⟨v, r1, r2⟩ := Ents.get (K := X.K) z hE
      refine call_meetsIn PySem.F.slot_dict_get hm2.typeIs PySem.F.entry_dict_get (PySem.F.args_dict_get_2 _ _) (meets_dict_get (strKind X.prog X.w) a (strKind_is X.prog X.w z t) hs) ⟨_, hm2, v, H2, I2.tok _, ?_, q2.here rs (r2 _ _)⟩
      have ef : findBy Value.isStrOf es z = (es.toList.find? fun e => Value.isStrOf z e.key).map (·.val) := by
        obtain ⟨l⟩ := es
        unfold findBy
        rw [List.find?_toArray]
      rw [ef]
      exact r1
    | _ => exact False.elim q2
end
end Wo
set_option autoImplicit true
set_option maxRecDepth 100000
set_option maxHeartbeats 4000000
namespace Wo
open PySem PySem.Spec PyProof.Rows L2
open Builtin Builtin.ObjectAttr
/-! W33: own exception classes over any built-in one. -/
/-- what is known of the class at C: over B -/
structure OexB (K : PySem.W.Frag) (B newId initId : String) (bmB : List Value) (C : Addr) : Prop where
  F : ExcBaseFacts B newId initId bmB
  SF : StoreFacts B bmB "object.__setattr__" "object"
  ob : bmB.contains (.type "object") = true
  cls : ∃ nm q N bs bm sn sub ab col dd k0 k1 k2 k3 k5, K.lookup C = some (excClassObj nm q C N bs bm true sn sub ab col dd k0 k1 k2 k3 k5 newId) ∧ PySem.W.excTail bmB bm = true
  sa : PySem.W.findIn K (.ref C) "__setattr__" = some (some (.builtin "object.__setattr__"))
  exC : PySem.W.subIn K (.ref C) (.type "BaseException") = some true
  tyC : PySem.W.typeIn K (.ref C) = some (.type "type")
  kC : PySem.W.keepIn K (.ref C) = true
section
variable {prog : Program} {w : World} {A : Around} {E : Value → Shared → Prop} {R : Result → Shared → Prop} {hp : Heap} {g : Array GenState} {d : Drawn} {t : Nat} {os : OsState}
/-- the first field of an exception -/
theorem osa_first {K : PySem.W.Frag} {name : Str} {tk : Tok} {v : Value} {x C : Addr} {fv : Array Value} {cd : ClassData} {bmB : List Value} {B : String} (SB : StoreFacts B bmB "object.__setattr__" "object") (hoB : bmB.contains (.type "object") = true)
    (X : K.In hp) (hx : hp.get? x = some { cls := .ref C, data := .fields fv }) (hcd : PySem.W.clsIn K C = some cd) (hm : PySem.W.excTail bmB cd.mro = true) (hne : cd.mro.isEmpty = false) (hh : cd.hasDict = true) (ha : PySem.W.findIn K (.ref C) name = some none)
    (hq : ∀ h' tk' dx, (∀ b o, b ≠ x → hp.get? b = some o → h'.get? b = some o) → hp.objs.size ≤ dx → dx ≠ x → h'.get? x = some { cls := .ref C, dict := some dx, data := .fields fv } →
      h'.Ns1 dx (fun y => if y = name then some v else none) → R (.ok (.ret .none)) ⟨h', g, d, tk', os⟩) :
    codeAny (model prog w) A (.call (.builtin "object.__setattr__") ⟨[.ref x, .str name tk, v], []⟩) R ⟨hp, g, d, t, os⟩ := by
  have I : PySem.W.InstAt hp x { cls := .ref C, data := .fields fv } C none := ⟨hx, rfl, rfl, trivial⟩
  have SO := PySem.F.store_object
  have hob : cd.mro.contains (.type "object") = true := (PySem.W.excTail_contains "object" _ hm).trans hoB
  have hxs : x ≠ hp.objs.size := Nat.ne_of_lt (Heap.lt_size hx)
  have sub : PySem.W.Looks (model prog w) hp (isInstance (.ref x) (.type "object")) true := I.type.andThen (PySem.W.looks_mroIn X (by unfold PySem.W.mroIn; rw [hcd, Option.bind_some, if_neg (by rw [hne]; decide), hob]))
  refine codeAny_call_builtin SO.slot.plain SO.entry (@PySem.W.check_slot (model prog w) _ _ ⟨hp, g, d, t, os⟩ "object.__setattr__" "object" "__setattr__" (.ref x) [.str name tk, v] [] _ SO.kind SO.split sub (SO.args (.ref x) (.str name tk) v) ?_)
  have hmr : PySem.W.Looks (model prog w) hp (mroOf (.ref C)) cd.mro := (PySem.W.looks_clsIn X hcd).andThen .now
  have L3 : PySem.W.Looks (model prog w) hp (storeTaker? none) none := .now
  have hcls : PySem.W.Looks (model prog w) hp (classData C) cd := PySem.W.looks_clsIn X hcd
  rw [PySem.W.osa_eq, refuse_eq]
  refine wpAny_bind (wpAny_bind (I.type.at (wpAny_bind (hmr.at ?_))))
  rw [PySem.W.excTail_pass _ (SB.passes _) _ hm]
  refine wpAny_pure (wpAny_bind (I.type.at (wpAny_bind ((PySem.W.looks_findIn X ha).at (wpAny_bind (L3.at ?_))))))
  show wpAny _ _ (storeInOwnDict (.ref x) (.ref C) (.str name tk) name v false) _ _ _
  obtain ⟨nm, bs, mro, ns, qn, hd, sn, sb, ab, col, del⟩ := cd
  dsimp only at hh
  subst hh
  unfold storeInOwnDict ownDictForStores
  repeat (first | with_reducible refine PySem.HandSPX.store_in_new ?_ ?_ | with_reducible refine wpAny_loadPart_at hx ?_ | with_reducible refine hcls.at ?_ | wp_step)
  · exact ⟨_, #[], _, (Heap.get?_update_ne _ _ _ _ hxs.symm).trans (Heap.get?_push_at rfl rfl), rfl, fun e he => absurd he (by simp), fun _ => rfl⟩
  · intro h' tk' hn' hs
    have hx₁ : (hp.push { cls := .type "dict", data := .dict #[] }).get? x = some { cls := .ref C, data := .fields fv } := Heap.get?_push_of_some _ hx
    refine hq h' tk' hp.objs.size (fun b o hb ho => ?_) (Nat.le_refl _) hxs.symm ?_ hn'
    · exact (hs.2 b (Nat.ne_of_lt (Heap.lt_size ho))).trans ((Heap.get?_update_ne _ _ _ _ hb).trans (Heap.get?_push_of_some _ ho))
    · exact (hs.2 x hxs).trans (Heap.get?_update_self _ hx₁ rfl)
end
end Wo
set_option autoImplicit true
set_option maxRecDepth 100000
set_option maxHeartbeats 4000000
namespace Wo
open PySem PySem.Spec PyProof.Rows L2
/-! W34: such a class's own __init__: B.__init__(self, ..), then self.f = y; C(y). -/
section
variable {X : Cx} {pins : List (Addr × Obj)} {σ : L2.St} {H : Hp} {s : Shared} {a C dx : Addr} {f : Str} {y : V} {u : Value} {Q : Unit → Shared → Prop} {E : Value → Shared → Prop} {A : Around} {B newId initId : String} {bmB : List Value}
theorem ostB (T : OexB X.K B newId initId bmB C) (I : Inv X pins σ H s) (e : H a = some (exo a C none)) (hno : PySem.W.findIn X.K (.ref C) f = some none) (ry : RelV y u)
    (h : ∀ dx s', H dx = none → dx ≠ a → Inv X pins σ (upd (upd H dx (exd dx [(f, y)])) a (exo a C (some dx))) s' → Q () s') : wpAny (model X.prog X.w) A (setAttr (.ref a) f u) Q E s := by
  obtain ⟨nm, q, N, bs, bm, sn, sub, ab, col, dd, k0, k1, k2, k3, k5, hC, hbm⟩ := T.cls
  have hcl : PySem.W.clsIn X.K C = some { name := nm, bases := bs, mro := .ref C :: bm, ns := N, qualname := q, hasDict := true, slotNames := sn, subclasses := sub, abstract := ab, collection := col, hasDel := false } := by unfold PySem.W.clsIn; rw [hC] <;> rfl
  obtain ⟨t1, ho⟩ := exo_at I.hok e
  obtain ⟨hp, g, d, t, os⟩ := s
  refine PySem.W.set_plain I.kIn (ox := { cls := .ref C, dict := none, data := .fields #[.ref t1, .none, .none, .none, .bool false, .none] }) (od := none) ⟨ho, rfl, rfl, trivial⟩ T.sa ?_
  refine osa_first T.SF T.ob I.kIn ho hcl (show PySem.W.excTail bmB (.ref C :: bm) = true from hbm) rfl rfl hno (fun h' tk' dx k dn dne hx hn => ?_)
  have hnd : H dx = none := I.hok.fresh dn
  have nd : ∀ {b : Addr} {o : Obj}, hp.get? b = some o → b ≠ dx := fun {b o} q => Nat.ne_of_lt (Nat.lt_of_lt_of_le (Heap.lt_size q) dn)
  have na : ∀ {b : Addr}, H b = none → b ≠ a := fun {b} n z => by
    rw [z, e] at n
    cases n
  have Un1 : Un X.fs [] H (upd (upd H dx (exd dx [(f, y)])) a (exo a C (some dx))) hp h' := {
    keep := fun b o q n _ _ => k b o (na n) q
    slot := fun b o q n _ _ => ⟨o.slots, k b o (na n) q⟩
    free := fun b o q n _ => by rw [upd_ne (na n), upd_ne (nd q)]; exact n
    there := fun b o q _ => by
      by_cases hb : b = a
      · exact ⟨_, by rw [hb]; exact hx⟩
      · exact ⟨o, k b o hb q⟩
    tups := fun b xs q => by rw [upd_ne (at_ne e q exo_tup), upd_ne (ne_of_none q hnd)]; exact q
    frzs := fun b o v q => by rw [upd_ne (at_ne e q exo_frz), upd_ne (ne_of_none q hnd)]; exact q
    tbls := fun b ps q => ⟨#[], by rw [upd_ne (at_ne e q exo_tbl), upd_ne (ne_of_none q hnd), q]; simp⟩ }
  refine h dx _ hnd dne (I.un (t' := tk') Un1 fun b o q => ?_)
  by_cases hb : b = a
  · subst hb
    rw [upd_same] at q
    cases q
    exact exo_ok hx
  · rw [upd_ne hb] at q
    by_cases hd : b = dx
    · subst hd
      rw [upd_same] at q
      cases q
      exact exd_ok hn (relO_put (fs := []) ry fun g => True.intro)
    · rw [upd_ne hd] at q
      exact (I.hok b o q).stay (fun c v hc r => k c v (fun z => by
          subst z
          rcases hc with hc | hc
          · exact hb hc.symm
          · rw [e] at hc
            exact exo_own (Option.some.inj hc)) r)
        (fun c hc => by rw [upd_ne (at_ne e hc exo_own), upd_ne (ne_of_none hc hnd)]; exact hc) (fun c xs hc => by rw [upd_ne (at_ne e hc exo_tup), upd_ne (ne_of_none hc hnd)]; exact hc)
theorem initB {us : List Value} {Q : Value → Shared → Prop} (T : OexB X.K B newId initId bmB C) (I : Inv X pins σ H s) (e : H a = some (exo a C none)) (hl : us.length ≤ sizeLine) (h : ∀ s', Inv X pins σ H s' → Q .none s') :
    wpAny (model X.prog X.w) A (call (.builtin initId) (.ref a :: us)) Q E s := by
  obtain ⟨nm, q, N, bs, bm, sn, sub, ab, col, dd, k0, k1, k2, k3, k5, hC, hbm⟩ := T.cls
  obtain ⟨t1, ho⟩ := exo_at I.hok e
  obtain ⟨hp, g, d, t, os⟩ := s
  refine wpAny_call (PySem.HandSPX.init_base T.F (fun Y => PySem.W.excTail_contains Y bm hbm) (I.kIn _ _ hC) ho hl fun h' t2 k hx => ?_)
  have J := I.write (t' := t) (x := a) (e := a) (o := exo a C none) (by rw [e]; exact True.intro) (.inl rfl) k ⟨_, hx⟩ (exo_ok hx)
  have eu : upd H a (exo a C none) = H := by
    funext b
    by_cases hb : b = a
    · rw [hb, upd_same, e]
    · rw [upd_ne hb]
  rw [eu] at J
  exact h _ J
end
end Wo
set_option autoImplicit true
set_option maxRecDepth 100000
set_option maxHeartbeats 4000000
namespace Wo
open PySem PySem.Spec PyProof.Rows L2
/-! W35: rules for such an __init__, and for the making of the exception. -/
/-- what is known of the built-in class B -/
structure BaseI (B newId initId : String) (bmB : List Value) : Prop where
  F : ExcBaseFacts B newId initId bmB
  SF : StoreFacts B bmB "object.__setattr__" "object"
  ob : bmB.contains (.type "object") = true
  ty : typeOf (.type B) = pure (.type "type")
  bt : bootBuiltins (B : Str) = some (.type B)
  st : Manifest.isStub B = false
  hi : PySem.W.handedIn (.builtin initId) = true
  n1 : (B : Str) ≠ "__name__"
  n2 : ((B : Str) == ("__debug__" : Str)) = false
def tBI (K : PySem.W.Frag) (B newId initId : String) (bmB : List Value) (ta : TA) : TE := fun σ H Q => ta σ H fun vs H1 => ∃ (a C : Addr) (ws : List V), vs = .ref a :: ws ∧ ws.length ≤ 1000 ∧ OexB K B newId initId bmB C ∧ H1 a = some (exo a C none) ∧ Q .non H1
section
variable {X : Cx} {o e : Expr} {es : List Expr} {to te : TE} {ta : TA} {f : Str} {p p' p1 p2 pos : Pos} {bmB : List Value}
theorem pe_binit {B newId initId : String} {pl : Sem Bool} (BI : BaseI B newId initId bmB) (hg : Gl X (B : Str)) (hm : X.mg (B : Str) = none) (vV : PySem.W.findCls X.K (.type B) (.type "type") "__init__" = some (.val (.builtin initId))) (ha : PA X (e :: es) ta)
    (hc : eval (.Call (.Attribute (.Name (B : Str) p1) "__init__" p2) (e :: es) [] pos) X.env = (do
      let ov ← eval (.Name (B : Str) p1) X.env
      standAt p2.atName
      let (f, first) ← holding [ov] (getMethod ov "__init__" pl)
      callWith pos f first (backTo pos (starEach (e :: es) X.env)) (backToKw pos (keywordEach [] X.env))) := by rfl)
    (he : starEach (e :: es) X.env = (false, eval e X.env) :: starEach es X.env := by rfl) (hpl : (backTo pos (starEach es X.env)).any (·.1) = false := by rfl) :
    PE X (.Call (.Attribute (.Name (B : Str) p1) "__init__" p2) (e :: es) [] pos) (tBI X.K B newId initId bmB ta) := by
  refine ⟨fun pins s σ H Q I h => ?_⟩
  refine PySem.W.methodCall_KW (ld_blt I hg hm BI.bt ?_ BI.n1 BI.n2) hc
  obtain ⟨m, fr⟩ := I.fr
  refine PySem.W.method_type fr I.ok.mod.kin BI.ty BI.st vV BI.hi ?_
  show wpAny _ _ (callWith pos (Value.builtin initId) [] (backTo pos (starEach (e :: es) X.env)) []) _ _ _
  refine PyProof.Rows.callWith_method1 (thn (ha.run pos pins _ σ H _ (I.tok _) h) fun us s1 ⟨vs, H1, I1, r1, a, C, ws, ev, hl, T, ea, q⟩ => ?_) he hpl
  subst ev
  cases r1 with
  | @cons _ u0 _ ur ra rw' =>
    obtain rfl : u0 = Value.ref a := ra
    have hlen : ur.length ≤ sizeLine := by
      rw [← Paired.length rw', sizeLine_eq]
      omega
    exact initB T I1 ea hlen fun s' J => ⟨.non, H1, J, rfl, q⟩
/-- self.f = e, the first field -/
def tOstB (K : PySem.W.Frag) (B newId initId : String) (bmB : List Value) (f : Str) (to te : TE) : TS := fun D σ H => te σ H fun y H1 => to σ H1 fun x H2 => ∃ a C : Addr, x = .ref a ∧ OexB K B newId initId bmB C ∧ PySem.W.findIn K (.ref C) f = some none ∧
  H2 a = some (exo a C none) ∧ ∀ dx, H2 dx = none → dx ≠ a → D.nx σ (upd (upd H2 dx (exd dx [(f, y)])) a (exo a C (some dx)))
theorem ps_ostB {B newId initId : String} (ho : PE X o to) (he : PE X e te) (hs : swapsWith e (some (.Attribute o f p')) pos.line X.env = pure false := by rfl) : PS X (.Assign [.Attribute o f p'] e pos) (tOstB X.K B newId initId bmB f to te) := by
  refine ⟨fun pins s σ H D I h => ?_⟩
  refine plainObj_wpAny_Assign_Attribute (thn (he.run pins s σ H _ I h) fun v s1 ⟨y, H1, I1, r1, q1⟩ => thn (ho.run pins s1 σ H1 _ I1 q1) fun u s2 ⟨x, H2, I2, r2, a, C, ex, T, hno, ea, q⟩ => ?_) hs
  subst ex
  obtain rfl : u = Value.ref a := r2
  exact ostB T I2 ea hno r1 fun dx s' n ne J => ⟨σ, _, J, q dx n ne⟩
end
/-- what the __init__ of C promises: self's dict has the one field -/
def spI (C : Addr) (f : Str) : Sp := fun vs H Q _ => ∃ (a : Addr) (y : V), vs = [.ref a, y] ∧ H a = some (exo a C none) ∧ ∀ dx, H dx = none → dx ≠ a → Q .non (upd (upd H dx (exd dx [(f, y)])) a (exo a C (some dx)))
/-- C(e): e is put under the field f -/
def tMkB (C : Addr) (f : Str) (ta : TA) : L2.St → Hp → XK → Prop := fun σ H Q => ta σ H fun vs H1 => ∃ y, vs = [y] ∧ ∀ d, H1 d = none → Q (.ref C) (some d) (upd H1 d (.xd [(f, y)]))
section
variable {X : Cx} {e : Expr} {es : List Expr} {ta : TA} {f : Str} {p pos : Pos} {B newId initId : String} {bmB : List Value}
theorem pmkB {CX : CXT} {x : Str} {C fI : Addr} {k : Nat} {fd : FuncData} {ps : List Str} (T : OexB X.K B newId initId bmB C) (iC : PySem.W.findIn X.K (.ref C) "__init__" = some (some (.ref fI))) (tI : PySem.W.typeIn X.K (.ref fI) = some (.type "function"))
    (F1 : FnOk X.prog X.w X.K X.mg X.base CX k fI fd ps (spI C f)) (hr : Room (k + 1) X.A) (hb : Binds X.K fd ps []) (hx : Passes CX X (fun _ _ _ => False)) (hg : Gl X x) (hm : X.mg x = some (.ref C)) (ha : PA X (e :: es) ta)
    (hdb : (x == ("__debug__" : Str)) = false := by decide) (he : starEach (e :: es) X.env = (false, eval e X.env) :: starEach es X.env := by rfl) (hpl : (backTo pos (starEach es X.env)).any (·.1) = false := by rfl) :
    PMk X (.Call (.Name x p) (e :: es) [] pos) (tMkB C f ta) := by
  intro pins s σ H Q I h
  obtain ⟨nm, q, N, bs, bm, sn, sub, ab, col, dd, k0, k1, k2, k3, k5, hC, hbm⟩ := T.cls
  refine wpAny_Call_Name_kw (ld_glob I hg hm ?_ hdb)
  refine PySem.W.callWith_K (h₀ := X.base) I.ok.mod.kin T.kC (thn (ha.run pos pins s σ H _ I h) fun us s1 ⟨vs, H1, I1, r1, y, ev, q1⟩ => ⟨I1.kIn, ?_⟩) he hpl
  subst ev
  show wpAny _ _ (call (.ref C) us) _ _ _
  obtain ⟨hp, g, dr, tk, os⟩ := s1
  have hsz : hp.objs.size ≤ hp.objs.size + 1 := Nat.le_succ _
  have hn : H1 (hp.objs.size + 1) = none := I1.hok.fresh hsz
  have kk : ∀ b o, hp.get? b = some o → ((hp.push (PySem.W.kdv_tup us)).push (PySem.HandSPX.excO C hp.objs.size)).get? b = some o := fun b o e => Heap.get?_push_of_some _ (Heap.get?_push_of_some _ e)
  have hget : ((hp.push (PySem.W.kdv_tup us)).push (PySem.HandSPX.excO C hp.objs.size)).get? (hp.objs.size + 1) = some (PySem.HandSPX.excO C hp.objs.size) := by heap_get
  have I2 : Inv X pins σ (upd H1 (hp.objs.size + 1) (exo (hp.objs.size + 1) C none)) ⟨(hp.push (PySem.W.kdv_tup us)).push (PySem.HandSPX.excO C hp.objs.size), g, dr, tk, os⟩ :=
    I1.laid (t' := tk) (a := hp.objs.size + 1) (o := exo (hp.objs.size + 1) C none) (h' := (hp.push (PySem.W.kdv_tup us)).push (PySem.HandSPX.excO C hp.objs.size)) kk hsz (exo_ok hget)
  have r2 : Vals [V.ref (hp.objs.size + 1), y] (Value.ref (hp.objs.size + 1) :: us) := .cons rfl r1
  -- what __init__ is to leave
  have hq : spI C f [V.ref (hp.objs.size + 1), y] (upd H1 (hp.objs.size + 1) (exo (hp.objs.size + 1) C none)) (fun v H2 => v = .non ∧ ∃ (d : Addr) (fs : List (Str × V)), H2 (hp.objs.size + 1) = some (exo (hp.objs.size + 1) C (some d)) ∧ H2 d = some (exd d fs) ∧ H1 d = none ∧ Q (.ref C) (some d) (upd (del H2 (hp.objs.size + 1)) d (.xd fs))) (fun _ _ _ => False) := by
    refine ⟨_, y, rfl, upd_same, fun dx hdx hda => ⟨rfl, dx, [(f, y)], upd_same, ?_, ?_, ?_⟩⟩
    · rw [upd_ne hda, upd_same]
    · rw [upd_ne hda] at hdx
      exact hdx
    · have h1d : H1 dx = none := by
        rw [upd_ne hda] at hdx
        exact hdx
      have eq : upd (del (upd (upd (upd H1 (hp.objs.size + 1) (exo (hp.objs.size + 1) C none)) dx (exd dx [(f, y)])) (hp.objs.size + 1) (exo (hp.objs.size + 1) C (some dx))) (hp.objs.size + 1)) dx (.xd [(f, y)]) = upd H1 dx (.xd [(f, y)]) := by
        funext b
        by_cases hb : b = dx
        · rw [hb, upd_same, upd_same]
        · rw [upd_ne hb, upd_ne hb]
          by_cases hb2 : b = hp.objs.size + 1
          · rw [hb2, del_same, hn]
          · rw [del_ne hb2, upd_ne hb2, upd_ne hb, upd_ne hb2]
      rw [eq]
      exact q1 dx h1d
  have hl : (Value.ref (hp.objs.size + 1) :: us).length = ps.length := by
    have e := r2.length
    rw [F1.len _ _ _ _ hq] at e
    exact e.symm
  have hus : us.length ≤ sizeLine := by
    rw [← Paired.length r1, sizeLine_eq]
    show 1 ≤ _
    omega
  have bd := hb ⟨(hp.push (PySem.W.kdv_tup us)).push (PySem.HandSPX.excO C hp.objs.size), g, dr, tk, os⟩ (Value.ref (hp.objs.size + 1) :: us) I2.kIn (by rw [List.append_nil]; exact hl)
  rw [List.append_nil] at bd
  refine wpAny_call (PySem.HandSPX.call_own T.F (fun Y => PySem.W.excTail_contains Y bm hbm) (I1.kIn _ _ hC) (PySem.W.looks_findIn I1.kIn iC) (fun self => PySem.W.bind_fn I1.kIn self tI) hus
    (codeAny_mono (F1.run _ X.stack _ _ ⟨Value.ref (hp.objs.size + 1) :: us, []⟩ (Value.ref (hp.objs.size + 1) :: us) _ _ (fun _ _ _ => False) (hr.make C us []) (I2.env0.make C us []) bd r2 hq) fun r s' hq' => ?_))
  cases r with
  | error er => exact hx pins σ _ _ er s' I2 hq'
  | ok fl =>
    cases fl with
    | ret u =>
      obtain ⟨v, H2, os2, bare2, un2, hok2, rv, ev, d, fs, ea, ed, hd1, q2⟩ := hq'
      subst ev
      obtain ⟨h2, g2, d2, t2, os'⟩ := s'
      exact ⟨rv, mk_end (raises_own T.exC T.tyC) I1 hsz kk un2 hok2 os2 bare2 ea ed hd1 q2⟩
    | next => exact False.elim hq'
    | brk => exact False.elim hq'
    | cont => exact False.elim hq'
end
end Wo
set_option autoImplicit true
set_option maxRecDepth 100000
set_option maxHeartbeats 4000000
namespace Wo
open PySem PySem.Spec PyProof.Rows L2
/-! W36: defs that may raise; their calls; raise. -/
namespace M
def raise (C : String) (fl : Str) (gs : MA) : MS := thenS gs fun ws f S => match ws with
  | [w] => .ex ⟨C, some [(fl, w)]⟩ f S
  | _ => .no
/-- a def that raises nothing, called where something may be raised -/
def quiet (g : List W → Store → Rs W) : List W → Store → Rs W := fun ws S => (g ws S).noex
end M
/-- a promise of a def that may raise -/
def sp1 (K : PySem.W.Frag) (n : Nat) (g : List W → Store → Rs W) : Sp := fun vs H Q E => vs.length = n ∧ ∃ (j : Jx K) (m : List Addr) (S : Store) (ws : List W), RS ⟨K, j⟩ m S H ∧ RVs K m H ws vs ∧ Post ⟨K, j⟩ E (RV K) m H (g ws S) Q
structure DnX (P : Program) (w : World) (K : PySem.W.Frag) (mg : Str → Option Value) (base : Heap) (k : Nat) (x : Str) (ps : List Str) (g : List W → Store → Rs W) (f : Addr) (fd : FuncData) : Prop where
  ok : FnG P w K mg base (L2.CX P w) k f fd ps (sp1 K ps.length g)
  at_ : mg x = some (.ref f)
  kp : PySem.W.keepIn K (.ref f) = true
  bd : Binds K fd ps []
section
variable {P : Program} {w : World} {K : PySem.W.Frag} {mg : Str → Option Value} {base : Heap}
theorem dnX_mk {x qual : Str} {st : Stmt} {f : Addr} {fd : FuncData} {N ps : List Str} {k : Nat} {body : MS} (F : Fun K x qual st f fd) (S : FnScope N ps (defScope st)) (hat : mg x = some (.ref f)) (bd : Binds K fd ps [])
    (h : ∀ (cdv : Value) (A : Around) (outer : List Env) (s : Shared) (H : Hp) (E : XK), Rc (cxOf (L2.CX P w) P w K mg base N qual (defScope st) f cdv A outer s H E) → Room k (cxOf (L2.CX P w) P w K mg base N qual (defScope st) f cdv A outer s H E).A →
      Takes (cxOf (L2.CX P w) P w K mg base N qual (defScope st) f cdv A outer s H E) (fun cls d _ H => E cls d H) → ∀ ϑ : Jx K, PSs (cxOf (L2.CX P w) P w K mg base N qual (defScope st) f cdv A outer s H E) (defBody st) (tS ⟨K, ϑ⟩ (fun _ => E) body)) :
    DnX P w K mg base (k + 1) x ps (M.fn ps.length N.length body) f fd := by
  refine ⟨fnG_of F S (fun vs H Q E q => q.1) fun cdv A outer s H vs Q E hr hG q => ?_, hat, F.kp, bd⟩
  obtain ⟨hl, j, m, S0, ws, rs, rv, q⟩ := q
  have hw : ws.length = ps.length := rv.length.trans hl
  have rf := RF.start (N := N) j rv
  rw [hw] at rf
  refine ⟨_, h cdv A outer s H E ⟨⟨by have := hr.un; show (A.deeper _).units + 200 < _; omega, hG⟩, rfl⟩ hr (takes_of rfl rfl rfl rfl) j, m, S0, _, rs, rf, ?_⟩
  unfold M.fn at q
  rw [if_pos hw] at q
  cases e : body (ws.map some ++ List.replicate (N.length - ps.length) none) S0 with
  | no =>
    rw [e] at q
    exact q
  | ex x f1 S1 =>
    rw [e] at q
    exact fun m' H' s' d p st rs' rf' rx => q m' H' d p st rs' rx
  | ok l S1 =>
    rw [e] at q
    cases l with
    | next f1 => exact fun m' H' s' p st rs' rf' => q m' H' .non p st rs' .non
    | ret u => exact q
    | brk f1 => exact False.elim q
    | cont f1 => exact False.elim q
end
section
variable {X : Cx} {k : Nat} {f : Addr} {fd : FuncData} {ps : List Str} {x : Str} {p pos : Pos} {e : Expr} {es : List Expr} {E : EX}
theorem sp1_of {K : PySem.W.Frag} {j : Jx K} {n : Nat} {g : List W → Store → Rs W} (hl : ∀ ws S, ws.length ≠ n → g ws S = .no) {vs : List V} {H : Hp} {Q : VK} {E : XK} (h : rWs ⟨K, j⟩ E g vs H Q) : sp1 K n g vs H Q E := by
  obtain ⟨m, S, ws, rs, rv, q⟩ := h
  by_cases hw : ws.length = n
  · exact ⟨rv.length.symm.trans hw, j, m, S, ws, rs, rv, q⟩
  · rw [hl ws S hw] at q
    exact False.elim q
/-- a def that may raise, called -/
theorem e_fnX {g : List W → Store → Rs W} {gs : MA} (D : DnX X.prog X.w X.K X.mg X.base k x ps g f fd) (hl : ∀ ws S, ws.length ≠ ps.length → g ws S = .no) (rm : Rc X) (hr : Room k X.A) (tk : Takes X (fun cls d s H => E s cls d H))
    (ha : PA X (e :: es) (tA (kxj X ϑ) E gs)) (hg : Gl X x := by rfl) (hdb : (x == ("__debug__" : Str)) = false := by decide) (he : starEach (e :: es) X.env = (false, eval e X.env) :: starEach es X.env := by rfl) (hpl : (backTo pos (starEach es X.env)).any (·.1) = false := by rfl) :
    PE X (.Call (.Name x p) (e :: es) [] pos) (tE (kxj X ϑ) E (M.ops g gs)) := by
  refine ⟨fun pins s σ H Q I h => wpAny_Call_Name_kw (ld_glob I hg D.at_ ?_ hdb)⟩
  refine PySem.W.callWith_K (h₀ := X.base) I.ok.mod.kin D.kp (thn (ha.run pos pins s σ H _ I (tE.many h)) ?_) he hpl
  rintro us s1 ⟨vs, H1, I1, r, q⟩
  refine ⟨I1.kIn, ?_⟩
  have sp := sp1_of hl q
  have hlen : us.length = ps.length := r.length.symm.trans sp.1
  have bd := D.bd s1 us I1.kIn (by rw [List.append_nil]; exact hlen)
  rw [List.append_nil] at bd
  refine wpAny_call (codeAny_mono (D.ok.run X.A X.stack s1 H1 ⟨us, []⟩ us vs Q (E σ) hr rm.g I1.env0 bd r sp) ?_)
  rintro (ex | (_ | _ | _ | u)) s' hq
  · exact tk ex s' (XE.of_call I1 (fun cls d H' z => z) hq)
  · exact False.elim hq
  · exact False.elim hq
  · exact False.elim hq
  · exact I1.after hq
/-- a def that raises nothing, called where something may be raised -/
theorem e_fnQ {g : List W → Store → Rs W} {gs : MA} (D : Dn X.prog X.w X.K X.mg X.base k x ps g f fd) (hl : ∀ ws S, ws.length ≠ ps.length → g ws S = .no) (rm : Rc X) (hr : Room k X.A)
    (ha : PA X (e :: es) (tA (kxj X ϑ) E gs)) (hg : Gl X x := by rfl) (hdb : (x == ("__debug__" : Str)) = false := by decide) (he : starEach (e :: es) X.env = (false, eval e X.env) :: starEach es X.env := by rfl) (hpl : (backTo pos (starEach es X.env)).any (·.1) = false := by rfl) :
    PE X (.Call (.Name x p) (e :: es) [] pos) (tE (kxj X ϑ) E (M.ops (M.quiet g) gs)) :=
  PE.imp (call_G D.ok hr rm.g hg D.at_ D.kp D.bd (pass0 (X := X)) ha hdb he hpl) fun s H Q q => tM.imp (tE.many q) fun vs H1 ⟨m, S, ws, rs, rv, q⟩ => by
    refine sp0_of (E := X0) (j := ϑ) hl ⟨m, S, ws, rs, rv, ?_⟩
    unfold M.quiet at q
    cases eg : g ws S with
    | ok a S1 =>
      rw [eg] at q
      exact q
    | ex e S1 =>
      rw [eg] at q
      exact False.elim q
    | no =>
      rw [eg] at q
      exact False.elim q
/-- raise C(e) -/
theorem s_raise {nC : String} {fI : Addr} {fl : Str} {gs : MA} {B newId initId : String} {bmB : List Value} {rp : Pos} (rm : Rc X) (tk : Takes X (fun cls d s H => E s cls d H)) (T : OexB X.K B newId initId bmB (clA X.K nC)) (iC : PySem.W.findIn X.K (.ref (clA X.K nC)) "__init__" = some (some (.ref fI))) (tI : PySem.W.typeIn X.K (.ref fI) = some (.type "function"))
    (F1 : FnOk X.prog X.w X.K X.mg X.base CX0 k fI fd ps (spI (clA X.K nC) fl)) (hr : Room (k + 1) X.A) (hb : Binds X.K fd ps []) (hm : X.mg x = some (.ref (clA X.K nC))) (ha : PA X (e :: es) (tA (kxj X ϑ) E gs)) (hg : Gl X x := by rfl)
    (hdb : (x == ("__debug__" : Str)) = false := by decide) (he : starEach (e :: es) X.env = (false, eval e X.env) :: starEach es X.env := by rfl) (hpl : (backTo pos (starEach es X.env)).any (·.1) = false := by rfl) :
    PS X (.Raise (some (.Call (.Name x p) (e :: es) [] pos)) none rp) (tS (kxj X ϑ) E (M.raise nC fl gs)) := by
  refine PS.imp (ps_raise rm.calm tk (pmkB T iC tI F1 hr hb (pass0 (X := X)) hg hm ha hdb he hpl)) fun D s H q => ?_
  refine tM.imp (tS.first (R := RVs X.K) q) fun vs H1 ⟨m, S, f1, ws, rs, rf, rv, q⟩ => ?_
  cases rv with
  | nil => exact False.elim q
  | @cons w0 ws0 v0 vs0 r1 r2 =>
    cases r2 with
    | cons _ _ => exact False.elim q
    | nil =>
      refine ⟨_, rfl, fun d hd => ?_⟩
      have st : Stay X.K H1 (upd H1 d (.xd [(fl, v0)])) := Stay.new hd
      exact q m _ s (some d) (List.prefix_refl _) st (rs.grow hd) (rf.mono (List.prefix_refl _) st) ⟨_, upd_same, .cons ⟨rfl, r1.mono (List.prefix_refl _) st⟩ .nil⟩
end
end Wo
set_option autoImplicit true
set_option maxRecDepth 100000
set_option maxHeartbeats 4000000
namespace Wo
open PySem PySem.Spec PyProof.Rows L2
/-! W37: try: body, except C as n: suite; the exception is a value. -/
theorem exH_ok {P : Program} {w : World} {H : Hp} {h : Heap} {a : Addr} {cls : Value} {d : Option Addr} {oe : Obj} {vs : Array Value} (e : h.get? a = some oe) (z : Zc cls d oe) (q : oe.data = .fields vs) : ObjOk P w H h a (ExH cls d a) :=
  ⟨⟨oe, vs, e, z, q⟩, ⟨oe, e⟩, fun _ _ ⟨o, v, q, r⟩ k => ⟨o, v, k o q, r⟩⟩
section
variable {X : Cx} {pins : List (Addr × Obj)} {σ : L2.St} {H : Hp} {s : Shared}
/-- the exception is tracked from now on -/
theorem Inv.adopt {a : Addr} {oe : Obj} {vs : Array Value} {cls : Value} {d : Option Addr} (I : Inv X pins σ H s) (ha : s.heap.get? a = some oe) (hz : Zc cls d oe) (hd : oe.data = .fields vs) (na : H a = none) (nL : a ≠ X.env.locals)
    (n0 : X.s_0.heap.get? a = none) (np : ∀ p ∈ X.pn ++ pins, p.1 ≠ a) : Inv (X.suite a (X.pn ++ pins)) [] σ (upd H a (ExH cls d a)) s := by
  have ne0 : ∀ b o, X.s_0.heap.get? b = some o → b ≠ a := fun b o e z => by
    rw [z, n0] at e
    cases e
  refine ⟨I.ok.suite _ _, I.os, I.bare, ⟨I.base.keep, I.base.slot, fun b o e n hq => ?_, I.base.there, fun b xs e => ?_, fun b o u e => ?_, fun b ps e => ?_⟩, I.loc, I.cell, ?_, fun x c e => ?_, fun p hp => ?_, ?_, I.len⟩
  · rw [upd_ne (ne0 b o e)]
    exact I.base.free b o e n hq
  · have q := I.base.tups b xs e
    rw [upd_ne (ne_of_none q na)]
    exact q
  · have q := I.base.frzs b o u e
    rw [upd_ne (ne_of_none q na)]
    exact q
  · obtain ⟨m, q⟩ := I.base.tbls b ps e
    exact ⟨m, by rw [upd_ne (ne_of_none q na)]; exact q⟩
  · rw [upd_ne (Ne.symm nL)]
    exact I.free
  · have nc : c ≠ a := fun z => by
      obtain ⟨v, o, h1, h2⟩ := I.cell x c e
      rw [z, ha] at h1
      cases h1
      rw [hd] at h2
      cases h2
    rw [upd_ne nc]
    exact I.freeC x c e
  · have hp' : p ∈ X.pn ++ pins := by rw [List.append_nil] at hp; exact hp
    obtain ⟨e, n, ne, nf, dd⟩ := I.pin p hp'
    exact ⟨e, by rw [upd_ne (np p hp')]; exact n, ne, nf, dd⟩
  · exact HOk.laidN (H := H) I.hok (fun _ _ q => q) na (exH_ok ha hz hd)
theorem Inv.unadopt {a : Addr} {pn' : List (Addr × Obj)} (I : Inv (X.suite a (X.pn ++ pins)) pn' σ H s) (ok : X.Ok) : Inv X pins σ H s :=
  ⟨ok, I.os, I.bare, I.base, I.loc, I.cell, I.free, I.freeC, fun p hp => I.pin p (List.mem_append_left _ hp), I.hok, I.len⟩
end
/-- what the clause wishes of an exception of the body -/
def wAsV (K : PySem.W.Frag) (c : Value) (i : Nat) (ts : TS) (Wout : WX) (D : Ends) : WX := fun cls d σ H =>
  ∃ b, PySem.W.exmOne K cls c = some b ∧ (b = true → ∀ a, H a = none → ts { nx := fun σ' H' => D.nx (σ'.set i none) H', rt := D.rt, bk := fun σ' H' => D.bk (σ'.set i none) H', ct := fun σ' H' => D.ct (σ'.set i none) H' } (σ.set i (some (.ref a))) (upd H a (ExH cls d a))) ∧
    (b = false → Wout cls d σ H)
section
variable {X : Cx} {x n : Str} {c : Value} {i : Nat} {body suite : List Stmt} {b₀ : Stmt} {np pos pos' : Pos} {tb : WX → TS} {ts : TS} {Wout : WX}
theorem ps_tryV (hs : X.stack = X.env :: X.outer) (hf : X.env.frame = some X.env.locals) (hex : X.ex = []) (hN : X.N.Nodup) (hi : X.N[i]? = some n) (hln : X.env.kindOf n = some .local) (hc : Names X x c) (tk : Takes X Wout)
    (hb : ∀ (W : WX) (pn : List (Addr × Obj)) (xe : Value → Shared → Prop), Takes (X.tr pn xe) W → PassesOwn (model X.prog X.w) X.A X.env xe → PSs (X.tr pn xe) body (tb W))
    (hsu : ∀ (a : Addr) (pn : List (Addr × Obj)), PSs (X.suite a pn) (b₀ :: suite) ts) :
    PS X (.Try body [.ExceptHandler (some (.Name x np)) (some n) (b₀ :: suite) pos'] [] [] pos) (fun D σ H => tb (wAsV X.K c i ts Wout D) D σ H) := by
  refine ⟨fun pins s σ H D I h => ?_⟩
  have ok := I.ok
  have hfr : X.A.frames = some (X.env :: X.outer) := by rw [ok.frames, hs]
  have hloc : Loc X.env.scope n := .inl hln
  refine wpAny_Try_except ?_
  refine wpAny_mono ((hb (wAsV X.K c i ts Wout D) (X.pn ++ pins) (fun e s₁ => wpAny (model X.prog X.w) X.A (noteFrame e X.env) (fun _ s₂ => wpAny (model X.prog X.w) X.A (setFlight e none) (fun _ s₃ =>
    wpAny (model X.prog X.w) X.A (handleBy e X.env [.ExceptHandler (some (.Name x np)) (some n) (b₀ :: suite) pos']) (SP X pins D) X.xe s₃) X.xe s₂) X.xe s₁) (fun u s' xx => ?_) PassesOwn.looking).run [] s σ H D (I.toTry _) h) (fun f s1 hsp => ?_) (fun e s1 he => he)
  · -- the catch
    obtain ⟨a, B, sI, pins', σ', H', cls, d, rfl, J', nb, up, sky, na, os, ag, b, hb1, hyes, hno⟩ := xx
    have J : Inv X pins σ' H' sI := J'.ofTry ok
    have sky' : Sky B (X.env :: X.outer) a (Zc cls d) X.env.locals s'.heap := by rw [← hs]; exact sky
    show wpAny (model X.prog X.w) X.A (noteFrame (.ref a) X.env) _ _ _
    refine Sky.land Zc.steady hfr hf sky' fun h3 fl3 up3 => ?_
    have J3 : Inv X pins σ' H' { s' with heap := h3 } := J.landed nb fl3.1 (up.trans up3) os ag
    obtain ⟨oe3, vs3, he3, hz3, hd3⟩ := fl3.there
    have notFr : ∀ {h : Heap} {o : Obj} {vs : Array Value}, h.FunFrames B (X.env :: X.outer) → h.get? a = some o → o.data = .fields vs → a ∉ frs (X.env :: X.outer) := fun {h o vs} ff e dd hm => by
      obtain ⟨_, o', e', hnf⟩ := ff.mem hm
      rw [e] at e'; cases e'
      exact hnf _ dd
    have nfr := notFr fl3.2.2.1 he3 hd3
    have nL : a ≠ X.env.locals := fun z => nfr (List.mem_filterMap.mpr ⟨X.env, List.mem_cons_self, by rw [hf, z]⟩)
    have nF : a ∉ X.fs := fun hm => by
      obtain ⟨e, he, q⟩ := List.mem_filterMap.mp hm
      exact nfr (List.mem_filterMap.mpr ⟨e, List.mem_cons_of_mem _ he, q⟩)
    have nI : sI.heap.get? a = none := by
      cases e : sI.heap.get? a with
      | none => rfl
      | some o =>
        have z := nb a o e (by rw [hs]; exact nfr)
        rw [fl3.2.1] at z
        cases z
    have n0 : X.s_0.heap.get? a = none := by
      cases e : X.s_0.heap.get? a with
      | none => rfl
      | some o =>
        obtain ⟨o', z⟩ := J.base.there a o e (by rw [hex]; exact fun z => nomatch z)
        rw [nI] at z
        cases z
    have npn : ∀ p ∈ X.pn ++ pins, p.1 ≠ a := fun p hp z => by
      obtain ⟨e, _⟩ := J.pin p hp
      rw [z, nI] at e
      cases e
    have S3 := Inv.adopt J3 he3 hz3 hd3 na nL n0 npn
    refine wpAny_handleBy_cons (codeAny_handlers_test ?_) (by intro q; cases q)
    have LT : PySem.W.Looks (model X.prog X.w) h3 (typeOf (.ref a)) cls := fun A Q E s k q => wpAny_typeOf_ref (k _ _ he3) (by rw [hz3.1]; exact q)
    have LM := PySem.W.exm_one (M := model X.prog X.w) (J3.kIn) LT hb1
    have test : ∀ {Q : Value → Shared → Prop} {E : Value → Shared → Prop}, Q c { s' with heap := h3 } → wpAny (model X.prog X.w) (X.A.mark (some (.ref a))) (eval (.Name x np) X.env) Q E { s' with heap := h3 } := fun {Q E} q => by
      obtain ⟨hg, hdbg, hm | ⟨hm, hv, hnn⟩⟩ := hc
      · exact ld_glob (X := X.suite a (X.pn ++ pins)) S3 hg hm q hdbg
      · exact ld_blt (X := X.suite a (X.pn ++ pins)) S3 hg hm hv q hnn hdbg
    refine test (LM.here ?_)
    cases b with
    | true =>
      refine codeAny_handlers_suite_as ?_
      refine HandSPX.lands_againZ fl3 fun h4 fl4 up4 => ?_
      have J4 : Inv X pins σ' H' { s' with heap := h4 } := J.landed nb fl4.1 ((up.trans up3).trans up4) os ag
      obtain ⟨oe4, vs4, he4, hz4, hd4⟩ := fl4.there
      have S4 := Inv.adopt J4 he4 hz4 hd4 na nL n0 npn
      refine store_ok (X := X.suite a (X.pn ++ pins)) (v := .ref a) S4 hN hi hloc rfl (fun s5 S5 => ?_) (.inr hln)
      refine wpAny_mono ((hsu a (X.pn ++ pins)).run [] s5 _ _ _ S5 (hyes rfl a na)) (fun f s6 hsp => ?_) (fun _ _ z => False.elim z)
      have end_ : ∀ {σ6 : L2.St} {H6 : Hp} {Q : Shared → Prop}, Inv (X.suite a (X.pn ++ pins)) [] σ6 H6 s6 → (∀ s7, Inv X pins (σ6.set i none) H6 s7 → Q s7) →
          wpAny (model X.prog X.w) X.A (do bindName X.env n .none; unbindBehindTheSuite X.env n pos') (fun _ s7 => Q s7) X.xe s6 := fun {σ6 H6 Q} S6 hq => gone_ok (Inv.unadopt S6 ok) hN hi hln hq
      cases f with
      | next =>
        obtain ⟨σ6, H6, S6, q6⟩ := hsp
        exact end_ S6 fun s7 J7 => ⟨_, _, J7, q6⟩
      | brk =>
        obtain ⟨σ6, H6, S6, q6⟩ := hsp
        exact end_ S6 fun s7 J7 => ⟨_, _, J7, q6⟩
      | cont =>
        obtain ⟨σ6, H6, S6, q6⟩ := hsp
        exact end_ S6 fun s7 J7 => ⟨_, _, J7, q6⟩
      | ret u =>
        obtain ⟨v6, σ6, H6, S6, r6, q6⟩ := hsp
        exact end_ S6 fun s7 J7 => ⟨_, _, _, J7, r6, q6⟩
    | false =>
      show wpAny _ X.A (handleBy (.ref a) X.env []) _ _ _
      refine wpAny_handleBy_nil ?_
      obtain ⟨k1, k2, k3, oe, vs, T, oT, ts', he, hz, hd, h1, hr⟩ := id fl3
      unfold PySem.passOn
      refine wpAny_bind (wpAny_field he hd h1 ?_)
      rw [if_neg (show ¬ ((Value.ref T == Value.none) = true) from by simp)]
      have fin : wpAny (model X.prog X.w) X.A (setFlight (.ref a) X.env.frame) (fun _ s4 => wpAny (model X.prog X.w) X.A (throw (.ref a) : Sem Flow) (SP X pins D) X.xe s4) X.xe { s' with heap := h3 } := by
        rw [hf]
        refine HandSPX.setFlight_upZ fl3 fun h4 hh4 up4 => wpAny_throw (tk _ _ ?_)
        exact ⟨a, B, sI, pins, σ', H', cls, d, rfl, J, nb, (up.trans up3).trans up4, .inr (.inr (by rw [hs]; exact hh4)), na, os, ag, hno rfl⟩
      first
        | exact wpAny_bind (wpAny_pure (wpAny_bind fin))
        | exact wpAny_bind fin
  · cases f with
    | next =>
      obtain ⟨σ', H', J', q⟩ := hsp
      exact wpAny_execs_nil ⟨σ', H', J'.ofTry ok, q⟩
    | brk =>
      obtain ⟨σ', H', J', q⟩ := hsp
      exact ⟨σ', H', J'.ofTry ok, q⟩
    | cont =>
      obtain ⟨σ', H', J', q⟩ := hsp
      exact ⟨σ', H', J'.ofTry ok, q⟩
    | ret u =>
      obtain ⟨v, σ', H', J', r, q⟩ := hsp
      exact ⟨v, σ', H', J'.ofTry ok, r, q⟩
end
/-! ### in the small semantics -/
/-- behind the suite the name is gone -/
def goneF (i : Nat) : RsS → RsS
  | .ok (.next f) S => .ok (.next (f.set i none)) S
  | .ok (.brk f) S => .ok (.brk (f.set i none)) S
  | .ok (.cont f) S => .ok (.cont (f.set i none)) S
  | .ok (.ret w) S => .ok (.ret w) S
  | .ex _ _ _ => .no
  | .no => .no
namespace M
/-- tab: which classes the clause takes, which not; others are not covered -/
def tryAs (tab : List (String × Bool)) (i : Nat) (body suite : MS) : MS := fun f S => match body f S with
  | .ex e f1 S1 => match tab.lookup e.cls with
    | some true => goneF i (suite (f1.set i (some (.ref S1.length))) (S1 ++ [.exc e.cls e.fld]))
    | some false => .ex e f1 S1
    | none => .no
  | r => r
end M
theorem tab_mem {β : Type} : ∀ {tab : List (String × β)} {c : String} {b : β}, tab.lookup c = some b → (c, b) ∈ tab
  | [], _, _, h => nomatch h
  | (a, x) :: r, c, b, h => by
    by_cases e : c = a
    · subst e
      simp [List.lookup] at h
      subst h
      exact List.mem_cons_self
    · have e' : (c == a) = false := by simpa using e
      simp only [List.lookup, e'] at h
      exact List.mem_cons_of_mem _ (tab_mem h)
section
variable {X : Cx} {x n : Str} {c : Value} {i : Nat} {body suite : List Stmt} {b₀ : Stmt} {np pos pos' : Pos} {gb sg : MS} {E : EX} {tab : List (String × Bool)}
theorem s_try {ϑ : Jx X.K} (tk : Takes X (fun cls d s H => E s cls d H)) (hN : X.N.Nodup) (hc : Names X x c) (hx : ∀ p ∈ tab, PySem.W.exmOne X.K (.ref (clA X.K p.1)) c = some p.2)
    (hb : ∀ (W : WX) (pn : List (Addr × Obj)) (xe : Value → Shared → Prop), Takes (X.tr pn xe) W → PassesOwn (model X.prog X.w) X.A X.env xe → PSs (X.tr pn xe) body (tS (kxj X ϑ) (fun s cls d H => W cls d s H) gb))
    (hsu : ∀ (a : Addr) (pn : List (Addr × Obj)), PSs (X.suite a pn) (b₀ :: suite) (tS (kxj X ϑ) EX0 sg))
    (hs : X.stack = X.env :: X.outer := by rfl) (hf : X.env.frame = some X.env.locals := by rfl) (hex : X.ex = [] := by rfl) (hi : X.N[i]? = some n := by rfl) (hln : X.env.kindOf n = some .local := by rfl) :
    PS X (.Try body [.ExceptHandler (some (.Name x np)) (some n) (b₀ :: suite) pos'] [] [] pos) (tS (kxj X ϑ) E (M.tryAs tab i gb sg)) := by
  refine PS.imp (ps_tryV (Wout := fun cls d s H => E s cls d H) (ts := tS (kxj X ϑ) EX0 sg) hs hf hex hN hi hln hc tk hb hsu) fun D s H q => ?_
  obtain ⟨m, S, f, rs, rf, q⟩ := q
  refine ⟨m, S, f, rs, rf, ?_⟩
  unfold M.tryAs at q
  cases e : gb f S with
  | no => rw [e] at q; exact q
  | ok l S1 =>
    rw [e] at q
    cases l <;> exact q
  | ex ee f1 S1 =>
    rw [e] at q
    intro m' H' s' d p st rs' rf' rx
    dsimp only at q
    cases hl : tab.lookup ee.cls with
    | none => rw [hl] at q; exact False.elim q
    | some b =>
      rw [hl] at q
      have hm := hx _ (tab_mem hl)
      refine ⟨b, hm, fun hb a ha => ?_, fun hb => ?_⟩
      · subst hb
        dsimp only at q
        have pr : Pre m' (m' ++ [a]) := List.prefix_append _ _
        have s1 : Stay X.K H' (upd H' a (ExH (.ref (clA X.K ee.cls)) d a)) := Stay.new ha
        refine ⟨m' ++ [a], S1 ++ [.exc ee.cls ee.fld], f1.set i (some (.ref S1.length)), rs'.push (b := .exc ee.cls ee.fld) ha ⟨d, upd_same, RXd.mono pr s1 rx⟩, (rf'.mono pr s1).set (.ref ?_) i, ?_⟩
        · rw [← rs'.len]
          exact List.getElem?_concat_length
        · have q' := PostS.mono q (p.trans pr) (st.trans s1)
          cases er : sg (f1.set i (some (.ref S1.length))) (S1 ++ [.exc ee.cls ee.fld]) with
          | no => rw [er] at q'; exact q'
          | ex e2 f2 S2 => rw [er] at q'; exact False.elim q'
          | ok l S2 =>
            rw [er] at q'
            cases l with
            | next f2 => exact fun m2 H2 s2 p2 st2 rs2 rf2 => q' m2 H2 _ p2 st2 rs2 (RF.drop (K := kxj X ϑ) ϑ.nn rf2 i none)
            | brk f2 => exact fun m2 H2 s2 p2 st2 rs2 rf2 => q' m2 H2 _ p2 st2 rs2 (RF.drop (K := kxj X ϑ) ϑ.nn rf2 i none)
            | cont f2 => exact fun m2 H2 s2 p2 st2 rs2 rf2 => q' m2 H2 _ p2 st2 rs2 (RF.drop (K := kxj X ϑ) ϑ.nn rf2 i none)
            | ret w2 => exact fun m2 H2 v2 p2 st2 rs2 rv2 => q' m2 H2 v2 p2 st2 rs2 rv2
      · subst hb
        exact q m' H' s' d p st rs' rf' rx
end
end Wo
set_option autoImplicit true
set_option maxRecDepth 100000
set_option maxHeartbeats 4000000
namespace Wo
open PySem PySem.Spec PyProof.Rows L2
/-! W38: fields of an exception; isinstance of an exception. -/
namespace M
/-- x.f of an exception of one of the classes cs -/
def xfW (cs : List String) (fl : Str) : W → Store → Rs W := fun w S => match w with
  | .ref r => match S[r]? with
    | some (.exc C (some fs)) => if C ∈ cs then (match fs.lookup fl with
      | some w => .ok w S
      | none => .no) else .no
    | _ => .no
  | _ => .no
/-- isinstance(x, C), x an exception; tab: the answers -/
def isxW (tab : List (String × Bool)) : W → Store → Rs W := fun w S => match w with
  | .ref r => match S[r]? with
    | some (.exc C _) => match tab.lookup C with
      | some b => .ok (.bl b) S
      | none => .no
    | _ => .no
  | _ => .no
end M
theorem xd_lookup {K : PySem.W.Frag} {m : List Addr} {H : Hp} {fl : Str} {w : W} : ∀ {fs : List (Str × W)} {vs : List (Str × V)}, RFs K m H fs vs → fs.lookup fl = some w → ∃ v, vs.lookup fl = some v ∧ RV K m H w v
  | _, _, .nil, h => nomatch h
  | (a, x) :: fs, (b, y) :: vs, .cons ⟨e, r⟩ t, h => by
    have e : a = b := e
    subst e
    rw [lookup_put]
    by_cases z : fl = a
    · subst z
      rw [if_pos rfl]
      simp [List.lookup] at h
      subst h
      exact ⟨y, rfl, r⟩
    · rw [if_neg z]
      have z' : (fl == a) = false := by simpa using z
      simp only [List.lookup, z'] at h
      exact xd_lookup t h
section
variable {X : Cx} {E : EX}
/-- x.f -/
theorem e_xf {cs : List String} {e : Expr} {fl : Str} {pos : Pos} {g : ME} (hcs : ∀ C ∈ cs, XfC X.K (clA X.K C) ∧ PySem.W.findIn X.K (.ref (clA X.K C)) fl = some none) (he : PE X e (tE (kxj X ϑ) E g))
    (hb : attributeBase e fl X.env (eval e X.env) = eval e X.env := by rfl) : PE X (.Attribute e fl pos) (tE (kxj X ϑ) E (M.op1 (M.xfW cs fl) g)) := by
  refine ⟨fun pins s σ H Q I h => ?_⟩
  refine attr_of hb (thn (he.run pins s σ H _ I (tE.one h)) fun u s1 hh => ?_)
  obtain ⟨x, H1, I1, rx, m, S, w, rs, rw', q⟩ := hh
  unfold M.xfW at q
  cases rw' with
  | @ref r a hr =>
    dsimp only at q
    split at q
    · rename_i C fs e1
      split at q
      · rename_i hC
        split at q
        · rename_i w e2
          obtain ⟨d, h1, h2⟩ := rs.ob _ _ _ e1 hr
          cases d with
          | none => exact False.elim h2
          | some dd =>
            obtain ⟨vs, h3, h4⟩ := h2
            obtain ⟨v, l, rv⟩ := xd_lookup h4 e2
            obtain rfl : u = Value.ref a := rx
            obtain ⟨⟨oe, vs', ha, hz, hd⟩, _, _⟩ := I1.hok a _ h1
            obtain ⟨mA, hns, hr'⟩ := I1.hok dd _ h3
            obtain ⟨od, ho, hl⟩ := lookIn_ns hns
            obtain ⟨u, hu, ru⟩ := RelO.some_of (v := v) (o := mA fl) (by rw [← l]; exact hr' fl)
            have J : PySem.W.InstAt s1.heap a oe (clA X.K C) (some od) := ⟨ha, hz.1, by unfold PySem.W.notCls; rw [hd] <;> rfl, by rw [hz.2]; exact ho⟩
            obtain ⟨T, hno⟩ := hcs C hC
            exact HandSPX.exc_get I1.kIn J T.ga T.gg T.exC (PySem.W.findObj_own T.hdC hno rfl (by rw [hl, hu])) (handed_of ru) ⟨v, H1, I1.tok _, ru, q.here rs rv⟩
        · exact False.elim q
      · exact False.elim q
    · exact False.elim q
  | _ => exact False.elim q
/-- what a class must say, so that isinstance asks its instances rightly -/
structure ExcI (K : PySem.W.Frag) (C : Addr) : Prop where
  cl : (PySem.W.clsIn K C).isSome = true
  ga : PySem.W.findIn K (.ref C) "__getattribute__" = some (some (.builtin "BaseException.__getattribute__"))
  gt : PySem.W.findIn K (.ref C) "__getattr__" = some none
  sub : PySem.W.subIn K (.ref C) (.type "BaseException") = some true
  ca : PySem.W.findIn K (.ref C) "__class__" = some (some (.builtin "object.__class__"))
  hn : PySem.W.specialIn K (.builtin "object.__class__") "__get__" = some (some (.builtin "getset_descriptor.__get__"))
  tk : PySem.W.takesIn K (.builtin "object.__class__") = some true
  hm : PySem.W.mroIn K C (.type "object") = some true
/-- an exception's object as its dict is -/
theorem exc_inst {P : Program} {w : World} {K : PySem.W.Frag} {m : List Addr} {H : Hp} {h : Heap} {a : Addr} {C : Addr} {d : Option Addr} {fs : Option (List (Str × W))} (hok : HOk P w H h) (h1 : H a = some (ExH (.ref C) d a)) (h2 : RXd K m H fs d) : ∃ oe od, PySem.W.InstAt h a oe C od := by
  obtain ⟨⟨oe, vs', ha, hz, hd⟩, _, _⟩ := hok a _ h1
  cases d with
  | none => exact ⟨oe, none, ha, hz.1, by unfold PySem.W.notCls; rw [hd] <;> rfl, by rw [hz.2]; trivial⟩
  | some dd =>
    cases fs with
    | none => exact False.elim h2
    | some fs =>
      obtain ⟨vs, h3, h4⟩ := h2
      obtain ⟨mA, hns, hr'⟩ := hok dd _ h3
      obtain ⟨od, ho, hl⟩ := lookIn_ns hns
      exact ⟨oe, some od, ha, hz.1, by unfold PySem.W.notCls; rw [hd] <;> rfl, by rw [hz.2]; exact ho⟩
/-- isinstance(x, c), c one class -/
theorem e_isx {tab : List (String × Bool)} {e ce : Expr} {p pos : Pos} {g : ME} {c : V} {cv : Value} (hm : X.mg "isinstance" = none) (hcv : ∀ u, RelV c u → u = cv) (ht : ∀ q ∈ tab, ExcI X.K (clA X.K q.1) ∧ PySem.W.kitOne X.K (.ref (clA X.K q.1)) cv = some q.2)
    (he : PE X e (tE (kxj X ϑ) E g)) (hc : PE X ce (tC c)) (hg : Gl X "isinstance" := by rfl) (he1 : starEach [e, ce] X.env = (false, eval e X.env) :: starEach [ce] X.env := by rfl) (he2 : starEach [ce] X.env = (false, eval ce X.env) :: starEach [] X.env := by rfl) (hpl : (backTo pos (starEach [ce] X.env)).any (·.1) = false := by rfl) :
    PE X (.Call (.Name "isinstance" p) [e, ce] [] pos) (tE (kxj X ϑ) E (M.op1 (M.isxW tab) g)) := by
  refine PE.imp (pe_callB (id := "isinstance") (r := fun xs H Q => ∃ x, xs = [x, c] ∧ ∃ m S w, RS (kxj X ϑ) m S H ∧ RV X.K m H w x ∧ ∃ E', Post (kxj X ϑ) E' (RV X.K) m H (M.isxW tab w S) Q) ?_ hg hm (by decide +kernel) (pa_cons he (pa_cons hc pa_nil he2) he1) (by decide) (by decide) he1 hpl) fun s H Q q => ?_
  · intro pins s σ H xs us Q I r h
    obtain ⟨x, rfl, m, S, w, rs, rw', E', q⟩ := h
    cases r with
    | cons rx rr =>
      cases rr with
      | cons rt rr =>
        cases rr
        have ec := hcv _ rt
        subst ec
        unfold M.isxW at q
        cases rw' with
        | @ref r a hr =>
          dsimp only at q
          split at q
          · rename_i C fs e1
            split at q
            · rename_i b e2
              obtain ⟨d, h1, h2⟩ := rs.ob _ _ _ e1 hr
              obtain ⟨oe, od, J⟩ := exc_inst I.hok h1 h2
              obtain ⟨Z, kz⟩ := ht _ (tab_mem e2)
              cases rx
              exact PySem.W.kia_one (PySem.W.kitx_exc Z.cl Z.ga Z.gt Z.sub Z.ca Z.hn Z.tk Z.hm) I.kIn J kz (fun z => nomatch z) fun tk => ⟨.bl b, H, I.kept (t' := tk) fun _ _ z => z, rfl, q.here rs (.bl b)⟩
            · exact False.elim q
          · exact False.elim q
        | _ => exact False.elim q
  · refine tM.imp (tE.one q) fun x H1 ⟨m, S, w, rs, rv, q⟩ => ?_
    exact ⟨x, rfl, m, S, w, rs, rv, _, q⟩
/-- isinstance(x, (c, c', ..)) -/
theorem e_isxT {tab : List (String × Bool)} {e : Expr} {ces : List Expr} {x1 : Nat} {p pos pos' : Pos} {g : ME} {cs : List V} {cvs : List Value} (hm : X.mg "isinstance" = none) (hcv : ∀ us, Vals cs us → us = cvs) (hl : cs.length ≤ 1000) (ht : ∀ q ∈ tab, ExcI X.K (clA X.K q.1) ∧ PySem.W.kitAny X.K (.ref (clA X.K q.1)) cvs = some q.2)
    (he : PE X e (tE (kxj X ϑ) E g)) (hc : PA X ces (fun _ H Q => Q cs H)) (hg : Gl X "isinstance" := by rfl) (he1 : starEach [e, .Tuple ces x1 pos'] X.env = (false, eval e X.env) :: starEach [.Tuple ces x1 pos'] X.env := by rfl) (he2 : starEach [.Tuple ces x1 pos'] X.env = (false, eval (.Tuple ces x1 pos') X.env) :: starEach [] X.env := by rfl) (hpl : (backTo pos (starEach [.Tuple ces x1 pos'] X.env)).any (·.1) = false := by rfl) :
    PE X (.Call (.Name "isinstance" p) [e, .Tuple ces x1 pos'] [] pos) (tE (kxj X ϑ) E (M.op1 (M.isxW tab) g)) := by
  refine PE.imp (pe_callB (id := "isinstance") (r := fun xs H Q => ∃ x tp, xs = [x, .ref tp] ∧ H tp = some (.tup cs) ∧ ∃ m S w, RS (kxj X ϑ) m S H ∧ RV X.K m H w x ∧ ∃ E', Post (kxj X ϑ) E' (RV X.K) m H (M.isxW tab w S) Q) ?_ hg hm (by decide +kernel) (pa_cons he (pa_cons (pe_tup hc) pa_nil he2) he1) (by decide) (by decide) he1 hpl) fun s H Q q => ?_
  · intro pins s σ H xs us Q I r h
    obtain ⟨x, tp, rfl, htp, m, S, w, rs, rw', E', q⟩ := h
    cases r with
    | cons rx rr =>
      cases rr with
      | cons rt rr =>
        cases rr
        unfold M.isxW at q
        cases rw' with
        | @ref r a hr =>
          dsimp only at q
          split at q
          · rename_i C fs e1
            split at q
            · rename_i b e2
              obtain ⟨d, h1, h2⟩ := rs.ob _ _ _ e1 hr
              obtain ⟨oe, od, J⟩ := exc_inst I.hok h1 h2
              obtain ⟨Z, kz⟩ := ht _ (tab_mem e2)
              obtain ⟨_, its, rl, hT⟩ := I.hok tp _ htp
              have ei := hcv _ rl
              subst ei
              obtain ⟨oT, hT1, hT2, n, hT3⟩ := hT
              obtain ⟨oc, od', oda, osl⟩ := oT
              dsimp only at hT2 hT3
              subst hT2
              subst hT3
              cases rx
              cases rt
              exact PySem.W.kia_tup (PySem.W.kitx_exc Z.cl Z.ga Z.gt Z.sub Z.ca Z.hn Z.tk Z.hm) I.kIn J hT1 kz (fun z => nomatch z) fun tk => ⟨.bl b, H, I.kept (t' := tk) fun _ _ z => z, rfl, q.here rs (.bl b)⟩
            · exact False.elim q
          · exact False.elim q
        | _ => exact False.elim q
  · refine tM.imp (tE.one q) fun x H1 ⟨m, S, w, rs, rv, q⟩ => ?_
    refine ⟨Nat.le_trans hl (by rw [sizeLine_eq]; decide), fun p hp => ?_⟩
    exact ⟨x, p, rfl, upd_same, m, S, w, rs.grow hp, rv.mono (List.prefix_refl _) (Stay.new hp), _, q.mono (List.prefix_refl _) (Stay.new hp)⟩
end
end Wo
set_option autoImplicit true
set_option maxRecDepth 100000
set_option maxHeartbeats 4000000
namespace Wo
open PySem PySem.Spec PyProof.Rows L2
/-! W39: an own exception class by its facts; its __init__. -/
abbrev bmLE : List Value := [.type "LookupError", .type "Exception", .type "BaseException", .type "object"]
abbrev bmVE : List Value := [.type "ValueError", .type "Exception", .type "BaseException", .type "object"]
abbrev bmOE : List Value := [.type "OverflowError", .type "ArithmeticError", .type "Exception", .type "BaseException", .type "object"]
abbrev bmIE : List Value := [.type "IndexError", .type "LookupError", .type "Exception", .type "BaseException", .type "object"]
abbrev bmRE : List Value := [.type "RuntimeError", .type "Exception", .type "BaseException", .type "object"]
theorem base_LookupError : BaseI "LookupError" "LookupError.__new__" "LookupError.__init__" bmLE := ⟨PySem.F.excBase_LookupError, PySem.F.store_LookupError, by decide +kernel, by kernel_rfl, by decide +kernel, by decide +kernel, by decide +kernel, by decide, by decide⟩
theorem base_ValueError : BaseI "ValueError" "ValueError.__new__" "ValueError.__init__" bmVE := ⟨PySem.F.excBase_ValueError, PySem.F.store_ValueError, by decide +kernel, by kernel_rfl, by decide +kernel, by decide +kernel, by decide +kernel, by decide, by decide⟩
theorem base_OverflowError : BaseI "OverflowError" "OverflowError.__new__" "OverflowError.__init__" bmOE := ⟨PySem.F.excBase_OverflowError, PySem.F.store_OverflowError, by decide +kernel, by kernel_rfl, by decide +kernel, by decide +kernel, by decide +kernel, by decide, by decide⟩
theorem base_IndexError : BaseI "IndexError" "IndexError.__new__" "IndexError.__init__" bmIE := ⟨PySem.F.excBase_IndexError, PySem.F.store_IndexError, by decide +kernel, by kernel_rfl, by decide +kernel, by decide +kernel, by decide +kernel, by decide, by decide⟩
/-- an own class with an __init__ that puts one field -/
structure OwnX (P : Program) (w : World) (K : PySem.W.Frag) (mg : Str → Option Value) (base : Heap) (n : String) (fl : Str) : Prop where
  at_ : mg (n : Str) = some (.ref (clA K n))
  ex : ∃ (B newId initId : String) (bmB : List Value) (fI : Addr) (fd : FuncData) (ps : List Str), OexB K B newId initId bmB (clA K n) ∧ PySem.W.findIn K (.ref (clA K n)) "__init__" = some (some (.ref fI)) ∧ PySem.W.typeIn K (.ref fI) = some (.type "function") ∧ FnOk P w K mg base CX0 1 fI fd ps (spI (clA K n) fl) ∧ Binds K fd ps []
section
variable {X : Cx} {e : Expr} {es : List Expr} {p pos : Pos} {E : EX}
theorem s_raiseO {nC : String} {fl : Str} {gs : MA} {rp : Pos} (W : OwnX X.prog X.w X.K X.mg X.base nC fl) (rm : Rc X) (hr : Room 2 X.A) (tk : Takes X (fun cls d s H => E s cls d H)) (ha : PA X (e :: es) (tA (kxj X ϑ) E gs)) (hg : Gl X (nC : Str) := by rfl)
    (hdb : ((nC : Str) == ("__debug__" : Str)) = false := by decide) (he : starEach (e :: es) X.env = (false, eval e X.env) :: starEach es X.env := by rfl) (hpl : (backTo pos (starEach es X.env)).any (·.1) = false := by rfl) :
    PS X (.Raise (some (.Call (.Name (nC : Str) p) (e :: es) [] pos)) none rp) (tS (kxj X ϑ) E (M.raise nC fl gs)) := by
  obtain ⟨B, newId, initId, bmB, fI, fd, ps, T, iC, tI, F1, hb⟩ := W.ex
  exact s_raise rm tk T iC tI F1 hr hb W.at_ ha hg hdb he hpl
end
section
variable {P : Program} {w : World} {K : PySem.W.Frag} {mg : Str → Option Value} {base : Heap}
/-- the __init__: B.__init__(self, text); self.f = p -/
theorem init_ok {B newId initId : String} {bmB : List Value} {C : Addr} {qual fl pn : Str} {st : Stmt} {f : Addr} {fd : FuncData} (T : OexB K B newId initId bmB C) (hno : PySem.W.findIn K (.ref C) fl = some none) (F : Fun K "__init__" qual st f fd) (S : FnScope ["self", pn] ["self", pn] (defScope st))
    (h : ∀ (cdv : Value) (A : Around) (outer : List Env) (s : Shared) (H : Hp) (E : XK), ∃ tx : Str, PSs (cxOf CX0 P w K mg base ["self", pn] qual (defScope st) f cdv A outer s H E).nox (defBody st) (fun D σ H => tBI K B newId initId bmB (tCons (tVar 0) (tCons (tC (.str tx)) tNil)) σ H fun _ H1 => tOstB K B newId initId bmB fl (tVar 0) (tVar 1) D σ H1)) :
    FnOk P w K mg base CX0 1 f fd ["self", pn] (spI C fl) := by
  refine Fun.ok (k := 0) F S (fun vs H Q E q => ?_) fun cdv A outer s H vs Q E hr q => ?_
  · obtain ⟨a, y, rfl, _⟩ := q
    rfl
  · obtain ⟨tx, h⟩ := h cdv A outer s H E
    obtain ⟨a, y, rfl, ha, q⟩ := q
    refine ⟨_, h, ?_⟩
    refine ⟨.ref a, rfl, ?_⟩
    exact ⟨a, C, [.str tx], rfl, Nat.le_of_ble_eq_true rfl, T, ha, ⟨y, rfl, ⟨.ref a, rfl, a, C, rfl, T, hno, ha, fun dx h1 h2 => q dx h1 h2⟩⟩⟩
end
end Wo
set_option autoImplicit true
set_option maxRecDepth 100000
set_option maxHeartbeats 4000000
namespace Wo
open PySem L2
/-! W40: range with a step, str(int); wishes for exceptions. -/
namespace M
def getS (lo c : Int) (n : Nat) : Get := fun _ i => some (if i < n then some (.int (lo + (i : Nat) * c)) else none)
def rng3W (ws : List W) (S : Store) : Rs (Nat × Get) := match ws with
  | [.int i, .int j, .int c] => if ((-1000000 ≤ i ∧ i < 1000000) ∧ (-1000000 ≤ j ∧ j < 1000000)) ∧ 0 < c ∧ c < 1000000 then .ok ((Builtin.Range.rangeSize i j c).toNat, getS i c (Builtin.Range.rangeSize i j c).toNat) S else .no
  | _ => .no
def rng3 (g : MA) : MIt := fun f S => (g f S).bind rng3W
def strI : List W → Store → Rs W := fun ws S => match ws with
  | [.int i] => if i.natAbs < 2 ^ 1900 then .ok (.str (toString i)) S else .no
  | _ => .no
end M
theorem itr_rngC {K : Kx} {m0 : List Addr} {H0 : Hp} {lo c : Int} {n : Nat} : ItR K m0 H0 (M.getS lo c n) (Itc lo c n) := by
  refine ⟨fun m S H i p st rs e => ?_, fun m S H i x p st rs e => ?_⟩
  · unfold M.getS at e
    split at e
    · cases e
    · rename_i h
      exact Nat.le_of_not_lt h
  · unfold M.getS at e
    split at e
    · rename_i h
      cases e
      refine ⟨h, fun v' H' y => ?_⟩
      obtain ⟨rfl, rfl⟩ := y
      exact ⟨Stay.refl _, rs, .int _⟩
    · cases e
theorem rgC_up {i j c : Int} (h1 : -1000000 ≤ i) (h2 : i < 1000000) (h3 : -1000000 ≤ j) (h4 : j < 1000000) (h5 : 0 < c) (h6 : c < 1000000) : RgC i j c (Builtin.Range.rangeSize i j c).toNat := by
  have hz : 0 ≤ Builtin.Range.rangeSize i j c ∧ Builtin.Range.rangeSize i j c ≤ 2000001 := by
    unfold Builtin.Range.rangeSize
    rw [if_pos h5]
    split
    · have a := Int.ediv_nonneg (a := j - i - 1) (b := c) (by omega) (by omega)
      have b := Int.ediv_le_self (a := j - i - 1) c (by omega)
      omega
    · omega
  refine ⟨by omega, by omega, ?_, by omega⟩
  unfold Builtin.Range.small
  have h5' : c > 0 := h5
  simp only [Builtin.Range.rangeFitsLong, Bool.and_eq_true, Bool.or_eq_true, decide_eq_true_eq, beq_iff_eq, h5', if_true]
  omega
section
variable {X : Cx} {E : EX} {tg : Expr} {p pos : Pos}
theorem i_rng3 {a b c : Expr} {g : MA} (hm : X.mg "range" = none) (ha : PA X [a, b, c] (tA (kxj X ϑ) E g)) (hg : Gl X "range" := by rfl) (hs : starEach [a, b, c] X.env = (false, eval a X.env) :: starEach [b, c] X.env := by rfl) (hpl : (backTo pos (starEach [b, c] X.env)).any (·.1) = false := by rfl) :
    PI X tg (.Call (.Name "range" p) [a, b, c] [] pos) (tI (kxj X ϑ) E (M.rng3 g)) := by
  refine PI.imp (pi_range3 hg hm ha hs hpl) fun s H R q => ?_
  refine tM.imp (tM.seq (R := RVs X.K) (g := g) (k := fun _ => M.rng3W) q) fun xs H1 ⟨m, S, f, ws, rs, rf, rv, q⟩ => ?_
  unfold M.rng3W at q
  split at q
  · rename_i i j c
    cases rv with
    | cons r1 rv =>
      cases rv with
      | cons r2 rv =>
        cases rv with
        | cons r3 rv =>
          cases rv
          cases r1
          cases r2
          cases r3
          split at q
          · rename_i hb
            exact ⟨_, _, _, _, rfl, rgC_up hb.1.1.1 hb.1.1.2 hb.1.2.1 hb.1.2.2 hb.2.1 hb.2.2, q m H1 _ (List.prefix_refl _) (Stay.refl _) rs itr_rngC⟩
          · exact False.elim q
  · exact False.elim q
theorem c_str {E : XK} : CallR X (.type "str") (rWs (kxj X ϑ) E M.strI) := by
  intro pins s σ H xs us Q I r h
  obtain ⟨m, S, ws, rs, rv, q⟩ := h
  unfold M.strI at q
  split at q
  · obtain ⟨v, rfl, r1⟩ := rvs1 rv
    cases r1
    split at q
    · rename_i i hb
      refine call_str_int pins s σ H _ us Q I r ⟨i, rfl, ?_, q.here rs (.str _)⟩
      by_cases z : i.natAbs = 0
      · rw [z]
        decide
      · have := (Nat.log2_lt z).mpr hb
        omega
    · exact False.elim q
  · exact False.elim q
end
/-! ### wishes -/
namespace K
def ra (C : String) (fl : Str) (f : Fr) (P : PstS) : Pst (List W) := ⟨fun ws S => match ws with
  | [w] => P.ex ⟨C, some [(fl, w)]⟩ f S
  | _ => False, fun e S => P.ex e f S⟩
/-- behind a suite -/
def gn (i : Nat) (P : PstS) : PstS := ⟨fun f S => P.nx (f.set i none) S, P.rt, fun _ _ _ => False⟩
def tx (o : Option Bool) (i : Nat) (suite : MS) (e : Xn) (f : Fr) (S : Store) (P : PstS) : Prop := match o with
  | some true => WpS (suite (f.set i (some (.ref S.length))) (S ++ [.exc e.cls e.fld])) (gn i P)
  | some false => P.ex e f S
  | none => False
def tr (tab : List (String × Bool)) (i : Nat) (suite : MS) (P : PstS) : PstS := ⟨P.nx, P.rt, fun e f S => tx (tab.lookup e.cls) i suite e f S P⟩
end K
theorem ws_raise (C : String) (fl : Str) (gs : MA) (f : Fr) (S : Store) (P : PstS) : WpS (M.raise C fl gs f S) P = Wp (gs f S) (K.ra C fl f P) := by
  unfold M.raise M.thenS
  cases gs f S with
  | no => rfl
  | ex e S => rfl
  | ok ws S1 =>
    cases ws with
    | nil => rfl
    | cons w r =>
      cases r with
      | nil => rfl
      | cons _ _ => rfl
theorem k_ra (C : String) (fl : Str) (f : Fr) (P : PstS) (w : W) (S : Store) : (K.ra C fl f P).ok [w] S = P.ex ⟨C, some [(fl, w)]⟩ f S := via rfl
theorem ws_try (tab : List (String × Bool)) (i : Nat) (b s : MS) (f : Fr) (S : Store) (P : PstS) : WpS (M.tryAs tab i b s f S) P = WpS (b f S) (K.tr tab i s P) := by
  unfold M.tryAs
  cases b f S with
  | no => rfl
  | ok l S1 => cases l <;> rfl
  | ex e f1 S1 =>
    show _ = K.tx (tab.lookup e.cls) i s e f1 S1 P
    dsimp only
    cases tab.lookup e.cls with
    | none => rfl
    | some b =>
      cases b with
      | false => rfl
      | true =>
        show WpS (goneF i (s (f1.set i (some (.ref S1.length))) (S1 ++ [.exc e.cls e.fld]))) P = WpS (s (f1.set i (some (.ref S1.length))) (S1 ++ [.exc e.cls e.fld])) (K.gn i P)
        cases s (f1.set i (some (.ref S1.length))) (S1 ++ [.exc e.cls e.fld]) with
        | no => rfl
        | ex e f S => rfl
        | ok l S2 => cases l <;> rfl
theorem k_trN (tab : List (String × Bool)) (i : Nat) (s : MS) (P : PstS) (f : Fr) (S : Store) : (K.tr tab i s P).nx f S = P.nx f S := via rfl
theorem k_trR (tab : List (String × Bool)) (i : Nat) (s : MS) (P : PstS) (w : W) (S : Store) : (K.tr tab i s P).rt w S = P.rt w S := via rfl
theorem k_trX (tab : List (String × Bool)) (i : Nat) (s : MS) (P : PstS) (e : Xn) (f : Fr) (S : Store) : (K.tr tab i s P).ex e f S = K.tx (tab.lookup e.cls) i s e f S P := via rfl
theorem k_txY (i : Nat) (s : MS) (e : Xn) (f : Fr) (S : Store) (P : PstS) : K.tx (some true) i s e f S P = WpS (s (f.set i (some (.ref S.length))) (S ++ [.exc e.cls e.fld])) (K.gn i P) := via rfl
theorem k_txN (i : Nat) (s : MS) (e : Xn) (f : Fr) (S : Store) (P : PstS) : K.tx (some false) i s e f S P = P.ex e f S := via rfl
theorem k_gnN (i : Nat) (P : PstS) (f : Fr) (S : Store) : (K.gn i P).nx f S = P.nx (f.set i none) S := via rfl
theorem k_gnR (i : Nat) (P : PstS) (w : W) (S : Store) : (K.gn i P).rt w S = P.rt w S := via rfl
theorem wp_rng3 (g : MA) (f : Fr) (S : Store) (P : Pst (Nat × Get)) : Wp (M.rng3 g f S) P = Wp (g f S) (K.bd M.rng3W P) := wp_bind _ _ _
theorem y_rng3 (i j c : Int) (S : Store) (P : Pst (Nat × Get)) : Wp (M.rng3W [.int i, .int j, .int c] S) P = ((((-1000000 ≤ i ∧ i < 1000000) ∧ (-1000000 ≤ j ∧ j < 1000000)) ∧ 0 < c ∧ c < 1000000) ∧ P.ok ((Builtin.Range.rangeSize i j c).toNat, M.getS i c (Builtin.Range.rangeSize i j c).toNat) S) := by
  unfold M.rng3W
  dsimp only
  by_cases h : ((-1000000 ≤ i ∧ i < 1000000) ∧ (-1000000 ≤ j ∧ j < 1000000)) ∧ 0 < c ∧ c < 1000000
  · rw [if_pos h, eq_true h, true_and]
    rfl
  · rw [if_neg h, eq_false h, false_and]
    rfl
theorem y_strI (i : Int) (S : Store) (P : Pst W) : Wp (M.strI [.int i] S) P = (i.natAbs < 2 ^ 1900 ∧ P.ok (.str (toString i)) S) := by
  unfold M.strI
  dsimp only
  by_cases h : i.natAbs < 2 ^ 1900
  · rw [if_pos h, eq_true h, true_and]
    rfl
  · rw [if_neg h, eq_false h, false_and]
    rfl
theorem k_forS {n : Nat} {lo c : Int} {t : M.MG} {b : MS} {f : Fr} {S : Store} {P : PstS} (I : Nat → Fr → Store → Prop) (h0 : I 0 f S) (hs : ∀ i f S, i < n → I i f S → FoEl t b (.int (lo + (i : Nat) * c)) f S ⟨I (i + 1), P.rt, P.ex⟩) (hq : ∀ f S, I n f S → P.nx f S) : WpS (M.forL (M.getS lo c n) t b n 0 f S) P :=
  k_for I h0 (fun i f S hi h => ⟨_, by unfold M.getS; rw [if_pos hi], hs i f S hi h⟩) fun f S h => ⟨by unfold M.getS; rw [if_neg (Nat.lt_irrefl _)], hq f S h⟩
def xfl (o : Option Ob) (cs : List String) (fl : Str) (S : Store) (P : Pst W) : Prop := match o with
  | some (.exc C (some fs)) => C ∈ cs ∧ (match fs.lookup fl with
    | some w => P.ok w S
    | none => False)
  | _ => False
/-- the field of an exception -/
theorem y_xf {r : Nat} {C : String} {fs : List (Str × W)} {S : Store} {w : W} (h : S[r]? = some (.exc C (some fs))) {cs : List String} {fl : Str} (hl : fs.lookup fl = some w) (hC : C ∈ cs) (P : Pst W) : Wp (M.xfW cs fl (.ref r) S) P = P.ok w S := by
  unfold M.xfW
  dsimp only
  rw [h]
  dsimp only
  rw [if_pos hC, hl]
  rfl
theorem y_isx {r : Nat} {C : String} {o : Option (List (Str × W))} {S : Store} {b : Bool} (h : S[r]? = some (.exc C o)) {tab : List (String × Bool)} (hl : tab.lookup C = some b) (P : Pst W) : Wp (M.isxW tab (.ref r) S) P = P.ok (.bl b) S := by
  unfold M.isxW
  dsimp only
  rw [h]
  dsimp only
  rw [hl]
  rfl
/-- a quiet def called where something may be raised -/
theorem wp_quiet (g : List W → Store → Rs W) (ws : List W) (S : Store) (P : Pst W) : Wp (M.quiet g ws S) P = Wp (g ws S) (on P.ok) := by
  unfold M.quiet
  cases g ws S <;> rfl
/-- promises with exceptions -/
def onX {α : Type} (Q : α → Store → Prop) (X : Xn → Store → Prop) : Pst α := ⟨Q, X⟩
theorem Wp.thenX {α : Type} {r : Rs α} {Q : α → Store → Prop} {X : Xn → Store → Prop} {P : Pst α} (h : Wp r (onX Q X)) (k : ∀ a S, Q a S → P.ok a S) (x : ∀ e S, X e S → P.ex e S) : Wp r P := h.mono k x
end Wo
set_option autoImplicit true
set_option maxRecDepth 100000
set_option maxHeartbeats 4000000
namespace Wo
open PySem PySem.Spec PyProof.Rows L2
/-! W41: small things for the printed walks with exceptions. -/
theorem takes0 {X : Cx} : Takes X (fun _ _ _ _ => False) := fun _ _ ⟨_, _, _, _, _, _, _, _, _, _, _, _, _, _, _, _, z⟩ => z.elim
theorem Rc.tr {X : Cx} (rm : Rc X) {pn : List (Addr × Obj)} {xe : Value → Shared → Prop} : Rc (X.tr pn xe) := ⟨⟨rm.un, rm.g⟩, rm.calm⟩
theorem Rc.su {X : Cx} (rm : Rc X) {a : Addr} {pn : List (Addr × Obj)} : Rm (X.suite a pn) := ⟨rm.un, rm.g⟩
def clsBody (s : Stmt) : List Stmt := match s with
  | .ClassDef _ _ _ b _ _ _ _ _ _ _ => b
  | _ => []
def cvOf : V → Value
  | .ref a => .ref a
  | .ty n => .type n
  | _ => .none
def isC : V → Bool
  | .ref _ => true
  | .ty _ => true
  | _ => false
theorem vals_cs : ∀ {cs : List V} {us : List Value}, cs.all isC = true → Vals cs us → us = cs.map cvOf
  | _, _, _, .nil => rfl
  | c :: cs, _, h, .cons (b := u) r rs => by
    rw [List.all_cons, Bool.and_eq_true] at h
    rw [vals_cs h.2 rs, List.map_cons]
    congr 1
    cases c with
    | ref a => exact r
    | ty n => exact r
    | _ => exact nomatch h.1
section
variable {K : PySem.W.Frag} {C D : Addr} {b : Bool}
theorem kit_own (hd : PySem.W.hasDictIn K D = true) (ht : PySem.W.typeIn K (.ref D) = some (.type "type")) (hs : PySem.W.subIn K (.ref C) (.ref D) = some b) (hn : (C == D) = false) : PySem.W.kitOne K (.ref C) (.ref D) = some b := by
  obtain ⟨cd, hc, _⟩ := PySem.W.any_some hd
  have ne : ¬ ((Value.ref C == Value.ref D) = true) := fun z => by
    have e : C = D := Value.ref.inj (beq_iff_eq.mp z)
    rw [e] at hn
    simp at hn
  have e2 : ((PySem.W.clsIn K D).isSome && PySem.W.typeIn K (.ref D) == some (.type "type")) = true := by rw [hc, ht] <;> rfl
  show (if (Value.ref C == Value.ref D) = true then some true else PySem.W.kitCls K (.ref C) (.ref D)) = some b
  rw [if_neg ne]
  show (if ((PySem.W.clsIn K D).isSome && PySem.W.typeIn K (.ref D) == some (.type "type")) = true then PySem.W.subIn K (.ref C) (.ref D) else none) = some b
  rw [if_pos e2]
  exact hs
theorem kit_self : PySem.W.kitOne K (.ref C) (.ref C) = some true := if_pos (beq_self_eq_true _)
theorem kit_bt {T : String} (hm : PySem.W.kitMeta T = true) (hs : PySem.W.subIn K (.ref C) (.type T) = some b) : PySem.W.kitOne K (.ref C) (.type T) = some b := by
  have ne : ¬ ((Value.ref C == Value.type T) = true) := fun z => nomatch beq_iff_eq.mp z
  show (if (Value.ref C == Value.type T) = true then some true else PySem.W.kitCls K (.ref C) (.type T)) = some b
  rw [if_neg ne]
  show (if PySem.W.kitMeta T = true then PySem.W.subIn K (.ref C) (.type T) else none) = some b
  rw [if_pos hm]
  exact hs
theorem kAny_nil {t : Value} : PySem.W.kitAny K t [] = some false := rfl
theorem kAny_f {t c : Value} {r : List Value} (h : PySem.W.kitOne K t c = some false) (hr : PySem.W.kitAny K t r = some b) : PySem.W.kitAny K t (c :: r) = some b := by
  unfold PySem.W.kitAny
  rw [h]
  exact hr
theorem kAny_t {t c : Value} {r : List Value} (h : PySem.W.kitOne K t c = some true) : PySem.W.kitAny K t (c :: r) = some true := by
  unfold PySem.W.kitAny
  rw [h]
theorem oexB_mk {B newId initId : String} {bmB : List Value} {nm q : Str} {N : Addr} {bs bm : List Value} {sn : List Str} {sub : List Value} {ab : Bool} {col : Option Bool} {dd : Option Addr} {k0 k1 k2 k3 k5 : Option Value} (BI : BaseI B newId initId bmB)
    (l : K.lookup C = some (excClassObj nm q C N bs bm true sn sub ab col dd k0 k1 k2 k3 k5 newId)) (t : PySem.W.excTail bmB bm = true) (sa : PySem.W.findIn K (.ref C) "__setattr__" = some (some (.builtin "object.__setattr__"))) (ex : PySem.W.subIn K (.ref C) (.type "BaseException") = some true)
    (ty : PySem.W.typeIn K (.ref C) = some (.type "type")) (kp : PySem.W.keepIn K (.ref C) = true) : OexB K B newId initId bmB C :=
  ⟨BI.F, BI.SF, BI.ob, ⟨_, _, _, _, _, _, _, _, _, _, _, _, _, _, _, l, t⟩, sa, ex, ty, kp⟩
theorem cls_some (h : PySem.W.hasDictIn K C = true) : (PySem.W.clsIn K C).isSome = true := by
  obtain ⟨cd, hc, _⟩ := PySem.W.any_some h
  rw [hc]
  rfl
end
end Wo
set_option autoImplicit true
set_option maxRecDepth 100000
set_option maxHeartbeats 4000000
namespace Wo
open PySem L2
/-! W42: data without anything of the store: what it is shown as, == with itself. -/
/-- w is data of depth n, its text at most B long -/
def Pu (n B : Nat) (w : W) : Prop := ∃ d, (∀ S k, toD S (n + k) w = some d) ∧ (∀ S k, toR S (n + k) w = some d) ∧ OkD B d ∧ d.depth ≤ n
theorem Pu.mono {n m B C : Nat} {w : W} (h : Pu n B w) (hn : n ≤ m) (hB : B ≤ C) : Pu m C w := by
  obtain ⟨d, h1, h2, h3, h4⟩ := h
  obtain ⟨j, rfl⟩ := Nat.exists_eq_add_of_le hn
  exact ⟨d, fun S k => by rw [Nat.add_assoc]; exact h1 S _, fun S k => by rw [Nat.add_assoc]; exact h2 S _, h3.mono hB, Nat.le_trans h4 hn⟩
theorem pu_non : Pu 1 4 .non := ⟨.none, fun S k => by rw [Nat.add_comm]; rfl, fun S k => by rw [Nat.add_comm]; rfl, ⟨by rw [PyData.showable], none_cost, by rw [cost]; omega⟩, by rw [PyData.depth]; omega⟩
theorem pu_bl (b : Bool) : Pu 1 5 (.bl b) := ⟨.bool b, fun S k => by rw [Nat.add_comm]; rfl, fun S k => by rw [Nat.add_comm]; rfl, ⟨by rw [PyData.showable], bool_cost b, by rw [cost]; omega⟩, by rw [PyData.depth]; omega⟩
theorem pu_int {i : Int} {N : Nat} (h : i.natAbs ≤ N) (hN : N < 1900) : Pu 1 (N + 2) (.int i) := ⟨.int i, fun S k => by rw [Nat.add_comm]; rfl, fun S k => by rw [Nat.add_comm]; rfl, okInt h hN, by rw [PyData.depth]; omega⟩
/-- plain texts -/
def okT (x : Str) : Bool := PyData.strOk x && (PyData.str x).showable && decide ((PyData.shown (.str x)).length ≤ 10 * x.length + 2)
theorem pu_str {x : Str} (h : okT x = true) : Pu 1 (10 * x.length + 2) (.str x) := by
  unfold okT at h
  simp only [Bool.and_eq_true, decide_eq_true_eq] at h
  refine ⟨.str x, fun S k => ?_, fun S k => by rw [Nat.add_comm]; rfl, ⟨h.1.2, by rw [cost]; exact h.2, by rw [cost]; exact Nat.le_refl _⟩, by rw [PyData.depth]; omega⟩
  rw [Nat.add_comm]
  show (if PyData.strOk x = true then some (PyData.str x) else none) = _
  rw [if_pos h.1.1]
theorem pus {n B : Nat} : ∀ {xs : List W}, (∀ x ∈ xs, Pu n B x) → ∃ ds : List PyData, ds.length = xs.length ∧ (∀ S k, xs.mapM (toD S (n + k)) = some ds) ∧ (∀ S k, xs.mapM (toR S (n + k)) = some ds) ∧ (∀ d ∈ ds, OkD B d) ∧ ∀ d ∈ ds, d.depth ≤ n
  | [], _ => ⟨[], rfl, fun _ _ => rfl, fun _ _ => rfl, fun d h => absurd h List.not_mem_nil, fun d h => absurd h List.not_mem_nil⟩
  | x :: xs, h => by
    obtain ⟨d, h1, h2, h3, h4⟩ := h x (List.mem_cons_self ..)
    obtain ⟨ds, e0, e1, e2, e3, e4⟩ := pus fun y hy => h y (List.mem_cons_of_mem _ hy)
    refine ⟨d :: ds, by rw [List.length_cons, List.length_cons, e0], fun S k => ?_, fun S k => ?_, List.forall_mem_cons.mpr ⟨h3, e3⟩, List.forall_mem_cons.mpr ⟨h4, e4⟩⟩
    · rw [List.mapM_cons, h1, e1]; rfl
    · rw [List.mapM_cons, h2, e2]; rfl
theorem depthAll_le {n : Nat} : ∀ ds : List PyData, (∀ d ∈ ds, d.depth ≤ n) → PyData.depthAll ds ≤ n
  | [], _ => by rw [PyData.depthAll]; exact Nat.zero_le _
  | d :: ds, h => by
    rw [PyData.depthAll]
    exact Nat.max_le.mpr ⟨h d (List.mem_cons_self ..), depthAll_le ds fun x hx => h x (List.mem_cons_of_mem _ hx)⟩
theorem pu_tup {n B L : Nat} {xs : List W} (h : ∀ x ∈ xs, Pu n B x) (hl : xs.length ≤ L) : Pu (n + 1) (L * (B + 2) + 3) (.tup xs) := by
  obtain ⟨ds, e0, e1, e2, e3, e4⟩ := pus h
  refine ⟨.tuple ds, fun S k => ?_, fun S k => ?_, okTup e3 (by rw [e0]; exact hl), by rw [PyData.depth]; have := depthAll_le ds e4; omega⟩
  · rw [Nat.add_right_comm]
    show (xs.mapM (toD S (n + k))).map PyData.tuple = _
    rw [e1]; rfl
  · rw [Nat.add_right_comm]
    show (xs.mapM (toR S (n + k))).map PyData.tuple = _
    rw [e2]; rfl
/-- == of such a thing with itself -/
theorem Pu.toD {n B : Nat} {w : W} (h : Pu n B w) (hn : n ≤ 20) (S : Store) : ∃ d, toD S dd w = some d := by
  obtain ⟨d, h1, _⟩ := h
  have := h1 S (20 - n)
  rw [Nat.add_sub_cancel' hn] at this
  exact ⟨d, this⟩
theorem Pu.notref {n B : Nat} {r : Nat} (h : Pu n B (.ref r)) : False := by
  obtain ⟨d, h1, _⟩ := h
  have := h1 [] 1
  rw [Wo.toD] at this
  cases this
theorem eq2_self {n B : Nat} {w : W} (h : Pu n B w) (hn : n ≤ 20) (S : Store) : M.isEq2 w w S = some true := by
  obtain ⟨d, hd⟩ := h.toD hn S
  have hs : M.isEq w w S = some true := isEq_self hd
  cases w with
  | str x => exact hs
  | tup xs =>
    unfold M.isEq2
    dsimp only
    split
    · rename_i hh
      rw [hh.1, decide_eq_true rfl]
      rfl
    · exact hs
  | ref r => exact (Pu.notref h).elim
  | _ => exact hs
theorem x_eqSelf {n B : Nat} {w : W} (h : Pu n B w) (hn : n ≤ 20) (S : Store) : M.eq2W w w S = .ok (.bl true) S := eq2W_of (eq2_self h hn S)
theorem x_neSelf {n B : Nat} {w : W} (h : Pu n B w) (hn : n ≤ 20) (S : Store) : M.ne2W w w S = .ok (.bl false) S := ne2W_of (eq2_self h hn S)
/-- its text -/
theorem Pu.repr {n B : Nat} {w : W} (h : Pu n B w) (hn : n ≤ 20) (hB : B ≤ 100000) : ∃ t : Str, ∀ S, M.repr2W [w] S = .ok (.str t) S := by
  obtain ⟨d, _, h2, h3, h4⟩ := h
  refine ⟨d.shown, fun S => ?_⟩
  have := h2 S (20 - n)
  rw [Nat.add_sub_cancel' hn] at this
  exact repr2_run this h3 hB (by omega)
end Wo
set_option autoImplicit true
set_option maxRecDepth 100000
set_option maxHeartbeats 4000000
namespace Wo
open PySem L2
/-! W43: what a wish says of an exception. -/
theorem k_bdE {α β : Type} (k : α → Store → Rs β) (P : Pst β) (e : Xn) (S : Store) : (K.bd k P).ex e S = P.ex e S := via rfl
theorem k_o2E (g : G2) (b : ME) (f : Fr) (P : Pst W) (e : Xn) (S : Store) : (K.o2 g b f P).ex e S = P.ex e S := via rfl
theorem k_o2bE (g : G2) (x : W) (P : Pst W) (e : Xn) (S : Store) : (K.o2b g x P).ex e S = P.ex e S := via rfl
theorem k_c1E (r : MA) (f : Fr) (P : Pst (List W)) (e : Xn) (S : Store) : (K.c1 r f P).ex e S = P.ex e S := via rfl
theorem k_c2E (x : W) (P : Pst (List W)) (e : Xn) (S : Store) : (K.c2 x P).ex e S = P.ex e S := via rfl
theorem k_nTE (P : Pst Bool) (e : Xn) (S : Store) : (K.nT P).ex e S = P.ex e S := via rfl
theorem k_aTE (b : MT) (f : Fr) (P : Pst Bool) (e : Xn) (S : Store) : (K.aT b f P).ex e S = P.ex e S := via rfl
theorem k_oTE (b : MT) (f : Fr) (P : Pst Bool) (e : Xn) (S : Store) : (K.oT b f P).ex e S = P.ex e S := via rfl
theorem k_aVE (b : ME) (f : Fr) (P : Pst W) (e : Xn) (S : Store) : (K.aV b f P).ex e S = P.ex e S := via rfl
theorem k_oVE (b : ME) (f : Fr) (P : Pst W) (e : Xn) (S : Store) : (K.oV b f P).ex e S = P.ex e S := via rfl
theorem k_iEE (a b : ME) (f : Fr) (P : Pst W) (e : Xn) (S : Store) : (K.iE a b f P).ex e S = P.ex e S := via rfl
theorem k_drE (f : Fr) (P : PstS) (e : Xn) (S : Store) : (K.dr f P).ex e S = P.ex e f S := via rfl
theorem k_asE (t : M.MG) (f : Fr) (P : PstS) (e : Xn) (S : Store) : (K.as t f P).ex e S = P.ex e f S := via rfl
theorem k_rtE (f : Fr) (P : PstS) (e : Xn) (S : Store) : (K.rt f P).ex e S = P.ex e f S := via rfl
theorem k_isE (a b : MS) (f : Fr) (P : PstS) (e : Xn) (S : Store) : (K.is a b f P).ex e S = P.ex e f S := via rfl
theorem k_foE (t : M.MG) (b : MS) (f : Fr) (P : PstS) (e : Xn) (S : Store) : (K.fo t b f P).ex e S = P.ex e f S := via rfl
theorem k_m2E (g : W → List W → Store → Rs W) (x : W) (P : Pst W) (e : Xn) (S : Store) : (K.m2 g x P).ex e S = P.ex e S := via rfl
/-- what a thing is shown as does not hang on the store -/
def Rp (w : W) : Prop := ∃ t : Str, ∀ S, M.repr2W [w] S = .ok (.str t) S
theorem Pu.rp {n B : Nat} {w : W} (h : Pu n B w) (hn : n ≤ 20) (hB : B ≤ 100000) : Rp w := h.repr hn hB
/-- == of rows of truths -/
theorem eq2_bls {S : Store} {r q : Nat} {as bs : List Bool} (h1 : S[r]? = some (.lst (as.map .bl))) (h2 : S[q]? = some (.lst (bs.map .bl))) (hb : bs ≠ []) : M.isEq2 (.ref r) (.ref q) S = some (decide (as = bs)) := by
  have e : ∀ xs : List Bool, (xs.map W.bl).mapM (toD S 19) = some (xs.map PyData.bool) := fun xs => mapM_some (f := toD S 19) (g := W.bl) (h := PyData.bool) (fun c => rfl) xs
  have d1 : toD S dd (.ref r) = some (.list (as.map PyData.bool)) := toD_ref h1 (e as)
  have d2 : toD S dd (.ref q) = some (.list (bs.map PyData.bool)) := toD_ref h2 (e bs)
  have z : ∀ xs ys : List Bool, PyData.eqvAll (xs.map .bool) (ys.map .bool) = decide (xs = ys) := by
    intro xs
    induction xs with
    | nil => intro ys; cases ys <;> simp [PyData.eqvAll]
    | cons x xs ih =>
      intro ys
      cases ys with
      | nil => simp [PyData.eqvAll]
      | cons y ys =>
        rw [List.map_cons, List.map_cons, PyData.eqvAll, ih]
        cases x <;> cases y <;> simp [PyData.eqv]
  have nn : (bs.map W.bl).all M.isNon = false := by
    cases bs with
    | nil => exact absurd rfl hb
    | cons b bs => rfl
  have : M.isEq (.ref r) (.ref q) S = some (decide (as = bs)) := by
    unfold M.isEq
    dsimp only
    rw [d1, d2]
    dsimp only
    rw [PyData.eqv, z]
  unfold M.isEq2
  dsimp only
  rw [h1, h2]
  dsimp only
  rw [if_neg (by rw [nn]; simp)]
  exact this
end Wo
set_option autoImplicit true
set_option maxRecDepth 100000
set_option maxHeartbeats 4000000
namespace Wo
open PySem PySem.Spec PyProof.Rows L2
/-! W44: what is never reached; d[k] and l[i] by one rule; a, b = x, y; {k: v}; d.get(k, z); d[k] op= z. -/
namespace M
/-- o[i], o a row or a dict -/
def ixgW : G2 := fun o i S => match o with
  | .ref r => match S[r]? with
    | some (.dK _) => dgetW o i S
    | _ => ixW o i S
  | _ => ixW o i S
/-- a, b = x, y -/
def par (i j : Nat) (g : MA) : MS := thenS g fun ws f S => match ws with
  | [x, y] => .ok (.next ((f.set i (some x)).set j (some y))) S
  | _ => .no
/-- {k: v} -/
def disp1 (k v : ME) : ME := fun f S => (k f (S ++ [.dK []])).bind fun x S1 => (v f S1).bind fun y S2 => match keyOf x, S2[S.length]? with
  | some kk, some (.dK []) => .ok (.ref S.length) (S2.set S.length (.dK [(kk, y)]))
  | _, _ => .no
end M
section
variable {X : Cx} {E : EX}
theorem ix_dict (hu : X.A.units + 1 < cLine) : IxR X (fun x y H Q => ∃ a v, x = .ref a ∧ DGet H a y (some v) ∧ Q v H) := by
  intro value slice pins s σ H x y v u Q I rx ry h hs
  obtain ⟨a, z, rfl, g, q⟩ := h
  obtain rfl : v = Value.ref a := rx
  have hT := dict_typeIs I g
  unfold subscriptTail
  refine wpAny_bind ?_
  rw [getitemInPython_of_ne hT.not_modules]
  refine wpAny_bind (wpAny_specialOf hT PySem.F.slot_dict_getitem.lookup ?_)
  have fin : wpAny (model X.prog X.w) X.A (subscripted slice false (.ref a) u) (fun r s₃ => wpAny (model X.prog X.w) X.A (letTemporaryGo value (.ref a) r >>= fun _ => pure r) (EP X pins σ Q) X.xe s₃) X.xe s := by
    rw [hs]
    exact wpAny_operating (d_getItem hu I g ry fun w' s3 I3 rw' => wpAny_bind (wpAny_letTemporaryGo (wpAny_pure ⟨z, H, I3, rw', q⟩)))
  first
    | exact wpAny_pure (wpAny_bind fin)
    | exact wpAny_bind (wpAny_pure (wpAny_bind fin))
    | exact wpAny_bind fin
theorem i_ixg {E : XK} (rm : Rm X) : IxR X (rW (kxj X ϑ) E M.ixgW) := by
  have hu : X.A.units + 1 < cLine := by have := rm.un; omega
  intro value slice pins s σ H x y v u Q I rx ry h hs
  obtain ⟨m, S, a, b, rs, ra, rb, q⟩ := h
  have seq : Post (kxj X ϑ) E (RV X.K) m H (M.ixW a b S) Q → wpAny (model X.prog X.w) X.A (subscriptTail value slice v u) (EP X pins σ Q) X.xe s := fun q => i_seq (E := E) value slice pins s σ H x y v u Q I rx ry ⟨m, S, a, b, rs, ra, rb, q⟩ hs
  unfold M.ixgW at q
  cases ra with
  | @ref r ad hr =>
    dsimp only at q
    split at q
    · rename_i kvs e
      unfold M.dgetW at q
      dsimp only at q
      rw [e] at q
      dsimp only at q
      split at q <;> try exact False.elim q
      rename_i kk hk
      split at q <;> try exact False.elim q
      rename_i v1 hv
      obtain ⟨ls, e1, rk⟩ := rs.ob _ _ _ e hr
      obtain ⟨i1, i2⟩ := valW_rel (k := kk) rk
      obtain ⟨v', hv', rv⟩ := i1 v1 hv
      have ey : y = kV kk := by
        cases rb <;> simp only [M.keyOf] at hk <;> first | (cases hk; rfl) | cases hk
      exact ix_dict hu value slice pins s σ H _ y v u Q I rx ry ⟨_, v', rfl, .inl ⟨ls, kk, .inl e1, ey, hv'.symm⟩, q.here rs rv⟩ hs
    · exact seq q
  | _ => exact seq q
theorem e_ixg {a b : Expr} {pos : Pos} {ga gb : ME} (rm : Rm X) (ha : PE X a (tE (kxj X ϑ) E ga)) (hb : PE X b (tE (kxj X ϑ) E gb)) (hs : PlainIx b := by exact fun _ _ => rfl) : PE X (.Subscript a b pos) (tE (kxj X ϑ) E (M.op2 M.ixgW ga gb)) :=
  ⟨fun pins sh s H Q I h => (pe_ix (i_ixg rm (E := E s)) ha hb hs).run pins sh s H Q I (tE.two h)⟩
/-- a, b = x, y -/
theorem s_par {i j : Nat} {x y : Str} {a b : Expr} {gs : MA} {px py pt pos : Pos} {kt k2 pt2} (rm : Rc X) (hN : X.N.Nodup) (ha : PA X [a, b] (tA (kxj X ϑ) E gs)) (hi : X.N[i]? = some x := by rfl) (hj : X.N[j]? = some y := by rfl) (hij : i ≠ j := by decide)
    (hx : X.env.scope.names.lookup x = some .local := by rfl) (hy : X.env.scope.names.lookup y = some .local := by rfl)
    (hw : swappedStores [.Tuple [.Name x px, .Name y py] kt pt] (.Tuple [a, b] k2 pt2) X.env = pure (some [x, y]) := by rfl)
    (hs : swapsWithSole [.Tuple [.Name x px, .Name y py] kt pt] (.Tuple [a, b] k2 pt2) pos.line X.env = pure false := by rfl) :
    PS X (.Assign [.Tuple [.Name x px, .Name y py] kt pt] (.Tuple [a, b] k2 pt2) pos) (tS (kxj X ϑ) E (M.par i j gs)) := by
  refine PS.imp (ps_par rm.calm hN hi hj hij hx hy ha hw hs) fun D s H q => ?_
  refine tM.imp (tS.first (R := RVs X.K) q) fun vs H1 ⟨m, S, f1, ws, rs, rf, rv, q⟩ => ?_
  split at q
  · obtain ⟨v, z, rfl, r1, r2⟩ := rvs2 rv
    exact ⟨v, z, rfl, q m H1 _ (List.prefix_refl _) (Stay.refl _) rs ((rf.set r1 i).set r2 j)⟩
  · exact False.elim q
/-- {k: v} -/
theorem e_disp1 {k v : Expr} {gk gv : ME} {pos : Pos} (hk : PE X k (tE (kxj X ϑ) E gk)) (hv : PE X v (tE (kxj X ϑ) E gv)) : PE X (.Dict [some k] [v] pos) (tE (kxj X ϑ) E (M.disp1 gk gv)) := by
  refine PE.imp (pe_disp (pps_cons hk hv pps_nil) rfl rfl (by nofun) (Nat.le_of_ble_eq_true rfl)) fun s H Q ⟨m, S, f, rs, rf, q⟩ p hp => ?_
  have pr : Pre m (m ++ [p]) := List.prefix_append _ _
  have st : Stay X.K H (upd H p (.dK [])) := Stay.new hp
  have rs0 : RS (kxj X ϑ) (m ++ [p]) (S ++ [.dK []]) (upd H p (.dK [])) := rs.push hp ⟨[], upd_same, .nil⟩
  have at0 : (m ++ [p])[S.length]? = some p := by
    rw [← rs.len]
    exact List.getElem?_concat_length
  have rf0 := rf.mono pr st
  refine ⟨m ++ [p], S ++ [.dK []], f, rs0, rf0, (Post.bind (Post.mono q pr st)).imp fun x H1 ⟨m1, S1, a, p1, st1, rs1, ra, q1⟩ => ?_⟩
  refine ⟨m1, S1, f, rs1, rf0.mono p1 st1, (Post.bind q1).imp fun y H2 ⟨m2, S2, b, p2, st2, rs2, rb, q2⟩ => ?_⟩
  split at q2
  · rename_i kk hkk he
    have at2 := p2.get (p1.get at0)
    obtain ⟨ls, e1, rk⟩ := rs2.ob _ _ _ he at2
    cases rk
    have ra2 := ra.mono p2 st2
    have ex : x = kV kk := by
      cases ra2 <;> simp only [M.keyOf] at hkk <;> first | (cases hkk; rfl) | cases hkk
    refine ⟨e1, [(kk, y)], by rw [ex]; rfl, Nat.le_of_ble_eq_true rfl, ?_⟩
    have put := rs2.put (o := .dK [(kk, y)]) (b' := .dK [(kk, b)]) he at2 ⟨[(kk, y)], upd_same, .cons ⟨rfl, rb.mono (List.prefix_refl _) (Stay.upd (by rw [e1]; trivial))⟩ .nil⟩
    exact q2 m2 _ _ (List.prefix_refl _) (Stay.upd (by rw [e1]; trivial)) put (.ref at2)
  · exact False.elim q2
end
end Wo
set_option autoImplicit true
set_option maxRecDepth 100000
set_option maxHeartbeats 4000000
namespace Wo
open PySem PySem.Spec PyProof.Rows L2
/-! W45: enumerate of a tuple, of a list. -/
/-- enumerate(v): its two new cells -/
theorem meets_enum1 {v : Value} {o : Obj} {H : Heap → Prop} (B : Begins v o H) :
    Meets (Builtin.«enumerate.__new__» ⟨[.type "enumerate", v], []⟩) (fun _ R s => H s.heap ∧
      R (.ok (.ret (.ref (s.heap.push o).objs.size))) { s with heap := (s.heap.push o).push { cls := .type "enumerate", data := .fields #[.none, .bool false, .ref s.heap.objs.size, rawInt 0, .none, .none] } }) :=
  .of_wp fun prog w A R s h => by
    obtain ⟨hp, g, d, tk, os⟩ := s
    obtain ⟨h1, h⟩ := h
    have hsub := sub_enumerate
    have q1 : ∀ {A' : Around} {E : Value → Shared → Prop} {Q : Value → Shared → Prop}, Q (.ref hp.objs.size) ⟨hp.push o, g, d, tk, os⟩ → wpAny (model prog w) A' (pyIter v) Q E ⟨hp, g, d, tk, os⟩ :=
      fun q => B.iter prog w _ _ ⟨hp, g, d, tk, os⟩ _ h1 q
    wp_walk using q1
    refine wpAny_stack_any fun st => wpAny_pure ?_
    split
    · rename_i c _ _ _ _ _
      cases (c == Value.type "enumerate") <;> (wp_walk using q1; exact ⟨_, rfl, h⟩)
    · wp_walk using q1
      exact ⟨_, rfl, h⟩
theorem call_enum1 {prog : Program} {w : World} {A : Around} {E : Value → Shared → Prop} {s : Shared} {v : Value} {o : Obj} {H : Heap → Prop} {Q : Value → Shared → Prop} (B : Begins v o H) (h1 : H s.heap)
    (h : ∀ h', IsEnum h' (s.heap.objs.size + 1) s.heap.objs.size 0 .none → h'.get? s.heap.objs.size = some o → h'.objs.size = s.heap.objs.size + 2 → (∀ b o, s.heap.get? b = some o → h'.get? b = some o) → Q (.ref (s.heap.objs.size + 1)) { s with heap := h' }) :
    wpAny (model prog w) A (call (.type "enumerate") [v]) Q E s := by
  refine callType_new F.called_enumerate (by decide) (F.typeCall_enumerate_1 _) (F.newCall_enumerate_1 _) (fun obj => F.args_object_init_2 obj _) F.entry_enumerate_new (meets_enum1 B) ⟨h1, ?_⟩
  have hz : (s.heap.push o).objs.size = s.heap.objs.size + 1 := Heap.size_push ..
  show _ ∧ _
  rw [hz]
  have he : IsEnum ((s.heap.push o).push { cls := .type "enumerate", data := .fields #[.none, .bool false, .ref s.heap.objs.size, rawInt 0, .none, .none] }) (s.heap.objs.size + 1) s.heap.objs.size 0 .none := by
    have z := Heap.get?_push_size (s.heap.push o) (o := { cls := .type "enumerate", data := .fields #[.none, .bool false, .ref s.heap.objs.size, rawInt 0, .none, .none] }) rfl
    rw [hz] at z
    exact z
  exact ⟨⟨_, he, rfl⟩, h _ he (Heap.get?_push_of_some _ (Heap.get?_push_size _ B.free)) (by rw [Heap.size_push, hz]) fun b o x => Heap.get?_push_of_some _ (Heap.get?_push_of_some _ x)⟩
/-- the tuple at a, each item in a new pair -/
def IteT (K : PySem.W.Frag) (a : Addr) : It :=
  ⟨fun i H => ∃ (xs : List V) (x : V), SqT K H a xs ∧ xs[i]? = some x, fun i H v H' => ∃ T x, v = .ref T ∧ H T = none ∧ H' = upd H T (.tup [.int (i : Nat), x]) ∧ ∀ xs, SqT K H a xs → xs[i]? = some x, fun i H => ∃ xs : List V, SqT K H a xs ∧ i = xs.length⟩
theorem turn_enumT {P : Program} {w : World} {K : PySem.W.Frag} {elts : List Expr} {kk : Nat} {tpos : Pos} (a e it : Addr) (hei : e ≠ it) (hea : e ≠ a) (hai : a ≠ it) :
    Turn P w K (.Tuple elts kk tpos) (IteT K a) [e, it] e (fun i h => (∃ old, IsEnum h e it ((i : Nat) : Int) old) ∧ h.IsTupleIter it a i) where
  mem := by simp
  obj := fun i h st b hb => by
    obtain ⟨⟨old, he⟩, ⟨o, ho, hc, hd⟩⟩ := st
    have e' : b = e ∨ b = it := by simpa using hb
    rcases e' with z | z
    · rw [z]; exact ⟨_, he, fun v q => nomatch q⟩
    · rw [z]; exact ⟨o, ho, fun v q => by rw [hd] at q; cases q⟩
  keep := fun i h h' st k => let ⟨⟨old, he⟩, hi⟩ := st; ⟨⟨old, k e (by simp) _ he⟩, hi.at fun o q => k it (by simp) o q⟩
  item := by
    intro X hP hw hK hc i pins s σ H E I hf st hg
    subst hP hw hK
    obtain ⟨⟨old, he⟩, hit⟩ := st
    obtain ⟨xs, x, hq, hx⟩ := hg
    obtain ⟨its, rv, p, hz⟩ := I.tuple hq
    obtain ⟨u, hu, ru⟩ := rv.get hx
    have hl := rv.length
    have hel : e < s.heap.objs.size := Heap.lt_size he
    have hil : it < s.heap.objs.size := by obtain ⟨_, q, _⟩ := hit; exact Heap.lt_size q
    have hi : i < its.toArray.size := by rw [List.size_toArray]; exact (List.getElem?_eq_some_iff.mp hu).1
    have D := Draws.tuple (prog := X.prog) (w := X.w) (A := X.A.in1) (I.ok.hd hc) it a hai its.toArray
    refine wpAny_pyNext_enum_itemD D he ⟨hit, p⟩ hi hei (by simp [hei, hea]) fun x' h' tk hx' ho st' hT hsz hk => ?_
    have ex : x' = u := by
      have z : its.toArray[i]? = some u := by simpa using hu
      rw [z] at hx'
      exact (Option.some.inj hx').symm
    subst ex
    refine ⟨_, rfl, wpAny_letOwnedTupleGo_enum (s := { s with heap := h', toks := tk + 1 }) ho fun h'' he' sb => ?_⟩
    have hT2 : h''.get? s.heap.objs.size = some { cls := .type "tuple", data := .seq #[.int i tk, x'] } := (sb.2 _ (Nat.ne_of_gt hel)).trans hT
    have new : ObjOk X.prog X.w (upd H s.heap.objs.size (.tup [.int (i : Nat), x])) h'' s.heap.objs.size (.tup [.int (i : Nat), x]) :=
      ⟨by show 2 ≤ sizeLine; decide, [.int i tk, x'], .cons ⟨_, rfl⟩ (.cons ru .nil), ⟨_, hT2, rfl, _, rfl⟩⟩
    have I1 : Inv X pins σ (upd H s.heap.objs.size (.tup [.int (i : Nat), x])) { s with heap := h'', toks := tk + 1 } :=
      I.turnedNew (ch := [e, it]) (fun b ob hb q => (sb.2 b (fun z => hb (by simp [z]))).trans (hk b ob (fun z => hb (by simp [z])) (fun z => hb (by simp [z])) q)) hf (Nat.le_refl _) new
    refine ⟨.ref s.heap.objs.size, _, I1, rfl, ⟨_, x, rfl, I.hok.fresh (Nat.le_refl _), rfl, fun ys hy => by rw [I.tuple_inj hy hq]; exact hx⟩, ⟨⟨x', ?_⟩, st'.1.at fun o q => (sb.2 it (Ne.symm hei)).trans q⟩, fun b hb => ?_⟩
    · have e1 : ((i + 1 : Nat) : Int) = (i : Int) + 1 := by omega
      rw [e1]; exact he'
    · have hb' : b < s.heap.objs.size := by
        have e' : b = e ∨ b = it := by simpa using hb
        rcases e' with z | z
        · rw [z]; exact hel
        · rw [z]; exact hil
      rw [upd_ne (Nat.ne_of_lt hb')]
      exact (hf b hb).1
  done := by
    intro X hP hw hK hc i pins s σ H E I hf st hg
    subst hP hw hK
    obtain ⟨⟨old, he⟩, hit⟩ := st
    obtain ⟨xs, hq, hx⟩ := hg
    obtain ⟨its, rv, p, hz⟩ := I.tuple hq
    obtain ⟨f0, f1, f2, f3, f4, f5⟩ := hf it (by simp)
    have hl := rv.length
    have D := Draws.tuple (prog := X.prog) (w := X.w) (A := X.A.in1) (I.ok.hd hc) it a hai its.toArray
    have en : i = its.toArray.size := by rw [List.size_toArray, ← hl]; exact hx
    subst en
    exact wpAny_pyNext_enum_endD D he ⟨hit, p⟩ fun h' eb => ⟨rfl, I.turned (t' := s.toks) (fun b o hb q => eb b o hb q) f0 f1 f3 f4 f5⟩
  self := fun A i s Q E st h => let ⟨⟨_, he⟩, _⟩ := st; wpAny_pyIter_enum he h
def iEnumT (K : PySem.W.Frag) (ta : TA) : TI := fun σ H R => ta σ H fun vs H1 => ∃ a xs, vs = [.ref a] ∧ ((SqT K H1 a xs ∧ R (IteT K a) H1) ∨ (SqL K H1 a xs ∧ R (Ite K a) H1))
theorem pi_enumA {X : Cx} {e : Expr} {ta : TA} {p pos tpos : Pos} {elts : List Expr} {kk : Nat} (hg : Gl X "enumerate") (hm : X.mg "enumerate" = none) (ha : PA X [e] ta) (hs : starEach [e] X.env = [(false, eval e X.env)] := by rfl) :
    PI X (.Tuple elts kk tpos) (.Call (.Name "enumerate" p) [e] [] pos) (iEnumT X.K ta) := by
  refine ⟨fun pins s σ H R I h => ?_⟩
  refine Call_ (ld_blt I hg hm boot_enumerate (PyProof.Rows.callWith_type1 (thn (ha.run pos pins s σ H _ I h) fun us s1 ⟨vs, H1, I1, r1, q1⟩ => ?_) hs rfl))
  obtain ⟨a, xs, ex, q⟩ := q1
  subst ex
  cases r1 with
  | cons r rr =>
    cases rr
    cases r
    have two : ∀ b, b = s1.heap.objs.size + 1 ∨ b = s1.heap.objs.size → s1.heap.objs.size ≤ b := fun b z => by
      rcases z with z | z
      · rw [z]; exact Nat.le_add_right _ _
      · rw [z]; exact Nat.le_refl _
    rcases q with ⟨hq, q⟩ | ⟨hq, q⟩
    · obtain ⟨its, rv, p', hz⟩ := I1.tuple hq
      have hlt : a < s1.heap.objs.size := by obtain ⟨o, ho, _⟩ := p'; exact Heap.lt_size ho
      refine call_enum1 (begins_tuple a its.toArray) p' fun h' he hit hsz hk => wpAny_pyIter_enum he ?_
      have I2 : Inv X pins σ H1 { s1 with heap := h' } := I1.kept (t' := s1.toks) hk
      refine ⟨s1.heap.objs.size + 1, [s1.heap.objs.size + 1, s1.heap.objs.size], _, _, H1, rfl, I2, turn_enumT a (s1.heap.objs.size + 1) s1.heap.objs.size (Nat.succ_ne_self _) (Nat.ne_of_gt (Nat.lt_succ_of_lt hlt)) (Nat.ne_of_lt hlt), ⟨⟨.none, he⟩, ⟨_, hit, rfl, rfl⟩⟩, fun b hb => ?_, q⟩
      have hle := two b (by simpa using hb)
      exact I1.fpOk hle (I1.hok.fresh hle)
    · obtain ⟨its, rv, p', hz⟩ := I1.list hq
      refine call_enumerate_list p'.isList fun h' he hit hsz hk => wpAny_pyIter_enum he ?_
      have I2 : Inv X pins σ H1 { s1 with heap := h' } := I1.kept (t' := s1.toks) hk
      refine ⟨s1.heap.objs.size + 1, [s1.heap.objs.size + 1, s1.heap.objs.size], _, _, H1, rfl, I2, turn_enum a (s1.heap.objs.size + 1) s1.heap.objs.size, ⟨⟨.none, he⟩, hit, Nat.succ_ne_self _⟩, fun b hb => ?_, q⟩
      have hle := two b (by simpa using hb)
      exact I1.fpOk hle (I1.hok.fresh hle)
namespace M
def pairW (i : Nat) (x : W) : W := .tup [.int (i : Nat), x]
/-- each item in a pair with its number -/
def getEF (xs : List W) : Get := fun _ i => if i ≤ xs.length then some (xs[i]?.map (pairW i)) else none
def getER (r : Nat) : Get := fun S i => match S[r]? with
  | some (.lst ys) => some (ys[i]?.map (pairW i))
  | _ => none
def enumW (ws : List W) (S : Store) : Rs (Nat × Get) := match ws with
  | [.tup xs] => .ok (xs.length, getEF xs) S
  | [.ref r] => match S[r]? with
    | some (.lst xs) => .ok (xs.length, getER r) S
    | _ => .no
  | _ => .no
def enum (g : MA) : MIt := fun f S => (g f S).bind enumW
end M
section
variable {K : Kx} {m0 : List Addr} {H0 : Hp}
theorem pair_rel {m : List Addr} {S : Store} {H : Hp} {i : Nat} {x : W} {v : V} {T : Addr} (rs : RS K m S H) (hT : H T = none) (r : RV K m H x v) : Stay K H (upd H T (.tup [.int (i : Nat), v])) ∧ RS K m S (upd H T (.tup [.int (i : Nat), v])) ∧ RV K m (upd H T (.tup [.int (i : Nat), v])) (M.pairW i x) (.ref T) :=
  ⟨Stay.new hT, rs.grow hT, .tup (SqT.of upd_same) (.cons (.int _) (.cons (r.mono (List.prefix_refl _) (Stay.new hT)) .nil))⟩
theorem itr_enT {a : Addr} {xs : List W} {vs : List V} (hq : SqT K H0 a vs) (rv : RVs K m0 H0 xs vs) : ItR K m0 H0 (M.getEF xs) (IteT K a) := by
  refine ⟨fun m S H i p st rs e => ?_, fun m S H i x p st rs e => ?_⟩
  · unfold M.getEF at e
    split at e
    · rename_i hi
      cases h : xs[i]? with
      | some y => rw [h] at e; cases e
      | none =>
        have := List.getElem?_eq_none_iff.mp h
        exact ⟨vs, st.t _ _ hq, by rw [← rv.length]; omega⟩
    · cases e
  · unfold M.getEF at e
    split at e
    · cases h : xs[i]? with
      | none => rw [h] at e; cases e
      | some y =>
        rw [h] at e
        have ex : x = M.pairW i y := (Option.some.inj (Option.some.inj e)).symm
        subst ex
        obtain ⟨v, h1, h2⟩ := rv.get h
        refine ⟨⟨vs, v, st.t _ _ hq, h1⟩, fun v' H' yy => ?_⟩
        obtain ⟨T, z, rfl, hT, rfl, hz⟩ := yy
        have z1 := hz vs (st.t _ _ hq)
        rw [h1] at z1
        cases z1
        exact pair_rel rs hT (h2.mono p st)
    · cases e
theorem itr_enR {r : Nat} {a : Addr} (hr : m0[r]? = some a) : ItR K m0 H0 (M.getER r) (Ite K a) := by
  refine ⟨fun m S H i p st rs e => ?_, fun m S H i x p st rs e => ?_⟩
  · unfold M.getER at e
    split at e
    · rename_i ys ey
      obtain ⟨vs, h1, h2⟩ := rs.ob _ _ _ ey (p.get hr)
      cases h : ys[i]? with
      | some y => rw [h] at e; cases e
      | none => exact ⟨vs, SqL.of h1, by rw [← h2.length]; exact List.getElem?_eq_none_iff.mp h⟩
    · cases e
  · unfold M.getER at e
    split at e
    · rename_i ys ey
      obtain ⟨vs, h1, h2⟩ := rs.ob _ _ _ ey (p.get hr)
      cases h : ys[i]? with
      | none => rw [h] at e; cases e
      | some y =>
        rw [h] at e
        have ex : x = M.pairW i y := (Option.some.inj (Option.some.inj e)).symm
        subst ex
        obtain ⟨v, h3, h4⟩ := h2.get h
        refine ⟨⟨vs, v, SqL.of h1, h3⟩, fun v' H' yy => ?_⟩
        obtain ⟨T, z, rfl, hT, rfl, hz⟩ := yy
        have z1 := hz vs (SqL.of h1)
        rw [h3] at z1
        cases z1
        exact pair_rel rs hT h4
    · cases e
end
theorem i_enum {X : Cx} {ϑ : Jx X.K} {E : EX} {e : Expr} {g : MA} {p pos tpos : Pos} {elts : List Expr} {kk : Nat} (hm : X.mg "enumerate" = none) (ha : PA X [e] (tA (kxj X ϑ) E g)) (hg : Gl X "enumerate" := by rfl) (hs : starEach [e] X.env = [(false, eval e X.env)] := by rfl) :
    PI X (.Tuple elts kk tpos) (.Call (.Name "enumerate" p) [e] [] pos) (tI (kxj X ϑ) E (M.enum g)) := by
  refine PI.imp (pi_enumA hg hm ha hs) fun s H R q => ?_
  refine tM.imp (tM.seq (R := RVs X.K) (g := g) (k := fun _ => M.enumW) q) fun xs H1 ⟨m, S, f, ws, rs, rf, rv, q⟩ => ?_
  unfold M.enumW at q
  split at q
  · obtain ⟨v, rfl, r1⟩ := rvs1 rv
    cases r1 with
    | tup hq rr => exact ⟨_, _, rfl, .inl ⟨hq, q m H1 _ (List.prefix_refl _) (Stay.refl _) rs (itr_enT hq rr)⟩⟩
  · obtain ⟨v, rfl, r1⟩ := rvs1 rv
    cases r1 with
    | ref hr =>
      split at q
      · rename_i ys ey
        obtain ⟨vs, h1, h2⟩ := rs.ob _ _ _ ey hr
        exact ⟨_, _, rfl, .inr ⟨SqL.of h1, q m H1 _ (List.prefix_refl _) (Stay.refl _) rs (itr_enR hr)⟩⟩
      · exact False.elim q
  · exact False.elim q
/-! wishes -/
theorem wp_enum (g : MA) (f : Fr) (S : Store) (P : Pst (Nat × Get)) : Wp (M.enum g f S) P = Wp (g f S) (K.bd M.enumW P) := wp_bind _ _ _
theorem y_enumT (xs : List W) (S : Store) (P : Pst (Nat × Get)) : Wp (M.enumW [.tup xs] S) P = P.ok (xs.length, M.getEF xs) S := via rfl
theorem y_enumR {r : Nat} {xs : List W} {S : Store} (h : S[r]? = some (.lst xs)) (P : Pst (Nat × Get)) : Wp (M.enumW [.ref r] S) P = P.ok (xs.length, M.getER r) S := by
  unfold M.enumW
  dsimp only
  rw [h]
  rfl
theorem k_forEF {xs : List W} {t : M.MG} {b : MS} {f : Fr} {S : Store} {P : PstS} (I : Nat → Fr → Store → Prop) (h0 : I 0 f S) (hs : ∀ i x f S, xs[i]? = some x → I i f S → FoEl t b (M.pairW i x) f S ⟨I (i + 1), P.rt, P.ex⟩) (hq : ∀ f S, I xs.length f S → P.nx f S) : WpS (M.forL (M.getEF xs) t b xs.length 0 f S) P := by
  refine k_for I h0 (fun i f S hi h => ⟨M.pairW i xs[i], ?_, hs i xs[i] f S (List.getElem?_eq_getElem hi) h⟩) fun f S h => ⟨?_, hq f S h⟩
  · unfold M.getEF
    rw [if_pos (Nat.le_of_lt hi), List.getElem?_eq_getElem hi]
    rfl
  · unfold M.getEF
    rw [if_pos (Nat.le_refl _), List.getElem?_eq_none (Nat.le_refl _)]
    rfl
theorem k_lcEF {xs : List W} {vs : List Nat} {t : M.MG} {c : MT} {e : ME} {f : Fr} {S : Store} {P : Pst W} (y : Nat → W → List W) (hl : xs.length ≤ 10000)
    (h : ∀ i x, xs[i]? = some x → ∀ S', S <+: S' → LcEl t c e (wipeF f vs) (M.pairW i x) S' fun ys S2 => S' <+: S2 ∧ ys = y i x) (hq : ∀ S', S <+: S' → S'[S.length]? = some (.lst ((List.range xs.length).flatMap fun i => y i (xs.getD i .non))) → P.ok (.ref S.length) S') : (K.lc vs t c e f P).ok (xs.length, M.getEF xs) S := by
  refine k_lc (fun i acc S' => S <+: S' ∧ S'[S.length]? = some (.lst acc) ∧ acc = (List.range i).flatMap fun i => y i (xs.getD i .non)) ⟨List.prefix_append _ _, get_new _ _, rfl⟩ hl (fun i acc S' h => h.2.1) (fun i acc S' hi hI => ?_) fun acc S' hI => hq S' hI.1 (by rw [← hI.2.2]; exact hI.2.1)
  obtain ⟨p, ha, ea⟩ := hI
  refine ⟨fun hlt => ?_, fun e => ?_⟩
  · have hx : xs[i]? = some xs[i] := List.getElem?_eq_getElem hlt
    refine ⟨M.pairW i xs[i], by unfold M.getEF; rw [if_pos hi, hx]; rfl, ?_⟩
    have q := h i xs[i] hx S' p
    unfold LcEl at q ⊢
    cases ht : t (M.pairW i xs[i]) (wipeF f vs) S' with
    | none => rw [ht] at q; exact q
    | some f2 =>
      rw [ht] at q
      dsimp only at q ⊢
      refine q.mono (fun b S2 hb => ?_) fun _ _ z => z
      have fin : ∀ ys S3, (S' <+: S3 ∧ ys = y i xs[i]) → S3[S.length]? = some (.lst acc) ∧ S <+: S3.set S.length (.lst (acc ++ ys)) ∧ (S3.set S.length (.lst (acc ++ ys)))[S.length]? = some (.lst (acc ++ ys)) ∧ acc ++ ys = (List.range (i + 1)).flatMap fun i => y i (xs.getD i .non) := by
        rintro ys S3 ⟨p3, rfl⟩
        have g := pre_get p3 ha
        refine ⟨g, pre_set (p.trans p3) (Nat.le_refl _) _, List.getElem?_set_self (List.getElem?_eq_some_iff.mp g).1, ?_⟩
        rw [List.range_succ, List.flatMap_append, ← ea]
        congr 1
        simp [List.getD, hx]
      dsimp only [on] at hb ⊢
      cases b with
      | false =>
        rw [if_neg Bool.false_ne_true] at hb ⊢
        exact fin [] S2 hb
      | true =>
        rw [if_pos rfl] at hb ⊢
        exact hb.mono (fun v S3 h3 => fin [v] S3 h3) fun _ _ z => z
  · unfold M.getEF
    rw [if_pos hi, List.getElem?_eq_none (by omega)]
    rfl
end Wo
set_option autoImplicit true
set_option maxRecDepth 100000
set_option maxHeartbeats 4000000
namespace Wo
open PySem PySem.Spec PyProof.Rows L2
/-! W46: for .. in d.items(), d.values(), d, where d is a new dict that nobody asks afterwards: it stays locked. -/
theorem pe_lockA {X : Cx} {e : Expr} {td : TE} (he : PE X e td) : PE X e (fun σ H Q => td σ H fun x H1 => ∃ d u, x = .ref d ∧ H1 d = some u ∧ Mut (some u) ∧ ∀ od, Q x (upd H1 d (.frz od u))) := by
  refine ⟨fun pins s σ H Q I h => thn (he.run pins s σ H _ I h) fun v s1 ⟨x, H1, I1, r, d, u, ex, hd, mu, q⟩ => ?_⟩
  obtain ⟨od, I2⟩ := I1.lock hd mu
  exact ⟨x, _, I2, r, q od⟩
def kW : Key → W
  | .inl i => .int i
  | .inr x => .str x
theorem kW_rel {K : PySem.W.Frag} {m : List Addr} {H : Hp} (k : Key) : RV K m H (kW k) (kV k) := by
  cases k with
  | inl i => exact .int i
  | inr x => exact .str x
namespace M
def vItem (kv : Key × W) : W := .tup [kW kv.1, kv.2]
def vVal (kv : Key × W) : W := kv.2
def vKey (kv : Key × W) : W := kW kv.1
/-- the dict is locked, and not known any more -/
def viewW (v : Key × W → W) (w : W) (S : Store) : Rs (Nat × Get) := match w with
  | .ref r => match S[r]? with
    | some (.dK kvs) => .ok (kvs.length, getF (kvs.map v)) (S.set r .hid)
    | _ => .no
  | _ => .no
def view (v : Key × W → W) (g : ME) : MIt := fun f S => (g f S).bind (viewW v)
end M
theorem rkv_get {K : PySem.W.Frag} {m : List Addr} {H : Hp} : ∀ {kvs : List (Key × W)} {ls : List (Key × V)} {i : Nat} {k : Key} {v : V}, RKV K m H kvs ls → ls[i]? = some (k, v) → ∃ w, kvs[i]? = some (k, w) ∧ RV K m H w v
  | _, _, _, _, _, .nil, e => by simp at e
  | (a, b) :: _, _, 0, k, v, .cons ⟨e1, r⟩ t, e => by
    simp at e
    subst e
    have e1 : a = k := e1
    subst e1
    exact ⟨b, rfl, r⟩
  | _, _, i + 1, k, v, .cons _ t, e => by
    obtain ⟨w, h1, h2⟩ := rkv_get (i := i) t (by simpa using e)
    exact ⟨w, by simpa using h1, h2⟩
section
variable {K : Kx} {m0 : List Addr} {H0 : Hp} {d : Addr} {od : Obj} {kvs : List (Key × W)} {ls : List (Key × V)}
theorem view_stop {v : Key × W → W} {S : Store} {i : Nat} (hk : RKV K m0 H0 kvs ls) (e : M.getF (kvs.map v) S i = some none) : ls.length ≤ i := by
  have e' : (kvs.map v)[i]? = none := Option.some.inj e
  have := List.getElem?_eq_none_iff.mp e'
  rw [List.length_map] at this
  rw [← Paired.length hk]
  exact this
theorem view_go {v : Key × W → W} {S : Store} {i : Nat} {x : W} (hk : RKV K m0 H0 kvs ls) (e : M.getF (kvs.map v) S i = some (some x)) : i < ls.length ∧ ∀ k u, ls[i]? = some (k, u) → ∃ w, x = v (k, w) ∧ RV K m0 H0 w u := by
  have e' : (kvs.map v)[i]? = some x := Option.some.inj e
  have hi : i < kvs.length := by
    have := (List.getElem?_eq_some_iff.mp e').1
    rwa [List.length_map] at this
  refine ⟨by rw [← Paired.length hk]; exact hi, fun k u hl => ?_⟩
  obtain ⟨w, h1, h2⟩ := rkv_get hk hl
  rw [List.getElem?_map, h1] at e'
  exact ⟨w, (Option.some.inj e').symm, h2⟩
theorem itr_items (hd : H0 d = some (.frz od (.dK ls))) (hk : RKV K m0 H0 kvs ls) : ItR K m0 H0 (M.getF (kvs.map M.vItem)) (Iti d od ls) := by
  refine ⟨fun m S H i p st rs e => ⟨st.z _ _ _ hd, view_stop hk e⟩, fun m S H i x p st rs e => ?_⟩
  obtain ⟨h1, h2⟩ := view_go hk e
  refine ⟨⟨st.z _ _ _ hd, h1⟩, fun v' H' y => ?_⟩
  obtain ⟨T, k, u, hl, rfl, hT, rfl⟩ := y
  obtain ⟨w, rfl, r⟩ := h2 k u hl
  exact ⟨Stay.new hT, rs.grow hT, .tup (SqT.of upd_same) (.cons (kW_rel k) (.cons (r.mono p (st.trans (Stay.new hT))) .nil))⟩
theorem itr_vals (hd : H0 d = some (.frz od (.dK ls))) (hk : RKV K m0 H0 kvs ls) : ItR K m0 H0 (M.getF (kvs.map M.vVal)) (Itd d od ls) := by
  refine ⟨fun m S H i p st rs e => ⟨st.z _ _ _ hd, view_stop hk e⟩, fun m S H i x p st rs e => ?_⟩
  obtain ⟨h1, h2⟩ := view_go hk e
  refine ⟨⟨st.z _ _ _ hd, h1⟩, fun v' H' y => ?_⟩
  obtain ⟨rfl, k, hl⟩ := y
  obtain ⟨w, rfl, r⟩ := h2 k _ hl
  exact ⟨Stay.refl _, rs, r.mono p st⟩
theorem itr_keys (hd : H0 d = some (.frz od (.dK ls))) (hk : RKV K m0 H0 kvs ls) : ItR K m0 H0 (M.getF (kvs.map M.vKey)) (Itk d od ls) := by
  refine ⟨fun m S H i p st rs e => ⟨st.z _ _ _ hd, view_stop hk e⟩, fun m S H i x p st rs e => ?_⟩
  obtain ⟨h1, h2⟩ := view_go hk e
  refine ⟨⟨st.z _ _ _ hd, h1⟩, fun v' H' y => ?_⟩
  obtain ⟨rfl, k, u, hl, rfl⟩ := y
  obtain ⟨w, rfl, r⟩ := h2 k u hl
  exact ⟨Stay.refl _, rs, kW_rel k⟩
end
section
variable {X : Cx} {E : EX} {e tg : Expr} {g : ME} {apos cpos tpos : Pos} {elts : List Expr} {kk : Nat}
/-- what the three rules share -/
theorem view_at {ϑ : Jx X.K} {v : Key × W → W} {s : L2.St} {H : Hp} {R : It → Hp → Prop} {J : Addr → Obj → List (Key × V) → It} (hJ : ∀ {m : List Addr} {H : Hp} {d : Addr} {od : Obj} {kvs : List (Key × W)} {ls : List (Key × V)}, H d = some (.frz od (.dK ls)) → RKV X.K m H kvs ls → ItR (kxj X ϑ) m H (M.getF (kvs.map v)) (J d od ls))
    (q : tI (kxj X ϑ) E (M.view v g) s H R) : tE (kxj X ϑ) E g s H fun x H1 => ∃ d u, x = .ref d ∧ H1 d = some u ∧ Mut (some u) ∧ ∀ od, ∃ d' o ls, x = .ref d' ∧ upd H1 d (.frz od u) d' = some (.frz o (.dK ls)) ∧ R (J d' o ls) (upd H1 d (.frz od u)) := by
  refine tM.imp (tM.seq (R := RV X.K) (g := g) (k := fun _ => M.viewW v) q) fun x H1 ⟨m, S, f, w, rs, rf, rv, q⟩ => ?_
  unfold M.viewW at q
  cases rv with
  | @ref r a hr =>
    dsimp only at q
    split at q
    · rename_i kvs e
      obtain ⟨ls, h1, h2⟩ := rs.ob _ _ _ e hr
      refine ⟨a, .dK ls, rfl, h1, trivial, fun od => ⟨a, od, ls, rfl, upd_same, ?_⟩⟩
      have st : Stay X.K H1 (upd H1 a (.frz od (.dK ls))) := Stay.upd (by rw [h1]; trivial)
      exact q m _ _ (List.prefix_refl _) st (rs.put (b' := .hid) e hr ⟨_, upd_same⟩) (hJ upd_same (RKV.mono (List.prefix_refl _) st h2))
    · exact False.elim q
  | _ => exact False.elim q
theorem i_items {ϑ : Jx X.K} (he : PE X e (tE (kxj X ϑ) E g)) (hbase : attributeBase e "items" X.env (eval e X.env) = eval e X.env := by rfl) (hline : (apos.endLine == cpos.line) = true := by rfl) : PI X (.Tuple elts kk tpos) (.Call (.Attribute e "items" apos) [] [] cpos) (tI (kxj X ϑ) E (M.view M.vItem g)) :=
  PI.imp (pi_items (pe_lockA he) hbase hline) fun s H R q => view_at (J := Iti) (fun h1 h2 => itr_items (K := kxj X ϑ) h1 h2) q
theorem i_vals {ϑ : Jx X.K} (he : PE X e (tE (kxj X ϑ) E g)) (hbase : attributeBase e "values" X.env (eval e X.env) = eval e X.env := by rfl) (hline : (apos.endLine == cpos.line) = true := by rfl) : PI X tg (.Call (.Attribute e "values" apos) [] [] cpos) (tI (kxj X ϑ) E (M.view M.vVal g)) :=
  PI.imp (pi_values (pe_lockA he) hbase hline) fun s H R q => view_at (J := Itd) (fun h1 h2 => itr_vals (K := kxj X ϑ) h1 h2) q
end
/-! wishes -/
theorem wp_view (v : Key × W → W) (g : ME) (f : Fr) (S : Store) (P : Pst (Nat × Get)) : Wp (M.view v g f S) P = Wp (g f S) (K.bd (M.viewW v) P) := wp_bind _ _ _
theorem y_view {v : Key × W → W} {r : Nat} {kvs : List (Key × W)} {S : Store} (h : S[r]? = some (.dK kvs)) (P : Pst (Nat × Get)) : Wp (M.viewW v (.ref r) S) P = P.ok (kvs.length, M.getF (kvs.map v)) (S.set r .hid) := by
  unfold M.viewW
  dsimp only
  rw [h]
  rfl
end Wo
set_option autoImplicit true
set_option maxRecDepth 100000
set_option maxHeartbeats 4000000
namespace Wo
open PySem PySem.Spec PyProof.Rows L2
/-! W47: {x for .. in ..} of ints and texts. -/
/-- D the new set -/
def tSc (S0 : Addr → HO) (rA : V → List V → Hp → VK → Prop) (wi : TI) (g : TG) (tt : TT) (te : TE) (vs : List Nat) : TE := fun σ H Q => wi σ H fun J H1 => ∀ D, H1 D = none → ∃ W : Nat → Nat → Hp → Prop, (∃ m, W 0 m (upd H1 D (S0 D))) ∧ ∀ i m H, W i m H →
  (J.stop i H ∧ Q (.ref D) H) ∨ (J.go i H ∧ ∃ Nx : Hp → Prop, (∀ H', Nx H' → ∃ m', m' < m ∧ W (i + 1) m' H') ∧ ∀ x H', J.yld i H x H' → g x (wipe σ vs) H' fun σ2 H2 => wipe σ2 vs = wipe σ vs ∧ tt σ2 H2 fun b H3 =>
    if b = true then te σ2 H3 fun y H4 => rA (.ref D) [y] H4 fun _ H5 => Nx H5 else Nx H3)
section
variable {X : Cx} {elt tg iter : Expr} {ifs : List Expr} {scope : Scope} {own : List (Str × Nat)} {wi : TI} {g : TG} {tt : TT} {te : TE} {S0 : Addr → HO} {rA : V → List V → Hp → VK → Prop}
/-- the object of a new set -/
abbrev setNew (w : World) : Obj := { cls := .type "set", dict := none, data := .set #[] 0 (.fresh 0 0 (!w.params.followText "set-order")) }
theorem sc_core {pins : List (Addr × Obj)} {s : Shared} {σ : L2.St} {H : Hp} {Q : VK} {pos pos' : Pos} {use : Option (Value → Sem Unit)} {Qf : Value → Shared → Prop}
    (hS : ∀ (h : Heap) (H : Hp), ObjOk X.prog X.w H (h.push (setNew X.w)) h.objs.size (S0 h.objs.size)) (hA : ∀ Y : Cx, Y.prog = X.prog → Y.w = X.w → Y.A = X.A → Y.K = X.K → MtR Y "set.add" rA) (hc : X.calm = true) (hN : X.N.Nodup) (I : Inv X pins σ H s) (hi : PI X tg iter wi) (ok : BlkOk X.N X.env.scope scope own)
    (hg : ∀ (s : Shared) (H : Hp) (C : Addr) (cl : List (Str × Addr)) (fp : List Addr), PG (X.blk s H scope (compEnvC scope cl C X.env) fp) tg g) (ht : ∀ (s : Shared) (H : Hp) (C : Addr) (cl : List (Str × Addr)) (fp : List Addr), PTs (X.blk s H scope (compEnvC scope cl C X.env) fp) ifs tt)
    (he : ∀ (s : Shared) (H : Hp) (C : Addr) (cl : List (Str × Addr)) (fp : List Addr), PE (X.blk s H scope (compEnvC scope cl C X.env) fp) elt te) (hs : ∀ x, foldedSetIterable iter X.env x = pure x)
    (h : tSc S0 rA wi g tt te (own.map (·.2)) σ H Q)
    (hRR : ∀ D C s' m H', Inv X pins σ H' s' → Q (.ref D) H' → s'.heap.Ns C m → FpOk X pins H' C → compPost (model X.prog X.w) X.A X.xe use Qf (.ref D) C (.ok .next) s') :
    wpAny (model X.prog X.w) X.A (comprehension (.SetComp elt [⟨tg, iter, ifs, 0⟩] scope pos) scope X.env pos' (newSet (.type "set")) false (eval iter X.env) use) Qf X.xe s := by
  have closure := closure_ok fun y hy e => (ok.free y hy e).elim (fun k => I.ok.has _ (.inl k)) fun k => I.ok.has _ (.inr k)
  refine wpAny_comprehension_free (use := use) rfl hs closure ok.kind (fun y hy e => by rw [ok.uniq y hy, e]) (thn (hi.run pins s σ H _ I h) fun xv s1 hx => thn hx fun itv s2 h2 => ?_)
  obtain ⟨it, fp, tn, J, H2, e, I2, T, st2, f2, q⟩ := h2
  subst e
  refine wpAny_newSet_raw fun led hled => newEnv_comp ?_
  subst hled
  generalize hD : s2.heap.objs.size = D
  obtain ⟨W, ⟨m0, w0⟩, turn⟩ := q D (I2.hok.fresh (Nat.le_of_eq hD))
  generalize hob : ({ cls := .type "set", dict := none, data := .set #[] 0 (.fresh 0 0 (!X.w.params.followText "set-order")) } : Obj) = ob
  generalize hs3 : ({ s2 with heap := s2.heap.push ob } : Shared) = s3
  have h3 : s3.heap = s2.heap.push ob := by rw [← hs3]
  have I3 : Inv X pins σ (upd H2 D (S0 D)) s3 := by
    rw [← hs3]
    exact I2.laid (t' := s2.toks) (fun b o e => Heap.get?_push_of_some _ e) (Nat.le_of_eq hD) (by subst hob; rw [← hD]; exact hS _ _)
  have below : ∀ b ∈ fp, b < s2.heap.objs.size := fun b hb => let ⟨o, e, _⟩ := T.obj _ _ st2 b hb; Heap.lt_size e
  have f3 : ∀ b ∈ fp, FpOk X pins (upd H2 D (S0 D)) b ∧ b < s3.heap.objs.size := fun b hb => by
    refine ⟨⟨?_, (f2 b hb).2⟩, by rw [h3, Heap.size_push]; exact Nat.lt_succ_of_lt (below b hb)⟩
    rw [upd_ne (by rw [← hD]; exact Nat.ne_of_lt (below b hb))]
    exact (f2 b hb).1
  have st3 : tn 0 s3.heap := T.keep _ _ _ st2 fun b _ o e => by rw [h3]; exact Heap.get?_push_of_some _ e
  have I4 := block_start I3 ok hN f3
  generalize hH3 : upd H2 D (S0 D) = H3 at I3 I4 w0 f3
  generalize hcl : cellsFrom (s3.heap.objs.size + 1) scope.names (cloFrom X.env.cells scope.names []) = cl at I4
  have pg := hg s3 H3 s3.heap.objs.size cl fp
  have pt := ht s3 H3 s3.heap.objs.size cl fp
  have pe := he s3 H3 s3.heap.objs.size cl fp
  show codeAny _ _ (.compStart (.SetComp elt [⟨tg, iter, ifs, 0⟩] scope pos) 0 (.ref it) (.ref D) (compEnvC scope cl s3.heap.objs.size X.env)) (compPost (model X.prog X.w) X.A X.xe use Qf (.ref D) s3.heap.objs.size) { s3 with heap := pushCells (s3.heap.push { cls := .type "dict", data := .dict #[] }) scope.names }
  generalize hce : compEnvC scope cl s3.heap.objs.size X.env = ce at I4 pg pt pe ⊢
  have cL : ce.locals = s3.heap.objs.size := by subst hce; rfl
  generalize hs4 : ({ s3 with heap := pushCells (s3.heap.push { cls := .type "dict", data := .dict #[] }) scope.names } : Shared) = s4 at I4 ⊢
  have st4 : tn 0 s4.heap := T.keep _ _ _ st3 fun b _ o e => by rw [← hs4]; exact pushCells_keeps _ _ _ _ (Heap.get?_push_of_some _ e)
  have stat : ∀ {σ' : L2.St} {H' : Hp} {s' : Shared}, Inv (X.blk s3 H3 scope ce fp) [] σ' H' s' → (∀ b ∈ fp, H' b = none) → ∀ b ∈ fp, FpOk (X.blk s3 H3 scope ce fp) [] H' b := fun {σ' H' s'} I' hn b hb =>
    ⟨hn b hb, (I'.ok.exf b hb).1, I'.ok.exfs b hb, .inl hb, fun x c e => (I'.ok.exf b hb).2 x c e, fun p hp => absurd (show p ∈ ([] : List (Addr × Obj)) ++ [] from hp) (by simp)⟩
  have loop : codeAny (model X.prog X.w) X.A (.compLoop (.SetComp elt [⟨tg, iter, ifs, 0⟩] scope pos) 0 (.ref it) (.ref D) ce) (compPost (model X.prog X.w) X.A X.xe use Qf (.ref D) s3.heap.objs.size) s4 := by
    refine compLoop_set_any (fun n s' => ∃ i H', Inv (X.blk s3 H3 scope ce fp) [] (wipe σ (own.map (·.2))) H' s' ∧ tn i s'.heap ∧ (∀ b ∈ fp, H' b = none) ∧ W i n H') ?_ m0 ⟨0, H3, I4, st4, fun b hb => (f3 b hb).1.1, w0⟩
    rintro n s5 ⟨i, H5, I5, st5, n5, w5⟩
    rcases turn i n H5 w5 with ⟨stop, qq⟩ | ⟨go, Nx, hNx, step⟩
    · refine thnF (T.done (X.blk s3 H3 scope ce fp) rfl rfl rfl hc i [] s5 _ H5 (fun _ _ => False) I5 (stat I5 n5) st5 stop) fun r s6 ⟨hr, I6⟩ => ?_
      subst hr
      have I7 : Inv X pins σ H5 s6 := I3.call' (ch := fp) I6.os I6.base I6.hok I6.bare fun b hb => ⟨(f3 b hb).1.2.2.2.1, (f3 b hb).1.2.1, (f3 b hb).1.2.2.2.2.1, (f3 b hb).1.2.2.2.2.2⟩
      have nC : H5 s3.heap.objs.size = none := by rw [← cL]; exact I6.free
      obtain ⟨m, hn, _⟩ := I6.loc
      have hn : s6.heap.Ns ce.locals m := hn
      rw [cL] at hn
      exact hRR D s3.heap.objs.size s6 m H5 I7 qq hn (I3.fpOk (Nat.le_refl _) nC)
    · refine thnF (T.item (X.blk s3 H3 scope ce fp) rfl rfl rfl hc i [] s5 _ H5 (fun _ _ => False) I5 (stat I5 n5) st5 go) fun r s6 ⟨u, hr, h6⟩ => ?_
      subst hr
      refine thnF h6 fun _ s7 ⟨x, H7, I7, r7, y7, st7, n7⟩ => ?_
      have fin : ∀ {σ8 : L2.St} {s' : Shared} {H' : Hp}, wipe σ8 (own.map (·.2)) = wipe σ (own.map (·.2)) → Inv (X.blk s3 H3 scope ce fp) ([] ++ pinsAt fp s7.heap) σ8 H' s' → Nx H' → ∃ m, m < n ∧ ∃ i H', Inv (X.blk s3 H3 scope ce fp) [] (wipe σ (own.map (·.2))) H' s' ∧ tn i s'.heap ∧ (∀ b ∈ fp, H' b = none) ∧ W i m H' := fun {σ8 s' H'} hw8 I' nx => by
        obtain ⟨m', hm, w'⟩ := hNx H' nx
        have kept : ∀ b ∈ fp, ∀ o, s7.heap.get? b = some o → s'.heap.get? b = some o ∧ H' b = none := fun b hb o e =>
          let z := I'.pin (b, o) (List.mem_append_right _ (List.mem_append_right _ (mem_pinsAt hb e)))
          ⟨z.1, z.2.1⟩
        refine ⟨m', hm, i + 1, H', (I'.unpinned (pins := [])).weak (by rw [← hw8, wipe_length]) (fun j v e => ?_), T.keep _ _ _ st7 fun b hb o e => (kept b hb o e).1, fun b hb => ?_, w'⟩
        · rw [← hw8] at e
          exact (wipe_some e).1
        · obtain ⟨o, e, _⟩ := T.obj _ _ st7 b hb
          exact (kept b hb o e).2
      refine thnF (pg.run _ s7 _ H7 x u _ (I7.pinned (stat I7 n7) (T.obj _ _ st7)) r7 (step x H7 y7)) fun _ s8 ⟨σ8, H8, I8, hw8, q8⟩ => ?_
      refine thnF (pt.run _ s8 σ8 H8 _ I8 q8) fun b s9 ⟨H9, I9, q9⟩ => ?_
      cases b with
      | false =>
        simp only [Bool.false_eq_true, if_false] at q9 ⊢
        exact fin hw8 I9 q9
      | true =>
        simp only [if_true] at q9 ⊢
        refine thnF (pe.run _ s9 σ8 H9 _ I9 q9) fun z s10 ⟨y, H10, I10, r10, q10⟩ => ?_
        refine thnF (hA (X.blk s3 H3 scope ce fp) rfl rfl rfl rfl _ s10 σ8 H10 (.ref D) [y] (.ref D) [z] _ I10 rfl (.cons r10 .nil) q10) fun _ s11 ⟨_, H11, I11, _, nx⟩ => ?_
        exact fin hw8 I11 nx
  exact codeAny_compStart_set loop (T.self X.A 0 _ _ _ st4 loop)
/-- as a value -/
theorem pe_sc {pos : Pos} (hS : ∀ (h : Heap) (H : Hp), ObjOk X.prog X.w H (h.push (setNew X.w)) h.objs.size (S0 h.objs.size)) (hA : ∀ Y : Cx, Y.prog = X.prog → Y.w = X.w → Y.A = X.A → Y.K = X.K → MtR Y "set.add" rA) (hc : X.calm = true) (hN : X.N.Nodup) (hi : PI X tg iter wi) (ok : BlkOk X.N X.env.scope scope own)
    (hg : ∀ (s : Shared) (H : Hp) (C : Addr) (cl : List (Str × Addr)) (fp : List Addr), PG (X.blk s H scope (compEnvC scope cl C X.env) fp) tg g) (ht : ∀ (s : Shared) (H : Hp) (C : Addr) (cl : List (Str × Addr)) (fp : List Addr), PTs (X.blk s H scope (compEnvC scope cl C X.env) fp) ifs tt)
    (he : ∀ (s : Shared) (H : Hp) (C : Addr) (cl : List (Str × Addr)) (fp : List Addr), PE (X.blk s H scope (compEnvC scope cl C X.env) fp) elt te) (hs : ∀ x, foldedSetIterable iter X.env x = pure x := by intro _; rfl) :
    PE X (.SetComp elt [⟨tg, iter, ifs, 0⟩] scope pos) (tSc S0 rA wi g tt te (own.map (·.2))) := by
  refine ⟨fun pins s σ H Q I h => ?_⟩
  rw [arm_eval_SetComp]
  refine sc_core hS hA hc hN I hi ok hg ht he hs h fun D C s' m H' I' q hn f => ⟨m, hn, fun h'' sb => ?_⟩
  obtain ⟨f0, f1, f2, f3, f4, f5⟩ := f
  exact ⟨.ref D, H', I'.turned (t' := s'.toks) (fun b o hb e => (sb.2 b hb).trans e) f0 f1 f3 f4 f5, rfl, q⟩
end
end Wo
set_option autoImplicit true
set_option maxRecDepth 100000
set_option maxHeartbeats 4000000
namespace Wo
open PySem PySem.Spec PyProof.Rows L2
/-! W48: len({x for x in l}), ints and texts; sorted({x for x in l}) of nothing. -/
namespace M
def hasK (ks : List Key) (k : Key) : Bool := ks.any fun j => decide (j = k)
def addK (ks : List Key) (k : Key) : List Key := if hasK ks k = true then ks else ks ++ [k]
def uniq (ks : List Key) : List Key := ks.foldl addK []
def keysW : List W → Option (List Key)
  | [] => some []
  | w :: ws => match keyOf w, keysW ws with
    | some k, some ks => some (k :: ks)
    | _, _ => none
def lenSetW (w : W) (S : Store) : Rs W := match w with
  | .ref r => match S[r]? with
    | some (.lst xs) => match keysW xs with
      | some ks => if ks.length < 1000 then .ok (.int (uniq ks).length) S else .no
      | none => .no
    | _ => .no
  | _ => .no
def sortSet0W (w : W) (S : Store) : Rs W := match w with
  | .ref r => match S[r]? with
    | some (.lst []) => .ok (.ref S.length) (S ++ [.lst []])
    | _ => .no
  | _ => .no
end M
def SK (P : Program) (w : World) (D : Addr) (ks : List Key) : HO := SetK P w D (M.hasK ks) ks.length
theorem sk_add {P : Program} {w : World} {D : Addr} {ks : List Key} {k : Key} : SetK P w D (fun j => M.hasK ks j || decide (j = k)) (if M.hasK ks k = true then ks.length else ks.length + 1) = SK P w D (M.addK ks k) := by
  unfold SK M.addK
  by_cases h : M.hasK ks k = true
  · rw [if_pos h, if_pos h]
    congr 1
    funext j
    by_cases e : j = k
    · subst e
      rw [h]
      rfl
    · rw [decide_eq_false e, Bool.or_false]
  · rw [if_neg h, if_neg h, List.length_append]
    congr 1
    funext j
    unfold M.hasK
    rw [List.any_append]
    congr 1
    simp only [List.any_cons, List.any_nil, Bool.or_false]
    by_cases e : j = k
    · subst e; rfl
    · rw [decide_eq_false e, decide_eq_false (Ne.symm e)]
theorem addK_len (ks : List Key) (k : Key) : (M.addK ks k).length ≤ ks.length + 1 := by
  unfold M.addK
  split
  · omega
  · rw [List.length_append]; exact Nat.le_refl _
theorem uniq_len : ∀ (l acc : List Key), (l.foldl M.addK acc).length ≤ acc.length + l.length
  | [], acc => Nat.le_refl _
  | k :: l, acc => by
    have := uniq_len l (M.addK acc k)
    have := addK_len acc k
    rw [List.foldl_cons, List.length_cons]
    omega
theorem keys_rel {K : PySem.W.Frag} {m : List Addr} {H : Hp} : ∀ {xs : List W} {vs : List V} {ks : List Key}, M.keysW xs = some ks → RVs K m H xs vs → vs = ks.map kV
  | [], _, ks, h, .nil => by
    cases h
    rfl
  | w :: xs, _, ks, h, .cons r t => by
    unfold M.keysW at h
    split at h
    · rename_i k ks' h1 h2
      cases h
      rw [keys_rel h2 t, List.map_cons]
      congr 1
      cases r <;> simp only [M.keyOf] at h1 <;> first | (cases h1; rfl) | cases h1
    · cases h
theorem uniq_snoc {ks : List Key} {i : Nat} {k : Key} (h : ks[i]? = some k) : (ks.take (i + 1)).foldl M.addK [] = M.addK ((ks.take i).foldl M.addK []) k := by
  rw [List.take_add_one, h, List.foldl_append]
  rfl
section
variable {X : Cx} {E : EX} {x : Str} {i : Nat} {l : Expr} {scope : Scope} {pos np1 np2 : Pos} {g : ME}
/-- {x for x in l}, l a list of keys -/
theorem pe_scK {ϑ : Jx X.K} (hc : X.calm = true) (hN : X.N.Nodup) (hl : PE X l (tE (kxj X ϑ) E g)) (ok : BlkOk X.N X.env.scope scope [(x, i)])
    (hg : ∀ (s : Shared) (H : Hp) (C : Addr) (cl : List (Str × Addr)) (fp : List Addr), PG (X.blk s H scope (compEnvC scope cl C X.env) fp) (.Name x np1) (gName i)) (he : ∀ (s : Shared) (H : Hp) (C : Addr) (cl : List (Str × Addr)) (fp : List Addr), PE (X.blk s H scope (compEnvC scope cl C X.env) fp) (.Name x np2) (tVar i)) (hi : i < X.N.length) (hs : ∀ x, foldedSetIterable l X.env x = pure x := by intro _; rfl) :
    PE X (.SetComp (.Name x np2) [⟨.Name x np1, l, [], 0⟩] scope pos) (fun σ H Q => tE (kxj X ϑ) E g σ H fun y H1 => ∃ a ks, y = .ref a ∧ H1 a = some (.lst (ks.map kV)) ∧ ks.length < 1000 ∧ ∀ D, H1 D = none → Q (.ref D) (upd H1 D (SK X.prog X.w D (M.uniq ks)))) := by
  have hS : ∀ (h : Heap) (H : Hp), ObjOk X.prog X.w H (h.push (setNew X.w)) h.objs.size (SetK X.prog X.w h.objs.size (fun _ => false) 0) := fun h H =>
    setK_new ⟨_, #[], 0, _, Heap.get?_push_size _ rfl, ⟨rfl, rfl, rfl⟩, rfl, (fun e he => by simp at he), (fun k => by simp), (by decide), (by rfl), rfl⟩
  refine ⟨fun pins sh σ H Q I h => ?_⟩
  have hσ : i < σ.length := by rw [I.len]; exact hi
  refine (pe_sc (S0 := fun D => SetK X.prog X.w D (fun _ => false) 0) (rA := rSAddK X.prog X.w) hS (fun Y e1 e2 _ _ => by rw [← e1, ← e2]; exact mt_saddK) hc hN (pi_list hl) ok hg (fun _ _ _ _ _ => pts_nil) he hs).run pins sh σ H Q I ?_
  refine tM.imp h fun y H1 ⟨a, ks, ey, ha, hlen, q⟩ => ⟨a, ey, ⟨_, SqL.of ha⟩, fun D hD => ?_⟩
  have na : a ≠ D := ne_of_none ha hD
  have sq : ∀ o, SqL X.K (upd H1 D o) a (ks.map kV) := fun o => SqL.of (by rw [upd_ne na]; exact ha)
  refine ⟨fun j m H' => j ≤ ks.length ∧ m = ks.length - j ∧ H' = upd H1 D (SK X.prog X.w D ((ks.take j).foldl M.addK [])), ⟨ks.length, Nat.zero_le _, rfl, ?_⟩, ?_⟩
  · rfl
  · rintro j m H' ⟨hj, rfl, rfl⟩
    by_cases hlt : j < ks.length
    · have hk : ks[j]? = some ks[j] := List.getElem?_eq_getElem hlt
      have hk2 : (ks.map kV)[j]? = some (kV ks[j]) := by rw [List.getElem?_map, hk]; rfl
      refine .inr ⟨⟨_, _, sq _, hk2⟩, fun H' => H' = upd H1 D (SK X.prog X.w D ((ks.take (j + 1)).foldl M.addK [])), fun H' e => ⟨ks.length - (j + 1), by omega, hlt, rfl, e⟩, fun v H' yl => ?_⟩
      obtain ⟨rfl, yl⟩ := yl
      have ev := yl _ (sq _)
      rw [hk2] at ev
      cases ev
      refine ⟨?_, ?_⟩
      · show ((σ.set i none).set i (some (kV ks[j]))).set i none = σ.set i none
        rw [List.set_set, List.set_set]
      · refine ⟨kV ks[j], List.getElem?_set_self (by rw [wipe_length]; exact hσ), D, ks[j], M.hasK ((ks.take j).foldl M.addK []), ((ks.take j).foldl M.addK []).length, rfl, rfl, upd_same, ?_, ?_⟩
        · have := uniq_len (ks.take j) []
          rw [List.length_take, List.length_nil] at this
          unfold scanBound
          omega
        · show upd (upd H1 D _) D (SetK X.prog X.w D (fun z => M.hasK ((ks.take j).foldl M.addK []) z || decide (z = ks[j])) (if M.hasK ((ks.take j).foldl M.addK []) ks[j] = true then ((ks.take j).foldl M.addK []).length else ((ks.take j).foldl M.addK []).length + 1)) = _
          rw [sk_add, upd_upd, uniq_snoc hk]
    · have e : j = ks.length := by omega
      subst e
      refine .inl ⟨⟨_, sq _, by rw [List.length_map]; exact Nat.le_refl _⟩, ?_⟩
      rw [List.take_length]
      exact q D hD
end
end Wo
set_option autoImplicit true
set_option maxRecDepth 100000
set_option maxHeartbeats 4000000
namespace Wo
open PySem PySem.Spec PyProof.Rows L2
/-! W49: len and sorted of such a set. -/
section
variable {X : Cx} {E : EX} {x : Str} {i : Nat} {l : Expr} {scope : Scope} {pos p cpos np1 np2 : Pos} {g : ME}
theorem cr_lenK : CallR X (.builtin "len") (fun xs H Q => ∃ a S n, xs = [.ref a] ∧ H a = some (SetK X.prog X.w a S n) ∧ n < 100000 ∧ Q (.int n) H) := by
  intro pins s σ H xs us Q I r h
  obtain ⟨a, S, n, rfl, ha, hn, q⟩ := h
  rw [Vals.ref1 r]
  obtain ⟨o, es, ep, t, ho, hex, hd, _, _, _, hf, hz⟩ := setK_get I ha
  exact call_len_set ho hex hd hf (by rw [hz]; omega) ⟨.int n, H, I.tok _, ⟨_, by rw [hz]⟩, q⟩
/-- len({x for x in l}) -/
theorem e_lenSet {ϑ : Jx X.K} (hm : X.mg "len" = none) (rm : Rc X) (hN : X.N.Nodup) (hl : PE X l (tE (kxj X ϑ) E g)) (ok : BlkOk X.N X.env.scope scope [(x, i)])
    (hg : ∀ (s : Shared) (H : Hp) (C : Addr) (cl : List (Str × Addr)) (fp : List Addr), PG (X.blk s H scope (compEnvC scope cl C X.env) fp) (.Name x np1) (gName i)) (he : ∀ (s : Shared) (H : Hp) (C : Addr) (cl : List (Str × Addr)) (fp : List Addr), PE (X.blk s H scope (compEnvC scope cl C X.env) fp) (.Name x np2) (tVar i)) (hi : i < X.N.length := by exact Nat.le_of_ble_eq_true rfl) (hs : ∀ x, foldedSetIterable l X.env x = pure x := by intro _; rfl)
    (hgl : Gl X "len" := by rfl) (he1 : starEach [.SetComp (.Name x np2) [⟨.Name x np1, l, [], 0⟩] scope pos] X.env = (false, eval (.SetComp (.Name x np2) [⟨.Name x np1, l, [], 0⟩] scope pos) X.env) :: starEach [] X.env := by rfl) :
    PE X (.Call (.Name "len" p) [.SetComp (.Name x np2) [⟨.Name x np1, l, [], 0⟩] scope pos] [] cpos) (tE (kxj X ϑ) E (M.op1 M.lenSetW g)) := by
  refine PE.imp (pe_callB cr_lenK hgl hm (by decide +kernel) (pa_cons (pe_scK rm.calm hN hl ok hg he hi hs) pa_nil he1) (by decide) (by decide) he1 rfl) fun s H Q q => ?_
  refine tM.imp (tE.one q) fun v H1 ⟨m, S, w, rs, rv, q⟩ => ?_
  unfold M.lenSetW at q
  cases rv with
  | @ref r a hr =>
    dsimp only at q
    split at q
    · rename_i xs e
      split at q
      · rename_i ks hk
        split at q
        · rename_i hlen
          obtain ⟨vs, h1, h2⟩ := rs.ob _ _ _ e hr
          have ev := keys_rel hk h2
          subst ev
          refine ⟨a, ks, rfl, h1, hlen, fun D hD => ?_⟩
          have st : Stay X.K H1 (upd H1 D (SK X.prog X.w D (M.uniq ks))) := Stay.new hD
          have ul : (M.uniq ks).length ≤ ks.length := by
            have := uniq_len ks []
            rw [List.length_nil, Nat.zero_add] at this
            exact this
          exact ⟨D, _, _, rfl, upd_same, by omega, q m _ _ (List.prefix_refl _) st (rs.grow hD) (.int _)⟩
        · exact False.elim q
      · exact False.elim q
    · exact False.elim q
  | _ => exact False.elim q
/-- sorted({x for x in l}), l empty -/
theorem e_sortSet0 {ϑ : Jx X.K} (hm : X.mg "sorted" = none) (rm : Rc X) (hN : X.N.Nodup) (hl : PE X l (tE (kxj X ϑ) E g)) (ok : BlkOk X.N X.env.scope scope [(x, i)])
    (hg : ∀ (s : Shared) (H : Hp) (C : Addr) (cl : List (Str × Addr)) (fp : List Addr), PG (X.blk s H scope (compEnvC scope cl C X.env) fp) (.Name x np1) (gName i)) (he : ∀ (s : Shared) (H : Hp) (C : Addr) (cl : List (Str × Addr)) (fp : List Addr), PE (X.blk s H scope (compEnvC scope cl C X.env) fp) (.Name x np2) (tVar i)) (hs : ∀ x, foldedSetIterable l X.env x = pure x := by intro _; rfl)
    (hgl : Gl X "sorted" := by rfl) (he1 : starEach [.SetComp (.Name x np2) [⟨.Name x np1, l, [], 0⟩] scope pos] X.env = (false, eval (.SetComp (.Name x np2) [⟨.Name x np1, l, [], 0⟩] scope pos) X.env) :: starEach [] X.env := by rfl) :
    PE X (.Call (.Name "sorted" p) [.SetComp (.Name x np2) [⟨.Name x np1, l, [], 0⟩] scope pos] [] cpos) (tE (kxj X ϑ) E (M.op1 M.sortSet0W g)) := by
  have hS : ∀ (h : Heap) (H : Hp), ObjOk X.prog X.w H (h.push (setNew X.w)) h.objs.size (SetO X.w h.objs.size (fun _ => false) 0) := fun h H => setO_new (setR_fresh X.w)
  refine PE.imp (pe_callB (cr_sortedSet rm.calm) hgl hm (by decide +kernel) (pa_cons (pe_sc (S0 := fun D => SetO X.w D (fun _ => false) 0) (rA := fun _ _ _ _ => False) hS (fun Y _ _ _ _ _ _ _ _ _ _ _ _ _ _ _ _ h => h.elim) rm.calm hN (pi_list hl) ok hg (fun _ _ _ _ _ => pts_nil) he hs) pa_nil he1) (by decide) (by decide) he1 rfl) fun s H Q q => ?_
  refine tM.imp (tE.one q) fun v H1 ⟨m, S, w, rs, rv, q⟩ => ?_
  unfold M.sortSet0W at q
  cases rv with
  | @ref r a hr =>
    dsimp only at q
    split at q
    · rename_i e
      obtain ⟨vs, h1, h2⟩ := rs.ob _ _ _ e hr
      cases h2
      refine ⟨a, rfl, ⟨_, SqL.of h1⟩, fun D hD => ?_⟩
      have na : a ≠ D := ne_of_none h1 hD
      refine ⟨fun j m H' => j = 0 ∧ H' = upd H1 D (SetO X.w D (fun _ => false) 0), ⟨0, rfl, rfl⟩, ?_⟩
      rintro j mm H' ⟨rfl, rfl⟩
      have st : Stay X.K H1 (upd H1 D (SetO X.w D (fun _ => false) 0)) := Stay.new hD
      refine .inl ⟨⟨[], SqL.of (by rw [upd_ne na]; exact h1), Nat.le_refl _⟩, D, _, 0, rfl, upd_same, by decide, fun ns p' _ _ hz hp => ?_⟩
      obtain rfl : ns = [] := List.eq_nil_of_length_eq_zero hz
      obtain ⟨a1, a2, a3, a4⟩ := (rs.grow hD).newList (ws := []) (vs := []) hp .nil
      exact q _ _ _ a1 (st.trans a2) a3 a4
    · exact False.elim q
  | _ => exact False.elim q
end
theorem y_lenSet {r : Nat} {xs : List W} {ks : List Key} {S : Store} (h : S[r]? = some (.lst xs)) (hk : M.keysW xs = some ks) (P : Pst W) : Wp (M.lenSetW (.ref r) S) P = (ks.length < 1000 ∧ P.ok (.int (M.uniq ks).length) S) := by
  unfold M.lenSetW
  dsimp only
  rw [h]
  dsimp only
  rw [hk]
  dsimp only
  by_cases z : ks.length < 1000
  · rw [if_pos z, eq_true z, true_and]
    rfl
  · rw [if_neg z, eq_false z, false_and]
    rfl
theorem y_sortSet0 {r : Nat} {S : Store} (h : S[r]? = some (.lst [])) (P : Pst W) : Wp (M.sortSet0W (.ref r) S) P = P.ok (.ref S.length) (S ++ [.lst []]) := by
  unfold M.sortSet0W
  dsimp only
  rw [h]
  rfl
end Wo
set_option autoImplicit true
set_option maxRecDepth 100000
set_option maxHeartbeats 4000000
namespace Wo
open PySem PySem.Spec PyProof.Rows L2
/-! W50: sets of things of a kind (tuples) whose hashes and equality are known. -/
structure HKd (P : Program) (w : World) (κ : Type) [DecidableEq κ] where
  is : Heap → κ → Addr → Prop
  hash : κ → Int
  inj : ∀ {h : Heap} {b : Addr} {x y : κ}, is h x b → is h y b → x = y
  keep : ∀ {h h' : Heap} {k : κ} {b : Addr}, (∀ c o vs n, h.get? c = some o → o.data = .seq vs n → h'.get? c = some o) → is h k b → is h' k b
  eqB : ∀ {A : Around} {E : Value → Shared → Prop} {s : Shared} {x y : κ} {a b : Addr} {Q : Bool → Shared → Prop}, A.units < cLine → is s.heap x a → is s.heap y b → Q (decide (x = y)) s → wpAny (model P w) A (eqBool (.ref a) (.ref b)) Q E s
  pyH : ∀ {A : Around} {E : Value → Shared → Prop} {s : Shared} {k : κ} {a : Addr} {Q : Int → Shared → Prop}, A.units < cLine → is s.heap k a → (∀ n, Q (hash k) { s with toks := n }) → wpAny (model P w) A (pyHash (.ref a)) Q E s
  quiet : ∀ {A : Around} {E : Value → Shared → Prop} {s : Shared} {k : κ} {a : Addr} {Q : Bool → Shared → Prop}, is s.heap k a → Q true s → wpAny (model P w) A (eqIsQuiet 8 (.ref a)) Q E s
  noCls : ∀ {A : Around} {E : Value → Shared → Prop} {s : Shared} {k : κ} {a : Addr} {Q : Bool → Shared → Prop}, is s.heap k a → Q false s → wpAny (model P w) A (ofAClassStatement 8 (.ref a)) Q E s
  byVal : ∀ {A : Around} {E : Value → Shared → Prop} {s : Shared} {k : κ} {a : Addr} {Q : Bool → Shared → Prop}, is s.heap k a → (∀ b, Q b s) → wpAny (model P w) A (hashByValue 8 (.ref a)) Q E s

section
variable {P : Program} {w : World} {κ : Type} [DecidableEq κ] (D : HKd P w κ) {A : Around} {E : Value → Shared → Prop} {s : Shared}
/-- no search among them shows the table -/
theorem unseen {k : κ} {b : Addr} {Q : Bool → Shared → Prop} (hb : D.is s.heap k b) {ys : List Value} (hy : ∀ y ∈ ys, ∃ k' c, y = Value.ref c ∧ D.is s.heap k' c) (q : Q false s) : wpAny (model P w) A (searchCouldBeSeen (.ref b) ys) Q E s := by
  unfold searchCouldBeSeen
  refine wpAny_bind ?_
  refine wpAny_forIn_list _ (fun left r z => z = s ∧ r.1 = none ∧ ∀ y ∈ left, ∃ k' c, y = Value.ref c ∧ D.is s.heap k' c) _ ?_ ?_ _ _ ⟨rfl, rfl, hy⟩
  · rintro y left r z ⟨rfl, hr, hl⟩
    obtain ⟨k', c, rfl, hc⟩ := hl y List.mem_cons_self
    have hl' : ∀ y ∈ left, ∃ k' c, y = Value.ref c ∧ D.is z.heap k' c := fun u hu => hl u (List.mem_cons_of_mem _ hu)
    dsimp only
    by_cases same : (b == c || (carriedByValue (.ref b) && carriedByValue (.ref c))) = true
    · exact wp_if_pos same (wpAny_pure ⟨rfl, rfl, hl'⟩)
    · refine wp_if_neg same (wpAny_bind (D.quiet hb ?_))
      simp only [Bool.not_true, Bool.false_eq_true, if_false]
      refine wpAny_bind (D.quiet hc ?_)
      simp only [Bool.not_true, Bool.false_eq_true, if_false]
      refine wpAny_bind (D.noCls hb ?_)
      simp only [Bool.false_eq_true, if_false]
      refine wpAny_bind (D.noCls hc ?_)
      simp only [Bool.false_eq_true, if_false]
      exact wpAny_pure ⟨rfl, rfl, hl'⟩
  · rintro ⟨r1, r2⟩ z ⟨rfl, hr, _⟩
    dsimp only at hr
    subst hr
    exact wpAny_pure q

def rowU (D : HKd P w κ) (p : Addr × κ) : Int × Value := (D.hash p.2, Value.ref p.1)
/-- the set at a: its things, in the table's order -/
structure SetU (D : HKd P w κ) (h : Heap) (a : Addr) (L : List (Addr × κ)) (es : Array (Int × Value)) (ep : Nat) (t : SetTable) : Prop where
  ob : ∃ o, h.get? a = some o ∧ o.ExactSet ∧ o.data = .set es ep t
  rows : es.toList = L.map (rowU D)
  tab : TabOk t (L.map fun p => D.hash p.2)
  nd : (L.map (·.2)).Nodup
  mem : ∀ p ∈ L, D.is h p.2 p.1
  led : w.params.followText "set-order" = true ∨ t.led = true
  room : 5 * L.length < 3 * t.mask
  few : L.length < 76
variable {D} {a : Addr} {L : List (Addr × κ)} {es : Array (Int × Value)} {ep : Nat} {t : SetTable}
theorem SetU.size {h : Heap} (U : SetU D h a L es ep t) : es.size = L.length := by
  rw [← Array.length_toList, U.rows, List.length_map]
theorem SetU.fits {h : Heap} (U : SetU D h a L es ep t) : t.fits es.size = true := by
  have h1 := U.tab.sz
  rw [List.length_map] at h1
  have h2 := U.size
  have h3 := U.room
  unfold SetTable.fits SetTable.fill
  rw [U.tab.dm, Bool.and_eq_true, beq_iff_eq, decide_eq_true_eq]
  exact ⟨by omega, by show t.place.size + 0 ≤ t.mask; omega⟩
theorem SetU.at {h : Heap} (U : SetU D h a L es ep t) {i : Nat} {p : Addr × κ} (e : L[i]? = some p) : es[i]? = some (D.hash p.2, Value.ref p.1) := by
  rw [← Array.getElem?_toList, U.rows, List.getElem?_map, e]
  rfl
theorem SetU.ways {h : Heap} (U : SetU D h a L es ep t) : ¬ t.gaveWay = true := by
  unfold SetTable.gaveWay
  rw [mask_odd U.tab.mok]
  decide
theorem no_dummy (m : Nat) : ∀ (n : Nat) (p : SetTable.Probe), p.dummy = none → (nth m p n).dummy = none
  | 0, _, h => h
  | n + 1, p, h => no_dummy m n (adv m p) (by unfold adv; split <;> exact h)
/-- where the search for h stands behind c steps -/
abbrev stand (t : SetTable) (h : Int) (c : Nat) : SetTable.Probe := nth t.mask (runAt t.mask (SetTable.bits h % (t.mask + 1)) (SetTable.bits h)) c
theorem stand_add (t : SetTable) (h : Int) (c q : Nat) : nth t.mask (stand t h c) q = stand t h (c + q) := (nth_add t.mask c _ q).symm
/-- the search, from any step on -/
theorem SetU.seek (U : SetU D s.heap a L es ep t) {x : Addr} {k : κ} (hx : D.is s.heap k x) (hu : A.units < cLine) {Z : Nat} (hZ : Z < 10 * SetTable.turns t.mask) (free : way t.mask (D.hash k) Z ∉ t.place.toList) (full : ∀ c, c < Z → way t.mask (D.hash k) c ∈ t.place.toList)
    {Q : SetFound → Shared → Prop} (yes : k ∈ L.map (·.2) → Q (.there none) s) (no : k ∉ L.map (·.2) → Q (.free (way t.mask (D.hash k) Z) false) s) :
    ∀ (f c : Nat) (st : Option SetTable.Probe), st.getD (t.probeStart (D.hash k)) = stand t (D.hash k) c → c ≤ Z → Z - c < f → (∀ (i : Nat) p, L[i]? = some p → p.2 = k → ∃ c', c ≤ c' ∧ c' < Z ∧ t.place.toList[i]? = some (way t.mask (D.hash k) c')) →
      wpAny (model P w) A (setSearchFrom a (.ref x) (D.hash k) true f st) Q E s := by
  obtain ⟨o, ho, hex, hd⟩ := U.ob
  intro f
  induction f with
  | zero => exact fun c st _ _ h => absurd h (Nat.not_lt_zero _)
  | succ f ih =>
    intro c st hst hc hf left
    have hash_at : ∀ (i : Nat) p, L[i]? = some p → ((es[i]?.map (·.1)).getD 0) = D.hash p.2 := fun i p e => by
      rw [U.at e]
      rfl
    have found := go_spec t U.tab.ris U.tab.dm (fun i => (es[i]?.map (·.1)).getD 0) (D.hash k) (10 * SetTable.turns t.mask) (Z - c) (stand t (D.hash k) c) (no_dummy _ _ _ rfl) (by omega)
      (fun q hq => by rw [stand_add]; exact full (c + q) (by omega)) (by rw [stand_add, Nat.add_sub_cancel' hc]; exact free)
    rw [setSearchFrom_succ]
    refine wpAny_bind (wpAny_setState_of ho hd U.fits ?_)
    dsimp only
    refine wp_if_neg U.ways ?_
    try refine wpAny_bind (wpAny_pure ?_)
    have pr : t.probe (fun i => (es[i]?.map (·.1)).getD 0) (D.hash k) (st.getD (t.probeStart (D.hash k))) = SetTable.probe.go t (fun i => (es[i]?.map (·.1)).getD 0) (D.hash k) (10 * SetTable.turns t.mask) (stand t (D.hash k) c) := by rw [hst]; rfl
    rw [pr]
    rcases found with ⟨q, i, hq, hi, hh, hno, e⟩ | ⟨hno, e⟩
    · rw [e]
      rw [stand_add] at hi
      simp only [stand_add] at hno ⊢
      have il : i < L.length := by
        have h1 : i < t.place.toList.length := (List.getElem?_eq_some_iff.mp hi).1
        have h2 := U.tab.sz
        rw [List.length_map] at h2
        rw [Array.length_toList] at h1
        omega
      obtain ⟨p, hp⟩ : ∃ p, L[i]? = some p := ⟨L[i], List.getElem?_eq_getElem il⟩
      have pm : p ∈ L := List.mem_of_getElem? hp
      have sl : t.slot (stand t (D.hash k) (c + q)).j = .live i := slot_live U.tab.ris hi
      have rest : wpAny (model P w) A (searchRest a (.ref x) (D.hash k) true f es t (stand t (D.hash k) (c + q)).j i (stand t (D.hash k) (c + (q + 1)))) Q E s := by
        unfold searchRest
        rw [U.at hp]
        dsimp only
        refine wpAny_bind (wpAny_holding (D.eqB hu (U.mem p pm) hx ?_))
        refine wpAny_bind (wpAny_setState_of ho hd U.fits ?_)
        dsimp only
        by_cases ek : p.2 = k
        · exact wp_if_pos (by simp [ek]) (wpAny_pure (yes (List.mem_map.mpr ⟨p, pm, ek⟩)))
        · refine wp_if_neg (by simp [ek]) ?_
          try refine wpAny_bind (wpAny_pure ?_)
          rw [sameMem]
          dsimp only
          simp only [if_true, sl, U.at hp]
          refine wpAny_bind (wpAny_isSame_ref_self (wpAny_bind (wpAny_pure ?_)))
          simp only [if_true]
          refine wp_if_neg (by simp [ek]) ?_
          refine ih (c + (q + 1)) _ rfl (by omega) (by omega) fun i0 p0 h0 e0 => ?_
          obtain ⟨c', a1, a2, a3⟩ := left i0 p0 h0 e0
          refine ⟨c', ?_, a2, a3⟩
          rcases Nat.lt_trichotomy c' (c + q) with z | z | z
          · exact absurd ((hash_at i0 p0 h0).trans (congrArg D.hash e0)) (hno (c' - c) i0 (by omega) (by rw [Nat.add_sub_cancel' a1]; exact a3))
          · exfalso
            rw [z] at a3
            have s0 := slot_live U.tab.ris a3
            rw [show t.slot (way t.mask (D.hash k) (c + q)) = .live i from sl] at s0
            injection s0 with s0
            rw [← s0, hp] at h0
            exact ek ((congrArg Prod.snd (Option.some.inj h0)).trans e0)
          · omega
      by_cases hl : t.led = true
      · refine wp_if_neg (by simp [hl]) ?_
        try refine wpAny_bind (wpAny_pure ?_)
        exact rest
      · refine wp_if_pos (by simp [hl]) (wpAny_bind (unseen D hx (fun y hy => ?_) ?_))
        · obtain ⟨e, he, rfl⟩ := List.mem_map.mp hy
          have he2 : e ∈ es.toList := by
            have := (by simpa using he : e ∈ es ∧ e.1 = D.hash k)
            simpa using this.1
          rw [U.rows] at he2
          obtain ⟨p2, hp2, rfl⟩ := List.mem_map.mp he2
          exact ⟨p2.2, p2.1, rfl, U.mem p2 hp2⟩
        · refine wp_if_neg (by decide) ?_
          try refine wpAny_bind (wpAny_pure ?_)
          exact rest
    · rw [e]
      simp only [stand_add, Nat.add_sub_cancel' hc] at hno ⊢
      refine wpAny_pure (no fun hm => ?_)
      obtain ⟨p0, h0, e0⟩ := List.mem_map.mp hm
      obtain ⟨i0, hi0⟩ := List.mem_iff_getElem?.mp h0
      obtain ⟨c', a1, a2, a3⟩ := left i0 p0 hi0 e0
      exact hno (c' - c) i0 (by omega) (by rw [Nat.add_sub_cancel' a1]; exact a3) ((hash_at i0 p0 hi0).trans (congrArg D.hash e0))
theorem SetU.look (U : SetU D s.heap a L es ep t) {x : Addr} {k : κ} (hx : D.is s.heap k x) (hu : A.units < cLine) {Q : SetFound → Shared → Prop} (yes : k ∈ L.map (·.2) → Q (.there none) s)
    (no : ∀ Z, k ∉ L.map (·.2) → way t.mask (D.hash k) Z ∉ t.place.toList → (∀ c, c < Z → way t.mask (D.hash k) c ∈ t.place.toList) → Q (.free (way t.mask (D.hash k) Z) false) s) : wpAny (model P w) A (setSearch a (.ref x) (D.hash k) true) Q E s := by
  have hr := U.room
  obtain ⟨Z, h1, h2, h3⟩ := U.tab.first (by rw [List.length_map]; omega) (D.hash k)
  have small : 10 * SetTable.turns t.mask ≤ 1420 := by
    unfold SetTable.turns
    rcases U.tab.mok with e | e | e <;> omega
  unfold setSearch
  refine U.seek hx hu h1 h2 h3 yes (fun hn => no Z hn h2 h3) 100000 0 none rfl (Nat.zero_le _) (by omega) fun i p hp ek => ?_
  have il : i < t.place.toList.length := by
    have z1 : i < L.length := (List.getElem?_eq_some_iff.mp hp).1
    have z2 := U.tab.sz
    rw [List.length_map] at z2
    rw [Array.length_toList]
    omega
  have hj : t.place.toList[i]? = some t.place.toList[i] := List.getElem?_eq_getElem il
  obtain ⟨c, hc, e⟩ := U.tab.before h2 (show (L.map fun p => D.hash p.2)[i]? = some (D.hash k) by rw [List.getElem?_map, hp, ← ek]; rfl) hj
  exact ⟨c, Nat.zero_le _, hc, by rw [hj, e]⟩
/-- what is a sequence is not the set -/
theorem keep_set {h h' : Heap} {o : Obj} (ho : h.get? a = some o) (hd : o.data = .set es ep t) (sb : Heap.SameBut a h h') {k : κ} {b : Addr} (hb : D.is h k b) : D.is h' k b := by
  refine D.keep (fun c u vs n hc hs => ?_) hb
  rcases Classical.em (c = a) with rfl | ne
  · rw [ho] at hc
    cases hc
    rw [hd] at hs
    cases hs
  · exact (sb.2 c ne).trans hc
/-- rows taken in another order -/
theorem rows_by (L : List (Addr × κ)) (hs : es.toList = L.map (rowU D)) : ∀ l : List Nat, (∀ i ∈ l, i < L.length) →
    l.filterMap (fun i => es[i]?) = (l.filterMap fun i => L[i]?).map (rowU D) ∧ (l.filterMap fun i => L[i]?).map (fun p => D.hash p.2) = l.map fun i => (es.map (·.1)).getD i 0
  | [], _ => ⟨rfl, rfl⟩
  | i :: l, h => by
    obtain ⟨a1, a2⟩ := rows_by L hs l fun j hj => h j (List.mem_cons_of_mem _ hj)
    have hi := h i List.mem_cons_self
    have e1 : L[i]? = some L[i] := List.getElem?_eq_getElem hi
    have e2 : es[i]? = some (rowU D L[i]) := by
      rw [← Array.getElem?_toList, hs, List.getElem?_map, e1]
      rfl
    have e3 : (es.map (·.1)).getD i 0 = D.hash L[i].2 := by
      rw [Array.getD_eq_getD_getElem?, Array.getElem?_map, e2]
      rfl
    rw [List.filterMap_cons_some e2, List.filterMap_cons_some e1, a1, List.map_cons, List.map_cons, List.map_cons, a2, e3]
    exact ⟨rfl, rfl⟩
theorem all_by {α : Type} (L : List α) : (List.range L.length).filterMap (fun i => L[i]?) = L := by
  have : ∀ n, n ≤ L.length → (List.range n).filterMap (fun i => L[i]?) = L.take n := by
    intro n
    induction n with
    | zero => exact fun _ => rfl
    | succ n ih =>
      intro h
      rw [List.range_succ, List.filterMap_append, ih (by omega), List.take_add_one, List.getElem?_eq_getElem h]
      rw [List.filterMap_cons_some (List.getElem?_eq_getElem h)]
      rfl
  rw [this _ (Nat.le_refl _), List.take_length]
/-- the table laid anew -/
theorem relaid_at {o : Obj} (ho : s.heap.get? a = some o) (hex : o.ExactSet) (hd : o.data = .set es ep t) (hrows : es.toList = L.map (rowU D)) (hsz : t.place.size = es.size) (hdm : t.dummies = #[]) (hfl : es.size ≤ t.mask) (nd : (L.map (·.2)).Nodup)
    (mem : ∀ p ∈ L, D.is s.heap p.2 p.1) (ld : w.params.followText "set-order" = true ∨ t.led = true) (few : L.length < 76) {wanted N : Nat} (hw : SetTable.sizeAbove wanted - 1 = N) (hN : MaskOk N) (hw2 : SetTable.sizeAbove wanted ≤ 128)
    (hn : 5 * L.length < 3 * N) {Q : Unit → Shared → Prop} (hQ : ∀ h' L' es' ep' t', Heap.SameBut a s.heap h' → SetU D h' a L' es' ep' t' → L'.Perm L → Q () { s with heap := h' }) : wpAny (model P w) A (setRelay a wanted) Q E s := by
  have hl : es.size = L.length := by rw [← Array.length_toList, hrows, List.length_map]
  have hfits : t.fits es.size = true := by
    unfold SetTable.fits SetTable.fill
    rw [hdm, Bool.and_eq_true, beq_iff_eq, decide_eq_true_eq]
    exact ⟨hsz, by show t.place.size + 0 ≤ t.mask; omega⟩
  obtain ⟨t', order, e, pm, T, em, el, _, _⟩ := relaid_ok t (hs := es.map (·.1)) (wanted := wanted) hw hN (by rw [Array.size_map, hl]; omega)
  rw [Array.size_map, hl] at pm
  obtain ⟨r1, r3⟩ := rows_by L hrows order.toList fun i hi => List.mem_range.mp (pm.mem_iff.mp hi)
  have r2 : (order.toList.filterMap fun i => L[i]?).Perm L := by
    have z := pm.filterMap fun i => L[i]?
    rw [all_by] at z
    exact z
  generalize order.toList.filterMap (fun i => L[i]?) = L2 at r1 r2 r3
  have r4 : (order.filterMap (es[·]?)).toList = L2.map (rowU D) := by
    rw [Array.toList_filterMap]
    exact r1
  have r5 : (order.filterMap (es[·]?)).size = es.size := by rw [← Array.length_toList, r4, List.length_map, r2.length_eq, hl]
  rw [← r3] at T
  rw [setRelay_eq]
  refine wpAny_bind (wpAny_setState_of ho hd hfits ?_)
  dsimp only
  refine wp_if_neg (by rw [sizeLine_eq]; omega) ?_
  try refine wpAny_bind (wpAny_pure ?_)
  rw [e]
  dsimp only
  refine wpAny_bind (wp_if_neg (by rw [r5]; simp) ?_)
  try refine wpAny_bind (wpAny_pure ?_)
  refine wpAny_pure ?_
  dsimp only
  have sb : Heap.SameBut a s.heap (s.heap.update a (Obj.putSet (order.filterMap (es[·]?)) t')) := Heap.SameBut.update ..
  refine wpAny_storeSet_of ho hd (hQ _ L2 (order.filterMap (es[·]?)) (ep + 1) t' sb ⟨⟨_, store_at ho hd, ⟨hex.1, hex.2.1, hex.2.2⟩, rfl⟩, r4, T, (r2.map (·.2)).nodup_iff.mpr nd, fun p hp => keep_set ho hd sb (mem p (r2.mem_iff.mp hp)), by rw [el]; exact ld, ?_, ?_⟩ r2) (by rw [r5, hl, sizeLine_eq]; omega)
  · rw [r2.length_eq, em]
    exact hn
  · rw [r2.length_eq]
    exact few
/-- one more -/
theorem SetU.add (U : SetU D s.heap a L es ep t) {x : Addr} {k : κ} (hx : D.is s.heap k x) (hu : A.units < cLine) (few : L.length + 1 < 76) {Q : Bool → Shared → Prop}
    (hQ : ∀ b h' L' es' ep' t', Heap.SameBut a s.heap h' → SetU D h' a L' es' ep' t' → (k ∈ L.map (·.2) → L' = L) → (k ∉ L.map (·.2) → L'.Perm ((x, k) :: L)) → Q b { s with heap := h' }) : wpAny (model P w) A (setAddHashed a (.ref x) (D.hash k)) Q E s := by
  obtain ⟨o, ho, hex, hd⟩ := U.ob
  have hl := U.size
  have hr := U.room
  unfold setAddHashed
  refine wpAny_holding ?_
  rw [show (100000 : Nat) = 99999 + 1 from rfl, setAddHashedIn_succ]
  refine wpAny_bind (wpAny_setState_of ho hd U.fits ?_)
  dsimp only
  refine wp_if_neg (by simp [byScan, Value.scannable]) ?_
  try refine wpAny_bind (wpAny_pure ?_)
  refine wpAny_bind (U.look hx hu (fun hm => ?_) fun Z hm hZ full => ?_)
  · exact wpAny_pure (hQ false s.heap L es ep t (Heap.SameBut.refl a s.heap) U (fun _ => rfl) fun z => absurd hm z)
  · dsimp only
    refine wpAny_bind (wpAny_setState_of ho hd U.fits ?_)
    dsimp only
    obtain ⟨q1, q2, q3, q4, q5, _, _, _, q9⟩ := U.tab.put hZ full
    generalize ept : t.put (way t.mask (D.hash k) Z) = pt at q1 q3 q4 q5 q9 ⊢
    obtain ⟨t0, p⟩ := pt
    dsimp only at q1 q3 q4 q5 q9 ⊢
    subst q1
    suffices rest : ∀ bv : Bool, wpAny (model P w) A (do
        storeSet a (SetTable.insertAt es (SetTable.below t.place (way t.mask (D.hash k) Z)) (D.hash k, Value.ref x)) (if bv = true then t0 else { t0 with plain := false })
        if (!false && (if bv = true then t0 else { t0 with plain := false }).tooFull) = true then setRelay a (SetTable.grown (es.size + 1))
        pure true) Q E s by
      by_cases e : t0.plain = true
      · first
          | exact wp_if_pos e (wpAny_bind (D.byVal hx fun bv => rest bv))
          | (refine wpAny_bind ?_; refine wp_if_pos e ?_; exact D.byVal hx fun bv => rest bv)
      · first
          | exact wp_if_neg e (wpAny_bind (wpAny_pure (rest true)))
          | exact wp_if_neg e (rest true)
          | (refine wpAny_bind ?_; refine wp_if_neg e ?_; exact wpAny_pure (rest true))
    intro bv
    obtain ⟨t1, et1⟩ : ∃ t1, (if bv = true then t0 else { t0 with plain := false }) = t1 := ⟨_, rfl⟩
    have f1 : t1.mask = t0.mask ∧ t1.led = t0.led ∧ t1.fill = t0.fill ∧ t1.place = t0.place ∧ t1.dummies = t0.dummies := by
      rw [← et1]
      cases bv <;> exact ⟨rfl, rfl, rfl, rfl, rfl⟩
    rw [et1]
    obtain ⟨f1, f2, f3, f4, f5⟩ := f1
    rw [← f1] at q4
    rw [← f2] at q5
    rw [← f3] at q9
    replace q3 : TabOk t1 _ := ⟨by rw [f4]; exact q3.ris, by rw [f5]; exact q3.dm, by rw [f4]; exact q3.sz, by rw [f1]; exact q3.mok, by rw [f4, f1]; exact q3.bd, by rw [f4, f1]; exact q3.reach⟩
    have ins : (SetTable.insertAt es (SetTable.below t.place (way t.mask (D.hash k) Z)) (D.hash k, Value.ref x)).toList = (L.take (SetTable.below t.place (way t.mask (D.hash k) Z)) ++ (x, k) :: L.drop (SetTable.below t.place (way t.mask (D.hash k) Z))).map (rowU D) := by
      rw [SetTable.toList_insertAt, U.rows, List.map_append, List.map_cons, List.map_take, List.map_drop]
      rfl
    generalize SetTable.below t.place (way t.mask (D.hash k) Z) = p at q2 q3 ins ⊢
    have pm : (L.take p ++ (x, k) :: L.drop p).Perm ((x, k) :: L) := put_perm L p (x, k)
    have tab1 : TabOk t1 ((L.take p ++ (x, k) :: L.drop p).map fun p => D.hash p.2) := by
      rw [List.map_append, List.map_cons, List.map_take, List.map_drop]
      exact q3
    generalize SetTable.insertAt es p (D.hash k, Value.ref x) = es1 at ins ⊢
    generalize L.take p ++ (x, k) :: L.drop p = L1 at pm tab1 ins
    have len1 : L1.length = L.length + 1 := pm.length_eq
    have nd1 : (L1.map (·.2)).Nodup := by
      refine (pm.map (·.2)).nodup_iff.mpr ?_
      rw [List.map_cons]
      exact List.nodup_cons.mpr ⟨hm, U.nd⟩
    have sz1 : es1.size = L.length + 1 := by rw [← Array.length_toList, ins, List.length_map, len1]
    refine wpAny_bind (wpAny_storeSet_of ho hd ?_ (by rw [sz1, sizeLine_eq]; omega))
    have sb : Heap.SameBut a s.heap (s.heap.update a (Obj.putSet es1 t1)) := Heap.SameBut.update ..
    have ho1 := store_at (es' := es1) (t' := t1) ho hd
    generalize s.heap.update a (Obj.putSet es1 t1) = h1 at sb ho1 ⊢
    have mem1 : ∀ p ∈ L1, D.is h1 p.2 p.1 := fun p hp => by
      rcases List.mem_cons.mp (pm.mem_iff.mp hp) with rfl | hp
      · exact keep_set ho hd sb hx
      · exact keep_set ho hd sb (U.mem p hp)
    have led1 : w.params.followText "set-order" = true ∨ t1.led = true := by rw [q5]; exact U.led
    rw [List.length_map] at q9
    by_cases hf : t1.tooFull = true
    · first
        | (refine wpAny_bind ?_; refine wp_if_pos (by simp [hf]) ?_)
        | (refine wp_if_pos (by simp [hf]) ?_; refine wpAny_bind ?_)
      have full1 : (L.length + 1) * 5 ≥ t1.mask * 3 := by
        have z := hf
        unfold SetTable.tooFull at z
        rw [decide_eq_true_eq, q9] at z
        exact z
      rw [hl]
      have which : (t.mask = 7 ∧ L.length = 4) ∨ (t.mask = 31 ∧ L.length = 18) := by
        rcases U.tab.mok with e | e | e
        · rw [q4, e] at full1
          rw [e] at hr
          exact .inl ⟨e, by omega⟩
        · rw [q4, e] at full1
          rw [e] at hr
          exact .inr ⟨e, by omega⟩
        · rw [q4, e] at full1
          omega
      have pz : t1.place.size = es1.size := by
        have z := tab1.sz
        rw [List.length_map, len1] at z
        rw [z, sz1]
      have go : ∀ N, SetTable.sizeAbove (SetTable.grown (L.length + 1)) - 1 = N → MaskOk N → SetTable.sizeAbove (SetTable.grown (L.length + 1)) ≤ 128 → 5 * (L.length + 1) < 3 * N →
          wpAny (model P w) A (setRelay a (SetTable.grown (L.length + 1))) (fun _ s' => wpAny (model P w) A (pure true) Q E s') E { s with heap := h1 } := fun N b1 b2 b3 b4 => by
        refine relaid_at (s := { s with heap := h1 }) ho1 ⟨hex.1, hex.2.1, hex.2.2⟩ rfl ins pz tab1.dm (by rw [sz1, q4]; rcases which with ⟨e, e2⟩ | ⟨e, e2⟩ <;> omega) nd1 mem1 led1 (by rw [len1]; exact few) b1 b2 b3 (by rw [len1]; exact b4) fun h2 L2 es2 ep2 t2 sb2 U2 pm2 => ?_
        exact wpAny_pure (hQ true h2 L2 es2 ep2 t2 (sb.trans sb2) U2 (fun z => absurd z hm) fun _ => pm2.trans pm)
      rcases which with ⟨_, e2⟩ | ⟨_, e2⟩
      · exact go 31 (by rw [e2, size_20]) (.inr (.inl rfl)) (by rw [e2, size_20]; decide) (by omega)
      · exact go 127 (by rw [e2, size_76]) (.inr (.inr rfl)) (by rw [e2, size_76]; decide) (by omega)
    · first
        | refine wp_if_neg (by simp [hf]) ?_
        | (refine wpAny_bind ?_; refine wp_if_neg (by simp [hf]) ?_; refine wpAny_pure ?_)
      refine wpAny_pure (hQ true h1 L1 es1 (ep + 1) t1 sb ⟨⟨_, ho1, ⟨hex.1, hex.2.1, hex.2.2⟩, rfl⟩, ins, tab1, nd1, mem1, led1, ?_, by rw [len1]; exact few⟩ (fun z => absurd z hm) fun _ => pm)
      have z := hf
      unfold SetTable.tooFull at z
      rw [decide_eq_true_eq, q9] at z
      rw [len1]
      omega
end
end Wo
set_option autoImplicit true
set_option maxRecDepth 100000
set_option maxHeartbeats 4000000
namespace Wo
open PySem PySem.Spec PyProof.Rows L2
/-! W51: the order of keys and of tuples of keys; sorting by it. -/
/-- a strict order, all things compared -/
structure Lin {α : Type} (lt : α → α → Bool) : Prop where
  irr : ∀ x, lt x x = false
  tri : ∀ x y, lt x y = false → lt y x = false → x = y
  tra : ∀ x y z, lt x y = true → lt y z = true → lt x z = true
section
variable {α : Type} {lt : α → α → Bool}
theorem Lin.asym (O : Lin lt) {x y : α} (h : lt x y = true) : lt y x = false := by
  cases e : lt y x with
  | false => rfl
  | true =>
    have := O.tra x y x h e
    rw [O.irr] at this
    cases this
theorem Lin.swo (O : Lin lt) : SrtO.Swo lt := ⟨fun x y => O.asym, fun x y z h1 h2 => by
  cases e : lt z x with
  | false => rfl
  | true =>
    cases e2 : lt x y with
    | true =>
      have := O.tra z x y e e2
      rw [h2] at this
      cases this
    | false =>
      have := O.tri x y e2 h1
      subst this
      rw [h2] at e
      cases e⟩
/-- word by word -/
def lexL [DecidableEq α] (lt : α → α → Bool) : List α → List α → Bool
  | [], [] => false
  | [], _ :: _ => true
  | _ :: _, [] => false
  | a :: x, b :: y => if a = b then lexL lt x y else lt a b
theorem Lin.lex [DecidableEq α] (O : Lin lt) : Lin (lexL lt) := by
  refine ⟨fun x => ?_, fun x => ?_, fun x => ?_⟩
  · induction x with
    | nil => rfl
    | cons a x ih =>
      unfold lexL
      rw [if_pos rfl]
      exact ih
  · induction x with
    | nil =>
      intro y h1 h2
      cases y with
      | nil => rfl
      | cons b y => cases h1
    | cons a x ih =>
      intro y h1 h2
      cases y with
      | nil => cases h2
      | cons b y =>
        unfold lexL at h1 h2
        by_cases e : a = b
        · subst e
          rw [if_pos rfl] at h1 h2
          rw [ih y h1 h2]
        · rw [if_neg e] at h1
          rw [if_neg (Ne.symm e)] at h2
          exact absurd (O.tri a b h1 h2) e
  · induction x with
    | nil =>
      intro y z h1 h2
      cases y with
      | nil => cases h1
      | cons b y =>
        cases z with
        | nil => cases h2
        | cons c z => rfl
    | cons a x ih =>
      intro y z h1 h2
      cases y with
      | nil => cases h1
      | cons b y =>
        cases z with
        | nil => cases h2
        | cons c z =>
          unfold lexL at h1 h2 ⊢
          by_cases e : a = b
          · subst e
            rw [if_pos rfl] at h1
            by_cases e2 : a = c
            · subst e2
              rw [if_pos rfl] at h2
              rw [if_pos rfl]
              exact ih y z h1 h2
            · rw [if_neg e2] at h2
              rw [if_neg e2]
              exact h2
          · rw [if_neg e] at h1
            by_cases e2 : b = c
            · subst e2
              rw [if_neg e]
              exact h1
            · rw [if_neg e2] at h2
              have h3 := O.tra a b c h1 h2
              by_cases e3 : a = c
              · subst e3
                rw [O.asym h1] at h2
                cases h2
              · rw [if_neg e3]
                exact h3
theorem lin_nat : Lin fun a b : Nat => decide (a < b) := ⟨fun x => by simp, fun x y h1 h2 => by simp at h1 h2; omega, fun x y z h1 h2 => by simp at h1 h2 ⊢; omega⟩
theorem lin_int : Lin fun a b : Int => decide (a < b) := ⟨fun x => by simp, fun x y h1 h2 => by simp at h1 h2; omega, fun x y z h1 h2 => by simp at h1 h2 ⊢; omega⟩
theorem lexL_lt : ∀ x y : List Nat, lexL (fun a b => decide (a < b)) x y = decide (x < y)
  | [], [] => by simp [lexL]
  | [], _ :: _ => by simp [lexL]
  | _ :: _, [] => by simp [lexL]
  | a :: x, b :: y => by
    unfold lexL
    rw [lexL_lt x y]
    by_cases e : a = b
    · subst e
      rw [if_pos rfl]
      simp [List.cons_lt_cons_iff]
    · rw [if_neg e]
      simp [List.cons_lt_cons_iff, e]
def ltStr (x y : Str) : Bool := decide (x.cps.toList < y.cps.toList)
theorem lin_str : Lin ltStr := by
  have O := (lin_nat).lex
  refine ⟨fun x => ?_, fun x y h1 h2 => ?_, fun x y z h1 h2 => ?_⟩
  · have := O.irr x.cps.toList
    rw [lexL_lt] at this
    exact this
  · have := O.tri x.cps.toList y.cps.toList (by rw [lexL_lt]; exact h1) (by rw [lexL_lt]; exact h2)
    cases x
    cases y
    congr 1
    exact Array.ext' this
  · have := O.tra x.cps.toList y.cps.toList z.cps.toList (by rw [lexL_lt]; exact h1) (by rw [lexL_lt]; exact h2)
    rw [lexL_lt] at this
    exact this
def ltK : Key → Key → Bool
  | .inl i, .inl j => decide (i < j)
  | .inr x, .inr y => ltStr x y
  | .inl _, .inr _ => true
  | .inr _, .inl _ => false
theorem lin_key : Lin ltK := by
  refine ⟨fun x => ?_, fun x y h1 h2 => ?_, fun x y z h1 h2 => ?_⟩
  · cases x with
    | inl i => exact lin_int.irr i
    | inr i => exact lin_str.irr i
  · cases x <;> cases y
    · rw [lin_int.tri _ _ h1 h2]
    · cases h1
    · cases h2
    · rw [lin_str.tri _ _ h1 h2]
  · cases x <;> cases y <;> cases z <;> first | exact lin_int.tra _ _ _ h1 h2 | exact lin_str.tra _ _ _ h1 h2 | (cases h1; done) | (cases h2; done) | rfl
abbrev ltT : List Key → List Key → Bool := lexL ltK
theorem lin_tup : Lin ltT := lin_key.lex
/-- one kind -/
def sameK : Key → Key → Bool
  | .inl _, .inl _ => true
  | .inr _, .inr _ => true
  | _, _ => false
/-- two tuples that can be compared -/
def cmpT : List Key → List Key → Bool
  | a :: x, b :: y => if a = b then cmpT x y else sameK a b
  | _, _ => true
/-! ### a sort of our own -/
def insB (lt : α → α → Bool) (x : α) : List α → List α
  | [] => [x]
  | y :: l => if lt x y = true then x :: y :: l else y :: insB lt x l
def sortB (lt : α → α → Bool) : List α → List α
  | [] => []
  | x :: l => insB lt x (sortB lt l)
theorem insB_perm (x : α) : ∀ l : List α, (insB lt x l).Perm (x :: l)
  | [] => .refl _
  | y :: l => by
    unfold insB
    split
    · exact .refl _
    · exact ((insB_perm x l).cons y).trans (.swap x y l)
theorem sortB_perm : ∀ l : List α, (sortB lt l).Perm l
  | [] => .refl _
  | x :: l => (insB_perm x _).trans ((sortB_perm l).cons x)
theorem insB_srtd (O : Lin lt) (x : α) : ∀ l : List α, SrtO.Srtd lt l → SrtO.Srtd lt (insB lt x l)
  | [], _ => List.pairwise_singleton _ _
  | y :: l, h => by
    obtain ⟨h1, h2⟩ := List.pairwise_cons.mp h
    unfold insB
    by_cases e : lt x y = true
    · rw [if_pos e]
      refine List.pairwise_cons.mpr ⟨fun z hz => ?_, h⟩
      rcases List.mem_cons.mp hz with rfl | hz
      · exact O.asym e
      · exact O.swo.tr x y z (O.asym e) (h1 z hz)
    · rw [if_neg e]
      refine List.pairwise_cons.mpr ⟨fun z hz => ?_, insB_srtd O x l h2⟩
      rcases List.mem_cons.mp ((insB_perm x l).mem_iff.mp hz) with rfl | hz
      · cases q : lt z y with
        | false => rfl
        | true => exact absurd q e
      · exact h1 z hz
theorem sortB_srtd (O : Lin lt) : ∀ l : List α, SrtO.Srtd lt (sortB lt l)
  | [] => List.Pairwise.nil
  | x :: l => insB_srtd O x _ (sortB_srtd O l)
theorem srtd_uniq (O : Lin lt) : ∀ {l m : List α}, l.Perm m → SrtO.Srtd lt l → SrtO.Srtd lt m → l = m
  | [], m, p, _, _ => (List.Perm.eq_nil p.symm).symm
  | x :: l, [], p, _, _ => absurd p.length_eq (by simp)
  | x :: l, y :: m, p, hl, hm => by
    have h1 : lt x y = false := by
      rcases List.mem_cons.mp (p.mem_iff.mp List.mem_cons_self) with e | hx
      · rw [e]
        exact O.irr y
      · exact SrtO.srtd_head hm x hx
    have h2 : lt y x = false := by
      rcases List.mem_cons.mp (p.mem_iff.mpr List.mem_cons_self) with e | hy
      · rw [e]
        exact O.irr x
      · exact SrtO.srtd_head hl y hy
    have e := O.tri x y h1 h2
    subst e
    rw [srtd_uniq O p.cons_inv (List.pairwise_cons.mp hl).2 (List.pairwise_cons.mp hm).2]
theorem sortB_of (O : Lin lt) {l m : List α} (p : l.Perm m) (h : SrtO.Srtd lt l) : l = sortB lt m := srtd_uniq O (p.trans (sortB_perm m).symm) h (sortB_srtd O m)
end
/-! ### the kind of tuples of keys -/
section
variable {P : Program} {w : World} {A : Around} {E : Value → Shared → Prop} {s : Shared}
theorem key_shape {k : Key} {v : Value} (h : (mixKind P w).is k v = true) : (∃ i t, k = .inl i ∧ v = Value.int i t) ∨ ∃ x t, k = .inr x ∧ v = Value.str x t := by
  rcases keyIs_shape h with ⟨i, t, rfl, rfl⟩ | ⟨x, t, rfl, rfl⟩
  · exact .inl ⟨i, t, rfl, rfl⟩
  · exact .inr ⟨x, t, rfl, rfl⟩
/-- plain: a number or a text -/
def PlainV (v : Value) : Prop := (∃ i t, v = Value.int i t) ∨ ∃ x t, v = Value.str x t
theorem items_plain {ks : List Key} {vs : List Value} (h : ItemsAre (mixKind P w) ks vs) : ∀ v ∈ vs, PlainV v := by
  induction h with
  | nil => exact fun v hv => absurd hv List.not_mem_nil
  | cons h1 _ ih =>
    intro v hv
    rcases List.mem_cons.mp hv with rfl | hv
    · rcases key_shape h1 with ⟨i, t, _, rfl⟩ | ⟨x, t, _, rfl⟩
      · exact .inl ⟨i, t, rfl⟩
      · exact .inr ⟨x, t, rfl⟩
    · exact ih v hv
theorem cls_plain (n : Nat) {v : Value} (h : PlainV v) : ofAClassStatement n v = pure false := by
  rcases h with ⟨i, t, rfl⟩ | ⟨x, t, rfl⟩ <;> cases n <;> rfl
theorem hby_plain (n : Nat) {v : Value} (h : PlainV v) : ∃ b, hashByValue n v = pure b := by
  rcases h with ⟨i, t, rfl⟩ | ⟨x, t, rfl⟩ <;> cases n <;> exact ⟨_, rfl⟩
theorem tup_noCls {k : List Key} {b : Addr} {Q : Bool → Shared → Prop} (hb : IsTupleKey (mixKind P w) s.heap k b) (q : Q false s) : wpAny (model P w) A (ofAClassStatement 8 (.ref b)) Q E s := by
  have ty := hb.typeIs
  obtain ⟨o, its, n, ho, _, hd, hi⟩ := hb
  unfold ofAClassStatement
  refine wpAny_bind (wpAny_typeOf ty ?_)
  dsimp only
  simp only [show (("tuple" : String) == "tuple") = true by decide, if_true, Bool.not_true, Bool.false_eq_true, if_false]
  try refine wpAny_bind (wpAny_pure ?_)
  try simp only [Bool.not_true, Bool.false_eq_true, if_false]
  show wpAny _ _ (seqItems? (.ref b) >>= _) _ _ s
  refine wpAny_bind (wpAny_seqItems ho hd ?_)
  dsimp only
  refine wpAny_bind ?_
  show wpAny _ _ (forIn its _ _) _ _ s
  rw [← Array.forIn_toList]
  refine wpAny_forIn_list _ (fun left r z => z = s ∧ r.1 = none ∧ ∀ v ∈ left, PlainV v) _ ?_ ?_ _ _ ⟨rfl, rfl, items_plain hi⟩
  · rintro v left r z ⟨rfl, hr, hl⟩
    rw [cls_plain _ (hl v List.mem_cons_self)]
    refine wpAny_bind (wpAny_pure ?_)
    simp only [Bool.false_eq_true, if_false]
    exact wpAny_pure ⟨rfl, rfl, fun u hu => hl u (List.mem_cons_of_mem _ hu)⟩
  · rintro ⟨r1, r2⟩ z ⟨rfl, hr, _⟩
    dsimp only at hr
    subst hr
    exact wpAny_pure q
theorem tup_byVal {k : List Key} {b : Addr} {Q : Bool → Shared → Prop} (hb : IsTupleKey (mixKind P w) s.heap k b) (q : ∀ b, Q b s) : wpAny (model P w) A (hashByValue 8 (.ref b)) Q E s := by
  have ty := hb.typeIs
  obtain ⟨o, its, n, ho, _, hd, hi⟩ := hb
  unfold hashByValue
  refine wpAny_bind (wpAny_specialOf ty F.slot_tuple_hash.lookup ?_)
  show wpAny _ _ (seqItems? (.ref b) >>= _) _ _ s
  refine wpAny_bind (wpAny_seqItems ho hd (wpAny_bind ?_))
  show wpAny _ _ (forIn its _ _) _ _ s
  rw [← Array.forIn_toList]
  refine wpAny_forIn_list _ (fun left r z => z = s ∧ ∀ v ∈ left, PlainV v) _ ?_ ?_ _ _ ⟨rfl, items_plain hi⟩
  · rintro v left r z ⟨rfl, hl⟩
    obtain ⟨bv, e⟩ := hby_plain 7 (hl v List.mem_cons_self)
    rw [e]
    refine wpAny_bind (wpAny_pure ?_)
    cases bv
    · simp only [Bool.not_false, if_true]
      exact wpAny_pure (by
        first
          | exact ⟨rfl, fun u hu => hl u (List.mem_cons_of_mem _ hu)⟩
          | exact q _
          | exact wpAny_pure (q _))
    · simp only [Bool.not_true, Bool.false_eq_true, if_false]
      exact wpAny_pure ⟨rfl, fun u hu => hl u (List.mem_cons_of_mem _ hu)⟩
  · rintro ⟨r1, r2⟩ z ⟨rfl, _⟩
    cases r1 with
    | none => exact wpAny_pure (q _)
    | some v => exact wpAny_pure (q _)
/-- tuples of ints and texts -/
def kT (P : Program) (w : World) : HKd P w (List Key) where
  is := IsTupleKey (mixKind P w)
  hash := tupleKeyHash (mixKind P w)
  inj := IsTupleKey.inj
  keep := fun kp ⟨o, its, n, ho, hc, hd, hi⟩ => ⟨o, its, n, kp _ _ _ _ ho hd, hc, hd, hi⟩
  eqB := fun hu hx hy q => wpAny_eqBool_tuple hu hx hy q
  pyH := fun hu hk q => wpAny_pyHash_tuple hu hk (q _)
  quiet := fun hk q => wpAny_eqIsQuiet_tuple hk q
  noCls := fun hk q => tup_noCls hk q
  byVal := fun hk q => tup_byVal hk q
/-! ### they can be sorted -/
theorem oneLt_key {a b : Key} {u v : Value} {Q : Bool → Shared → Prop} (c : Bool) (ha : (mixKind P w).is a u = true) (hb : (mixKind P w).is b v = true) (hs : sameK a b = true) (q : Q (ltK a b) s) : wpAny (model P w) A (oneLt' c u v) Q E s := by
  rcases key_shape ha with ⟨i, t, rfl, rfl⟩ | ⟨x, t, rfl, rfl⟩ <;> rcases key_shape hb with ⟨j, t', rfl, rfl⟩ | ⟨y, t', rfl, rfl⟩
  · cases c
    · exact PySem.W.kat_one _ _ (PyProof.Rows.lt_int q)
    · exact oneLt_int q
  · cases hs
  · cases hs
  · cases c
    · exact PySem.W.kat_one _ _ (PyProof.Rows.lt_str q)
    · exact oneLt_str q
theorem lex_keys (c : Bool) (fin : Bool) {Q : Bool → Shared → Prop} : ∀ {ks ls : List Key} {us vs : List Value} (i : Nat), ItemsAre (mixKind P w) ks us → ItemsAre (mixKind P w) ls vs → cmpT ks ls = true → decide (us.length < vs.length) = fin → Q (ltT ks ls) s →
    PySem.W.KatLex P w A c fin Q (us.zip vs) i s
  | [], [], _, _, i, .nil, .nil, _, e, q => by
    subst e
    exact PySem.W.kat_nil q
  | [], l :: ls, _, _, i, .nil, .cons _ t, _, e, q => by
    have : fin = true := by rw [← e]; simp
    subst this
    exact PySem.W.kat_nil q
  | k :: ks, [], _, _, i, .cons _ t, .nil, _, e, q => by
    have : fin = false := by rw [← e]; simp
    subst this
    exact PySem.W.kat_nil q
  | k :: ks, l :: ls, _, _, i, .cons h1 t1, .cons h2 t2, hok, e, q => by
    rw [List.zip_cons_cons]
    refine PySem.W.kat_cons ((mixKind P w).eqBool h1 h2 ?_)
    unfold cmpT at hok
    have q' : Q (if k = l then ltT ks ls else ltK k l) s := q
    refine PySem.W.kat_go (fun e1 => ?_) (fun e1 => ?_)
    · have ek : k = l := by simpa using e1
      rw [if_pos ek] at hok q'
      exact PySem.W.kat_yes (lex_keys c fin (i + 1) t1 t2 hok (by simpa using e) q')
    · have ek : ¬ k = l := by simpa using e1
      rw [if_neg ek] at hok q'
      exact PySem.W.kat_no (oneLt_key _ h1 h2 hok q')
theorem firsts_keys {kf : Value → List Key} {T : Value} (hT : ∀ k v, (mixKind P w).is k v = true → (∀ l, k = .inl l → T = .type "int") → (∀ l, k = .inr l → T = .type "str") → ∀ M h, PySem.W.Looks M h (typeOf v) T) {h : Heap} : ∀ {vs : List Value}, (∀ v ∈ vs, ∃ b, v = .ref b ∧ IsTupleKey (mixKind P w) h (kf v) b) →
    (∀ v ∈ vs, ∃ k r, kf v = k :: r ∧ (∀ l, k = .inl l → T = .type "int") ∧ ∀ l, k = .inr l → T = .type "str") → ∃ fs, PySem.W.KatTups h vs fs ∧ fs.length = vs.length ∧ ∀ f ∈ fs, ∀ M h, PySem.W.Looks M h (typeOf f) T
  | [], _, _ => ⟨[], PySem.W.KatTups.nil, rfl, fun f hf => absurd hf List.not_mem_nil⟩
  | v :: vs, h1, h2 => by
    obtain ⟨fs, a1, a2, a3⟩ := firsts_keys hT (vs := vs) (fun u hu => h1 u (List.mem_cons_of_mem _ hu)) fun u hu => h2 u (List.mem_cons_of_mem _ hu)
    obtain ⟨b, rfl, o, its, n, ho, hc, hd, hi⟩ := h1 v List.mem_cons_self
    obtain ⟨k, r, ek, k1, k2⟩ := h2 _ List.mem_cons_self
    rw [ek] at hi
    generalize hl : its.toList = l at hi
    cases hi with
    | @cons _ f _ fr g1 g2 =>
      refine ⟨f :: fs, PySem.W.KatTups.cons ho hc hd (by rw [← Array.getElem?_toList, hl]; rfl) a1, by rw [List.length_cons, List.length_cons, a2], fun z hz => ?_⟩
      rcases List.mem_cons.mp hz with rfl | hz
      · exact hT k z g1 k1 k2
      · exact a3 z hz
/-- what is asked of a list of tuples that is to be sorted -/
def fstI : List Key → Bool
  | .inl _ :: _ => true
  | _ => false
def fstS : List Key → Bool
  | .inr _ :: _ => true
  | _ => false
def sortOk (ks : List (List Key)) : Bool := (ks.all fstI || ks.all fstS) && ks.all fun x => ks.all fun y => cmpT x y
theorem sortOk_sub {ks ls : List (List Key)} (h : ∀ x ∈ ls, x ∈ ks) (ok : sortOk ks = true) : sortOk ls = true := by
  unfold sortOk at ok ⊢
  rw [Bool.and_eq_true, Bool.or_eq_true, List.all_eq_true, List.all_eq_true, List.all_eq_true] at ok ⊢
  refine ⟨ok.1.elim (fun z => .inl fun x hx => z x (h x hx)) fun z => .inr fun x hx => z x (h x hx), fun x hx => ?_⟩
  have z := ok.2 x (h x hx)
  rw [List.all_eq_true] at z ⊢
  exact fun y hy => z y (h y hy)
theorem sortable_T {a : Addr} {vs : List Value} {kf : Value → List Key} (h2 : 2 ≤ vs.length) (hp : ∀ v ∈ vs, ∃ b, v = .ref b ∧ IsTupleKey (mixKind P w) s.heap (kf v) b) (ok : sortOk (vs.map kf) = true) (ha : ∀ o, s.heap.get? a = some o → o.cls ≠ .type "tuple") :
    SrtO.SortableO P w A s a vs fun v u => ltT (kf v) (kf u) := by
  intro h' keep
  have hp' : ∀ v ∈ vs, ∃ b, v = .ref b ∧ IsTupleKey (mixKind P w) h' (kf v) b := fun v hv => by
    obtain ⟨b, rfl, o, its, n, ho, hc, hd, hi⟩ := hp v hv
    exact ⟨b, rfl, o, its, n, keep b o (fun z => by subst z; exact ha o ho hc) ho, hc, hd, hi⟩
  unfold sortOk at ok
  rw [Bool.and_eq_true, Bool.or_eq_true, List.all_eq_true, List.all_eq_true, List.all_eq_true] at ok
  have ok2 : ∀ v ∈ vs, ∀ u ∈ vs, cmpT (kf v) (kf u) = true := fun v hv u hu => by
    have z := ok.2 (kf v) (List.mem_map.mpr ⟨v, hv, rfl⟩)
    rw [List.all_eq_true] at z
    exact z (kf u) (List.mem_map.mpr ⟨u, hu, rfl⟩)
  have cmp : SrtO.Cmp P w A { s with heap := h' } (tuples' true) (fun p => p.1 ∈ vs) (SrtO.lt2 fun v u => ltT (kf v) (kf u)) := fun p q hm hm' => by
    obtain ⟨b, eb, o, its, n, ho, hc, hd, hi⟩ := hp' _ hm
    obtain ⟨b', eb', o', its', n', ho', hc', hd', hi'⟩ := hp' _ hm'
    have e1 := ok2 _ hm _ hm'
    show wpAny _ _ (keyLt' (tuples' true) p.1 q.1) (fun r s' => s' = _ ∧ r = ltT (kf p.1) (kf q.1)) _ _
    generalize kf p.1 = kp at hi e1 ⊢
    generalize kf q.1 = kq at hi' e1 ⊢
    rw [eb, eb']
    exact PySem.W.kat_lt ho hd ho' hd' (lex_keys true _ 0 hi hi' e1 (by simp) ⟨rfl, rfl⟩)
  rcases ok.1 with z | z
  · obtain ⟨fs, f1, f2, f3⟩ := firsts_keys (P := P) (w := w) (kf := kf) (T := .type "int") (h := h') (fun k v hk h1 h2 M h => by
      rcases key_shape hk with ⟨i, t, rfl, rfl⟩ | ⟨x, t, rfl, rfl⟩
      · exact PySem.W.Looks.now
      · exact absurd (h2 _ rfl) (by decide)) hp' fun v hv => by
        have e2 := z (kf v) (List.mem_map.mpr ⟨v, hv, rfl⟩)
        unfold fstI at e2
        split at e2
        · rename_i i r e
          exact ⟨.inl i, r, e, ⟨fun _ _ => rfl, fun l el => (by cases el)⟩⟩
        · cases e2
    refine ⟨tuples' true, fun Q E hq => PySem.W.kat_kind (T := .type "int") f1 (by rw [f2]; omega) (fun f hf => f3 f hf _ _) (by rfl) ?_, cmp⟩
    rw [show (Value.type "int" != Value.type "tuple") = true by first | decide +kernel | rfl | decide]
    exact hq
  · obtain ⟨fs, f1, f2, f3⟩ := firsts_keys (P := P) (w := w) (kf := kf) (T := .type "str") (h := h') (fun k v hk h1 h2 M h => by
      rcases key_shape hk with ⟨i, t, rfl, rfl⟩ | ⟨x, t, rfl, rfl⟩
      · exact absurd (h1 _ rfl) (by decide)
      · exact PySem.W.Looks.now) hp' fun v hv => by
        have e2 := z (kf v) (List.mem_map.mpr ⟨v, hv, rfl⟩)
        unfold fstS at e2
        split at e2
        · rename_i i r e
          exact ⟨.inr i, r, e, ⟨fun l el => (by cases el), fun _ _ => rfl⟩⟩
        · cases e2
    refine ⟨tuples' true, fun Q E hq => PySem.W.kat_kind (T := .type "str") f1 (by rw [f2]; omega) (fun f hf => f3 f hf _ _) (by rfl) ?_, cmp⟩
    rw [show (Value.type "str" != Value.type "tuple") = true by first | decide +kernel | rfl | decide]
    exact hq
end
end Wo
set_option autoImplicit true
set_option maxRecDepth 100000
set_option maxHeartbeats 4000000
namespace Wo
open PySem PySem.Spec PyProof.Rows L2
/-! W52: the rules: {x for x in l} of tuples, sorted of it, sorted of a list of tuples. -/
section
variable {P : Program} {w : World} {κ : Type} [DecidableEq κ]
/-- the set, without what it has -/
structure SetU0 (D : HKd P w κ) (h : Heap) (a : Addr) (L : List (Addr × κ)) : Prop where
  ex : ∃ (es : Array (Int × Value)) (ep : Nat) (t : SetTable), (∃ o, h.get? a = some o ∧ o.ExactSet ∧ o.data = .set es ep t) ∧ es.toList = L.map (rowU D) ∧ TabOk t (L.map fun p => D.hash p.2) ∧ (L.map (·.2)).Nodup ∧
    (w.params.followText "set-order" = true ∨ t.led = true) ∧ 5 * L.length < 3 * t.mask ∧ L.length < 76
def SetUO (D : HKd P w κ) (a : Addr) (L : List (Addr × κ)) : HO := .ext fun h => SetU0 D h a L
theorem SetU.zero {D : HKd P w κ} {h : Heap} {a : Addr} {L : List (Addr × κ)} {es : Array (Int × Value)} {ep : Nat} {t : SetTable} (U : SetU D h a L es ep t) : SetU0 D h a L := ⟨es, ep, t, U.ob, U.rows, U.tab, U.nd, U.led, U.room, U.few⟩
theorem SetU0.full {D : HKd P w κ} {h : Heap} {a : Addr} {L : List (Addr × κ)} (U : SetU0 D h a L) (m : ∀ p ∈ L, D.is h p.2 p.1) : ∃ es ep t, SetU D h a L es ep t := by
  obtain ⟨es, ep, t, h1, h2, h3, h4, h6, h7, h8⟩ := U.ex
  exact ⟨es, ep, t, h1, h2, h3, h4, m, h6, h7, h8⟩
theorem setUO_ok {D : HKd P w κ} {H : Hp} {h : Heap} {a : Addr} {L : List (Addr × κ)} (U : SetU0 D h a L) : ObjOk P w H h a (SetUO D a L) := by
  have ⟨es, ep, t, ⟨o, ho, r⟩, q⟩ := U.ex
  refine ⟨U, ⟨o, ho⟩, fun h1 h2 p k => ?_⟩
  have ⟨es', ep', t', ⟨o', ho', r'⟩, q'⟩ := SetU0.ex p
  exact ⟨es', ep', t', ⟨o', k o' ho', r'⟩, q'⟩
theorem setU_new {D : HKd P w κ} (h : Heap) : SetU0 D (h.push (setNew w)) h.objs.size [] := by
  refine ⟨#[], 0, _, ⟨_, Heap.get?_push_size _ rfl, ⟨rfl, rfl, rfl⟩, rfl⟩, rfl, ⟨List.Pairwise.nil, rfl, rfl, .inl rfl, fun x hx => absurd hx List.not_mem_nil, fun i h j hi => by simp at hi⟩, List.nodup_nil, ?_, ?_, ?_⟩
  · show _ ∨ (!w.params.followText "set-order") = true
    cases w.params.followText "set-order"
    · exact .inr rfl
    · exact .inl rfl
  · show 5 * 0 < 3 * 7
    decide
  · show 0 < 76
    decide
end
section
variable {X : Cx}
theorem items_keys {P : Program} {w : World} : ∀ {k : List Key} {us : List Value}, Vals (k.map kV) us → ItemsAre (mixKind P w) k us
  | [], _, .nil => .nil
  | n :: k, _, .cons r t => .cons (kV_is r) (items_keys t)
theorem inv_isK {pins : List (Addr × Obj)} {σ : L2.St} {H : Hp} {s : Shared} {b : Addr} {k : List Key} (I : Inv X pins σ H s) (h : SqT X.K H b (k.map kV)) : IsTupleKey (mixKind X.prog X.w) s.heap k b := by
  obtain ⟨its, r, ⟨o, ho, hc, n, hd⟩, _⟩ := I.tuple h
  exact ⟨o, its.toArray, n, ho, hc, hd, by simpa using items_keys r⟩
abbrev refsOf (L : List (Addr × List Key)) : List V := L.map fun p => V.ref p.1
abbrev refsV (L : List (Addr × List Key)) : List Value := L.map fun p => Value.ref p.1
theorem refs_vals : ∀ {L : List (Addr × List Key)} {us : List Value}, Vals (refsOf L) us → us = refsV L
  | [], _, .nil => rfl
  | p :: L, _, .cons r t => by
    cases r
    rw [refs_vals t]
    rfl
theorem vals_refs : ∀ L : List (Addr × List Key), Vals (refsOf L) (refsV L)
  | [] => .nil
  | p :: L => .cons rfl (vals_refs L)
/-- s.add(x), x a tuple of keys -/
def rAddT (X : Cx) : V → List V → Hp → VK → Prop := fun x xs H Q => ∃ (a b : Addr) (L : List (Addr × List Key)) (k : List Key), x = V.ref a ∧ xs = [V.ref b] ∧ H a = some (SetUO (kT X.prog X.w) a L) ∧ (∀ p ∈ L, SqT X.K H p.1 (p.2.map kV)) ∧ SqT X.K H b (k.map kV) ∧ L.length + 1 < 76 ∧
  ∀ L' : List (Addr × List Key), (k ∈ L.map (·.2) → L' = L) → (k ∉ L.map (·.2) → L'.Perm ((b, k) :: L)) → Q .non (upd H a (SetUO (kT X.prog X.w) a L'))
theorem mt_addT (hu : X.A.units + 2 < cLine) : MtR X "set.add" (rAddT X) := by
  intro pins s σ H x xs v us Q I rx rxs h
  obtain ⟨a, b, L, k, rfl, rfl, ha, hL, hb, few, q⟩ := h
  cases rx
  rw [Vals.ref1 rxs]
  have U0 : SetU0 (kT X.prog X.w) s.heap a L := (I.hok a _ ha).1
  obtain ⟨es, ep, t, U⟩ := U0.full fun p hp => inv_isK I (hL p hp)
  obtain ⟨o, ho, hex, hd⟩ := U.ob
  have hk := inv_isK I hb
  refine wpAny_call_entry F.slot_set_add ⟨o, ho, hex.1⟩ F.entry_set_add ?_ (F.args_set_add_2 _ _)
  unfold Builtin.«set.add» Builtin.Frozenset.oneOther
  simp only [List.isEmpty_nil, bind_assoc]
  unfold Builtin.Frozenset.addrOf setAdd
  refine wpAny_bind (wpAny_pure ?_)
  try dsimp only
  refine wpAny_bind (wpAny_pure ?_)
  try dsimp only
  refine wpAny_bind (wpAny_holding ?_)
  refine wpAny_bind ((kT X.prog X.w).pyH (show _ < cLine by first | omega | (show X.A.units + 1 < cLine; omega)) hk fun n => ?_)
  refine SetU.add (s := { s with toks := n }) U hk (show _ < cLine by first | omega | (show X.A.units + 1 < cLine; omega)) few fun bb h' L' es' ep' t' sb U' c1 c2 => ?_
  show wpAny _ _ (ret Value.none) _ _ _
  have he : ∃ u, h'.get? a = some u := by
    obtain ⟨o', ho', _⟩ := U'.ob
    exact ⟨o', ho'⟩
  exact wpAny_pure ⟨_, rfl, .non, upd H a (SetUO (kT X.prog X.w) a L'), I.write (e := a) (t' := n) (by rw [ha]; trivial) (.inl rfl) (fun c u hc hu => (sb.2 c hc).trans hu) he (setUO_ok U'.zero), rfl, q L' c1 c2⟩
theorem mt_addT' {Y : Cx} (hu : Y.A.units + 2 < cLine) (e1 : Y.prog = X.prog) (e2 : Y.w = X.w) (e4 : Y.K = X.K) : MtR Y "set.add" (rAddT X) := by
  have h := mt_addT (X := Y) hu
  unfold rAddT at h ⊢
  rw [e1, e2, e4] at h
  exact h
/-- what a set has got -/
structure GotT (ks L : List (Addr × List Key)) : Prop where
  sub : ∀ p ∈ L, p ∈ ks
  all : ∀ p ∈ ks, p.2 ∈ L.map (·.2)
theorem GotT.step {ks L L' : List (Addr × List Key)} {x : Addr × List Key} (g : GotT ks L) (h1 : x.2 ∈ L.map (·.2) → L' = L) (h2 : x.2 ∉ L.map (·.2) → L'.Perm (x :: L)) : GotT (ks ++ [x]) L' := by
  rcases Classical.em (x.2 ∈ L.map (·.2)) with c | c
  · rw [h1 c]
    refine ⟨fun p hp => List.mem_append_left _ (g.sub p hp), fun p hp => ?_⟩
    rcases List.mem_append.mp hp with hp | hp
    · exact g.all p hp
    · rw [List.mem_singleton.mp hp]
      exact c
  · have pm := h2 c
    refine ⟨fun p hp => ?_, fun p hp => (pm.map (·.2)).mem_iff.mpr ?_⟩
    · rcases List.mem_cons.mp (pm.mem_iff.mp hp) with rfl | hp
      · exact List.mem_append_right _ (List.mem_singleton.mpr rfl)
      · exact List.mem_append_left _ (g.sub p hp)
    · rw [List.map_cons]
      rcases List.mem_append.mp hp with hp | hp
      · exact List.mem_cons_of_mem _ (g.all p hp)
      · rw [List.mem_singleton.mp hp]
        exact List.mem_cons_self
theorem GotT.few {ks L L' : List (Addr × List Key)} {x : Addr × List Key} {n : Nat} (hn : L.length ≤ n) (h1 : x.2 ∈ L.map (·.2) → L' = L) (h2 : x.2 ∉ L.map (·.2) → L'.Perm (x :: L)) : L'.length ≤ n + 1 := by
  rcases Classical.em (x.2 ∈ L.map (·.2)) with c | c
  · rw [h1 c]
    omega
  · rw [(h2 c).length_eq, List.length_cons]
    omega
variable {E : EX} {x : Str} {i : Nat} {l : Expr} {scope : Scope} {pos p cpos np1 np2 : Pos} {g : ME}
/-- {x for x in l}, l a list of tuples of keys -/
theorem pe_scT {ϑ : Jx X.K} (hu : X.A.units + 16 < cLine) (hc : X.calm = true) (hN : X.N.Nodup) (hl : PE X l (tE (kxj X ϑ) E g)) (ok : BlkOk X.N X.env.scope scope [(x, i)])
    (hg : ∀ (s : Shared) (H : Hp) (C : Addr) (cl : List (Str × Addr)) (fp : List Addr), PG (X.blk s H scope (compEnvC scope cl C X.env) fp) (.Name x np1) (gName i)) (he : ∀ (s : Shared) (H : Hp) (C : Addr) (cl : List (Str × Addr)) (fp : List Addr), PE (X.blk s H scope (compEnvC scope cl C X.env) fp) (.Name x np2) (tVar i)) (hi : i < X.N.length) (hs : ∀ x, foldedSetIterable l X.env x = pure x := by intro _; rfl) :
    PE X (.SetComp (.Name x np2) [⟨.Name x np1, l, [], 0⟩] scope pos) (fun σ H Q => tE (kxj X ϑ) E g σ H fun y H1 => ∃ a ks, y = .ref a ∧ H1 a = some (.lst (refsOf ks)) ∧ (∀ p ∈ ks, SqT X.K H1 p.1 (p.2.map kV)) ∧ ks.length < 75 ∧ ∀ D L, H1 D = none → GotT ks L → Q (.ref D) (upd H1 D (SetUO (kT X.prog X.w) D L))) := by
  refine ⟨fun pins sh σ H Q I h => ?_⟩
  have hσ : i < σ.length := by rw [I.len]; exact hi
  refine (pe_sc (S0 := fun D => SetUO (kT X.prog X.w) D []) (rA := rAddT X) (fun h H => setUO_ok (setU_new h)) (fun Y e1 e2 e3 e4 => mt_addT' (by rw [e3]; omega) e1 e2 e4) hc hN (pi_list hl) ok hg (fun _ _ _ _ _ => pts_nil) he hs).run pins sh σ H Q I ?_
  refine tM.imp h fun y H1 ⟨a, ks, ey, ha, hk, hlen, q⟩ => ⟨a, ey, ⟨_, SqL.of ha⟩, fun D hD => ?_⟩
  have na : a ≠ D := ne_of_none ha hD
  have sq : ∀ o, SqL X.K (upd H1 D o) a (refsOf ks) := fun o => SqL.of (by rw [upd_ne na]; exact ha)
  have st : ∀ o, Stay X.K H1 (upd H1 D o) := fun o => Stay.new hD
  refine ⟨fun j m H' => j ≤ ks.length ∧ m = ks.length - j ∧ ∃ L, L.length ≤ j ∧ GotT (ks.take j) L ∧ H' = upd H1 D (SetUO (kT X.prog X.w) D L), ⟨ks.length, Nat.zero_le _, rfl, [], Nat.le_refl _, ⟨fun p hp => absurd hp List.not_mem_nil, fun p hp => by simp at hp⟩, rfl⟩, ?_⟩
  rintro j m H' ⟨hj, rfl, L, hL, gt, rfl⟩
  by_cases hlt : j < ks.length
  · have hk1 : ks[j]? = some ks[j] := List.getElem?_eq_getElem hlt
    have hk2 : (refsOf ks)[j]? = some (.ref ks[j].1) := by rw [List.getElem?_map, hk1]; rfl
    refine .inr ⟨⟨_, _, sq _, hk2⟩, fun H' => ∃ L, L.length ≤ j + 1 ∧ GotT (ks.take (j + 1)) L ∧ H' = upd H1 D (SetUO (kT X.prog X.w) D L), fun H' e => ⟨ks.length - (j + 1), by omega, hlt, rfl, e⟩, fun v H' yl => ?_⟩
    obtain ⟨rfl, yl⟩ := yl
    have ev := yl _ (sq _)
    rw [hk2] at ev
    cases ev
    refine ⟨?_, ?_⟩
    · show ((σ.set i none).set i (some (.ref ks[j].1))).set i none = σ.set i none
      rw [List.set_set, List.set_set]
    · refine ⟨.ref ks[j].1, List.getElem?_set_self (by rw [wipe_length]; exact hσ), D, ks[j].1, L, ks[j].2, rfl, rfl, upd_same, fun p hp => (st _).t _ _ (hk p (List.mem_of_mem_take (gt.sub p hp))), (st _).t _ _ (hk _ (List.getElem_mem hlt)), by omega, fun L' c1 c2 => ⟨L', GotT.few (ks := ks) hL c1 c2, ?_, by rw [upd_upd]⟩⟩
      rw [List.take_add_one, hk1]
      exact gt.step c1 c2
  · have e : j = ks.length := by omega
    subst e
    refine .inl ⟨⟨_, sq _, by rw [List.length_map]; exact Nat.le_refl _⟩, ?_⟩
    rw [List.take_length] at gt
    exact q D L hD gt
end
/-! ### sorting -/
section
open Classical in
/-- the key of a value, by a list that tells it -/
noncomputable def kfOf (L : List (Addr × List Key)) (v : Value) : List Key := if h : ∃ q ∈ L, v = Value.ref q.1 then h.choose.2 else []
def adrOf : Value → Addr
  | .ref b => b
  | _ => 0
variable {P : Program} {w : World} {A : Around} {E : Value → Shared → Prop} {s : Shared}
theorem kfOf_at {h : Heap} {L : List (Addr × List Key)} (hk : ∀ q ∈ L, IsTupleKey (mixKind P w) h q.2 q.1) {q : Addr × List Key} (hq : q ∈ L) : kfOf L (.ref q.1) = q.2 := by
  have ex : ∃ r ∈ L, Value.ref q.1 = Value.ref r.1 := ⟨q, hq, rfl⟩
  unfold kfOf
  rw [dif_pos ex]
  obtain ⟨m, e⟩ := ex.choose_spec
  have a1 := hk _ m
  injection e with e
  rw [← e] at a1
  exact a1.inj (hk q hq)
/-- values that are those of a list, in another order -/
theorem back_refs {h : Heap} {L : List (Addr × List Key)} (hk : ∀ q ∈ L, IsTupleKey (mixKind P w) h q.2 q.1) {out : List Value} (pm : out.Perm (refsV L)) : ∃ L', out = refsV L' ∧ L'.Perm L ∧ L'.map (·.2) = out.map (kfOf L) := by
  have mem : ∀ v ∈ out, ∃ q ∈ L, v = Value.ref q.1 := fun v hv => by
    obtain ⟨q, hq, e⟩ := List.mem_map.mp (pm.mem_iff.mp hv)
    exact ⟨q, hq, e.symm⟩
  refine ⟨out.map fun v => (adrOf v, kfOf L v), ?_, ?_, ?_⟩
  · show out = List.map _ (List.map _ out)
    rw [List.map_map]
    refine (List.map_id out).symm.trans (List.map_congr_left fun v hv => ?_)
    obtain ⟨q, _, rfl⟩ := mem v hv
    rfl
  · have z : (out.map fun v => (adrOf v, kfOf L v)).Perm (List.map _ (List.map _ L)) := pm.map fun v => (adrOf v, kfOf L v)
    rw [List.map_map] at z
    have e : L.map ((fun v => (adrOf v, kfOf L v)) ∘ fun p => Value.ref p.1) = L := by
      refine (List.map_congr_left fun q hq => ?_).trans (List.map_id L)
      show (q.1, kfOf L (.ref q.1)) = q
      rw [kfOf_at hk hq]
    rw [e] at z
    exact z
  · rw [List.map_map]
    rfl
theorem sorted_refs {h : Heap} {L : List (Addr × List Key)} (hk : ∀ q ∈ L, IsTupleKey (mixKind P w) h q.2 q.1) {out : List Value} (hs : SrtO.Srtd (fun v u => ltT (kfOf L v) (kfOf L u)) out) (pm : out.Perm (refsV L)) : ∃ L', out = refsV L' ∧ L'.Perm L ∧ L'.map (·.2) = sortB ltT (L.map (·.2)) := by
  obtain ⟨L', e1, e2, e3⟩ := back_refs hk pm
  refine ⟨L', e1, e2, sortB_of lin_tup (e2.map (·.2)) ?_⟩
  rw [e3]
  exact List.pairwise_map.mpr hs
theorem swo_kf (L : List (Addr × List Key)) : SrtO.Swo fun v u : Value => ltT (kfOf L v) (kfOf L u) := ⟨fun x y => lin_tup.swo.asym _ _, fun x y z => lin_tup.swo.tr _ _ _⟩
theorem map_kf {h : Heap} {L : List (Addr × List Key)} (hk : ∀ q ∈ L, IsTupleKey (mixKind P w) h q.2 q.1) : (refsV L).map (kfOf L) = L.map (·.2) := by
  show List.map _ (List.map _ L) = _
  rw [List.map_map]
  exact List.map_congr_left fun q hq => kfOf_at hk hq
theorem sortable_L {L : List (Addr × List Key)} {a : Addr} (h2 : 2 ≤ (refsV L).length) (hk : ∀ q ∈ L, IsTupleKey (mixKind P w) s.heap q.2 q.1) (ok : sortOk (L.map (·.2)) = true) (ha : ∀ o, s.heap.get? a = some o → o.cls ≠ .type "tuple") : SrtO.SortableO P w A s a (refsV L) fun v u => ltT (kfOf L v) (kfOf L u) := by
  refine sortable_T h2 (fun v hv => ?_) (by rw [map_kf hk]; exact ok) ha
  obtain ⟨q, hq, rfl⟩ := List.mem_map.mp hv
  exact ⟨q.1, rfl, by rw [kfOf_at hk hq]; exact hk q hq⟩
theorem keep_isK {h h' : Heap} {k : List Key} {b : Addr} (x : IsTupleKey (mixKind P w) h k b) (hk : ∀ c o, h.get? c = some o → h'.get? c = some o) : IsTupleKey (mixKind P w) h' k b := by
  obtain ⟨o, its, n, ho, r⟩ := x
  exact ⟨o, its, n, hk b o ho, r⟩
/-- sorted(l), l a list of tuples of keys -/
theorem sorted_lT {l : Addr} {L : List (Addr × List Key)} {Q : Value → Shared → Prop} (hl : s.heap.IsList l (refsV L).toArray) (hz : L.length ≤ sizeLine) (hk : ∀ q ∈ L, IsTupleKey (mixKind P w) s.heap q.2 q.1) (ok : sortOk (L.map (·.2)) = true)
    (q : ∀ (h' : Heap) (d : Addr) (L' : List (Addr × List Key)), L'.Perm L → L'.map (·.2) = sortB ltT (L.map (·.2)) → (∀ b o, s.heap.get? b = some o → h'.get? b = some o) → s.heap.objs.size ≤ d → (∃ n, h'.get? d = some (seqObj "list" (refsV L').toArray n)) → Q (.ref d) { s with heap := h' }) :
    wpAny (model P w) A (call (.builtin "sorted") [.ref l]) Q E s := by
  refine SrtO.sorted_ord (swo_kf L) hl (by rw [List.length_map]; exact hz) (fun h2 h₁ a ha kk => ?_) fun out hs hb => ?_
  · refine sortable_L (s := { s with heap := h₁ }) h2 (fun r hr => keep_isK (hk r hr) fun b o e => (kk b o e).2) ok fun o e => ?_
    have e' : some o = some (seqObj "list" (refsV L).toArray 0) := e.symm.trans ha
    cases e'
    intro c
    exact absurd (Value.type.inj c) (by decide)
  · obtain ⟨L', e1, e2, e3⟩ := sorted_refs hk hs hb.perm
    subst e1
    exact q _ _ L' e2 e3 (fun b o e => sortedAll_old e) (Nat.le_succ _) (sortedAll_at s.heap _ _)
/-- sorted(s), s such a set -/
theorem sorted_sT {a : Addr} {L : List (Addr × List Key)} {es : Array (Int × Value)} {ep : Nat} {t : SetTable} {Q : Value → Shared → Prop} (U : SetU (kT P w) s.heap a L es ep t) (hh : A.handled = none) (ok : ∀ L1 : List (Addr × List Key), L1.Perm L → sortOk (L1.map (·.2)) = true)
    (q : ∀ (s' : Shared) (d : Addr) (L' : List (Addr × List Key)), L'.Perm L → L'.map (·.2) = sortB ltT (L.map (·.2)) → (∀ b o, s.heap.get? b = some o → s'.heap.get? b = some o) → s'.gens = s.gens → s'.os = s.os → s.heap.objs.size ≤ d → (∃ n, s'.heap.get? d = some (seqObj "list" (refsV L').toArray n)) → Q (.ref d) s') :
    wpAny (model P w) A (call (.builtin "sorted") [.ref a]) Q E s := by
  obtain ⟨o, ho, hex, hd⟩ := U.ob
  have hsz := U.size
  have few := U.few
  refine Calls.call_function_entry kind_sorted plain_sorted entry_sorted (args_sorted1 _) ?_
  unfold Builtin.«sorted»
  refine wpAny_bind (m := checkCount "sorted" 1 1 _) (wpAny_pure ?_)
  refine wpAny_bind (collect_set (A := A.in1) hh ⟨o, ho, hex.1, hd⟩ U.fits (by unfold scanBound; omega) U.tab.ris U.led fun s1 vs k1 hz g1 o1 pm => ?_)
  have e0 : es.toList.map (·.2) = refsV L := by
    rw [U.rows, List.map_map]
    rfl
  rw [e0] at pm
  obtain ⟨L1, rfl, p1, _⟩ := back_refs (P := P) (w := w) U.mem pm
  have l1 : L1.length < 76 := by rw [p1.length_eq]; exact few
  refine wpAny_bind (wpAny_newList ?_ (by rw [sizeLine_eq, List.length_map]; omega))
  have hoL : (s1.heap.push (seqObj "list" (refsV L1).toArray 0)).get? s1.heap.objs.size = some (seqObj "list" (refsV L1).toArray 0) := Heap.get?_push_size _ rfl
  have keep1 : ∀ b u, s.heap.get? b = some u → (s1.heap.push (seqObj "list" (refsV L1).toArray 0)).get? b = some u := fun b u e => Heap.get?_push_of_some _ (k1 b u e)
  have m1 : ∀ r ∈ L1, IsTupleKey (mixKind P w) (s1.heap.push (seqObj "list" (refsV L1).toArray 0)) r.2 r.1 := fun r hr => keep_isK (U.mem r (p1.mem_iff.mp hr)) keep1
  refine wpAny_bind (wpAny_holding (wpAny_call_entry slot_list_sort ⟨_, hoL, rfl⟩ entry_list_sort (SrtO.list_sort_ord (s := { s1 with heap := s1.heap.push (seqObj "list" (refsV L1).toArray 0) }) (swo_kf L1) hoL (by rw [sizeLine_eq, List.length_map]; omega) (fun h2 => ?_) fun out hs hb => ⟨_, rfl, ?_⟩) (args_list_sort _)))
  · refine sortable_L h2 m1 (ok L1 p1) fun u e => ?_
    have e' : some u = some (seqObj "list" (refsV L1).toArray 0) := e.symm.trans hoL
    cases e'
    intro c
    exact absurd (Value.type.inj c) (by decide)
  · obtain ⟨L', e1, e2, e3⟩ := sorted_refs m1 hs hb.perm
    subst e1
    have e4 : sortB ltT (L1.map (·.2)) = sortB ltT (L.map (·.2)) := sortB_of lin_tup ((sortB_perm _).trans (p1.map (·.2))) (sortB_srtd lin_tup _)
    refine wpAny_pure ⟨_, rfl, q _ s1.heap.objs.size L' (e2.trans p1) (e3.trans e4) (fun b u e => ?_) g1 o1 hz (sortedHeap_at hoL)⟩
    have lt := Heap.lt_size (k1 b u e)
    show (sortedHeap (s1.heap.push (seqObj "list" (refsV L1).toArray 0)) s1.heap.objs.size (refsV L1) (refsV L').toArray).get? b = some u
    rw [sortedHeap_old (Nat.ne_of_lt lt) (by rw [size_push']; exact Nat.lt_succ_of_lt lt)]
    exact keep1 b u e
end
section
variable {X : Cx}
def rSortLT (X : Cx) : List V → Hp → VK → Prop := fun xs H Q => ∃ (a : Addr) (L : List (Addr × List Key)), xs = [V.ref a] ∧ SqL X.K H a (refsOf L) ∧ (∀ p ∈ L, SqT X.K H p.1 (p.2.map kV)) ∧ sortOk (L.map (·.2)) = true ∧
  ∀ (L' : List (Addr × List Key)) (d : Addr), L'.Perm L → L'.map (·.2) = sortB ltT (L.map (·.2)) → H d = none → Q (.ref d) (upd H d (.lst (refsOf L')))
theorem cr_sortLT : CallR X (.builtin "sorted") (rSortLT X) := by
  intro pins s σ H xs us Q I r h
  obtain ⟨a, L, rfl, hl, hk, ok, q⟩ := h
  rw [Vals.ref1 r]
  obtain ⟨its, rv, pl, hz⟩ := I.list hl
  have ei := refs_vals rv
  subst ei
  have hz' : L.length ≤ sizeLine := by rw [List.length_map] at hz; exact hz
  refine sorted_lT pl.isList hz' (fun p hp => inv_isK I (hk p hp)) ok fun h' d L' pm e kp hd ⟨n, hn⟩ => ?_
  exact ⟨.ref d, upd H d (.lst (refsOf L')), I.laid (t' := s.toks) kp hd ⟨by rw [List.length_map, pm.length_eq]; exact hz', refsV L', n, vals_refs L', hn⟩, rfl, q L' d pm e (I.hok.fresh hd)⟩
def rSortST (X : Cx) : List V → Hp → VK → Prop := fun xs H Q => ∃ (a : Addr) (L : List (Addr × List Key)), xs = [V.ref a] ∧ H a = some (SetUO (kT X.prog X.w) a L) ∧ (∀ p ∈ L, SqT X.K H p.1 (p.2.map kV)) ∧ (∀ L1 : List (Addr × List Key), L1.Perm L → sortOk (L1.map (·.2)) = true) ∧
  ∀ (L' : List (Addr × List Key)) (d : Addr), L'.Perm L → (L.map (·.2)).Nodup → L'.map (·.2) = sortB ltT (L.map (·.2)) → H d = none → Q (.ref d) (upd H d (.lst (refsOf L')))
theorem cr_sortST (hc : X.calm = true) : CallR X (.builtin "sorted") (rSortST X) := by
  intro pins s σ H xs us Q I r h
  obtain ⟨a, L, rfl, ha, hk, ok, q⟩ := h
  rw [Vals.ref1 r]
  have U0 : SetU0 (kT X.prog X.w) s.heap a L := (I.hok a _ ha).1
  obtain ⟨es, ep, t, U⟩ := U0.full fun p hp => inv_isK I (hk p hp)
  refine sorted_sT U (I.ok.hd hc) ok fun s' d L' pm e kp g o hd ⟨n, hn⟩ => ?_
  have few : L'.length < 76 := by rw [pm.length_eq]; exact U.few
  have J : Inv X pins σ (upd H d (.lst (refsOf L'))) { s with heap := s'.heap, gens := s'.gens, drawn := s'.drawn, toks := s'.toks } :=
    I.call (ch := []) (Un.laid kp hd (I.hok.fresh hd)) (I.hok.laid kp hd ⟨by rw [List.length_map, sizeLine_eq]; omega, refsV L', n, vals_refs L', hn⟩) (by rw [g]; exact I.bare) (fun _ z => nomatch z)
  have e' : s' = { s with heap := s'.heap, gens := s'.gens, drawn := s'.drawn, toks := s'.toks } := by
    cases s'
    cases s
    cases o
    rfl
  rw [e']
  exact ⟨.ref d, _, J, rfl, q L' d pm U.nd e (I.hok.fresh hd)⟩
end
end Wo
set_option autoImplicit true
set_option maxRecDepth 100000
set_option maxHeartbeats 4000000
namespace Wo
open PySem PySem.Spec PyProof.Rows L2
/-! W53: sorted({x for x in l}), sorted(l) of tuples; d.get; d[k] += z. -/
namespace M
/-- tuples of keys -/
def tupsW : List W → Option (List (List Key))
  | [] => some []
  | .tup ws :: r => match keysW ws, tupsW r with
    | some k, some ks => some (k :: ks)
    | _, _ => none
  | _ :: _ => none
def tupW (k : List Key) : W := .tup (k.map keyW)
def hasT (L : List (List Key)) (k : List Key) : Bool := L.any fun j => decide (j = k)
def addU (L : List (List Key)) (k : List Key) : List (List Key) := if hasT L k = true then L else L ++ [k]
def uniqT (l : List (List Key)) : List (List Key) := l.foldl addU []
def sortSetTW (w : W) (S : Store) : Rs W := match w with
  | .ref r => match S[r]? with
    | some (.lst xs) => match tupsW xs with
      | some ks => if ks.length < 75 ∧ sortOk ks = true then .ok (.ref S.length) (S ++ [.lst ((sortB ltT (uniqT ks)).map tupW)]) else .no
      | none => .no
    | _ => .no
  | _ => .no
def sorted3W : List W → Store → Rs W := fun ws S => match ws with
  | [.ref r] => match S[r]? with
    | some (.lst (x :: xs)) => match tupsW (x :: xs) with
      | some ks => if sortOk ks = true then .ok (.ref S.length) (S ++ [.lst ((sortB ltT ks).map tupW)]) else .no
      | none => sorted2W [.ref r] S
    | _ => sorted2W [.ref r] S
  | ws => sorted2W ws S
def getM : W → List W → Store → Rs W := fun x ws S => match x, ws with
  | .ref r, [k] => match S[r]?, keyOf k with
    | some (.dK kvs), some kk => .ok ((valW kvs kk).getD .non) S
    | _, _ => .no
  | .ref r, [k, z] => match S[r]?, keyOf k with
    | some (.dK kvs), some kk => .ok ((valW kvs kk).getD z) S
    | _, _ => .no
  | _, _ => .no
def dputW (o i v : W) (S : Store) : Rs W := match o with
  | .ref r => match S[r]?, keyOf i with
    | some (.dK kvs), some k => if kvs.length < lim then .ok .non (S.set r (.dK (putW kvs k v))) else .no
    | _, _ => .no
  | _ => .no
/-- d[k] op= z -/
def augSub (g : G2) (o i e : ME) : MS := thenS (fun f S => (o f S).bind fun x S1 => (i f S1).bind fun y S2 => (dgetW x y S2).bind fun v S3 => (e f S3).bind fun z S4 => (g v z S4).bind fun n S5 => dputW x y n S5) fun _ f S => .ok (.next f) S
def iaddI : G2 := fun a b S => match a, b with
  | .int i, .int j => .ok (.int (i + j)) S
  | _, _ => .no
end M
theorem key_rel {K : PySem.W.Frag} {m : List Addr} {H : Hp} {w : W} {v : V} {k : Key} (h : M.keyOf w = some k) (r : RV K m H w v) : v = kV k := by
  cases r <;> simp only [M.keyOf] at h <;> first | (cases h; rfl) | cases h
theorem keyW_rel {K : PySem.W.Frag} {m : List Addr} {H : Hp} (k : Key) : RV K m H (M.keyW k) (kV k) := by
  cases k with
  | inl i => exact .int i
  | inr x => exact .str x
theorem keysW_map {K : PySem.W.Frag} {m : List Addr} {H : Hp} : ∀ k : List Key, RVs K m H (k.map M.keyW) (k.map kV)
  | [] => .nil
  | k :: ks => .cons (keyW_rel k) (keysW_map ks)
theorem tups_rel {K : PySem.W.Frag} {m : List Addr} {H : Hp} : ∀ {xs : List W} {vs : List V} {ks : List (List Key)}, M.tupsW xs = some ks → RVs K m H xs vs → ∃ L : List (Addr × List Key), vs = refsOf L ∧ L.map (·.2) = ks ∧ ∀ p ∈ L, SqT K H p.1 (p.2.map kV)
  | [], _, ks, h, .nil => by
    cases h
    exact ⟨[], rfl, rfl, fun p hp => absurd hp List.not_mem_nil⟩
  | w :: xs, _, ks, h, .cons r t => by
    unfold M.tupsW at h
    split at h
    · cases ‹_ = [] ›
    · rename_i ws xs' e
      cases e
      split at h
      · rename_i k ks' h1 h2
        cases h
        obtain ⟨L, e1, e2, e3⟩ := tups_rel h2 t
        cases r with
        | @tup a _ us sq ru =>
          have := keys_rel h1 ru
          subst this
          refine ⟨(a, k) :: L, by rw [e1]; rfl, by rw [List.map_cons, e2], fun p hp => ?_⟩
          rcases List.mem_cons.mp hp with rfl | hp
          · exact sq
          · exact e3 p hp
      · cases h
    · cases h
theorem refs_rel {K : PySem.W.Frag} {m : List Addr} {H : Hp} : ∀ {L : List (Addr × List Key)}, (∀ p ∈ L, SqT K H p.1 (p.2.map kV)) → RVs K m H ((L.map (·.2)).map M.tupW) (refsOf L)
  | [], _ => .nil
  | p :: L, h => .cons (.tup (h p List.mem_cons_self) (keysW_map _)) (refs_rel fun q hq => h q (List.mem_cons_of_mem _ hq))
theorem hasT_iff {L : List (List Key)} {k : List Key} : M.hasT L k = true ↔ k ∈ L := by
  unfold M.hasT
  rw [List.any_eq_true]
  constructor
  · rintro ⟨j, h1, h2⟩
    have := of_decide_eq_true h2
    subst this
    exact h1
  · exact fun h => ⟨k, h, decide_eq_true rfl⟩
theorem uniqT_mem : ∀ (l acc : List (List Key)) (x : List Key), x ∈ l.foldl M.addU acc ↔ x ∈ acc ∨ x ∈ l
  | [], acc, x => by simp
  | k :: l, acc, x => by
    rw [List.foldl_cons, uniqT_mem l]
    unfold M.addU
    split
    · rename_i h
      constructor
      · rintro (h1 | h1)
        · exact .inl h1
        · exact .inr (List.mem_cons_of_mem _ h1)
      · rintro (h1 | h1)
        · exact .inl h1
        · rcases List.mem_cons.mp h1 with rfl | h1
          · exact .inl (hasT_iff.mp h)
          · exact .inr h1
    · simp only [List.mem_append, List.mem_cons, List.not_mem_nil, or_false]
      exact or_assoc
theorem uniqT_nd : ∀ (l acc : List (List Key)), acc.Nodup → (l.foldl M.addU acc).Nodup
  | [], acc, h => h
  | k :: l, acc, h => by
    rw [List.foldl_cons]
    refine uniqT_nd l _ ?_
    unfold M.addU
    split
    · exact h
    · rename_i hk
      rw [List.nodup_append]
      refine ⟨h, List.nodup_cons.mpr ⟨by simp, List.nodup_nil⟩, fun x hx y hy e => ?_⟩
      have := List.mem_singleton.mp hy
      subst this
      subst e
      exact hk (hasT_iff.mpr hx)
/-- the set's things are those of the row, each once -/
theorem uniq_perm {ks : List (List Key)} {ls : List (List Key)} (nd : ls.Nodup) (h1 : ∀ x ∈ ls, x ∈ ks) (h2 : ∀ x ∈ ks, x ∈ ls) : ls.Perm (M.uniqT ks) := by
  refine (List.perm_ext_iff_of_nodup nd (uniqT_nd ks [] List.nodup_nil)).mpr fun x => ?_
  show _ ↔ x ∈ ks.foldl M.addU []
  rw [uniqT_mem]
  simp only [List.not_mem_nil, false_or]
  exact ⟨h1 x, h2 x⟩
section
variable {X : Cx} {E : EX} {x : Str} {i : Nat} {l : Expr} {scope : Scope} {pos p cpos np1 np2 : Pos} {g : ME}
/-- sorted({x for x in l}), l a list of tuples -/
theorem e_sortSetT {ϑ : Jx X.K} (hm : X.mg "sorted" = none) (rm : Rc X) (hN : X.N.Nodup) (hl : PE X l (tE (kxj X ϑ) E g)) (ok : BlkOk X.N X.env.scope scope [(x, i)])
    (hg : ∀ (s : Shared) (H : Hp) (C : Addr) (cl : List (Str × Addr)) (fp : List Addr), PG (X.blk s H scope (compEnvC scope cl C X.env) fp) (.Name x np1) (gName i)) (he : ∀ (s : Shared) (H : Hp) (C : Addr) (cl : List (Str × Addr)) (fp : List Addr), PE (X.blk s H scope (compEnvC scope cl C X.env) fp) (.Name x np2) (tVar i)) (hi : i < X.N.length := by exact Nat.le_of_ble_eq_true rfl) (hs : ∀ x, foldedSetIterable l X.env x = pure x := by intro _; rfl)
    (hgl : Gl X "sorted" := by rfl) (he1 : starEach [.SetComp (.Name x np2) [⟨.Name x np1, l, [], 0⟩] scope pos] X.env = (false, eval (.SetComp (.Name x np2) [⟨.Name x np1, l, [], 0⟩] scope pos) X.env) :: starEach [] X.env := by rfl) :
    PE X (.Call (.Name "sorted" p) [.SetComp (.Name x np2) [⟨.Name x np1, l, [], 0⟩] scope pos] [] cpos) (tE (kxj X ϑ) E (M.op1 M.sortSetTW g)) := by
  have hu : X.A.units + 16 < cLine := by have := rm.un; omega
  refine PE.imp (pe_callB (cr_sortST rm.calm) hgl hm (by decide +kernel) (pa_cons (pe_scT hu rm.calm hN hl ok hg he hi hs) pa_nil he1) (by decide) (by decide) he1 rfl) fun s H Q q => ?_
  refine tM.imp (tE.one q) fun v H1 ⟨m, S, w, rs, rv, q⟩ => ?_
  unfold M.sortSetTW at q
  cases rv with
  | @ref r a hr =>
    dsimp only at q
    split at q <;> try exact False.elim q
    rename_i xs e
    split at q <;> try exact False.elim q
    rename_i ks hk
    split at q <;> try exact False.elim q
    rename_i hc
    obtain ⟨vs, h1, h2⟩ := rs.ob _ _ _ e hr
    obtain ⟨L0, e1, e2, e3⟩ := tups_rel hk h2
    subst e1
    have ln : L0.length < 75 := by
      have := congrArg List.length e2
      rw [List.length_map] at this
      omega
    refine ⟨a, L0, rfl, h1, e3, ln, fun D L hD gt => ?_⟩
    have st : Stay X.K H1 (upd H1 D (SetUO (kT X.prog X.w) D L)) := Stay.new hD
    have sq : ∀ p ∈ L, SqT X.K (upd H1 D (SetUO (kT X.prog X.w) D L)) p.1 (p.2.map kV) := fun p hp => st.t _ _ (e3 p (gt.sub p hp))
    have sub : ∀ y ∈ L.map (·.2), y ∈ ks := fun y hy => by
      obtain ⟨p, hp, rfl⟩ := List.mem_map.mp hy
      rw [← e2]
      exact List.mem_map.mpr ⟨p, gt.sub p hp, rfl⟩
    refine ⟨D, L, rfl, upd_same, sq, fun L1 p1 => sortOk_sub (fun y hy => sub y ((p1.map (·.2)).mem_iff.mp hy)) hc.2, fun L' d pm nd es hd => ?_⟩
    have pu : (L.map (·.2)).Perm (M.uniqT ks) := uniq_perm nd sub fun y hy => by
      rw [← e2] at hy
      obtain ⟨p, hp, rfl⟩ := List.mem_map.mp hy
      exact gt.all p hp
    have es2 : L'.map (·.2) = sortB ltT (M.uniqT ks) := es.trans (sortB_of lin_tup ((sortB_perm _).trans pu) (sortB_srtd lin_tup _))
    have rv' : RVs X.K m (upd H1 D (SetUO (kT X.prog X.w) D L)) ((sortB ltT (M.uniqT ks)).map M.tupW) (refsOf L') := by
      rw [← es2]
      exact refs_rel fun p hp => sq p (pm.mem_iff.mp hp)
    obtain ⟨a1, a2, a3, a4⟩ := (rs.grow (o := SetUO (kT X.prog X.w) D L) hD).newList hd rv'
    exact q _ _ _ a1 (st.trans a2) a3 a4
  | _ => exact False.elim q
theorem c_sorted3 {E : XK} (rm : Rc X) : CallR X (.builtin "sorted") (rWs (kxj X ϑ) E M.sorted3W) := by
  intro pins s σ H xs us Q I r h
  obtain ⟨m, S, ws, rs, rv, q⟩ := h
  have old : Post (kxj X ϑ) E (RV X.K) m H (M.sorted2W ws S) Q → wpAny (model X.prog X.w) X.A (call (.builtin "sorted") us) (EP X pins σ Q) X.xe s := fun q => c_sorted2 (E := E) rm pins s σ H xs us Q I r ⟨m, S, ws, rs, rv, q⟩
  unfold M.sorted3W at q
  split at q
  · rename_i rr
    split at q
    · rename_i x0 xs0 e
      split at q
      · rename_i ks hk
        split at q
        · rename_i ok
          obtain ⟨v, rfl, r1⟩ := rvs1 rv
          cases r1 with
          | @ref _ a hr =>
            obtain ⟨vs, h1, h2⟩ := rs.ob _ _ _ e hr
            obtain ⟨L, e1, e2, e3⟩ := tups_rel hk h2
            subst e1
            refine cr_sortLT pins s σ H _ us Q I r ⟨a, L, rfl, SqL.of h1, e3, by rw [e2]; exact ok, fun L' d pm es hd => ?_⟩
            rw [e2] at es
            have rv' : RVs X.K m H ((sortB ltT ks).map M.tupW) (refsOf L') := by
              rw [← es]
              exact refs_rel fun p hp => e3 p (pm.mem_iff.mp hp)
            obtain ⟨a1, a2, a3, a4⟩ := rs.newList hd rv'
            exact q _ _ _ a1 a2 a3 a4
        · exact False.elim q
      · exact old q
    · exact old q
  · exact old q
theorem m_get {E : XK} (rm : Rm X) : MtR X "dict.get" (rMth (kxj X ϑ) E M.getM) := by
  have hu : X.A.units + 1 < cLine := by have := rm.un; omega
  intro pins s σ H x xs v us Q I rx rxs h
  obtain ⟨m, S, a, ws, rs, ra, rw', q⟩ := h
  unfold M.getM at q
  split at q
  · rename_i r k
    split at q <;> try exact False.elim q
    rename_i kvs kk e hk
    cases ra with
    | @ref _ a1 hr =>
      cases rx
      obtain ⟨z, rfl, rz⟩ := rvs1 rw'
      obtain ⟨u, rfl, ru⟩ := vals1 rxs
      obtain ⟨ls, e1, rk⟩ := rs.ob _ _ _ e hr
      obtain ⟨i1, i2⟩ := valW_rel (k := kk) rk
      have ey := key_rel hk rz
      cases hv : M.valW kvs kk with
      | some w1 =>
        rw [hv] at q
        obtain ⟨v', hv', rv⟩ := i1 w1 hv
        exact d_get1 hu I (o := some v') (.inl ⟨ls, kk, .inl e1, ey, hv'.symm⟩) ru fun w' s' I' r' => ⟨_, H, I', r', q.here rs rv⟩
      | none =>
        rw [hv] at q
        exact d_get1 hu I (o := none) (.inl ⟨ls, kk, .inl e1, ey, (i2 hv).symm⟩) ru fun w' s' I' r' => ⟨_, H, I', r', q.here rs .non⟩
  · rename_i r k z0
    split at q <;> try exact False.elim q
    rename_i kvs kk e hk
    cases ra with
    | @ref _ a1 hr =>
      cases rx
      obtain ⟨z, z2, rfl, rz, rz2⟩ := rvs2 rw'
      obtain ⟨u, u2, rfl, ru, ru2⟩ := vals2 rxs
      obtain ⟨ls, e1, rk⟩ := rs.ob _ _ _ e hr
      obtain ⟨i1, i2⟩ := valW_rel (k := kk) rk
      have ey := key_rel hk rz
      cases hv : M.valW kvs kk with
      | some w1 =>
        rw [hv] at q
        obtain ⟨v', hv', rv⟩ := i1 w1 hv
        exact d_get2 hu I (o := some v') (.inl ⟨ls, kk, .inl e1, ey, hv'.symm⟩) ru ru2 fun w' s' I' r' => ⟨_, H, I', r', q.here rs rv⟩
      | none =>
        rw [hv] at q
        exact d_get2 hu I (o := none) (.inl ⟨ls, kk, .inl e1, ey, (i2 hv).symm⟩) ru ru2 fun w' s' I' r' => ⟨_, H, I', r', q.here rs rz2⟩
  · exact False.elim q
theorem in_iadd {E : XK} : InOp X .Add (rW (kxj X ϑ) E M.iaddI) := by
  intro pins s σ H x y u v Q I rx ry h
  obtain ⟨m, S, a, b, rs, ra, rb, q⟩ := h
  unfold M.iaddI at q
  split at q
  · cases ra
    cases rb
    exact ip_add pins s σ H _ _ u v Q I rx ry ⟨_, _, rfl, rfl, q.here rs (.int _)⟩
  · exact False.elim q
/-- d[k] += z -/
theorem s_daug {o ix e : Expr} {go gi ge : ME} {tpos : Pos} {op : Operator} {gop : G2} (rm : Rm X) (hop : ∀ E, InOp X op (rW (kxj X ϑ) E gop)) (ho : PE X o (tE (kxj X ϑ) E go)) (hi : PE X ix (tE (kxj X ϑ) E gi)) (he : PE X e (tE (kxj X ϑ) E ge))
    (ha : ∀ ov iv new, augStore ix ov iv new = (do holding [new, ov, iv] (setItem ov iv new); release [new, ov, iv] []; pure .next) := by intros; rfl) : PS X (.AugAssign (.Subscript o ix tpos) op e pos) (tS (kxj X ϑ) E (M.augSub gop go gi ge)) := by
  have hu : X.A.units + 1 < cLine := by have := rm.un; omega
  refine ⟨fun pins sh s H D I h => ?_⟩
  refine (ps_daug (rd := rW (kxj X ϑ) (E s) gop) hu ho hi he (hop (E s)) ha).run pins sh s H D I ?_
  have h := tS.first (R := fun _ _ (_ : W) (_ : Unit) => True) h
  obtain ⟨m, S, f, rs, rf, q⟩ := h
  refine ⟨m, S, f, rs, rf, (Post.bind (R := RV X.K) q).imp fun x H1 ⟨m1, S1, a, p1, st1, rs1, ra, q1⟩ => ⟨m1, S1, f, rs1, rf.mono p1 st1, (Post.bind (R := RV X.K) q1).imp fun y H2 ⟨m2, S2, b, p2, st2, rs2, rb, q2⟩ => ?_⟩⟩
  have ra2 := ra.mono p2 st2
  unfold M.dgetW at q2
  cases ra2 with
  | @ref r ad hr =>
    dsimp only at q2
    split at q2 <;> try exact False.elim q2
    rename_i kvs e
    split at q2 <;> try exact False.elim q2
    rename_i kk hk
    split at q2 <;> try exact False.elim q2
    rename_i v0 hv
    rw [Rs.bind_ok] at q2
    obtain ⟨ls, e1, rk⟩ := rs2.ob _ _ _ e hr
    obtain ⟨i1, i2⟩ := valW_rel (k := kk) rk
    obtain ⟨v', hv', rv⟩ := i1 v0 hv
    have ey := key_rel hk rb
    refine ⟨ad, v', rfl, .inl ⟨ls, kk, .inl e1, ey, hv'.symm⟩, m2, S2, f, rs2, (rf.mono p1 st1).mono p2 st2, (Post.bind (R := RV X.K) q2).imp fun z H3 ⟨m3, S3, c, p3, st3, rs3, rc, q3⟩ => ?_⟩
    refine ⟨m3, S3, v0, c, rs3, rv.mono p3 st3, rc, (Post.bind (R := RV X.K) q3).imp fun n H4 ⟨m4, S4, d, p4, st4, rs4, rd, q4⟩ => ?_⟩
    have hr4 := p4.get (p3.get hr)
    unfold M.dputW at q4
    dsimp only at q4
    split at q4 <;> try exact False.elim q4
    rename_i kv4 k4 e4 hk4
    split at q4 <;> try exact False.elim q4
    rename_i hl
    rw [hk] at hk4
    cases hk4
    obtain ⟨l4, g1, g2⟩ := rs4.ob _ _ _ e4 hr4
    have so : Soft (H4 ad) := by rw [g1]; trivial
    subst ey
    refine ⟨_, DPut.k (k := kk) g1 (by rw [← rkv_len g2]; exact lim_lt hl), ?_⟩
    obtain ⟨mm, SS, ff, aa, z1, z2, _, z3⟩ := q4 m4 _ () (List.prefix_refl _) (Stay.upd so) (rs4.put e4 hr4 ⟨_, upd_same, (rkv_put rd g2).mono (List.prefix_refl _) (Stay.upd so)⟩) trivial
    exact z3 mm _ s (List.prefix_refl _) (Stay.refl _) z1 z2
  | _ => exact False.elim q2
end
end Wo
set_option autoImplicit true
set_option maxRecDepth 100000
set_option maxHeartbeats 4000000
namespace Wo
open PySem PySem.Spec PyProof.Rows L2
/-! W54: calls whose arguments are plain things, or flat lists and dicts: the callee runs in a store of its own; what it made is gone behind it, but what it tells. -/
namespace M
mutual
def pureW : W → Bool
  | .ref _ => false
  | .tup xs => pureWs xs
  | .fl xs => pureWs xs
  | _ => true
def pureWs : List W → Bool
  | [] => true
  | w :: ws => pureW w && pureWs ws
end
def pureKV {κ : Type} : List (κ × W) → Bool
  | [] => true
  | p :: r => pureW p.2 && pureKV r
def flatO : Ob → Bool
  | .lst xs => pureWs xs
  | .dK kvs => pureKV kvs
  | .dT kvs => pureKV kvs
  | _ => false
/-- the lists and dicts among the arguments -/
def argRefs : List W → List Nat
  | .ref r :: ws => r :: argRefs ws
  | _ :: ws => argRefs ws
  | [] => []
def argIn : Nat → List W → List W
  | n, .ref _ :: ws => .ref n :: argIn (n + 1) ws
  | n, w :: ws => w :: argIn n ws
  | _, [] => []
def argOk : List W → Bool
  | .ref _ :: ws => argOk ws
  | w :: ws => pureW w && argOk ws
  | [] => true
def pick (S : Store) : List Nat → Option (List Ob)
  | [] => some []
  | r :: l => match S[r]?, pick S l with
    | some o, some os => if flatO o = true then some (o :: os) else none
    | _, _ => none
def putBack : Store → List Nat → Store → Store
  | S, r :: l, o :: os => putBack (S.set r o) l os
  | S, _, _ => S
def ndB : List Nat → Bool
  | [] => true
  | x :: l => !(l.any fun y => decide (y = x)) && ndB l
/-- what is told, taken out of the callee's store -/
def outW (n : Nat) (w : W) (S' S : Store) : Rs W := match w with
  | .ref r => if n ≤ r then match S'[r]? with
    | some o => if flatO o = true then .ok (.ref S.length) (S ++ [o]) else .no
    | none => .no
    else .no
  | w => if pureW w = true then .ok w S else .no
def outX (e : Xn) (S : Store) : Rs W := match e.fld with
  | none => .ex e S
  | some fs => if pureKV fs = true then .ex e S else .no
def allFlat : Nat → Store → Bool
  | 0, _ => true
  | n + 1, o :: S => flatO o && allFlat n S
  | _ + 1, [] => false
def pureFn (g : List W → Store → Rs W) : List W → Store → Rs W := fun ws S => if (argOk ws && ndB (argRefs ws)) = true then match pick S (argRefs ws) with
  | some os => match g (argIn 0 ws) os with
    | .ok w S' => if allFlat os.length S' = true then outW os.length w S' (putBack S (argRefs ws) S') else .no
    | .ex e S' => if allFlat os.length S' = true then outX e (putBack S (argRefs ws) S') else .no
    | .no => .no
  | none => .no
  else .no
end M
theorem ndB_iff : ∀ {l : List Nat}, M.ndB l = true → l.Nodup
  | [], _ => List.nodup_nil
  | x :: l, h => by
    simp only [M.ndB, Bool.and_eq_true, Bool.not_eq_true', List.any_eq_false, decide_eq_true_eq] at h
    exact List.nodup_cons.mpr ⟨fun z => h.1 x z rfl, ndB_iff h.2⟩
theorem pick_at {S : Store} : ∀ {l : List Nat} {os : List Ob}, M.pick S l = some os → os.length = l.length ∧ ∀ (i : Nat) (r : Nat), l[i]? = some r → ∃ o, os[i]? = some o ∧ S[r]? = some o ∧ M.flatO o = true
  | [], os, h => by
    cases h
    exact ⟨rfl, fun i r e => by simp at e⟩
  | r :: l, os, h => by
    unfold M.pick at h
    split at h
    · rename_i o os' e1 e2
      split at h
      · rename_i hf
        cases h
        obtain ⟨a1, a2⟩ := pick_at e2
        refine ⟨by rw [List.length_cons, List.length_cons, a1], fun i q e => ?_⟩
        cases i with
        | zero =>
          simp at e
          subst e
          exact ⟨o, rfl, e1, hf⟩
        | succ i => exact a2 i q (by simpa using e)
      · cases h
    · cases h
theorem putBack_len : ∀ (l : List Nat) (S S' : Store), (M.putBack S l S').length = S.length
  | [], S, S' => by unfold M.putBack; rfl
  | r :: l, S, [] => by unfold M.putBack; rfl
  | r :: l, S, o :: S' => by
    unfold M.putBack
    rw [putBack_len l, List.length_set]
theorem putBack_out : ∀ (l : List Nat) (S S' : Store) (r : Nat), r ∉ l → (M.putBack S l S')[r]? = S[r]?
  | [], S, S', r, _ => by unfold M.putBack; rfl
  | q :: l, S, [], r, _ => by unfold M.putBack; rfl
  | q :: l, S, o :: S', r, h => by
    unfold M.putBack
    rw [putBack_out l _ _ r fun z => h (List.mem_cons_of_mem _ z), List.getElem?_set_ne fun z => h (by rw [z]; exact List.mem_cons_self)]
theorem putBack_in : ∀ (l : List Nat) (S S' : Store) (i r : Nat) (o : Ob), l.Nodup → l[i]? = some r → S'[i]? = some o → r < S.length → (M.putBack S l S')[r]? = some o
  | [], S, S', i, r, o, _, h, _, _ => by simp at h
  | q :: l, S, [], i, r, o, _, _, h, _ => by simp at h
  | q :: l, S, o' :: S', i, r, o, nd, h1, h2, hr => by
    obtain ⟨n1, n2⟩ := List.nodup_cons.mp nd
    unfold M.putBack
    cases i with
    | zero =>
      simp at h1 h2
      subst h1
      subst h2
      rw [putBack_out l _ _ q n1]
      exact List.getElem?_set_self hr
    | succ i => exact putBack_in l _ _ i r o n2 (by simpa using h1) (by simpa using h2) (by rw [List.length_set]; exact hr)
theorem allFlat_at : ∀ {n : Nat} {S : Store} {i : Nat}, M.allFlat n S = true → i < n → ∃ o, S[i]? = some o ∧ M.flatO o = true
  | 0, S, i, _, h => absurd h (Nat.not_lt_zero _)
  | n + 1, [], i, h, _ => by cases h
  | n + 1, o :: S, i, h, hi => by
    simp only [M.allFlat, Bool.and_eq_true] at h
    cases i with
    | zero => exact ⟨o, rfl, h.1⟩
    | succ i =>
      obtain ⟨o', h1, h2⟩ := allFlat_at (S := S) (i := i) h.2 (by omega)
      exact ⟨o', by simpa using h1, h2⟩
section
variable {K : PySem.W.Frag} {m m' : List Addr} {H : Hp}
mutual
theorem RV.anyM : ∀ {w : W} {v : V}, M.pureW w = true → RV K m H w v → RV K m' H w v
  | _, _, _, .non => .non
  | _, _, _, .bl b => .bl b
  | _, _, _, .int i => .int i
  | _, _, _, .str x => .str x
  | _, _, _, .ty n => .ty n
  | _, _, h, .ref _ => by simp [M.pureW] at h
  | _, _, h, .tup s t => .tup s (RVs.anyM (by simpa [M.pureW] using h) t)
  | _, _, h, .fl s t => .fl s (RVs.anyM (by simpa [M.pureW] using h) t)
theorem RVs.anyM : ∀ {ws : List W} {vs : List V}, M.pureWs ws = true → RVs K m H ws vs → RVs K m' H ws vs
  | _, _, _, .nil => .nil
  | _, _, h, .cons r t => by
    simp only [M.pureWs, Bool.and_eq_true] at h
    exact .cons (RV.anyM h.1 r) (RVs.anyM h.2 t)
end
theorem paired_any {κ : Type} {l : List (κ × W)} {l' : List (κ × V)} (h : M.pureKV l = true) (r : Paired (fun p q => p.1 = q.1 ∧ RV K m H p.2 q.2) l l') : Paired (fun p q => p.1 = q.1 ∧ RV K m' H p.2 q.2) l l' := by
  induction r with
  | nil => exact .nil
  | cons h1 t ih =>
    simp only [M.pureKV, Bool.and_eq_true] at h
    exact .cons ⟨h1.1, h1.2.anyM h.1⟩ (ih h.2)
theorem RO.anyM {o : Ob} {a : Addr} (h : M.flatO o = true) (r : RO K m H o a) : RO K m' H o a := by
  cases o with
  | lst xs =>
    obtain ⟨vs, h1, h2⟩ := r
    exact ⟨vs, h1, h2.anyM h⟩
  | dK kvs =>
    obtain ⟨ls, h1, h2⟩ := r
    exact ⟨ls, h1, paired_any h h2⟩
  | dT kvs =>
    obtain ⟨ls, h1, h2⟩ := r
    exact ⟨ls, h1, paired_any h h2⟩
  | exc C fs => cases h
  | ins C fs => cases h
  | hid => cases h
theorem argIn_len : ∀ (ws : List W) (n : Nat), (M.argIn n ws).length = ws.length
  | [], _ => rfl
  | w :: ws, n => by
    cases w <;> simp only [M.argIn, List.length_cons, argIn_len ws]
/-- the arguments as the callee sees them -/
theorem args_in {m1 : List Addr} : ∀ {ws : List W} {vs : List V} (n : Nat), M.argOk ws = true → (∀ (i r : Nat), (M.argRefs ws)[i]? = some r → ∀ a, m[r]? = some a → m1[n + i]? = some a) → RVs K m H ws vs → RVs K m1 H (M.argIn n ws) vs
  | [], _, n, _, _, .nil => .nil
  | w :: ws, _, n, ok, h, .cons r t => by
    cases w with
    | ref q =>
      cases r with
      | ref hr =>
        refine .cons (.ref (h 0 q rfl _ hr)) (args_in (n + 1) ok (fun i r e a ha => ?_) t)
        have := h (i + 1) r (by simpa [M.argRefs] using e) a ha
        rw [show n + (i + 1) = n + 1 + i by omega] at this
        exact this
    | _ =>
      simp only [M.argOk, Bool.and_eq_true] at ok
      exact .cons (r.anyM ok.1) (args_in n ok.2 (fun i r e a ha => h i r (by simpa [M.argRefs] using e) a ha) t)
/-- the caller's store, but for what was handed in -/
structure Rest (ϑ : Jx K) (m : List Addr) (S : Store) (l : List Nat) (H : Hp) : Prop where
  jn : ϑ.J m H
  dj : ∀ a, ϑ.fr a → a ∉ m ∧ H a ≠ none
  ob : ∀ (r : Nat) (o : Ob) (a : Addr), r ∉ l → S[r]? = some o → m[r]? = some a → RO K m H o a
def jBeside (ϑ : Jx K) (m : List Addr) (S : Store) (l : List Nat) : Jx K where
  sl := none
  J := fun _ H => Rest ϑ m S l H
  fr := fun a => (∃ i : Nat, m[i]? = some a ∧ i ∉ l) ∨ ϑ.fr a
  st := fun {_ _ H H'} _ st fx rs => by
    refine ⟨ϑ.st (List.prefix_refl _) st (fun a fa => fx a (.inr fa)) rs.jn, fun a fa => ⟨(rs.dj a fa).1, by rw [fx a (.inr fa)]; exact (rs.dj a fa).2⟩, fun r o a hr h1 h2 => ?_⟩
    exact (rs.ob r o a hr h1 h2).mono (List.prefix_refl _) st (fx a (.inl ⟨r, h2, hr⟩))
  nn := rfl
theorem RS.lt {K : Kx} {m : List Addr} {S : Store} {H : Hp} (rs : RS K m S H) {r : Nat} {o : Ob} (h : S[r]? = some o) : ∃ a, m[r]? = some a ∧ RO K m H o a := by
  obtain ⟨a, ha⟩ := rs.addr h
  exact ⟨a, ha, rs.ob r o a h ha⟩
theorem beside {ϑ : Jx K} {S : Store} {l : List Nat} {os : List Ob} (rs : RS ⟨K, ϑ⟩ m S H) (nd : l.Nodup) (hp : M.pick S l = some os) : ∃ m1, RS ⟨K, jBeside ϑ m S l⟩ m1 os H ∧ m1.length = l.length ∧ ∀ (i r : Nat), l[i]? = some r → ∀ a, m[r]? = some a → m1[i]? = some a := by
  obtain ⟨hl, hat⟩ := pick_at hp
  have at1 : ∀ (i r : Nat), l[i]? = some r → ∀ a, m[r]? = some a → (l.map fun r => m.getD r 0)[i]? = some a := fun i r h a ha => by
    rw [List.getElem?_map, h]
    simp [List.getD_eq_getElem?_getD, ha]
  have back : ∀ (i : Nat) (a : Addr), (l.map fun r => m.getD r 0)[i]? = some a → ∃ r o, l[i]? = some r ∧ m[r]? = some a ∧ os[i]? = some o ∧ S[r]? = some o ∧ M.flatO o = true := fun i a h => by
    rw [List.getElem?_map] at h
    cases e : l[i]? with
    | none => rw [e] at h; cases h
    | some r =>
      obtain ⟨o, o1, o2, o3⟩ := hat i r e
      obtain ⟨b, hb, _⟩ := rs.lt o2
      rw [e] at h
      simp [List.getD_eq_getElem?_getD, hb] at h
      subst h
      exact ⟨r, o, rfl, hb, o1, o2, o3⟩
  refine ⟨l.map fun r => m.getD r 0, ⟨⟨rs.jn, rs.dj, fun r o a _ h1 h2 => rs.ob r o a h1 h2⟩, fun a fa => ?_, by rw [List.length_map, hl], ?_, fun i o a h1 h2 => ?_⟩, List.length_map _, at1⟩
  · rcases fa with ⟨i, hi, hn⟩ | fa
    · refine ⟨fun z => ?_, ?_⟩
      · obtain ⟨j, hj⟩ := List.getElem?_of_mem z
        obtain ⟨r, o, e1, e2, _⟩ := back j a hj
        have : i = r := nodupA rs.nd hi e2
        subst this
        exact hn (List.mem_of_getElem? e1)
      · obtain ⟨o, ho⟩ := rs.obj hi
        obtain ⟨u, hu, _⟩ := (rs.ob i o a ho hi).some
        rw [hu]
        exact fun z => nomatch z
    · refine ⟨fun z => ?_, (rs.dj a fa).2⟩
      obtain ⟨j, hj⟩ := List.getElem?_of_mem z
      obtain ⟨r, o, e1, e2, _⟩ := back j a hj
      exact (rs.dj a fa).1 (List.mem_of_getElem? e2)
  · refine List.pairwise_iff_getElem.mpr fun i j hi hj hij e => ?_
    have ei := List.getElem?_eq_getElem hi
    have ej := List.getElem?_eq_getElem hj
    obtain ⟨r, _, e1, e2, _⟩ := back i _ ei
    obtain ⟨r', _, e1', e2', _⟩ := back j _ ej
    rw [e] at e2
    have : r = r' := nodupA rs.nd e2 e2'
    subst this
    have := (List.getElem?_inj (List.getElem?_eq_some_iff.mp e1).1 nd).mp (e1.trans e1'.symm)
    omega
  · obtain ⟨r, o', e1, e2, e3, e4, e5⟩ := back i a h2
    have h1 : os[i]? = some o := h1
    rw [e3] at h1
    cases h1
    exact (rs.ob r _ a e4 e2).anyM e5
/-- behind the call: the caller's store is told again -/
theorem beside_rs {ϑ : Jx K} {S S' : Store} {l : List Nat} {os : List Ob} {m1 : List Addr} {H H' : Hp} (rs : RS ⟨K, ϑ⟩ m S H) (nd : l.Nodup) (hp : M.pick S l = some os) (l1 : m1.length = l.length) (at1 : ∀ (i r : Nat), l[i]? = some r → ∀ a, m[r]? = some a → m1[i]? = some a) (pm : Pre m1 m')
    (rs' : RS ⟨K, jBeside ϑ m S l⟩ m' S' H') (fl : M.allFlat os.length S' = true) : RS ⟨K, ϑ⟩ m (M.putBack S l S') H' := by
  have rest : Rest ϑ m S l H' := rs'.jn
  obtain ⟨hl, hat⟩ := pick_at hp
  refine ⟨rest.jn, rest.dj, by rw [putBack_len]; exact rs.len, rs.nd, fun r o a h1 h2 => ?_⟩
  by_cases hr : r ∈ l
  · obtain ⟨i, hi⟩ := List.getElem?_of_mem hr
    obtain ⟨o0, o1, o2, _⟩ := hat i r hi
    have il : i < os.length := (List.getElem?_eq_some_iff.mp o1).1
    obtain ⟨o', e1, e2⟩ := allFlat_at fl il
    rw [putBack_in l S S' i r o' nd hi e1 (List.getElem?_eq_some_iff.mp o2).1] at h1
    cases h1
    exact (rs'.ob i _ a e1 (pm.get (at1 i r hi a h2))).anyM e2
  · rw [putBack_out l S S' r hr] at h1
    exact rest.ob r o a hr h1 h2
theorem beside_out {ϑ : Jx K} {S S' : Store} {l : List Nat} {os : List Ob} {m1 : List Addr} {E : XK} {Q : VK} {H H' : Hp} {w : W} {b : V} (rs : RS ⟨K, ϑ⟩ m S H) (nd : l.Nodup) (hp : M.pick S l = some os) (l1 : m1.length = l.length) (at1 : ∀ (i r : Nat), l[i]? = some r → ∀ a, m[r]? = some a → m1[i]? = some a) (pm : Pre m1 m')
    (rs' : RS ⟨K, jBeside ϑ m S l⟩ m' S' H') (fl : M.allFlat os.length S' = true) (rv : RV K m' H' w b) (st : Stay K H H') (q : Post ⟨K, ϑ⟩ E (RV K) m H (M.outW os.length w S' (M.putBack S l S')) Q) : Q b H' := by
  have rs0 := beside_rs rs nd hp l1 at1 pm rs' fl
  obtain ⟨hl, hat⟩ := pick_at hp
  generalize M.putBack S l S' = S0 at rs0 q
  unfold M.outW at q
  split at q
  · rename_i r
    cases rv with
    | @ref _ a hr =>
      split at q <;> try exact False.elim q
      rename_i hn
      split at q <;> try exact False.elim q
      rename_i o ho
      split at q <;> try exact False.elim q
      rename_i hf
      have ro := rs'.ob r o a ho hr
      have am : a ∉ m := fun z => by
        obtain ⟨i, hi⟩ := List.getElem?_of_mem z
        by_cases hil : i ∈ l
        · obtain ⟨j, hj⟩ := List.getElem?_of_mem hil
          have := nodupA rs'.nd (pm.get (at1 j i hj a hi)) hr
          have jl : j < l.length := (List.getElem?_eq_some_iff.mp hj).1
          omega
        · exact (rs'.dj a (.inl ⟨i, hi, hil⟩)).1 (List.mem_of_getElem? hr)
      have af : ¬ ϑ.fr a := fun z => (rs'.dj a (.inr z)).1 (List.mem_of_getElem? hr)
      have pr : Pre m (m ++ [a]) := List.prefix_append _ _
      have rs2 : RS ⟨K, ϑ⟩ (m ++ [a]) (S0 ++ [o]) H' := by
        refine ⟨ϑ.st pr (Stay.refl _) (fun _ _ => rfl) rs0.jn, fun c fc => ⟨fun z => (List.mem_append.mp z).elim (rs0.dj c fc).1 fun z => af (by rw [← List.mem_singleton.mp z]; exact fc), (rs0.dj c fc).2⟩, by rw [List.length_append, List.length_append, rs0.len]; rfl, ?_, fun i c d h1 h2 => ?_⟩
        · rw [List.nodup_append]
          refine ⟨rs0.nd, List.nodup_cons.mpr ⟨by simp, List.nodup_nil⟩, fun x hx y hy e => ?_⟩
          have e2 : y = a := by simpa using hy
          subst e2
          subst e
          exact am hx
        · by_cases hi : i < S0.length
          · rw [List.getElem?_append_left hi] at h1
            rw [List.getElem?_append_left (by rw [rs0.len]; exact hi)] at h2
            exact (rs0.ob i c d h1 h2).mono pr (Stay.refl _) rfl
          · have hi' : S0.length ≤ i := Nat.le_of_not_lt hi
            rw [List.getElem?_append_right hi'] at h1
            rw [List.getElem?_append_right (by rw [rs0.len]; exact hi')] at h2
            have e0 : i - S0.length = 0 := by
              have := (List.getElem?_eq_some_iff.mp h1).1
              simp at this
              omega
            rw [rs0.len, e0] at h2
            rw [e0] at h1
            simp at h1 h2
            subst h1
            subst h2
            exact ro.anyM hf
      refine q (m ++ [a]) H' _ pr st rs2 (.ref ?_)
      rw [← rs0.len]
      exact List.getElem?_concat_length
  · split at q
    · rename_i hp
      exact q m H' b (List.prefix_refl _) st rs0 (rv.anyM hp)
    · exact False.elim q
theorem beside_ex {ϑ : Jx K} {S0 : Store} {E : XK} {Q : VK} {H H' : Hp} {e : Xn} {d : Option Addr} (rs0 : RS ⟨K, ϑ⟩ m S0 H') (rx : RX K m' H' e d) (st : Stay K H H') (q : Post ⟨K, ϑ⟩ E (RV K) m H (M.outX e S0) Q) : E (.ref (clA K e.cls)) d H' := by
  unfold M.outX at q
  unfold RX at rx
  split at q
  · rename_i e0
    refine q m H' d (List.prefix_refl _) st rs0 ?_
    unfold RX
    rw [e0] at rx ⊢
    cases d with
    | none => trivial
    | some a => exact rx
  · rename_i fs e0
    split at q
    · rename_i hp
      refine q m H' d (List.prefix_refl _) st rs0 ?_
      unfold RX
      rw [e0] at rx ⊢
      cases d with
      | none => exact rx
      | some a =>
        obtain ⟨vs, h1, h2⟩ := rx
        exact ⟨vs, h1, paired_any hp h2⟩
    · exact False.elim q
end
section
variable {X : Cx} {k : Nat} {f : Addr} {fd : FuncData} {ps : List Str} {x : Str} {p pos : Pos} {e : Expr} {es : List Expr} {E : EX}
theorem sp1_pure {K : PySem.W.Frag} {j : Jx K} {n : Nat} {g : List W → Store → Rs W} (hl : ∀ ws S, ws.length ≠ n → g ws S = .no) {vs : List V} {H : Hp} {Q : VK} {E : XK} (h : rWs ⟨K, j⟩ E (M.pureFn g) vs H Q) : sp1 K n g vs H Q E := by
  obtain ⟨m, S, ws, rs, rv, q⟩ := h
  unfold M.pureFn at q
  split at q <;> try exact False.elim q
  rename_i hp
  rw [Bool.and_eq_true] at hp
  split at q <;> try exact False.elim q
  rename_i os hk
  have nd := ndB_iff hp.2
  obtain ⟨m1, rs1, l1, at1⟩ := beside rs nd hk
  have wl := argIn_len ws 0
  by_cases hw : ws.length = n
  · refine ⟨rv.length.symm.trans hw, jBeside j m S (M.argRefs ws), m1, os, M.argIn 0 ws, rs1, args_in 0 hp.1 (fun i r e a ha => by rw [Nat.zero_add]; exact at1 i r e a ha) rv, ?_⟩
    cases eg : g (M.argIn 0 ws) os with
    | no =>
      rw [eg] at q
      exact q
    | ok w S' =>
      rw [eg] at q
      dsimp only at q
      split at q <;> try exact False.elim q
      rename_i fl
      exact fun m' H' b pm st rs' rb => beside_out rs nd hk l1 at1 pm rs' fl rb st q
    | ex e S' =>
      rw [eg] at q
      dsimp only at q
      split at q <;> try exact False.elim q
      rename_i fl
      exact fun m' H' d pm st rs' rx => beside_ex (beside_rs rs nd hk l1 at1 pm rs' fl) rx st q
  · rw [hl _ os (by rw [wl]; exact hw)] at q
    exact False.elim q
theorem sp0_pure {K : PySem.W.Frag} {j : Jx K} {n : Nat} {g : List W → Store → Rs W} (hl : ∀ ws S, ws.length ≠ n → g ws S = .no) {vs : List V} {H : Hp} {Q : VK} {E : XK} (h : rWs ⟨K, j⟩ X0 (M.pureFn g) vs H Q) : sp0 K n g vs H Q E := sp1_pure hl h
/-- a def called with plain things -/
theorem e_fnP {ϑ : Jx X.K} {g : List W → Store → Rs W} {gs : MA} (D : Dn X.prog X.w X.K X.mg X.base k x ps g f fd) (hl : ∀ ws S, ws.length ≠ ps.length → g ws S = .no) (rm : Rc X) (hr : Room k X.A)
    (ha : PA X (e :: es) (tA (kxj X ϑ) EX0 gs)) (hg : Gl X x := by rfl) (hdb : (x == ("__debug__" : Str)) = false := by decide) (he : starEach (e :: es) X.env = (false, eval e X.env) :: starEach es X.env := by rfl) (hpl : (backTo pos (starEach es X.env)).any (·.1) = false := by rfl) :
    PE X (.Call (.Name x p) (e :: es) [] pos) (tE (kxj X ϑ) EX0 (M.ops (M.pureFn g) gs)) :=
  PE.imp (call_G D.ok hr rm.g hg D.at_ D.kp D.bd (pass0 (X := X)) ha hdb he hpl) fun s H Q q => tM.imp (tE.many q) fun vs H1 h => sp0_pure hl h
/-- .. where something may be raised -/
theorem e_fnQP {ϑ : Jx X.K} {g : List W → Store → Rs W} {gs : MA} (D : Dn X.prog X.w X.K X.mg X.base k x ps g f fd) (hl : ∀ ws S, ws.length ≠ ps.length → g ws S = .no) (rm : Rc X) (hr : Room k X.A)
    (ha : PA X (e :: es) (tA (kxj X ϑ) E gs)) (hg : Gl X x := by rfl) (hdb : (x == ("__debug__" : Str)) = false := by decide) (he : starEach (e :: es) X.env = (false, eval e X.env) :: starEach es X.env := by rfl) (hpl : (backTo pos (starEach es X.env)).any (·.1) = false := by rfl) :
    PE X (.Call (.Name x p) (e :: es) [] pos) (tE (kxj X ϑ) E (M.ops (M.quiet (M.pureFn g)) gs)) :=
  PE.imp (call_G D.ok hr rm.g hg D.at_ D.kp D.bd (pass0 (X := X)) ha hdb he hpl) fun s H Q q => tM.imp (tE.many q) fun vs H1 ⟨m, S, ws, rs, rv, q⟩ => by
    refine sp0_pure (E := X0) (j := ϑ) hl ⟨m, S, ws, rs, rv, ?_⟩
    unfold M.quiet at q
    cases eg : M.pureFn g ws S with
    | ok a S1 =>
      rw [eg] at q
      exact q
    | ex e S1 =>
      rw [eg] at q
      exact False.elim q
    | no =>
      rw [eg] at q
      exact False.elim q
/-- a def that may raise, called with plain things -/
theorem e_fnXP {ϑ : Jx X.K} {g : List W → Store → Rs W} {gs : MA} (D : DnX X.prog X.w X.K X.mg X.base k x ps g f fd) (hl : ∀ ws S, ws.length ≠ ps.length → g ws S = .no) (rm : Rc X) (hr : Room k X.A) (tk : Takes X (fun cls d s H => E s cls d H))
    (ha : PA X (e :: es) (tA (kxj X ϑ) E gs)) (hg : Gl X x := by rfl) (hdb : (x == ("__debug__" : Str)) = false := by decide) (he : starEach (e :: es) X.env = (false, eval e X.env) :: starEach es X.env := by rfl) (hpl : (backTo pos (starEach es X.env)).any (·.1) = false := by rfl) :
    PE X (.Call (.Name x p) (e :: es) [] pos) (tE (kxj X ϑ) E (M.ops (M.pureFn g) gs)) := by
  refine ⟨fun pins s σ H Q I h => wpAny_Call_Name_kw (ld_glob I hg D.at_ ?_ hdb)⟩
  refine PySem.W.callWith_K (h₀ := X.base) I.ok.mod.kin D.kp (thn (ha.run pos pins s σ H _ I (tE.many h)) ?_) he hpl
  rintro us s1 ⟨vs, H1, I1, r, q⟩
  refine ⟨I1.kIn, ?_⟩
  have sp := sp1_pure hl q
  have hlen : us.length = ps.length := r.length.symm.trans sp.1
  have bd := D.bd s1 us I1.kIn (by rw [List.append_nil]; exact hlen)
  rw [List.append_nil] at bd
  refine wpAny_call (codeAny_mono (D.ok.run X.A X.stack s1 H1 ⟨us, []⟩ us vs Q (E σ) hr rm.g I1.env0 bd r sp) ?_)
  rintro (ex | (_ | _ | _ | u)) s' hq
  · exact tk ex s' (XE.of_call I1 (fun cls d H' z => z) hq)
  · exact False.elim hq
  · exact False.elim hq
  · exact False.elim hq
  · exact I1.after hq
end
end Wo
set_option autoImplicit true
set_option maxRecDepth 100000
set_option maxHeartbeats 4000000
namespace Wo
open PySem PySem.Spec PyProof.Rows L2
/-! W55: a suite run in a store of its own: names bound to what lives in the store are forgotten ahead of it and behind it. -/
namespace M
def dropF : Fr → Fr
  | [] => []
  | none :: f => none :: dropF f
  | some w :: f => (if pureW w = true then some w else none) :: dropF f
def pureS (g : MS) : MS := fun f S => match g (dropF f) [] with
  | .ok (.next f') _ => .ok (.next (dropF f')) S
  | .ok (.brk f') _ => .ok (.brk (dropF f')) S
  | .ok (.cont f') _ => .ok (.cont (dropF f')) S
  | .ok (.ret w) S' => (match outW 0 w S' S with
    | .ok w' S2 => .ok (.ret w') S2
    | _ => .no)
  | .ex _ _ _ => .no
  | .no => .no
end M
theorem dropF_at : ∀ {f : Fr} {i : Nat} {w : W}, (M.dropF f)[i]? = some (some w) → f[i]? = some (some w) ∧ M.pureW w = true
  | [], i, w, h => by simp [M.dropF] at h
  | none :: f, 0, w, h => by simp [M.dropF] at h
  | none :: f, i + 1, w, h => by
    obtain ⟨h1, h2⟩ := dropF_at (f := f) (i := i) (w := w) (by simpa [M.dropF] using h)
    exact ⟨by simpa using h1, h2⟩
  | some u :: f, 0, w, h => by
    simp only [M.dropF, List.getElem?_cons_zero, Option.some.injEq] at h
    split at h
    · cases h
      exact ⟨rfl, by assumption⟩
    · cases h
  | some u :: f, i + 1, w, h => by
    obtain ⟨h1, h2⟩ := dropF_at (f := f) (i := i) (w := w) (by simpa [M.dropF] using h)
    exact ⟨by simpa using h1, h2⟩
theorem dropF_len : ∀ f : Fr, (M.dropF f).length = f.length
  | [] => rfl
  | none :: f => by simp [M.dropF, dropF_len f]
  | some u :: f => by simp [M.dropF, dropF_len f]
theorem dropF_rf {K : PySem.W.Frag} {j j' : Jx K} {m m' : List Addr} {H : Hp} {f : Fr} {s : L2.St} (h : RF ⟨K, j⟩ m H f s) : RF ⟨K, j'⟩ m' H (M.dropF f) s := by
  refine ⟨by rw [dropF_len]; exact h.1, fun i w e => ?_, fun i v e => by rw [j'.nn] at e; cases e⟩
  obtain ⟨e1, e2⟩ := dropF_at e
  obtain ⟨v, h1, h2⟩ := h.2.1 i w e1
  exact ⟨v, h1, RV.anyM e2 h2⟩
theorem rest_rs {K : PySem.W.Frag} {ϑ : Jx K} {m : List Addr} {S : Store} {H H' : Hp} (rs : RS ⟨K, ϑ⟩ m S H) (r : Rest ϑ m S [] H') : RS ⟨K, ϑ⟩ m S H' :=
  ⟨r.jn, r.dj, rs.len, rs.nd, fun i o a h1 h2 => r.ob i o a List.not_mem_nil h1 h2⟩
section
variable {X : Cx} {E : EX} {sts : List Stmt} {g : MS}
theorem tS_pure {K : PySem.W.Frag} {ϑ : Jx K} {D : Ends} {s : L2.St} {H : Hp} (h : tS ⟨K, ϑ⟩ E (M.pureS g) D s H) : ∃ ϑ' : Jx K, tS ⟨K, ϑ'⟩ E g D s H := by
  obtain ⟨m, S, f, rs, rf, q⟩ := h
  obtain ⟨m1, rs1, l1, at1⟩ := beside (l := []) (os := []) rs List.nodup_nil rfl
  have e1 : m1 = [] := List.eq_nil_of_length_eq_zero l1
  subst e1
  refine ⟨jBeside ϑ m S [], [], [], M.dropF f, rs1, dropF_rf rf, ?_⟩
  unfold M.pureS at q
  cases e : g (M.dropF f) [] with
  | no =>
    rw [e] at q
    exact q
  | ex x f' S' =>
    rw [e] at q
    exact False.elim q
  | ok l S' =>
    rw [e] at q
    cases l with
    | next f' => exact fun m' H' s' pm st rs' rf' => q m H' s' (List.prefix_refl _) st (rest_rs rs rs'.jn) (dropF_rf rf')
    | brk f' => exact fun m' H' s' pm st rs' rf' => q m H' s' (List.prefix_refl _) st (rest_rs rs rs'.jn) (dropF_rf rf')
    | cont f' => exact fun m' H' s' pm st rs' rf' => q m H' s' (List.prefix_refl _) st (rest_rs rs rs'.jn) (dropF_rf rf')
    | ret w =>
      dsimp only at q
      intro m' H' v pm st rs' rv
      refine beside_out (l := []) (os := []) (m1 := []) (E := X0) rs List.nodup_nil rfl rfl at1 pm rs' rfl rv st ?_
      show Post ⟨K, ϑ⟩ X0 (RV K) m H (M.outW 0 w S' (M.putBack S [] S')) D.rt
      have e0 : M.putBack S [] S' = S := by unfold M.putBack; rfl
      rw [e0]
      cases eo : M.outW 0 w S' S with
      | ok w' S2 =>
        rw [eo] at q
        exact q
      | ex x S2 =>
        rw [eo] at q
        exact False.elim q
      | no =>
        rw [eo] at q
        exact False.elim q
theorem ss_pure {ϑ : Jx X.K} (h : ∀ ϑ : Jx X.K, PSs X sts (tS (kxj X ϑ) E g)) : PSs X sts (tS (kxj X ϑ) E (M.pureS g)) := by
  refine ⟨fun pins sh s H D I q => ?_⟩
  obtain ⟨ϑ', q'⟩ := tS_pure q
  exact (h ϑ').run pins sh s H D I q'
end
/-! ### wishes -/
namespace K
def pS (S : Store) (P : PstS) : PstS := ⟨fun f _ => P.nx (M.dropF f) S, fun w S' => Wp (M.outW 0 w S' S) ⟨P.rt, fun _ _ => False⟩, fun _ _ _ => False⟩
end K
theorem ws_pure (g : MS) (f : Fr) (S : Store) (P : PstS) (h : WpS (g (M.dropF f) []) (K.pS S P)) : WpS (M.pureS g f S) P := by
  unfold M.pureS
  cases e : g (M.dropF f) [] with
  | no =>
    rw [e] at h
    exact h
  | ex x f' S' =>
    rw [e] at h
    exact h.elim
  | ok l S' =>
    rw [e] at h
    cases l with
    | next f' => exact h
    | brk f' => exact h.elim
    | cont f' => exact h.elim
    | ret w =>
      have h : Wp (M.outW 0 w S' S) ⟨P.rt, fun _ _ => False⟩ := h
      dsimp only
      cases eo : M.outW 0 w S' S with
      | ok w' S2 =>
        rw [eo] at h
        exact h
      | ex x S2 =>
        rw [eo] at h
        exact h.elim
      | no =>
        rw [eo] at h
        exact h.elim
theorem out_bl (n : Nat) (b : Bool) (S' S : Store) : M.outW n (.bl b) S' S = .ok (.bl b) S := rfl
theorem out_int (n : Nat) (i : Int) (S' S : Store) : M.outW n (.int i) S' S = .ok (.int i) S := rfl
theorem out_pure {n : Nat} {w : W} (h : M.pureW w = true) (S' S : Store) : M.outW n w S' S = .ok w S := by
  unfold M.outW
  split
  · simp [M.pureW] at h
  · rw [if_pos h]
theorem out_ref {n r : Nat} {o : Ob} {S' S : Store} (hn : n ≤ r) (h : S'[r]? = some o) (hf : M.flatO o = true) : M.outW n (.ref r) S' S = .ok (.ref S.length) (S ++ [o]) := by
  unfold M.outW
  dsimp only
  rw [if_pos hn, h]
  dsimp only
  rw [if_pos hf]
theorem argPure : ∀ {ws : List W} (n : Nat), M.pureWs ws = true → M.argRefs ws = [] ∧ M.argOk ws = true ∧ M.argIn n ws = ws
  | [], _, _ => ⟨rfl, rfl, rfl⟩
  | w :: ws, n, h => by
    simp only [M.pureWs, Bool.and_eq_true] at h
    obtain ⟨a1, a2, a3⟩ := argPure (ws := ws) n h.2
    cases w with
    | ref r =>
      have := h.1
      simp [M.pureW] at this
    | _ => exact ⟨by simp only [M.argRefs, a1], by simp only [M.argOk, a2, h.1, Bool.and_self], by simp only [M.argIn, a3]⟩
/-- a call with plain things -/
theorem pure_call {g : List W → Store → Rs W} {ws : List W} {S : Store} (h : M.pureWs ws = true) : M.pureFn g ws S = match g ws [] with
    | .ok w S' => M.outW 0 w S' S
    | .ex e _ => M.outX e S
    | .no => .no := by
  obtain ⟨a1, a2, a3⟩ := argPure (ws := ws) 0 h
  unfold M.pureFn
  rw [a1, a2, a3, if_pos (by rfl)]
  show (match g ws [] with | .ok w S' => if M.allFlat 0 S' = true then M.outW 0 w S' (M.putBack S [] S') else .no | .ex e S' => if M.allFlat 0 S' = true then M.outX e (M.putBack S [] S') else .no | .no => .no) = _
  have pb : ∀ S' : Store, M.putBack S [] S' = S := fun S' => by unfold M.putBack; rfl
  have af : ∀ S' : Store, M.allFlat 0 S' = true := fun S' => by unfold M.allFlat; rfl
  cases g ws [] with
  | ok w S' => simp only [af, pb, if_true]
  | ex e S' => simp only [af, pb, if_true]
  | no => rfl
end Wo
set_option maxRecDepth 100000
set_option maxHeartbeats 4000000

namespace K02
open PySem L2 Wo
/-! printed by gen.py: each def's run -/
def bis_whole : MS := M.ret (M.andV (M.ops M.isiK (M.cons (M.var 0) (M.cons (M.cst (.ty "int")) (M.nil)))) (M.notV (M.ops M.isiK (M.cons (M.var 0) (M.cons (M.cst (.ty "bool")) (M.nil))))))
def mis_whole : List W → Store → Rs W := M.fn 1 1 bis_whole
theorem uis_whole (a0 : W) (S : Store) (P : Pst W) : Wp (mis_whole [a0] S) P = WpS (bis_whole [some a0] S) (K.fn P) := wp_fn rfl
def bis_from : MS := M.ret (M.andV (M.ops mis_whole (M.cons (M.var 0) (M.nil))) (M.chain M.leW M.leW (M.var 1) (M.var 0) (M.var 2)))
def mis_from : List W → Store → Rs W := M.fn 3 3 bis_from
theorem uis_from (a0 a1 a2 : W) (S : Store) (P : Pst W) : Wp (mis_from [a0, a1, a2] S) P = WpS (bis_from [some a0, some a1, some a2] S) (K.fn P) := wp_fn rfl
def bis_name : MS := M.seq (M.ifS (M.orT (M.notT (M.tru (M.ops M.isiK (M.cons (M.var 0) (M.cons (M.cst (.ty "str")) (M.nil)))))) (M.notT (M.tst (M.chain M.leW M.leW (M.cst (.int 1)) (M.ops M.lenW (M.cons (M.var 0) (M.nil))) (M.cst (.int 8)))))) (M.ret (M.cst (.bl false))) (M.skip)) (M.ret (M.ops M.allW (M.cons (M.lc (M.iter (M.var 0)) [1] (M.tgN 1) (M.yes) (M.op2 M.inW (M.var 1) (M.cst (.str "abcdefghijklmnopqrstuvwxyz")))) (M.nil))))
def mis_name : List W → Store → Rs W := M.fn 1 2 bis_name
theorem uis_name (a0 : W) (S : Store) (P : Pst W) : Wp (mis_name [a0] S) P = WpS (bis_name [some a0, none] S) (K.fn P) := wp_fn rfl
def bis_text : MS := M.ret (M.andV (M.ops M.isiK (M.cons (M.var 0) (M.cons (M.cst (.ty "str")) (M.nil)))) (M.andV (M.op2 M.leW (M.ops M.lenW (M.cons (M.var 0) (M.nil))) (M.cst (.int 40))) (M.ops M.allW (M.cons (M.lc (M.iter (M.var 0)) [1] (M.tgN 1) (M.yes) (M.chain M.leW M.leW (M.cst (.str " ")) (M.var 1) (M.cst (.str "~")))) (M.nil)))))
def mis_text : List W → Store → Rs W := M.fn 1 2 bis_text
theorem uis_text (a0 : W) (S : Store) (P : Pst W) : Wp (mis_text [a0] S) P = WpS (bis_text [some a0, none] S) (K.fn P) := wp_fn rfl
def bis_node : MS := M.seq (M.ifS (M.tst (M.op2 M.isW (M.var 0) (M.cst .non))) (M.ret (M.cst (.bl true))) (M.skip)) (M.seq (M.ifS (M.orT (M.notT (M.tru (M.ops M.isiK (M.cons (M.var 0) (M.cons (M.cst (.ty "tuple")) (M.nil)))))) (M.orT (M.tst (M.op2 M.ne2W (M.ops M.lenW (M.cons (M.var 0) (M.nil))) (M.cst (.int 3)))) (M.notT (M.tru (M.ops M.isiK (M.cons (M.op2 M.ixW (M.var 0) (M.cst (.int 2))) (M.cons (M.cst (.ty "tuple")) (M.nil)))))))) (M.ret (M.cst (.bl false))) (M.skip)) (M.seq (M.asg (M.var 0) (M.tgT 3 (M.tgCons (M.tgN 2) (M.tgCons (M.tgN 3) (M.tgCons (M.tgN 4) (M.tgNil)))))) (M.seq (M.ifS (M.orT (M.notT (M.tru (M.ops M.isiK (M.cons (M.var 2) (M.cons (M.cst (.ty "str")) (M.nil)))))) (M.orT (M.tst (M.op2 M.ninW (M.var 2) (M.cst (.tup [(.str "file"), (.str "folder")])))) (M.notT (M.tru (M.ops mis_from (M.cons (M.var 3) (M.cons (M.cst (.int 0)) (M.cons (M.cst (.int 99)) (M.nil))))))))) (M.ret (M.cst (.bl false))) (M.skip)) (M.ret (M.andV (M.op2 M.leW (M.ops M.lenW (M.cons (M.var 4) (M.nil))) (M.cst (.int 3))) (M.ops M.allW (M.cons (M.lc (M.iter (M.var 4)) [5] (M.tgN 5) (M.yes) (M.ops mis_from (M.cons (M.var 5) (M.cons (M.cst (.int 0)) (M.cons (M.op2 M.subW (M.var 1) (M.cst (.int 1))) (M.nil)))))) (M.nil))))))))
def mis_node : List W → Store → Rs W := M.fn 2 6 bis_node
theorem uis_node (a0 a1 : W) (S : Store) (P : Pst W) : Wp (mis_node [a0, a1] S) P = WpS (bis_node [some a0, some a1, none, none, none, none] S) (K.fn P) := wp_fn rfl
def bis_entry : MS := M.seq (M.ifS (M.tst (M.op2 M.isW (M.var 0) (M.cst .non))) (M.ret (M.cst (.bl true))) (M.skip)) (M.ret (M.andV (M.ops M.isiK (M.cons (M.var 0) (M.cons (M.cst (.ty "tuple")) (M.nil)))) (M.andV (M.op2 M.eq2W (M.ops M.lenW (M.cons (M.var 0) (M.nil))) (M.cst (.int 2))) (M.andV (M.ops (M.pureFn mis_name) (M.cons (M.op2 M.ixW (M.var 0) (M.cst (.int 0))) (M.nil))) (M.ops mis_from (M.cons (M.op2 M.ixW (M.var 0) (M.cst (.int 1))) (M.cons (M.cst (.int 0)) (M.cons (M.op2 M.subW (M.var 1) (M.cst (.int 1))) (M.nil)))))))))
def mis_entry : List W → Store → Rs W := M.fn 2 2 bis_entry
theorem uis_entry (a0 a1 : W) (S : Store) (P : Pst W) : Wp (mis_entry [a0, a1] S) P = WpS (bis_entry [some a0, some a1] S) (K.fn P) := wp_fn rfl
def bis_data : MS := M.seq (M.ifS (M.orT (M.notT (M.tru (M.ops M.isiK (M.cons (M.var 0) (M.cons (M.cst (.ty "tuple")) (M.nil)))))) (M.tst (M.op2 M.ne2W (M.ops M.lenW (M.cons (M.var 0) (M.nil))) (M.ops M.lenW (M.cons (M.cst (.tup [.non, .non, .non, .non, .non])) (M.nil)))))) (M.ret (M.cst (.bl false))) (M.skip)) (M.seq (M.asgStar (M.var 0) 1 (M.tgCons (M.tgN 2) (M.tgCons (M.tgN 3) M.tgNil))) (M.seq (M.ifS (M.tst (M.op2 M.isW (M.var 2) (M.cst .non))) (M.ret (M.op2 M.eq2W (M.var 3) (M.op2 M.mul2W (M.ops M.mkLst (M.cons (M.cst .non) (M.nil))) (M.cst (.int 4))))) (M.skip)) (M.seq (M.ifS (M.orT (M.notT (M.tru (M.ops M.isiK (M.cons (M.var 2) (M.cons (M.cst (.ty "str")) (M.nil)))))) (M.tst (M.op2 M.ninW (M.var 2) (M.cst (.tup [(.str "file"), (.str "folder")]))))) (M.ret (M.cst (.bl false))) (M.skip)) (M.seq (M.ifS (M.tst (M.op2 M.eq2W (M.var 2) (M.cst (.str "file")))) (M.ret (M.andV (M.ops (M.pureFn mis_text) (M.cons (M.op2 M.ixW (M.var 3) (M.cst (.int 0))) (M.nil))) (M.op2 M.eq2W (M.sl (M.var 3) (M.part (M.cst (.int 1))) (M.noPart)) (M.op2 M.mul2W (M.ops M.mkLst (M.cons (M.cst .non) (M.nil))) (M.cst (.int 3)))))) (M.skip)) (M.ret (M.ops M.allW (M.cons (M.lc (M.iter (M.var 3)) [4] (M.tgN 4) (M.yes) (M.ops (M.pureFn mis_entry) (M.cons (M.var 4) (M.cons (M.var 1) (M.nil))))) (M.nil))))))))
def mis_data : List W → Store → Rs W := M.fn 2 5 bis_data
theorem uis_data (a0 a1 : W) (S : Store) (P : Pst W) : Wp (mis_data [a0, a1] S) P = WpS (bis_data [some a0, some a1, none, none, none] S) (K.fn P) := wp_fn rfl
def bis_image : MS := M.seq (M.ifS (M.orT (M.notT (M.tru (M.ops M.isiK (M.cons (M.var 0) (M.cons (M.cst (.ty "tuple")) (M.nil)))))) (M.orT (M.tst (M.op2 M.ne2W (M.ops M.lenW (M.cons (M.var 0) (M.nil))) (M.cst (.int 3)))) (M.notT (M.tru (M.ops M.allW (M.cons (M.lc (M.iter (M.var 0)) [4] (M.tgN 4) (M.yes) (M.ops M.isiK (M.cons (M.var 4) (M.cons (M.cst (.ty "tuple")) (M.nil))))) (M.nil))))))) (M.ret (M.cst (.bl false))) (M.skip)) (M.seq (M.asg (M.var 0) (M.tgT 3 (M.tgCons (M.tgN 1) (M.tgCons (M.tgN 2) (M.tgCons (M.tgN 3) (M.tgNil)))))) (M.seq (M.ifS (M.orT (M.notT (M.tst (M.chain M.leW M.leW (M.cst (.int 1)) (M.ops M.lenW (M.cons (M.var 1) (M.nil))) (M.cst (.int 16))))) (M.orT (M.notT (M.tst (M.chain M.leW M.leW (M.cst (.int 2)) (M.ops M.lenW (M.cons (M.var 2) (M.nil))) (M.cst (.int 16))))) (M.tst (M.op2 M.ne2W (M.ops M.lenW (M.cons (M.var 3) (M.nil))) (M.ops M.lenW (M.cons (M.var 1) (M.nil))))))) (M.ret (M.cst (.bl false))) (M.skip)) (M.seq (M.ifS (M.orT (M.notT (M.tru (M.ops M.allW (M.cons (M.lc (M.iter (M.var 1)) [5] (M.tgN 5) (M.yes) (M.ops M.isiK (M.cons (M.var 5) (M.cons (M.cst (.ty "bool")) (M.nil))))) (M.nil))))) (M.notT (M.tru (M.ops M.allW (M.cons (M.lc (M.iter (M.var 2)) [6] (M.tgN 6) (M.yes) (M.ops (M.pureFn mis_node) (M.cons (M.var 6) (M.cons (M.ops M.lenW (M.cons (M.var 1) (M.nil))) (M.nil))))) (M.nil)))))) (M.ret (M.cst (.bl false))) (M.skip)) (M.ret (M.ops M.allW (M.cons (M.lc (M.iter (M.var 3)) [7] (M.tgN 7) (M.yes) (M.ops (M.pureFn mis_data) (M.cons (M.var 7) (M.cons (M.ops M.lenW (M.cons (M.var 2) (M.nil))) (M.nil))))) (M.nil)))))))
def mis_image : List W → Store → Rs W := M.fn 1 8 bis_image
theorem uis_image (a0 : W) (S : Store) (P : Pst W) : Wp (mis_image [a0] S) P = WpS (bis_image [some a0, none, none, none, none, none, none, none] S) (K.fn P) := wp_fn rfl
def bfirst_image : MS := M.seq (M.ifS (M.notT (M.tru (M.ops (M.quiet mis_from) (M.cons (M.var 0) (M.cons (M.cst (.int 2)) (M.cons (M.cst (.int 16)) (M.nil))))))) (M.raise "NoSize" "number" (M.cons (M.var 0) (M.nil))) (M.skip)) (M.seq (M.ifS (M.notT (M.tru (M.ops (M.quiet mis_from) (M.cons (M.var 1) (M.cons (M.cst (.int 1)) (M.cons (M.cst (.int 16)) (M.nil))))))) (M.raise "NoSize" "number" (M.cons (M.var 1) (M.nil))) (M.skip)) (M.ret (M.ops M.mkTup (M.cons (M.op2 M.mul2W (M.ops M.mkTup (M.cons (M.cst (.bl false)) (M.nil))) (M.var 1)) (M.cons (M.op2 M.addW (M.ops M.mkTup (M.cons (M.ops M.mkTup (M.cons (M.cst (.str "folder")) (M.cons (M.cst (.int 1)) (M.cons (M.ops M.mkTup (M.nil)) (M.nil))))) (M.nil))) (M.op2 M.mul2W (M.ops M.mkTup (M.cons (M.cst .non) (M.nil))) (M.op2 M.subW (M.var 0) (M.cst (.int 1))))) (M.cons (M.op2 M.mul2W (M.ops M.mkTup (M.cons (M.cst (.tup [.non, .non, .non, .non, .non])) (M.nil))) (M.var 1)) (M.nil)))))))
def mfirst_image : List W → Store → Rs W := M.fn 2 2 bfirst_image
theorem ufirst_image (a0 a1 : W) (S : Store) (P : Pst W) : Wp (mfirst_image [a0, a1] S) P = WpS (bfirst_image [some a0, some a1] S) (K.fn P) := wp_fn rfl
def bnames_in : MS := M.seq (M.asg (M.var 0) (M.tgT 3 (M.tgCons (M.tgN 2) (M.tgCons (M.tgN 3) (M.tgCons (M.tgN 4) (M.tgNil)))))) (M.seq (M.asg (M.ops M.mkLst (M.nil)) (M.tgN 5)) (M.seq (M.forS (M.iter (M.op2 M.ixW (M.op2 M.ixW (M.var 3) (M.var 1)) (M.cst (.int 2)))) (M.tgN 6) (M.seq (M.asgStar (M.op2 M.ixW (M.var 4) (M.var 6)) 1 (M.tgCons (M.tgN 7) (M.tgCons (M.tgN 8) M.tgNil))) (M.ifS (M.tst (M.op2 M.eq2W (M.var 7) (M.cst (.str "folder")))) (M.drop (M.mth M.extM (M.var 5) (M.cons (M.lc (M.iter (M.var 8)) [9] (M.tgN 9) (M.tst (M.op2 M.isntW (M.var 9) (M.cst .non))) (M.var 9)) (M.nil)))) (M.skip)))) (M.ret (M.var 5))))
def mnames_in : List W → Store → Rs W := M.fn 2 10 bnames_in
theorem unames_in (a0 a1 : W) (S : Store) (P : Pst W) : Wp (mnames_in [a0, a1] S) P = WpS (bnames_in [some a0, some a1, none, none, none, none, none, none, none, none] S) (K.fn P) := wp_fn rfl
def bis_folder : MS := M.ret (M.andV (M.op2 M.isntW (M.op2 M.ixW (M.op2 M.ixW (M.var 0) (M.cst (.int 1))) (M.var 1)) (M.cst .non)) (M.op2 M.eq2W (M.op2 M.ixW (M.op2 M.ixW (M.op2 M.ixW (M.var 0) (M.cst (.int 1))) (M.var 1)) (M.cst (.int 0))) (M.cst (.str "folder"))))
def mis_folder : List W → Store → Rs W := M.fn 2 2 bis_folder
theorem uis_folder (a0 a1 : W) (S : Store) (P : Pst W) : Wp (mis_folder [a0, a1] S) P = WpS (bis_folder [some a0, some a1] S) (K.fn P) := wp_fn rfl
def bcome_from : MS := M.seq (M.asg (M.disp1 (M.var 1) (M.cst (.bl true))) (M.tgN 2)) (M.seq (M.asg (M.ops M.mkLst (M.cons (M.var 1) (M.nil))) (M.tgN 3)) (M.seq (M.whl (M.tst (M.op2 M.ne2W (M.var 3) (M.ops M.mkLst (M.nil)))) (M.seq (M.asg (M.mth M.popM (M.var 3) M.nil) (M.tgN 4)) (M.ifS (M.tru (M.ops (M.pureFn mis_folder) (M.cons (M.var 0) (M.cons (M.var 4) (M.nil))))) (M.seq (M.asg (M.lc (M.iter (M.ops (M.pureFn mnames_in) (M.cons (M.var 0) (M.cons (M.var 4) (M.nil))))) [6, 7] (M.tgT 2 (M.tgCons (M.tgN 6) (M.tgCons (M.tgN 7) (M.tgNil)))) (M.tst (M.op2 M.ninW (M.var 7) (M.var 2))) (M.var 7)) (M.tgN 5)) (M.seq (M.drop (M.mthD M.updM (M.var 2) (M.cons (M.dc (M.iter (M.var 5)) [7] (M.tgN 7) (M.yes) (M.var 7) (M.cst (.bl true))) (M.nil)))) (M.drop (M.mth M.extM (M.var 3) (M.cons (M.var 5) (M.nil)))))) (M.skip)))) (M.ret (M.ops M.sorted3W (M.cons (M.var 2) (M.nil))))))
def mcome_from : List W → Store → Rs W := M.fn 2 8 bcome_from
theorem ucome_from (a0 a1 : W) (S : Store) (P : Pst W) : Wp (mcome_from [a0, a1] S) P = WpS (bcome_from [some a0, some a1, none, none, none, none, none, none] S) (K.fn P) := wp_fn rfl
def bcome_to : MS := M.ret (M.ops (M.pureFn mcome_from) (M.cons (M.var 0) (M.cons (M.cst (.int 0)) (M.nil))))
def mcome_to : List W → Store → Rs W := M.fn 1 1 bcome_to
theorem ucome_to (a0 : W) (S : Store) (P : Pst W) : Wp (mcome_to [a0] S) P = WpS (bcome_to [some a0] S) (K.fn P) := wp_fn rfl
def bleading : MS := M.seq (M.asg (M.dc (M.iter (M.var 1)) [5] (M.tgN 5) (M.yes) (M.var 5) (M.cst (.int 0))) (M.tgN 2)) (M.seq (M.setSub (M.cst (.int 1)) (M.var 2) (M.cst (.int 0))) (M.seq (M.forS (M.iter (M.var 1)) (M.tgN 3) (M.ifS (M.tru (M.ops (M.pureFn mis_folder) (M.cons (M.var 0) (M.cons (M.var 3) (M.nil))))) (M.forS (M.iter (M.ops (M.pureFn mnames_in) (M.cons (M.var 0) (M.cons (M.var 3) (M.nil))))) (M.tgT 2 (M.tgCons (M.tgN 4) (M.tgCons (M.tgN 5) (M.tgNil)))) (M.augSub M.iaddI (M.var 2) (M.var 5) (M.cst (.int 1)))) (M.skip))) (M.ret (M.var 2))))
def mleading : List W → Store → Rs W := M.fn 2 6 bleading
theorem uleading (a0 a1 : W) (S : Store) (P : Pst W) : Wp (mleading [a0, a1] S) P = WpS (bleading [some a0, some a1, none, none, none, none] S) (K.fn P) := wp_fn rfl
def bpointed : MS := M.seq (M.asg (M.dnew) (M.tgN 2)) (M.seq (M.forS (M.iter (M.var 1)) (M.tgN 3) (M.ifS (M.tst (M.op2 M.isntW (M.op2 M.ixW (M.op2 M.ixW (M.var 0) (M.cst (.int 1))) (M.var 3)) (M.cst .non))) (M.forS (M.iter (M.op2 M.ixW (M.op2 M.ixW (M.op2 M.ixW (M.var 0) (M.cst (.int 1))) (M.var 3)) (M.cst (.int 2)))) (M.tgN 4) (M.setSub (M.op2 M.addW (M.mthD M.getM (M.var 2) (M.cons (M.var 4) (M.cons (M.cst (.int 0)) (M.nil)))) (M.cst (.int 1))) (M.var 2) (M.var 4))) (M.skip))) (M.ret (M.var 2)))
def mpointed : List W → Store → Rs W := M.fn 2 5 bpointed
theorem upointed (a0 a1 : W) (S : Store) (P : Pst W) : Wp (mpointed [a0, a1] S) P = WpS (bpointed [some a0, some a1, none, none, none] S) (K.fn P) := wp_fn rfl
def bpage_breaks : MS := M.seq (M.asg (M.var 0) (M.tgT 3 (M.tgCons (M.tgN 2) (M.tgCons (M.tgN 3) (M.tgCons (M.tgN 4) (M.tgNil)))))) (M.seq (M.asg (M.op2 M.ixW (M.var 3) (M.var 1)) (M.tgT 3 (M.tgCons (M.tgN 5) (M.tgCons (M.tgN 6) (M.tgCons (M.tgN 7) (M.tgNil)))))) (M.seq (M.asg (M.lc (M.iter (M.var 7)) [9] (M.tgN 9) (M.notT (M.tru (M.op2 M.ixW (M.var 2) (M.var 9)))) (M.ops M.mkTup (M.cons (M.cst (.str "page")) (M.cons (M.var 1) (M.cons (M.var 9) (M.nil)))))) (M.tgN 8)) (M.ret (M.op2 M.addW (M.var 8) (M.lc (M.iter (M.var 7)) [9] (M.tgN 9) (M.tst (M.op2 M.ne2W (M.op2 M.ixW (M.op2 M.ixW (M.var 4) (M.var 9)) (M.cst (.int 0))) (M.var 5))) (M.ops M.mkTup (M.cons (M.cst (.str "sort")) (M.cons (M.var 1) (M.cons (M.var 9) (M.nil))))))))))
def mpage_breaks : List W → Store → Rs W := M.fn 2 10 bpage_breaks
theorem upage_breaks (a0 a1 : W) (S : Store) (P : Pst W) : Wp (mpage_breaks [a0, a1] S) P = WpS (bpage_breaks [some a0, some a1, none, none, none, none, none, none, none, none] S) (K.fn P) := wp_fn rfl
def bis_in_ring : MS := M.ret (M.ops M.anyW (M.cons (M.lc (M.iter (M.ops (M.pureFn mnames_in) (M.cons (M.var 0) (M.cons (M.var 1) (M.nil))))) [2, 3] (M.tgT 2 (M.tgCons (M.tgN 2) (M.tgCons (M.tgN 3) (M.tgNil)))) (M.yes) (M.op2 M.inW (M.var 1) (M.ops (M.pureFn mcome_from) (M.cons (M.var 0) (M.cons (M.var 3) (M.nil)))))) (M.nil)))
def mis_in_ring : List W → Store → Rs W := M.fn 2 4 bis_in_ring
theorem uis_in_ring (a0 a1 : W) (S : Store) (P : Pst W) : Wp (mis_in_ring [a0, a1] S) P = WpS (bis_in_ring [some a0, some a1, none, none] S) (K.fn P) := wp_fn rfl
def bfolder_breaks : MS := M.seq (M.asg (M.lc (M.iter (M.ops (M.pureFn mnames_in) (M.cons (M.var 0) (M.cons (M.var 1) (M.nil))))) [4, 5] (M.tgT 2 (M.tgCons (M.tgN 4) (M.tgCons (M.tgN 5) (M.tgNil)))) (M.yes) (M.var 4)) (M.tgN 2)) (M.seq (M.asg (M.ifE (M.tst (M.op2 M.ltW (M.op1 M.lenSetW (M.var 2)) (M.ops M.lenW (M.cons (M.var 2) (M.nil))))) (M.ops M.mkLst (M.cons (M.ops M.mkTup (M.cons (M.cst (.str "names")) (M.cons (M.var 1) (M.nil)))) (M.nil))) (M.ops M.mkLst (M.nil))) (M.tgN 3)) (M.ret (M.op2 M.addW (M.var 3) (M.ifE (M.tru (M.ops (M.pureFn mis_in_ring) (M.cons (M.var 0) (M.cons (M.var 1) (M.nil))))) (M.ops M.mkLst (M.cons (M.ops M.mkTup (M.cons (M.cst (.str "ring")) (M.cons (M.var 1) (M.nil)))) (M.nil))) (M.ops M.mkLst (M.nil))))))
def mfolder_breaks : List W → Store → Rs W := M.fn 2 6 bfolder_breaks
theorem ufolder_breaks (a0 a1 : W) (S : Store) (P : Pst W) : Wp (mfolder_breaks [a0, a1] S) P = WpS (bfolder_breaks [some a0, some a1, none, none, none, none] S) (K.fn P) := wp_fn rfl
def bnode_breaks : MS := M.seq (M.ifS (M.tst (M.op2 M.isW (M.op2 M.ixW (M.op2 M.ixW (M.var 0) (M.cst (.int 1))) (M.var 1)) (M.cst .non))) (M.ret (M.ops M.mkLst (M.cons (M.ops M.mkTup (M.cons (M.cst (.str "node")) (M.cons (M.var 1) (M.nil)))) (M.nil)))) (M.skip)) (M.seq (M.asg (M.ops (M.pureFn mpage_breaks) (M.cons (M.var 0) (M.cons (M.var 1) (M.nil)))) (M.tgN 3)) (M.seq (M.ifS (M.tst (M.op2 M.ltW (M.op2 M.ixW (M.op2 M.ixW (M.op2 M.ixW (M.var 0) (M.cst (.int 1))) (M.var 1)) (M.cst (.int 1))) (M.var 2))) (M.drop (M.mth M.appM (M.var 3) (M.cons (M.ops M.mkTup (M.cons (M.cst (.str "links")) (M.cons (M.var 1) (M.nil)))) (M.nil)))) (M.skip)) (M.ret (M.op2 M.addW (M.var 3) (M.ifE (M.tru (M.ops (M.pureFn mis_folder) (M.cons (M.var 0) (M.cons (M.var 1) (M.nil))))) (M.ops (M.pureFn mfolder_breaks) (M.cons (M.var 0) (M.cons (M.var 1) (M.nil)))) (M.ops M.mkLst (M.nil)))))))
def mnode_breaks : List W → Store → Rs W := M.fn 3 4 bnode_breaks
theorem unode_breaks (a0 a1 a2 : W) (S : Store) (P : Pst W) : Wp (mnode_breaks [a0, a1, a2] S) P = WpS (bnode_breaks [some a0, some a1, some a2, none] S) (K.fn P) := wp_fn rfl
def bbreaks : MS := M.seq (M.asg (M.ops (M.pureFn mcome_to) (M.cons (M.var 0) (M.nil))) (M.tgN 1)) (M.seq (M.asg (M.ops (M.pureFn mleading) (M.cons (M.var 0) (M.cons (M.var 1) (M.nil)))) (M.tgN 2)) (M.seq (M.asg (M.ifE (M.tru (M.ops (M.pureFn mis_folder) (M.cons (M.var 0) (M.cons (M.cst (.int 0)) (M.nil))))) (M.ops M.mkLst (M.nil)) (M.ops M.mkLst (M.cons (M.ops M.mkTup (M.cons (M.cst (.str "first")) (M.cons (M.cst (.int 0)) (M.nil)))) (M.nil)))) (M.tgN 3)) (M.seq (M.forS (M.iter (M.var 1)) (M.tgN 4) (M.drop (M.mth M.extM (M.var 3) (M.cons (M.lc (M.iter (M.ops (M.pureFn mnode_breaks) (M.cons (M.var 0) (M.cons (M.var 4) (M.cons (M.op2 M.ixgW (M.var 2) (M.var 4)) (M.nil)))))) [5] (M.tgN 5) (M.tst (M.op2 M.ne2W (M.var 5) (M.ops M.mkTup (M.cons (M.cst (.str "node")) (M.cons (M.cst (.int 0)) (M.nil)))))) (M.var 5)) (M.nil))))) (M.seq (M.drop (M.mth M.extM (M.var 3) (M.cons (M.lc (M.view M.vItem (M.ops (M.pureFn mpointed) (M.cons (M.var 0) (M.cons (M.var 1) (M.nil))))) [6, 7] (M.tgT 2 (M.tgCons (M.tgN 6) (M.tgCons (M.tgN 7) (M.tgNil)))) (M.tst (M.op2 M.gtW (M.var 7) (M.cst (.int 1)))) (M.ops M.mkTup (M.cons (M.cst (.str "two")) (M.cons (M.var 6) (M.nil))))) (M.nil)))) (M.ret (M.op1 M.sortSetTW (M.var 3)))))))
def mbreaks : List W → Store → Rs W := M.fn 1 8 bbreaks
theorem ubreaks (a0 : W) (S : Store) (P : Pst W) : Wp (mbreaks [a0] S) P = WpS (bbreaks [some a0, none, none, none, none, none, none, none] S) (K.fn P) := wp_fn rfl
def blook_at_image : MS := M.ifS (M.tst (M.op2 M.ne2W (M.ops (M.pureFn mbreaks) (M.cons (M.var 0) (M.nil))) (M.ops M.mkLst (M.nil)))) (M.bad) (M.skip)
def mlook_at_image : List W → Store → Rs W := M.fn 1 1 blook_at_image
theorem ulook_at_image (a0 : W) (S : Store) (P : Pst W) : Wp (mlook_at_image [a0] S) P = WpS (blook_at_image [some a0] S) (K.fn P) := wp_fn rfl
def bleaks : MS := M.seq (M.drop (M.ops (M.pureFn mlook_at_image) (M.cons (M.var 0) (M.nil)))) (M.seq (M.asg (M.var 0) (M.tgT 3 (M.tgCons (M.tgN 1) (M.tgCons (M.tgN 2) (M.tgCons (M.tgN 3) (M.tgNil)))))) (M.seq (M.asg (M.ops (M.pureFn mcome_to) (M.cons (M.var 0) (M.nil))) (M.tgN 4)) (M.seq (M.asg (M.ops (M.pureFn mleading) (M.cons (M.var 0) (M.cons (M.var 4) (M.nil)))) (M.tgN 5)) (M.seq (M.asg (M.ops (M.pureFn mpointed) (M.cons (M.var 0) (M.cons (M.var 4) (M.nil)))) (M.tgN 6)) (M.seq (M.asg (M.lc (M.enum (M.cons (M.var 1) (M.nil))) [10, 11] (M.tgT 2 (M.tgCons (M.tgN 10) (M.tgCons (M.tgN 11) (M.tgNil)))) (M.andT (M.tru (M.var 11)) (M.tst (M.op2 M.ninW (M.var 10) (M.var 6)))) (M.ops M.mkTup (M.cons (M.cst (.str "bit")) (M.cons (M.var 10) (M.nil))))) (M.tgN 7)) (M.seq (M.forS (M.enum (M.cons (M.var 2) (M.nil))) (M.tgT 2 (M.tgCons (M.tgN 8) (M.tgCons (M.tgN 9) (M.tgNil)))) (M.seq (M.ifS (M.andT (M.tst (M.op2 M.isntW (M.var 9) (M.cst .non))) (M.tst (M.op2 M.ninW (M.var 8) (M.var 4)))) (M.drop (M.mth M.appM (M.var 7) (M.cons (M.ops M.mkTup (M.cons (M.cst (.str "node")) (M.cons (M.var 8) (M.nil)))) (M.nil)))) (M.skip)) (M.ifS (M.andT (M.tst (M.op2 M.inW (M.var 8) (M.var 4))) (M.tst (M.op2 M.gtW (M.op2 M.ixW (M.var 9) (M.cst (.int 1))) (M.op2 M.ixgW (M.var 5) (M.var 8))))) (M.drop (M.mth M.appM (M.var 7) (M.cons (M.ops M.mkTup (M.cons (M.cst (.str "links")) (M.cons (M.var 8) (M.cons (M.op2 M.subW (M.op2 M.ixW (M.var 9) (M.cst (.int 1))) (M.op2 M.ixgW (M.var 5) (M.var 8))) (M.nil))))) (M.nil)))) (M.skip)))) (M.ret (M.ops M.sorted3W (M.cons (M.var 7) (M.nil))))))))))
def mleaks : List W → Store → Rs W := M.fn 1 12 bleaks
theorem uleaks (a0 : W) (S : Store) (P : Pst W) : Wp (mleaks [a0] S) P = WpS (bleaks [some a0, none, none, none, none, none, none, none, none, none, none, none] S) (K.fn P) := wp_fn rfl
def b_law_pool : MS := M.seq (M.asg (M.cst (.int 0)) (M.tgN 2)) (M.seq (M.ifS (M.tst (M.op2 M.ltW (M.var 1) (M.ops M.lenW (M.cons (M.var 0) (M.nil))))) (M.asg (M.op2 M.ixW (M.var 0) (M.var 1)) (M.tgN 2)) (M.skip)) (M.seq (M.asg (M.ops M.maxW (M.cons (M.var 2) (M.cons (M.op2 M.subW (M.op1 M.negW (M.cst (.int 1))) (M.var 2)) (M.nil)))) (M.tgN 3)) (M.seq (M.asg (M.op2 M.modW (M.op2 M.mul2W (M.op2 M.addW (M.op2 M.addW (M.op2 M.addW (M.op2 M.modW (M.var 3) (M.cst (.int 2147483629))) (M.op2 M.mul2W (M.op2 M.mul2W (M.cst (.int 7919)) (M.var 1)) (M.var 1))) (M.op2 M.mul2W (M.cst (.int 31)) (M.var 1))) (M.cst (.int 17))) (M.cst (.int 48271))) (M.cst (.int 2147483647))) (M.tgN 4)) (M.ret (M.ops M.mkLst (M.cons (M.op2 M.mul2W (M.var 3) (M.ops M.intW (M.cons (M.op2 M.geW (M.var 3) (M.op2 M.powW (M.cst (.int 10)) (M.cst (.int 18)))) (M.nil)))) (M.cons (M.var 4) (M.nil))))))))
def m_law_pool : List W → Store → Rs W := M.fn 2 5 b_law_pool
theorem u_law_pool (a0 a1 : W) (S : Store) (P : Pst W) : Wp (m_law_pool [a0, a1] S) P = WpS (b_law_pool [some a0, some a1, none, none, none] S) (K.fn P) := wp_fn rfl
def b_law_draw : MS := M.seq (M.ifS (M.tst (M.op2 M.gtW (M.op2 M.ixW (M.var 0) (M.cst (.int 0))) (M.cst (.int 0)))) (M.seq (M.asg (M.op2 M.modW (M.op2 M.ixW (M.var 0) (M.cst (.int 0))) (M.var 1)) (M.tgN 2)) (M.seq (M.setSub (M.op2 M.fdivW (M.op2 M.ixW (M.var 0) (M.cst (.int 0))) (M.var 1)) (M.var 0) (M.cst (.int 0))) (M.ret (M.var 2)))) (M.skip)) (M.seq (M.setSub (M.op2 M.modW (M.op2 M.addW (M.op2 M.mul2W (M.op2 M.ixW (M.var 0) (M.cst (.int 1))) (M.cst (.int 69621))) (M.cst (.int 7))) (M.cst (.int 2147483647))) (M.var 0) (M.cst (.int 1))) (M.ret (M.op2 M.modW (M.op2 M.fdivW (M.op2 M.modW (M.op2 M.mul2W (M.op2 M.ixW (M.var 0) (M.cst (.int 1))) (M.op2 M.ixW (M.var 0) (M.cst (.int 1)))) (M.cst (.int 2147483629))) (M.cst (.int 32))) (M.var 1))))
def m_law_draw : List W → Store → Rs W := M.fn 2 3 b_law_draw
theorem u_law_draw (a0 a1 : W) (S : Store) (P : Pst W) : Wp (m_law_draw [a0, a1] S) P = WpS (b_law_draw [some a0, some a1, none] S) (K.fn P) := wp_fn rfl
def b_law_number : MS := M.seq (M.asg (M.ops M.mkLst (M.cons (M.cst (.int 2)) (M.cons (M.cst (.int 16)) (M.cons (M.cst (.int 1)) (M.cons (M.cst (.int 0)) (M.cons (M.cst (.int 17)) (M.cons (M.op1 M.negW (M.cst (.int 1))) (M.cons (M.cst (.bl true)) (M.cons (M.cst .non) (M.cons (M.cst (.str "2")) (M.cons (M.op2 M.powW (M.cst (.int 10)) (M.cst (.int 20))) (M.cons (M.ops M.mkTup (M.cons (M.cst (.int 2)) (M.nil))) (M.nil))))))))))))) (M.tgN 1)) (M.seq (M.ifS (M.tst (M.op2 M.eq2W (M.ops m_law_draw (M.cons (M.var 0) (M.cons (M.cst (.int 2)) (M.nil)))) (M.cst (.int 0)))) (M.ret (M.op2 M.addW (M.cst (.int 2)) (M.ops m_law_draw (M.cons (M.var 0) (M.cons (M.cst (.int 15)) (M.nil)))))) (M.skip)) (M.ret (M.op2 M.ixW (M.var 1) (M.ops m_law_draw (M.cons (M.var 0) (M.cons (M.ops M.lenW (M.cons (M.var 1) (M.nil))) (M.nil)))))))
def m_law_number : List W → Store → Rs W := M.fn 1 2 b_law_number
theorem u_law_number (a0 : W) (S : Store) (P : Pst W) : Wp (m_law_number [a0] S) P = WpS (b_law_number [some a0, none] S) (K.fn P) := wp_fn rfl
def b_law_from : MS := M.ret (M.andV (M.ops M.isiK (M.cons (M.var 0) (M.cons (M.cst (.ty "int")) (M.nil)))) (M.andV (M.notV (M.ops M.isiK (M.cons (M.var 0) (M.cons (M.cst (.ty "bool")) (M.nil))))) (M.chain M.leW M.leW (M.var 1) (M.var 0) (M.var 2))))
def m_law_from : List W → Store → Rs W := M.fn 3 3 b_law_from
theorem u_law_from (a0 a1 a2 : W) (S : Store) (P : Pst W) : Wp (m_law_from [a0, a1, a2] S) P = WpS (b_law_from [some a0, some a1, some a2] S) (K.fn P) := wp_fn rfl
def blaw : MS := M.seq (M.forS (M.rng1 (M.cons (M.ops M.maxW (M.cons (M.cst (.int 1)) (M.cons (M.ops M.minW (M.cons (M.cst (.int 40)) (M.cons (M.ops M.lenW (M.cons (M.var 0) (M.nil))) (M.nil)))) (M.nil)))) (M.nil))) (M.tgN 1) (M.pureS (M.seq (M.asg (M.ops m_law_pool (M.cons (M.var 0) (M.cons (M.var 1) (M.nil)))) (M.tgN 2)) (M.seq (M.par 3 4 (M.cons (M.ops m_law_number (M.cons (M.var 2) (M.nil))) (M.cons (M.ops m_law_number (M.cons (M.var 2) (M.nil))) (M.nil)))) (M.seq (M.asg (M.lc (M.iter (M.ops M.mkLst (M.cons (M.ops M.mkTup (M.cons (M.var 3) (M.cons (M.cst (.int 2)) (M.nil)))) (M.cons (M.ops M.mkTup (M.cons (M.var 4) (M.cons (M.cst (.int 1)) (M.nil)))) (M.nil))))) [10, 11] (M.tgT 2 (M.tgCons (M.tgN 10) (M.tgCons (M.tgN 11) (M.tgNil)))) (M.notT (M.tru (M.ops m_law_from (M.cons (M.var 10) (M.cons (M.var 11) (M.cons (M.cst (.int 16)) (M.nil))))))) (M.var 10)) (M.tgN 5)) (M.seq (M.asg (M.cst .non) (M.tgN 6)) (M.seq (M.asg (M.cst .non) (M.tgN 7)) (M.seq (M.tryAs [("NoSize", true)] 8 (M.asg (M.ops mfirst_image (M.cons (M.var 3) (M.cons (M.var 4) (M.nil)))) (M.tgN 6)) (M.asg (M.ops M.mkLst (M.cons (M.op1 (M.xfW ["NoSize"] "number") (M.var 8)) (M.cons (M.andV (M.op1 (M.isxW [("NoSize", true)]) (M.var 8)) (M.notV (M.op1 (M.isxW [("NoSize", false)]) (M.var 8)))) (M.nil)))) (M.tgN 7))) (M.ifS (M.tst (M.op2 M.ne2W (M.var 5) (M.ops M.mkLst (M.nil)))) (M.ifS (M.orT (M.tst (M.op2 M.isW (M.var 7) (M.cst .non))) (M.tst (M.op2 M.ne2W (M.ops M.repr2W (M.cons (M.var 7) (M.nil))) (M.ops M.repr2W (M.cons (M.ops M.mkLst (M.cons (M.op2 M.ixW (M.var 5) (M.cst (.int 0))) (M.cons (M.cst (.bl true)) (M.nil)))) (M.nil)))))) (M.ret (M.cst (.bl false))) (M.skip)) (M.seq (M.asg (M.ops M.mkTup (M.cons (M.op2 M.mul2W (M.ops M.mkTup (M.cons (M.cst (.bl false)) (M.nil))) (M.var 4)) (M.cons (M.op2 M.addW (M.ops M.mkTup (M.cons (M.ops M.mkTup (M.cons (M.cst (.str "folder")) (M.cons (M.cst (.int 1)) (M.cons (M.ops M.mkTup (M.nil)) (M.nil))))) (M.nil))) (M.op2 M.mul2W (M.ops M.mkTup (M.cons (M.cst .non) (M.nil))) (M.op2 M.subW (M.var 3) (M.cst (.int 1))))) (M.cons (M.op2 M.mul2W (M.ops M.mkTup (M.cons (M.op2 M.mul2W (M.ops M.mkTup (M.cons (M.cst .non) (M.nil))) (M.cst (.int 5))) (M.nil))) (M.var 4)) (M.nil))))) (M.tgN 9)) (M.ifS (M.orT (M.tst (M.op2 M.ne2W (M.ops M.repr2W (M.cons (M.var 6) (M.nil))) (M.ops M.repr2W (M.cons (M.var 9) (M.nil))))) (M.orT (M.tst (M.op2 M.isntW (M.ops (M.pureFn mis_image) (M.cons (M.var 6) (M.nil))) (M.cst (.bl true)))) (M.orT (M.tst (M.op2 M.ne2W (M.ops (M.pureFn mbreaks) (M.cons (M.var 6) (M.nil))) (M.ops M.mkLst (M.nil)))) (M.tst (M.op2 M.ne2W (M.ops (M.pureFn mleaks) (M.cons (M.var 6) (M.nil))) (M.ops M.mkLst (M.nil))))))) (M.ret (M.cst (.bl false))) (M.skip)))))))))))) (M.ret (M.cst (.bl true)))
def mlaw : List W → Store → Rs W := M.fn 1 12 blaw
theorem ulaw (a0 : W) (S : Store) (P : Pst W) : Wp (mlaw [a0] S) P = WpS (blaw [some a0, none, none, none, none, none, none, none, none, none, none, none] S) (K.fn P) := wp_fn rfl
end K02
set_option maxRecDepth 100000
set_option maxHeartbeats 4000000

namespace K02
open PySem L2 Wo
/-! printed by gen.py: the walk of each def -/
def topS (i : Nat) : Stmt := PySem.Challenge.pw_writeorders_k02_first_images.main.body.getD i (.Pass ⟨0, 0, 0, 0⟩)
structure Blt (w : World) (K : PySem.W.Frag) (mg : Str → Option Value) : Prop where
  int_ : mg "int" = none
  isinstance_ : mg "isinstance" = none
  bool_ : mg "bool" = none
  all_ : mg "all" = none
  str_ : mg "str" = none
  len_ : mg "len" = none
  tuple_ : mg "tuple" = none
  ValueError_ : mg "ValueError" = none
  sorted_ : mg "sorted" = none
  any_ : mg "any" = none
  enumerate_ : mg "enumerate" = none
  max_ : mg "max" = none
  min_ : mg "min" = none
  range_ : mg "range" = none
  repr_ : mg "repr" = none
  c_SIGNS : ∃ u, mg "SIGNS" = some u ∧ RelV (.str "abcdefghijklmnopqrstuvwxyz") u
  c_LONGEST : ∃ u, mg "LONGEST" = some u ∧ RelV (.int 8) u
  c_LONGEST_TEXT : ∃ u, mg "LONGEST_TEXT" = some u ∧ RelV (.int 40) u
  c_MOST_PAGES : ∃ u, mg "MOST_PAGES" = some u ∧ RelV (.int 3) u
  c_KINDS : ∃ a, mg "KINDS" = some (.ref a) ∧ ∀ H, SqT K H a [.str "file", .str "folder"]
  c_MOST_LINKS : ∃ u, mg "MOST_LINKS" = some u ∧ RelV (.int 99) u
  c_NEVER : ∃ a, mg "NEVER" = some (.ref a) ∧ ∀ H, SqT K H a [.non, .non, .non, .non, .non]
  c_MOST_SIZE : ∃ u, mg "MOST_SIZE" = some u ∧ RelV (.int 16) u
  c_LEAST_NODES : ∃ u, mg "LEAST_NODES" = some u ∧ RelV (.int 2) u
  c_FOLDER : ∃ u, mg "FOLDER" = some u ∧ RelV (.str "folder") u
  i_NoSize : ExcI K (clA K "NoSize")
  k_NoSize_ValueError : PySem.W.kitOne K (.ref (clA K "NoSize")) (.type "ValueError") = some true
  t_NoSize_Broken_NoDeed_NoText : PySem.W.kitAny K (.ref (clA K "NoSize")) [.ref (clA K "Broken"), .ref (clA K "NoDeed"), .ref (clA K "NoText")] = some false
  g_NoText : mg "NoText" = some (.ref (clA K "NoText"))
  g_NoDeed : mg "NoDeed" = some (.ref (clA K "NoDeed"))
  g_Broken : mg "Broken" = some (.ref (clA K "Broken"))
  f_NoSize_number : XfC K (clA K "NoSize") ∧ PySem.W.findIn K (.ref (clA K "NoSize")) "number" = some none
  g_NoSize : mg "NoSize" = some (.ref (clA K "NoSize"))
  m_NoSize_NoSize : PySem.W.exmOne K (.ref (clA K "NoSize")) (.ref (clA K "NoSize")) = some true
  k_NoSize_Broken : PySem.W.kitOne K (.ref (clA K "NoSize")) (.ref (clA K "Broken")) = some false
  k_NoSize_NoDeed : PySem.W.kitOne K (.ref (clA K "NoSize")) (.ref (clA K "NoDeed")) = some false
  k_NoSize_NoText : PySem.W.kitOne K (.ref (clA K "NoSize")) (.ref (clA K "NoText")) = some false
  v_ValueError : PySem.W.findCls K (.type "ValueError") (.type "type") "__init__" = some (.val (.builtin "ValueError.__init__"))
section
variable {P : Program} {w : World} {K : PySem.W.Frag} {mg : Str → Option Value} {base : Heap}
abbrev iNoSize : Stmt := (clsBody (topS 1)).getD 0 (.Pass ⟨0, 0, 0, 0⟩)
theorem sciNoSize : FnScope ["self", "number"] ["self", "number"] (defScope iNoSize) := ⟨rfl, rfl, rfl, by decide +kernel, rfl, by decide +kernel, by decide +kernel⟩
theorem okiNoSize (B : Blt w K mg) {f : Addr} {fd : FuncData} (F : Fun K "__init__" "NoSize.__init__" iNoSize f fd) (T : OexB K "ValueError" "ValueError.__new__" "ValueError.__init__" bmVE (clA K "NoSize")) (hno : PySem.W.findIn K (.ref (clA K "NoSize")) "number" = some none) : FnOk P w K mg base CX0 1 f fd ["self", "number"] (spI (clA K "NoSize") "number") := by
  refine init_ok T hno F sciNoSize fun cdv A outer s H E => ⟨"no size", ?_⟩
  exact PSs.imp (pss_cons (ps_expr (pe_binit base_ValueError rfl B.ValueError_ B.v_ValueError (pa_cons (pv 0) (pa_cons pe_str pa_nil)))) (pss_one (ps_ostB (pv 0) (pv 1)))) fun D s H q => q
abbrev sis_whole : Stmt := topS 15
theorem scis_whole : FnScope ["thing"] ["thing"] (defScope sis_whole) := ⟨rfl, rfl, rfl, by decide +kernel, rfl, by decide +kernel, by decide +kernel⟩
theorem okis_whole (B : Blt w K mg) {f : Addr} {fd : FuncData} (F : Fun K "is_whole" "is_whole" sis_whole f fd) (hat : mg "is_whole" = some (.ref f)) (bd : Binds K fd ["thing"] []) : Dn P w K mg base 1 "is_whole" ["thing"] mis_whole f fd := by
  refine dn_mk (k := 0) (N := ["thing"]) (ps := ["thing"]) (body := bis_whole) F scis_whole hat bd fun cdv A outer s H E rm hr ϑ => ?_
  have nd := scis_whole.nd
  exact s_one (s_ret (e_and (e_bi (fun _ => c_isi) B.isinstance_ (by decide +kernel) (e_cons (e_var 0) (e_cons (e_ty B.int_ (by decide +kernel)) (e_nil)))) (e_one (e_not (e_bi (fun _ => c_isi) B.isinstance_ (by decide +kernel) (e_cons (e_var 0) (e_cons (e_ty B.bool_ (by decide +kernel)) (e_nil))))))))
abbrev sis_from : Stmt := topS 16
theorem scis_from : FnScope ["thing", "least", "most"] ["thing", "least", "most"] (defScope sis_from) := ⟨rfl, rfl, rfl, by decide +kernel, rfl, by decide +kernel, by decide +kernel⟩
theorem okis_from (B : Blt w K mg) {fis_whole : Addr} {fdis_whole : FuncData} (Dis_whole : Dn P w K mg base 1 "is_whole" ["thing"] mis_whole fis_whole fdis_whole) {f : Addr} {fd : FuncData} (F : Fun K "is_from" "is_from" sis_from f fd) (hat : mg "is_from" = some (.ref f)) (bd : Binds K fd ["thing", "least", "most"] []) : Dn P w K mg base 2 "is_from" ["thing", "least", "most"] mis_from f fd := by
  refine dn_mk (k := 1) (N := ["thing", "least", "most"]) (ps := ["thing", "least", "most"]) (body := bis_from) F scis_from hat bd fun cdv A outer s H E rm hr ϑ => ?_
  have nd := scis_from.nd
  exact s_one (s_ret (e_and (e_fn Dis_whole fn_len rm (hr.mono (by omega)) (e_cons (e_var 0) (e_nil))) (e_one (e_chain (fun _ => o_le) (fun _ => o_le) (e_var 1) (e_var 0) (e_var 2)))))
abbrev sis_name : Stmt := topS 17
theorem scis_name : FnScope ["thing", "sign"] ["thing"] (defScope sis_name) := ⟨rfl, rfl, rfl, by decide +kernel, rfl, by decide +kernel, by decide +kernel⟩
theorem okis_name (B : Blt w K mg) {f : Addr} {fd : FuncData} (F : Fun K "is_name" "is_name" sis_name f fd) (hat : mg "is_name" = some (.ref f)) (bd : Binds K fd ["thing"] []) : Dn P w K mg base 1 "is_name" ["thing"] mis_name f fd := by
  refine dn_mk (k := 0) (N := ["thing", "sign"]) (ps := ["thing"]) (body := bis_name) F scis_name hat bd fun cdv A outer s H E rm hr ϑ => ?_
  have nd := scis_name.nd
  exact s_seq (s_if ((w_or (t_not (t_val (e_bi (fun _ => c_isi) B.isinstance_ (by decide +kernel) (e_cons (e_var 0) (e_cons (e_ty B.str_ (by decide +kernel)) (e_nil)))))) (w_or1 (t_not (t_chain (fun _ => o_le) (fun _ => o_le) (e_int) (e_bi (fun _ => c_len) B.len_ (by decide +kernel) (e_cons (e_var 0) (e_nil))) (e_glob (by rfl) B.c_LONGEST (fun _ _ => .int _)))))).pt) (s_one (s_ret (e_bl))) (s_nil)) (s_one (s_ret (e_bi (fun _ => c_all rm) B.all_ (by decide +kernel) (e_cons (e_lc (own := [("sign", 1)]) rm nd (i_val (e_var 0)) (blkOk_by (by kernel_rfl)) (by decide) (fun _ _ _ _ _ => g_name (i := 1) nd) (fun _ _ _ _ _ => ts_nil) (fun _ _ _ _ _ => e_cmp (fun _ => o_in rm.blk.toRm) (e_var 1) (e_glob (by rfl) B.c_SIGNS (fun _ _ => .str _)) (by rfl))) (e_nil)))))
abbrev sis_text : Stmt := topS 18
theorem scis_text : FnScope ["thing", "sign"] ["thing"] (defScope sis_text) := ⟨rfl, rfl, rfl, by decide +kernel, rfl, by decide +kernel, by decide +kernel⟩
theorem okis_text (B : Blt w K mg) {f : Addr} {fd : FuncData} (F : Fun K "is_text" "is_text" sis_text f fd) (hat : mg "is_text" = some (.ref f)) (bd : Binds K fd ["thing"] []) : Dn P w K mg base 1 "is_text" ["thing"] mis_text f fd := by
  refine dn_mk (k := 0) (N := ["thing", "sign"]) (ps := ["thing"]) (body := bis_text) F scis_text hat bd fun cdv A outer s H E rm hr ϑ => ?_
  have nd := scis_text.nd
  exact s_one (s_ret (e_and (e_bi (fun _ => c_isi) B.isinstance_ (by decide +kernel) (e_cons (e_var 0) (e_cons (e_ty B.str_ (by decide +kernel)) (e_nil)))) (e_and (e_cmp (fun _ => o_le) (e_bi (fun _ => c_len) B.len_ (by decide +kernel) (e_cons (e_var 0) (e_nil))) (e_glob (by rfl) B.c_LONGEST_TEXT (fun _ _ => .int _)) (nomark _)) (e_one (e_bi (fun _ => c_all rm) B.all_ (by decide +kernel) (e_cons (e_lc (own := [("sign", 1)]) rm nd (i_val (e_var 0)) (blkOk_by (by kernel_rfl)) (by decide) (fun _ _ _ _ _ => g_name (i := 1) nd) (fun _ _ _ _ _ => ts_nil) (fun _ _ _ _ _ => e_chain (fun _ => o_le) (fun _ => o_le) (e_str) (e_var 1) (e_str))) (e_nil)))))))
abbrev sis_node : Stmt := topS 19
theorem scis_node : FnScope ["thing", "pages", "kind", "links", "own", "page"] ["thing", "pages"] (defScope sis_node) := ⟨rfl, rfl, rfl, by decide +kernel, rfl, by decide +kernel, by decide +kernel⟩
theorem okis_node (B : Blt w K mg) {fis_from : Addr} {fdis_from : FuncData} (Dis_from : Dn P w K mg base 2 "is_from" ["thing", "least", "most"] mis_from fis_from fdis_from) {f : Addr} {fd : FuncData} (F : Fun K "is_node" "is_node" sis_node f fd) (hat : mg "is_node" = some (.ref f)) (bd : Binds K fd ["thing", "pages"] []) : Dn P w K mg base 3 "is_node" ["thing", "pages"] mis_node f fd := by
  refine dn_mk (k := 2) (N := ["thing", "pages", "kind", "links", "own", "page"]) (ps := ["thing", "pages"]) (body := bis_node) F scis_node hat bd fun cdv A outer s H E rm hr ϑ => ?_
  have nd := scis_node.nd
  exact s_seq (s_if (t_cmp (fun _ => o_is) (e_var 0) (e_non) (nomark _)) (s_one (s_ret (e_bl))) (s_nil)) (s_seq (s_if ((w_or (t_not (t_val (e_bi (fun _ => c_isi) B.isinstance_ (by decide +kernel) (e_cons (e_var 0) (e_cons (e_ty B.tuple_ (by decide +kernel)) (e_nil)))))) (w_or (t_cmp (fun _ => o_ne2 rm.toRm) (e_bi (fun _ => c_len) B.len_ (by decide +kernel) (e_cons (e_var 0) (e_nil))) (e_int) (nomark _)) (w_or1 (t_not (t_val (e_bi (fun _ => c_isi) B.isinstance_ (by decide +kernel) (e_cons (e_ix (e_var 0) (e_int)) (e_cons (e_ty B.tuple_ (by decide +kernel)) (e_nil))))))))).pt) (s_one (s_ret (e_bl))) (s_nil)) (s_seq (s_asg (e_var 0) (g_tup rm (gs_cons (g_name (i := 2) nd) (gs_cons (g_name (i := 3) nd) (gs_cons (g_name (i := 4) nd) (gs_nil)))))) (s_seq (s_if ((w_or (t_not (t_val (e_bi (fun _ => c_isi) B.isinstance_ (by decide +kernel) (e_cons (e_var 2) (e_cons (e_ty B.str_ (by decide +kernel)) (e_nil)))))) (w_or (t_cmp (fun _ => o_nin rm.toRm) (e_var 2) (e_globT (by rfl) B.c_KINDS (fun _ _ => .cons (.str _) (.cons (.str _) (.nil)))) (by rfl)) (w_or1 (t_not (t_val (e_fn Dis_from fn_len rm (hr.mono (by omega)) (e_cons (e_var 3) (e_cons (e_int) (e_cons (e_glob (by rfl) B.c_MOST_LINKS (fun _ _ => .int _)) (e_nil)))))))))).pt) (s_one (s_ret (e_bl))) (s_nil)) (s_one (s_ret (e_and (e_cmp (fun _ => o_le) (e_bi (fun _ => c_len) B.len_ (by decide +kernel) (e_cons (e_var 4) (e_nil))) (e_glob (by rfl) B.c_MOST_PAGES (fun _ _ => .int _)) (nomark _)) (e_one (e_bi (fun _ => c_all rm) B.all_ (by decide +kernel) (e_cons (e_lc (own := [("page", 5)]) rm nd (i_val (e_var 4)) (blkOk_by (by kernel_rfl)) (by decide) (fun _ _ _ _ _ => g_name (i := 5) nd) (fun _ _ _ _ _ => ts_nil) (fun _ _ _ _ _ => e_fn Dis_from fn_len rm.blk (hr.mono (by omega)) (e_cons (e_var 5) (e_cons (e_int) (e_cons (e_op (fun _ => o_sub) (e_var 1) (e_int)) (e_nil)))))) (e_nil))))))))))
abbrev sis_entry : Stmt := topS 20
theorem scis_entry : FnScope ["thing", "nodes"] ["thing", "nodes"] (defScope sis_entry) := ⟨rfl, rfl, rfl, by decide +kernel, rfl, by decide +kernel, by decide +kernel⟩
theorem okis_entry (B : Blt w K mg) {fis_name : Addr} {fdis_name : FuncData} (Dis_name : Dn P w K mg base 1 "is_name" ["thing"] mis_name fis_name fdis_name) {fis_from : Addr} {fdis_from : FuncData} (Dis_from : Dn P w K mg base 2 "is_from" ["thing", "least", "most"] mis_from fis_from fdis_from) {f : Addr} {fd : FuncData} (F : Fun K "is_entry" "is_entry" sis_entry f fd) (hat : mg "is_entry" = some (.ref f)) (bd : Binds K fd ["thing", "nodes"] []) : Dn P w K mg base 3 "is_entry" ["thing", "nodes"] mis_entry f fd := by
  refine dn_mk (k := 2) (N := ["thing", "nodes"]) (ps := ["thing", "nodes"]) (body := bis_entry) F scis_entry hat bd fun cdv A outer s H E rm hr ϑ => ?_
  have nd := scis_entry.nd
  exact s_seq (s_if (t_cmp (fun _ => o_is) (e_var 0) (e_non) (nomark _)) (s_one (s_ret (e_bl))) (s_nil)) (s_one (s_ret (e_and (e_bi (fun _ => c_isi) B.isinstance_ (by decide +kernel) (e_cons (e_var 0) (e_cons (e_ty B.tuple_ (by decide +kernel)) (e_nil)))) (e_and (e_cmp (fun _ => o_eq2 rm.toRm) (e_bi (fun _ => c_len) B.len_ (by decide +kernel) (e_cons (e_var 0) (e_nil))) (e_int) (nomark _)) (e_and (e_fnP Dis_name fn_len rm (hr.mono (by omega)) (e_cons (e_ix (e_var 0) (e_int)) (e_nil))) (e_one (e_fn Dis_from fn_len rm (hr.mono (by omega)) (e_cons (e_ix (e_var 0) (e_int)) (e_cons (e_int) (e_cons (e_op (fun _ => o_sub) (e_var 1) (e_int)) (e_nil)))))))))))
abbrev sis_data : Stmt := topS 21
theorem scis_data : FnScope ["thing", "nodes", "what", "rest", "one"] ["thing", "nodes"] (defScope sis_data) := ⟨rfl, rfl, rfl, by decide +kernel, rfl, by decide +kernel, by decide +kernel⟩
theorem okis_data (B : Blt w K mg) {fis_entry : Addr} {fdis_entry : FuncData} (Dis_entry : Dn P w K mg base 3 "is_entry" ["thing", "nodes"] mis_entry fis_entry fdis_entry) {fis_text : Addr} {fdis_text : FuncData} (Dis_text : Dn P w K mg base 1 "is_text" ["thing"] mis_text fis_text fdis_text) {f : Addr} {fd : FuncData} (F : Fun K "is_data" "is_data" sis_data f fd) (hat : mg "is_data" = some (.ref f)) (bd : Binds K fd ["thing", "nodes"] []) : Dn P w K mg base 4 "is_data" ["thing", "nodes"] mis_data f fd := by
  refine dn_mk (k := 3) (N := ["thing", "nodes", "what", "rest", "one"]) (ps := ["thing", "nodes"]) (body := bis_data) F scis_data hat bd fun cdv A outer s H E rm hr ϑ => ?_
  have nd := scis_data.nd
  exact s_seq (s_if ((w_or (t_not (t_val (e_bi (fun _ => c_isi) B.isinstance_ (by decide +kernel) (e_cons (e_var 0) (e_cons (e_ty B.tuple_ (by decide +kernel)) (e_nil)))))) (w_or1 (t_cmp (fun _ => o_ne2 rm.toRm) (e_bi (fun _ => c_len) B.len_ (by decide +kernel) (e_cons (e_var 0) (e_nil))) (e_bi (fun _ => c_len) B.len_ (by decide +kernel) (e_cons (e_globT (by rfl) B.c_NEVER (fun _ _ => .cons (.non) (.cons (.non) (.cons (.non) (.cons (.non) (.cons (.non) (.nil))))))) (e_nil))) (nomark _)))).pt) (s_one (s_ret (e_bl))) (s_nil)) (s_seq (s_asgStar rm (e_var 0) (gs_cons (g_name (i := 2) nd) (gs_star (g_name (i := 3) nd)))) (s_seq (s_if (t_cmp (fun _ => o_is) (e_var 2) (e_non) (nomark _)) (s_one (s_ret (e_cmp (fun _ => o_eq2 rm.toRm) (e_var 3) (e_op (fun _ => o_mul2) (e_lst (e_cons (e_non) (e_nil))) (e_int)) (nomark _)))) (s_nil)) (s_seq (s_if ((w_or (t_not (t_val (e_bi (fun _ => c_isi) B.isinstance_ (by decide +kernel) (e_cons (e_var 2) (e_cons (e_ty B.str_ (by decide +kernel)) (e_nil)))))) (w_or1 (t_cmp (fun _ => o_nin rm.toRm) (e_var 2) (e_globT (by rfl) B.c_KINDS (fun _ _ => .cons (.str _) (.cons (.str _) (.nil)))) (by rfl)))).pt) (s_one (s_ret (e_bl))) (s_nil)) (s_seq (s_if (t_cmp (fun _ => o_eq2 rm.toRm) (e_var 2) (e_str) (nomark _)) (s_one (s_ret (e_and (e_fnP Dis_text fn_len rm (hr.mono (by omega)) (e_cons (e_ix (e_var 3) (e_int)) (e_nil))) (e_one (e_cmp (fun _ => o_eq2 rm.toRm) (e_sl (e_var 3) (e_part (e_int)) (e_noPart)) (e_op (fun _ => o_mul2) (e_lst (e_cons (e_non) (e_nil))) (e_int)) (nomark _)))))) (s_nil)) (s_one (s_ret (e_bi (fun _ => c_all rm) B.all_ (by decide +kernel) (e_cons (e_lc (own := [("one", 4)]) rm nd (i_val (e_var 3)) (blkOk_by (by kernel_rfl)) (by decide) (fun _ _ _ _ _ => g_name (i := 4) nd) (fun _ _ _ _ _ => ts_nil) (fun _ _ _ _ _ => e_fnP Dis_entry fn_len rm.blk (hr.mono (by omega)) (e_cons (e_var 4) (e_cons (e_var 1) (e_nil))))) (e_nil)))))))))
abbrev sis_image : Stmt := topS 22
theorem scis_image : FnScope ["thing", "taken", "nodes", "data", "part", "bit", "node", "slots"] ["thing"] (defScope sis_image) := ⟨rfl, rfl, rfl, by decide +kernel, rfl, by decide +kernel, by decide +kernel⟩
theorem okis_image (B : Blt w K mg) {fis_data : Addr} {fdis_data : FuncData} (Dis_data : Dn P w K mg base 4 "is_data" ["thing", "nodes"] mis_data fis_data fdis_data) {fis_node : Addr} {fdis_node : FuncData} (Dis_node : Dn P w K mg base 3 "is_node" ["thing", "pages"] mis_node fis_node fdis_node) {f : Addr} {fd : FuncData} (F : Fun K "is_image" "is_image" sis_image f fd) (hat : mg "is_image" = some (.ref f)) (bd : Binds K fd ["thing"] []) : Dn P w K mg base 5 "is_image" ["thing"] mis_image f fd := by
  refine dn_mk (k := 4) (N := ["thing", "taken", "nodes", "data", "part", "bit", "node", "slots"]) (ps := ["thing"]) (body := bis_image) F scis_image hat bd fun cdv A outer s H E rm hr ϑ => ?_
  have nd := scis_image.nd
  exact s_seq (s_if ((w_or (t_not (t_val (e_bi (fun _ => c_isi) B.isinstance_ (by decide +kernel) (e_cons (e_var 0) (e_cons (e_ty B.tuple_ (by decide +kernel)) (e_nil)))))) (w_or (t_cmp (fun _ => o_ne2 rm.toRm) (e_bi (fun _ => c_len) B.len_ (by decide +kernel) (e_cons (e_var 0) (e_nil))) (e_int) (nomark _)) (w_or1 (t_not (t_val (e_bi (fun _ => c_all rm) B.all_ (by decide +kernel) (e_cons (e_lc (own := [("part", 4)]) rm nd (i_val (e_var 0)) (blkOk_by (by kernel_rfl)) (by decide) (fun _ _ _ _ _ => g_name (i := 4) nd) (fun _ _ _ _ _ => ts_nil) (fun _ _ _ _ _ => e_bi (fun _ => c_isi) B.isinstance_ (by decide +kernel) (e_cons (e_var 4) (e_cons (e_ty B.tuple_ (by decide +kernel)) (e_nil))))) (e_nil)))))))).pt) (s_one (s_ret (e_bl))) (s_nil)) (s_seq (s_asg (e_var 0) (g_tup rm (gs_cons (g_name (i := 1) nd) (gs_cons (g_name (i := 2) nd) (gs_cons (g_name (i := 3) nd) (gs_nil)))))) (s_seq (s_if ((w_or (t_not (t_chain (fun _ => o_le) (fun _ => o_le) (e_int) (e_bi (fun _ => c_len) B.len_ (by decide +kernel) (e_cons (e_var 1) (e_nil))) (e_glob (by rfl) B.c_MOST_SIZE (fun _ _ => .int _)))) (w_or (t_not (t_chain (fun _ => o_le) (fun _ => o_le) (e_glob (by rfl) B.c_LEAST_NODES (fun _ _ => .int _)) (e_bi (fun _ => c_len) B.len_ (by decide +kernel) (e_cons (e_var 2) (e_nil))) (e_glob (by rfl) B.c_MOST_SIZE (fun _ _ => .int _)))) (w_or1 (t_cmp (fun _ => o_ne2 rm.toRm) (e_bi (fun _ => c_len) B.len_ (by decide +kernel) (e_cons (e_var 3) (e_nil))) (e_bi (fun _ => c_len) B.len_ (by decide +kernel) (e_cons (e_var 1) (e_nil))) (nomark _))))).pt) (s_one (s_ret (e_bl))) (s_nil)) (s_seq (s_if ((w_or (t_not (t_val (e_bi (fun _ => c_all rm) B.all_ (by decide +kernel) (e_cons (e_lc (own := [("bit", 5)]) rm nd (i_val (e_var 1)) (blkOk_by (by kernel_rfl)) (by decide) (fun _ _ _ _ _ => g_name (i := 5) nd) (fun _ _ _ _ _ => ts_nil) (fun _ _ _ _ _ => e_bi (fun _ => c_isi) B.isinstance_ (by decide +kernel) (e_cons (e_var 5) (e_cons (e_ty B.bool_ (by decide +kernel)) (e_nil))))) (e_nil))))) (w_or1 (t_not (t_val (e_bi (fun _ => c_all rm) B.all_ (by decide +kernel) (e_cons (e_lc (own := [("node", 6)]) rm nd (i_val (e_var 2)) (blkOk_by (by kernel_rfl)) (by decide) (fun _ _ _ _ _ => g_name (i := 6) nd) (fun _ _ _ _ _ => ts_nil) (fun _ _ _ _ _ => e_fnP Dis_node fn_len rm.blk (hr.mono (by omega)) (e_cons (e_var 6) (e_cons (e_bi (fun _ => c_len) B.len_ (by decide +kernel) (e_cons (e_var 1) (e_nil))) (e_nil))))) (e_nil))))))).pt) (s_one (s_ret (e_bl))) (s_nil)) (s_one (s_ret (e_bi (fun _ => c_all rm) B.all_ (by decide +kernel) (e_cons (e_lc (own := [("slots", 7)]) rm nd (i_val (e_var 3)) (blkOk_by (by kernel_rfl)) (by decide) (fun _ _ _ _ _ => g_name (i := 7) nd) (fun _ _ _ _ _ => ts_nil) (fun _ _ _ _ _ => e_fnP Dis_data fn_len rm.blk (hr.mono (by omega)) (e_cons (e_var 7) (e_cons (e_bi (fun _ => c_len) B.len_ (by decide +kernel) (e_cons (e_var 2) (e_nil))) (e_nil))))) (e_nil))))))))
abbrev sfirst_image : Stmt := topS 23
theorem scfirst_image : FnScope ["nodes", "pages"] ["nodes", "pages"] (defScope sfirst_image) := ⟨rfl, rfl, rfl, by decide +kernel, rfl, by decide +kernel, by decide +kernel⟩
theorem okfirst_image (B : Blt w K mg) {fis_from : Addr} {fdis_from : FuncData} (Dis_from : Dn P w K mg base 2 "is_from" ["thing", "least", "most"] mis_from fis_from fdis_from) (XNoSize : OwnX P w K mg base "NoSize" "number") {f : Addr} {fd : FuncData} (F : Fun K "first_image" "first_image" sfirst_image f fd) (hat : mg "first_image" = some (.ref f)) (bd : Binds K fd ["nodes", "pages"] []) : DnX P w K mg base 3 "first_image" ["nodes", "pages"] mfirst_image f fd := by
  refine dnX_mk (k := 2) (N := ["nodes", "pages"]) (ps := ["nodes", "pages"]) (body := bfirst_image) F scfirst_image hat bd fun cdv A outer s H E rm hr tk ϑ => ?_
  have nd := scfirst_image.nd
  exact s_seq (s_if (t_not (t_val (e_fnQ Dis_from fn_len rm (hr.mono (by omega)) (e_cons (e_var 0) (e_cons (e_glob (by rfl) B.c_LEAST_NODES (fun _ _ => .int _)) (e_cons (e_glob (by rfl) B.c_MOST_SIZE (fun _ _ => .int _)) (e_nil))))))) (s_one (s_raiseO XNoSize rm (hr.mono (by omega)) tk (e_cons (e_var 0) (e_nil)))) (s_nil)) (s_seq (s_if (t_not (t_val (e_fnQ Dis_from fn_len rm (hr.mono (by omega)) (e_cons (e_var 1) (e_cons (e_int) (e_cons (e_glob (by rfl) B.c_MOST_SIZE (fun _ _ => .int _)) (e_nil))))))) (s_one (s_raiseO XNoSize rm (hr.mono (by omega)) tk (e_cons (e_var 1) (e_nil)))) (s_nil)) (s_one (s_ret (e_tup (e_cons (e_op (fun _ => o_mul2) (e_tup (e_cons (e_bl) (e_nil))) (e_var 1)) (e_cons (e_op (fun _ => o_add) (e_tup (e_cons (e_tup (e_cons (e_str) (e_cons (e_int) (e_cons (e_tup (e_nil)) (e_nil))))) (e_nil))) (e_op (fun _ => o_mul2) (e_tup (e_cons (e_non) (e_nil))) (e_op (fun _ => o_sub) (e_var 0) (e_int)))) (e_cons (e_op (fun _ => o_mul2) (e_tup (e_cons (e_globT (by rfl) B.c_NEVER (fun _ _ => .cons (.non) (.cons (.non) (.cons (.non) (.cons (.non) (.cons (.non) (.nil))))))) (e_nil))) (e_var 1)) (e_nil))))))))
abbrev snames_in : Stmt := topS 26
theorem scnames_in : FnScope ["image", "node", "taken", "nodes", "data", "found", "page", "first", "slots", "slot"] ["image", "node"] (defScope snames_in) := ⟨rfl, rfl, rfl, by decide +kernel, rfl, by decide +kernel, by decide +kernel⟩
theorem oknames_in (B : Blt w K mg) {f : Addr} {fd : FuncData} (F : Fun K "names_in" "names_in" snames_in f fd) (hat : mg "names_in" = some (.ref f)) (bd : Binds K fd ["image", "node"] []) : Dn P w K mg base 1 "names_in" ["image", "node"] mnames_in f fd := by
  refine dn_mk (k := 0) (N := ["image", "node", "taken", "nodes", "data", "found", "page", "first", "slots", "slot"]) (ps := ["image", "node"]) (body := bnames_in) F scnames_in hat bd fun cdv A outer s H E rm hr ϑ => ?_
  have nd := scnames_in.nd
  exact s_seq (s_asg (e_var 0) (g_tup rm (gs_cons (g_name (i := 2) nd) (gs_cons (g_name (i := 3) nd) (gs_cons (g_name (i := 4) nd) (gs_nil)))))) (s_seq (s_asg (e_lst (e_nil)) (g_name (i := 5) nd)) (s_seq (s_for PassesOwn.never rm (i_val (e_ix (e_ix (e_var 3) (e_var 1)) (e_int))) (g_name (i := 6) nd) (s_seq (s_asgStar rm (e_ix (e_var 4) (e_var 6)) (gs_cons (g_name (i := 7) nd) (gs_star (g_name (i := 8) nd)))) (s_one (s_if (t_cmp (fun _ => o_eq2 rm.toRm) (e_var 7) (e_glob (by rfl) B.c_FOLDER (fun _ _ => .str _)) (nomark _)) (s_one (s_expr (e_mth (fun _ => m_ext) PySem.F.slot_list_extend PySem.F.type_list_extend (e_var 5) (e_cons (e_lc (own := [("slot", 9)]) rm nd (i_val (e_var 8)) (blkOk_by (by kernel_rfl)) (by decide) (fun _ _ _ _ _ => g_name (i := 9) nd) (fun _ _ _ _ _ => ts_one (t_cmp (fun _ => o_isnt) (e_var 9) (e_non) (nomark _))) (fun _ _ _ _ _ => e_var 9)) (e_nil))))) (s_nil))))) (s_one (s_ret (e_var 5)))))
abbrev sis_folder : Stmt := topS 27
theorem scis_folder : FnScope ["image", "node"] ["image", "node"] (defScope sis_folder) := ⟨rfl, rfl, rfl, by decide +kernel, rfl, by decide +kernel, by decide +kernel⟩
theorem okis_folder (B : Blt w K mg) {f : Addr} {fd : FuncData} (F : Fun K "is_folder" "is_folder" sis_folder f fd) (hat : mg "is_folder" = some (.ref f)) (bd : Binds K fd ["image", "node"] []) : Dn P w K mg base 1 "is_folder" ["image", "node"] mis_folder f fd := by
  refine dn_mk (k := 0) (N := ["image", "node"]) (ps := ["image", "node"]) (body := bis_folder) F scis_folder hat bd fun cdv A outer s H E rm hr ϑ => ?_
  have nd := scis_folder.nd
  exact s_one (s_ret (e_and (e_cmp (fun _ => o_isnt) (e_ix (e_ix (e_var 0) (e_int)) (e_var 1)) (e_non) (nomark _)) (e_one (e_cmp (fun _ => o_eq2 rm.toRm) (e_ix (e_ix (e_ix (e_var 0) (e_int)) (e_var 1)) (e_int)) (e_glob (by rfl) B.c_FOLDER (fun _ _ => .str _)) (nomark _)))))
abbrev scome_from : Stmt := topS 28
theorem sccome_from : FnScope ["image", "node", "found", "row", "one", "new", "name", "other"] ["image", "node"] (defScope scome_from) := ⟨rfl, rfl, rfl, by decide +kernel, rfl, by decide +kernel, by decide +kernel⟩
theorem okcome_from (B : Blt w K mg) {fis_folder : Addr} {fdis_folder : FuncData} (Dis_folder : Dn P w K mg base 1 "is_folder" ["image", "node"] mis_folder fis_folder fdis_folder) {fnames_in : Addr} {fdnames_in : FuncData} (Dnames_in : Dn P w K mg base 1 "names_in" ["image", "node"] mnames_in fnames_in fdnames_in) {f : Addr} {fd : FuncData} (F : Fun K "come_from" "come_from" scome_from f fd) (hat : mg "come_from" = some (.ref f)) (bd : Binds K fd ["image", "node"] []) : Dn P w K mg base 2 "come_from" ["image", "node"] mcome_from f fd := by
  refine dn_mk (k := 1) (N := ["image", "node", "found", "row", "one", "new", "name", "other"]) (ps := ["image", "node"]) (body := bcome_from) F sccome_from hat bd fun cdv A outer s H E rm hr ϑ => ?_
  have nd := sccome_from.nd
  exact s_seq (s_asg (e_disp1 (e_var 1) (e_bl)) (g_name (i := 2) nd)) (s_seq (s_asg (e_lst (e_cons (e_var 1) (e_nil))) (g_name (i := 3) nd)) (s_seq (s_while PassesOwn.never (t_cmp (fun _ => o_ne2 rm.toRm) (e_var 3) (e_lst (e_nil)) (nomark _)) (s_seq (s_asg (e_mth0 (fun _ => m_pop) PySem.F.slot_list_pop PySem.F.type_list_pop (e_var 3)) (g_name (i := 4) nd)) (s_one (s_if (t_val (e_fnP Dis_folder fn_len rm (hr.mono (by omega)) (e_cons (e_var 0) (e_cons (e_var 4) (e_nil))))) (s_seq (s_setLc (i := 5) (own := [("name", 6), ("other", 7)]) rm nd (i_val (e_fnP Dnames_in fn_len rm (hr.mono (by omega)) (e_cons (e_var 0) (e_cons (e_var 4) (e_nil))))) (blkOk_by (by kernel_rfl)) (by decide) (fun _ _ _ _ _ => g_tup rm.blk (gs_cons (g_name (i := 6) nd) (gs_cons (g_name (i := 7) nd) (gs_nil)))) (fun _ _ _ _ _ => ts_one (t_cmp (fun _ => o_nin rm.blk.toRm) (e_var 7) (e_var 2) (by rfl))) (fun _ _ _ _ _ => e_var 7)) (s_seq (s_expr (e_mthD (fun _ => m_upd) PySem.F.slot_dict_update PySem.F.type_dict_update (e_var 2) (e_cons (e_dc (own := [("other", 7)]) rm nd (i_val (e_var 5)) (blkOk_by (by kernel_rfl)) (by decide) (fun _ _ _ _ _ => g_name (i := 7) nd) (fun _ _ _ _ _ => ts_nil) (fun _ _ _ _ _ => e_var 7) (fun _ _ _ _ _ => e_bl)) (e_nil)))) (s_one (s_expr (e_mth (fun _ => m_ext) PySem.F.slot_list_extend PySem.F.type_list_extend (e_var 3) (e_cons (e_var 5) (e_nil))))))) (s_nil))))) (s_one (s_ret (e_bi (fun _ => c_sorted3 rm) B.sorted_ (by decide +kernel) (e_cons (e_var 2) (e_nil)))))))
abbrev scome_to : Stmt := topS 29
theorem sccome_to : FnScope ["image"] ["image"] (defScope scome_to) := ⟨rfl, rfl, rfl, by decide +kernel, rfl, by decide +kernel, by decide +kernel⟩
theorem okcome_to (B : Blt w K mg) {fcome_from : Addr} {fdcome_from : FuncData} (Dcome_from : Dn P w K mg base 2 "come_from" ["image", "node"] mcome_from fcome_from fdcome_from) {f : Addr} {fd : FuncData} (F : Fun K "come_to" "come_to" scome_to f fd) (hat : mg "come_to" = some (.ref f)) (bd : Binds K fd ["image"] []) : Dn P w K mg base 3 "come_to" ["image"] mcome_to f fd := by
  refine dn_mk (k := 2) (N := ["image"]) (ps := ["image"]) (body := bcome_to) F sccome_to hat bd fun cdv A outer s H E rm hr ϑ => ?_
  have nd := sccome_to.nd
  exact s_one (s_ret (e_fnP Dcome_from fn_len rm (hr.mono (by omega)) (e_cons (e_var 0) (e_cons (e_int) (e_nil)))))
abbrev sleading : Stmt := topS 30
theorem scleading : FnScope ["image", "known", "found", "folder", "name", "node"] ["image", "known"] (defScope sleading) := ⟨rfl, rfl, rfl, by decide +kernel, rfl, by decide +kernel, by decide +kernel⟩
theorem okleading (B : Blt w K mg) {fis_folder : Addr} {fdis_folder : FuncData} (Dis_folder : Dn P w K mg base 1 "is_folder" ["image", "node"] mis_folder fis_folder fdis_folder) {fnames_in : Addr} {fdnames_in : FuncData} (Dnames_in : Dn P w K mg base 1 "names_in" ["image", "node"] mnames_in fnames_in fdnames_in) {f : Addr} {fd : FuncData} (F : Fun K "leading" "leading" sleading f fd) (hat : mg "leading" = some (.ref f)) (bd : Binds K fd ["image", "known"] []) : Dn P w K mg base 2 "leading" ["image", "known"] mleading f fd := by
  refine dn_mk (k := 1) (N := ["image", "known", "found", "folder", "name", "node"]) (ps := ["image", "known"]) (body := bleading) F scleading hat bd fun cdv A outer s H E rm hr ϑ => ?_
  have nd := scleading.nd
  exact s_seq (s_setDc (i := 2) (own := [("node", 5)]) rm nd (i_val (e_var 1)) (blkOk_by (by kernel_rfl)) (by decide) (fun _ _ _ _ _ => g_name (i := 5) nd) (fun _ _ _ _ _ => ts_nil) (fun _ _ _ _ _ => e_var 5) (fun _ _ _ _ _ => e_int)) (s_seq (s_set rm.toRm (e_int) (e_var 2) (e_int)) (s_seq (s_for PassesOwn.never rm (i_val (e_var 1)) (g_name (i := 3) nd) (s_one (s_if (t_val (e_fnP Dis_folder fn_len rm (hr.mono (by omega)) (e_cons (e_var 0) (e_cons (e_var 3) (e_nil))))) (s_one (s_for PassesOwn.never rm (i_val (e_fnP Dnames_in fn_len rm (hr.mono (by omega)) (e_cons (e_var 0) (e_cons (e_var 3) (e_nil))))) (g_tup rm (gs_cons (g_name (i := 4) nd) (gs_cons (g_name (i := 5) nd) (gs_nil)))) (s_one (s_daug rm.toRm (fun _ => in_iadd) (e_var 2) (e_var 5) (e_int))))) (s_nil)))) (s_one (s_ret (e_var 2)))))
abbrev spointed : Stmt := topS 31
theorem scpointed : FnScope ["image", "known", "found", "node", "page"] ["image", "known"] (defScope spointed) := ⟨rfl, rfl, rfl, by decide +kernel, rfl, by decide +kernel, by decide +kernel⟩
theorem okpointed (B : Blt w K mg) {f : Addr} {fd : FuncData} (F : Fun K "pointed" "pointed" spointed f fd) (hat : mg "pointed" = some (.ref f)) (bd : Binds K fd ["image", "known"] []) : Dn P w K mg base 1 "pointed" ["image", "known"] mpointed f fd := by
  refine dn_mk (k := 0) (N := ["image", "known", "found", "node", "page"]) (ps := ["image", "known"]) (body := bpointed) F scpointed hat bd fun cdv A outer s H E rm hr ϑ => ?_
  have nd := scpointed.nd
  exact s_seq (s_asg (e_dnew) (g_name (i := 2) nd)) (s_seq (s_for PassesOwn.never rm (i_val (e_var 1)) (g_name (i := 3) nd) (s_one (s_if (t_cmp (fun _ => o_isnt) (e_ix (e_ix (e_var 0) (e_int)) (e_var 3)) (e_non) (nomark _)) (s_one (s_for PassesOwn.never rm (i_val (e_ix (e_ix (e_ix (e_var 0) (e_int)) (e_var 3)) (e_int))) (g_name (i := 4) nd) (s_one (s_set rm.toRm (e_op (fun _ => o_add) (e_mthD (fun _ => m_get rm.toRm) PySem.F.slot_dict_get PySem.F.type_dict_get (e_var 2) (e_cons (e_var 4) (e_cons (e_int) (e_nil)))) (e_int)) (e_var 2) (e_var 4))))) (s_nil)))) (s_one (s_ret (e_var 2))))
abbrev spage_breaks : Stmt := topS 32
theorem scpage_breaks : FnScope ["image", "node", "taken", "nodes", "data", "kind", "links", "pages", "found", "page"] ["image", "node"] (defScope spage_breaks) := ⟨rfl, rfl, rfl, by decide +kernel, rfl, by decide +kernel, by decide +kernel⟩
theorem okpage_breaks (B : Blt w K mg) {f : Addr} {fd : FuncData} (F : Fun K "page_breaks" "page_breaks" spage_breaks f fd) (hat : mg "page_breaks" = some (.ref f)) (bd : Binds K fd ["image", "node"] []) : Dn P w K mg base 1 "page_breaks" ["image", "node"] mpage_breaks f fd := by
  refine dn_mk (k := 0) (N := ["image", "node", "taken", "nodes", "data", "kind", "links", "pages", "found", "page"]) (ps := ["image", "node"]) (body := bpage_breaks) F scpage_breaks hat bd fun cdv A outer s H E rm hr ϑ => ?_
  have nd := scpage_breaks.nd
  exact s_seq (s_asg (e_var 0) (g_tup rm (gs_cons (g_name (i := 2) nd) (gs_cons (g_name (i := 3) nd) (gs_cons (g_name (i := 4) nd) (gs_nil)))))) (s_seq (s_asg (e_ix (e_var 3) (e_var 1)) (g_tup rm (gs_cons (g_name (i := 5) nd) (gs_cons (g_name (i := 6) nd) (gs_cons (g_name (i := 7) nd) (gs_nil)))))) (s_seq (s_setLc (i := 8) (own := [("page", 9)]) rm nd (i_val (e_var 7)) (blkOk_by (by kernel_rfl)) (by decide) (fun _ _ _ _ _ => g_name (i := 9) nd) (fun _ _ _ _ _ => ts_one (t_not (t_val (e_ix (e_var 2) (e_var 9))))) (fun _ _ _ _ _ => e_tup (e_cons (e_str) (e_cons (e_var 1) (e_cons (e_var 9) (e_nil)))))) (s_one (s_ret (e_op (fun _ => o_add) (e_var 8) (e_lc (own := [("page", 9)]) rm nd (i_val (e_var 7)) (blkOk_by (by kernel_rfl)) (by decide) (fun _ _ _ _ _ => g_name (i := 9) nd) (fun _ _ _ _ _ => ts_one (t_cmp (fun _ => o_ne2 rm.blk.toRm) (e_ix (e_ix (e_var 4) (e_var 9)) (e_int)) (e_var 5) (nomark _))) (fun _ _ _ _ _ => e_tup (e_cons (e_str) (e_cons (e_var 1) (e_cons (e_var 9) (e_nil)))))))))))
abbrev sis_in_ring : Stmt := topS 33
theorem scis_in_ring : FnScope ["image", "folder", "name", "node"] ["image", "folder"] (defScope sis_in_ring) := ⟨rfl, rfl, rfl, by decide +kernel, rfl, by decide +kernel, by decide +kernel⟩
theorem okis_in_ring (B : Blt w K mg) {fnames_in : Addr} {fdnames_in : FuncData} (Dnames_in : Dn P w K mg base 1 "names_in" ["image", "node"] mnames_in fnames_in fdnames_in) {fcome_from : Addr} {fdcome_from : FuncData} (Dcome_from : Dn P w K mg base 2 "come_from" ["image", "node"] mcome_from fcome_from fdcome_from) {f : Addr} {fd : FuncData} (F : Fun K "is_in_ring" "is_in_ring" sis_in_ring f fd) (hat : mg "is_in_ring" = some (.ref f)) (bd : Binds K fd ["image", "folder"] []) : Dn P w K mg base 3 "is_in_ring" ["image", "folder"] mis_in_ring f fd := by
  refine dn_mk (k := 2) (N := ["image", "folder", "name", "node"]) (ps := ["image", "folder"]) (body := bis_in_ring) F scis_in_ring hat bd fun cdv A outer s H E rm hr ϑ => ?_
  have nd := scis_in_ring.nd
  exact s_one (s_ret (e_bi (fun _ => c_any rm) B.any_ (by decide +kernel) (e_cons (e_lc (own := [("name", 2), ("node", 3)]) rm nd (i_val (e_fnP Dnames_in fn_len rm (hr.mono (by omega)) (e_cons (e_var 0) (e_cons (e_var 1) (e_nil))))) (blkOk_by (by kernel_rfl)) (by decide) (fun _ _ _ _ _ => g_tup rm.blk (gs_cons (g_name (i := 2) nd) (gs_cons (g_name (i := 3) nd) (gs_nil)))) (fun _ _ _ _ _ => ts_nil) (fun _ _ _ _ _ => e_cmp (fun _ => o_in rm.blk.toRm) (e_var 1) (e_fnP Dcome_from fn_len rm.blk (hr.mono (by omega)) (e_cons (e_var 0) (e_cons (e_var 3) (e_nil)))) (by rfl))) (e_nil))))
abbrev sfolder_breaks : Stmt := topS 34
theorem scfolder_breaks : FnScope ["image", "folder", "names", "found", "name", "node"] ["image", "folder"] (defScope sfolder_breaks) := ⟨rfl, rfl, rfl, by decide +kernel, rfl, by decide +kernel, by decide +kernel⟩
theorem okfolder_breaks (B : Blt w K mg) {fis_in_ring : Addr} {fdis_in_ring : FuncData} (Dis_in_ring : Dn P w K mg base 3 "is_in_ring" ["image", "folder"] mis_in_ring fis_in_ring fdis_in_ring) {fnames_in : Addr} {fdnames_in : FuncData} (Dnames_in : Dn P w K mg base 1 "names_in" ["image", "node"] mnames_in fnames_in fdnames_in) {f : Addr} {fd : FuncData} (F : Fun K "folder_breaks" "folder_breaks" sfolder_breaks f fd) (hat : mg "folder_breaks" = some (.ref f)) (bd : Binds K fd ["image", "folder"] []) : Dn P w K mg base 4 "folder_breaks" ["image", "folder"] mfolder_breaks f fd := by
  refine dn_mk (k := 3) (N := ["image", "folder", "names", "found", "name", "node"]) (ps := ["image", "folder"]) (body := bfolder_breaks) F scfolder_breaks hat bd fun cdv A outer s H E rm hr ϑ => ?_
  have nd := scfolder_breaks.nd
  exact s_seq (s_setLc (i := 2) (own := [("name", 4), ("node", 5)]) rm nd (i_val (e_fnP Dnames_in fn_len rm (hr.mono (by omega)) (e_cons (e_var 0) (e_cons (e_var 1) (e_nil))))) (blkOk_by (by kernel_rfl)) (by decide) (fun _ _ _ _ _ => g_tup rm.blk (gs_cons (g_name (i := 4) nd) (gs_cons (g_name (i := 5) nd) (gs_nil)))) (fun _ _ _ _ _ => ts_nil) (fun _ _ _ _ _ => e_var 4)) (s_seq (s_asg (e_if (t_cmp (fun _ => o_lt) (e_lenSet (i := 4) B.len_ rm nd (e_var 2) (blkOk_by (by kernel_rfl)) (fun _ _ _ _ _ => pg_name nd rfl (.inl rfl)) (fun _ _ _ _ _ => pv 4)) (e_bi (fun _ => c_len) B.len_ (by decide +kernel) (e_cons (e_var 2) (e_nil))) (nomark _)) (e_lst (e_cons (e_tup (e_cons (e_str) (e_cons (e_var 1) (e_nil)))) (e_nil))) (e_lst (e_nil))) (g_name (i := 3) nd)) (s_one (s_ret (e_op (fun _ => o_add) (e_var 3) (e_if (t_val (e_fnP Dis_in_ring fn_len rm (hr.mono (by omega)) (e_cons (e_var 0) (e_cons (e_var 1) (e_nil))))) (e_lst (e_cons (e_tup (e_cons (e_str) (e_cons (e_var 1) (e_nil)))) (e_nil))) (e_lst (e_nil)))))))
abbrev snode_breaks : Stmt := topS 35
theorem scnode_breaks : FnScope ["image", "node", "many", "found"] ["image", "node", "many"] (defScope snode_breaks) := ⟨rfl, rfl, rfl, by decide +kernel, rfl, by decide +kernel, by decide +kernel⟩
theorem oknode_breaks (B : Blt w K mg) {fis_folder : Addr} {fdis_folder : FuncData} (Dis_folder : Dn P w K mg base 1 "is_folder" ["image", "node"] mis_folder fis_folder fdis_folder) {ffolder_breaks : Addr} {fdfolder_breaks : FuncData} (Dfolder_breaks : Dn P w K mg base 4 "folder_breaks" ["image", "folder"] mfolder_breaks ffolder_breaks fdfolder_breaks) {fpage_breaks : Addr} {fdpage_breaks : FuncData} (Dpage_breaks : Dn P w K mg base 1 "page_breaks" ["image", "node"] mpage_breaks fpage_breaks fdpage_breaks) {f : Addr} {fd : FuncData} (F : Fun K "node_breaks" "node_breaks" snode_breaks f fd) (hat : mg "node_breaks" = some (.ref f)) (bd : Binds K fd ["image", "node", "many"] []) : Dn P w K mg base 5 "node_breaks" ["image", "node", "many"] mnode_breaks f fd := by
  refine dn_mk (k := 4) (N := ["image", "node", "many", "found"]) (ps := ["image", "node", "many"]) (body := bnode_breaks) F scnode_breaks hat bd fun cdv A outer s H E rm hr ϑ => ?_
  have nd := scnode_breaks.nd
  exact s_seq (s_if (t_cmp (fun _ => o_is) (e_ix (e_ix (e_var 0) (e_int)) (e_var 1)) (e_non) (nomark _)) (s_one (s_ret (e_lst (e_cons (e_tup (e_cons (e_str) (e_cons (e_var 1) (e_nil)))) (e_nil))))) (s_nil)) (s_seq (s_asg (e_fnP Dpage_breaks fn_len rm (hr.mono (by omega)) (e_cons (e_var 0) (e_cons (e_var 1) (e_nil)))) (g_name (i := 3) nd)) (s_seq (s_if (t_cmp (fun _ => o_lt) (e_ix (e_ix (e_ix (e_var 0) (e_int)) (e_var 1)) (e_int)) (e_var 2) (nomark _)) (s_one (s_expr (e_mth (fun _ => m_app) PySem.F.slot_list_append PySem.F.type_list_append (e_var 3) (e_cons (e_tup (e_cons (e_str) (e_cons (e_var 1) (e_nil)))) (e_nil))))) (s_nil)) (s_one (s_ret (e_op (fun _ => o_add) (e_var 3) (e_if (t_val (e_fnP Dis_folder fn_len rm (hr.mono (by omega)) (e_cons (e_var 0) (e_cons (e_var 1) (e_nil))))) (e_fnP Dfolder_breaks fn_len rm (hr.mono (by omega)) (e_cons (e_var 0) (e_cons (e_var 1) (e_nil)))) (e_lst (e_nil))))))))
abbrev sbreaks : Stmt := topS 36
theorem scbreaks : FnScope ["image", "known", "many", "found", "node", "one", "page", "often"] ["image"] (defScope sbreaks) := ⟨rfl, rfl, rfl, by decide +kernel, rfl, by decide +kernel, by decide +kernel⟩
theorem okbreaks (B : Blt w K mg) {fpointed : Addr} {fdpointed : FuncData} (Dpointed : Dn P w K mg base 1 "pointed" ["image", "known"] mpointed fpointed fdpointed) {fnode_breaks : Addr} {fdnode_breaks : FuncData} (Dnode_breaks : Dn P w K mg base 5 "node_breaks" ["image", "node", "many"] mnode_breaks fnode_breaks fdnode_breaks) {fis_folder : Addr} {fdis_folder : FuncData} (Dis_folder : Dn P w K mg base 1 "is_folder" ["image", "node"] mis_folder fis_folder fdis_folder) {fleading : Addr} {fdleading : FuncData} (Dleading : Dn P w K mg base 2 "leading" ["image", "known"] mleading fleading fdleading) {fcome_to : Addr} {fdcome_to : FuncData} (Dcome_to : Dn P w K mg base 3 "come_to" ["image"] mcome_to fcome_to fdcome_to) {f : Addr} {fd : FuncData} (F : Fun K "breaks" "breaks" sbreaks f fd) (hat : mg "breaks" = some (.ref f)) (bd : Binds K fd ["image"] []) : Dn P w K mg base 6 "breaks" ["image"] mbreaks f fd := by
  refine dn_mk (k := 5) (N := ["image", "known", "many", "found", "node", "one", "page", "often"]) (ps := ["image"]) (body := bbreaks) F scbreaks hat bd fun cdv A outer s H E rm hr ϑ => ?_
  have nd := scbreaks.nd
  exact s_seq (s_asg (e_fnP Dcome_to fn_len rm (hr.mono (by omega)) (e_cons (e_var 0) (e_nil))) (g_name (i := 1) nd)) (s_seq (s_asg (e_fnP Dleading fn_len rm (hr.mono (by omega)) (e_cons (e_var 0) (e_cons (e_var 1) (e_nil)))) (g_name (i := 2) nd)) (s_seq (s_asg (e_if (t_val (e_fnP Dis_folder fn_len rm (hr.mono (by omega)) (e_cons (e_var 0) (e_cons (e_int) (e_nil))))) (e_lst (e_nil)) (e_lst (e_cons (e_tup (e_cons (e_str) (e_cons (e_int) (e_nil)))) (e_nil)))) (g_name (i := 3) nd)) (s_seq (s_for PassesOwn.never rm (i_val (e_var 1)) (g_name (i := 4) nd) (s_one (s_expr (e_mth (fun _ => m_ext) PySem.F.slot_list_extend PySem.F.type_list_extend (e_var 3) (e_cons (e_lc (own := [("one", 5)]) rm nd (i_val (e_fnP Dnode_breaks fn_len rm (hr.mono (by omega)) (e_cons (e_var 0) (e_cons (e_var 4) (e_cons (e_ixg rm.toRm (e_var 2) (e_var 4)) (e_nil)))))) (blkOk_by (by kernel_rfl)) (by decide) (fun _ _ _ _ _ => g_name (i := 5) nd) (fun _ _ _ _ _ => ts_one (t_cmp (fun _ => o_ne2 rm.blk.toRm) (e_var 5) (e_tup (e_cons (e_str) (e_cons (e_int) (e_nil)))) (nomark _))) (fun _ _ _ _ _ => e_var 5)) (e_nil)))))) (s_seq (s_expr (e_mth (fun _ => m_ext) PySem.F.slot_list_extend PySem.F.type_list_extend (e_var 3) (e_cons (e_lc (own := [("page", 6), ("often", 7)]) rm nd (i_items (e_fnP Dpointed fn_len rm (hr.mono (by omega)) (e_cons (e_var 0) (e_cons (e_var 1) (e_nil))))) (blkOk_by (by kernel_rfl)) (by decide) (fun _ _ _ _ _ => g_tup rm.blk (gs_cons (g_name (i := 6) nd) (gs_cons (g_name (i := 7) nd) (gs_nil)))) (fun _ _ _ _ _ => ts_one (t_cmp (fun _ => o_gt) (e_var 7) (e_int) (nomark _))) (fun _ _ _ _ _ => e_tup (e_cons (e_str) (e_cons (e_var 6) (e_nil))))) (e_nil)))) (s_one (s_ret (e_sortSetT (i := 5) B.sorted_ rm nd (e_var 3) (blkOk_by (by kernel_rfl)) (fun _ _ _ _ _ => pg_name nd rfl (.inl rfl)) (fun _ _ _ _ _ => pv 5))))))))
abbrev slook_at_image : Stmt := topS 37
theorem sclook_at_image : FnScope ["image"] ["image"] (defScope slook_at_image) := ⟨rfl, rfl, rfl, by decide +kernel, rfl, by decide +kernel, by decide +kernel⟩
theorem oklook_at_image (B : Blt w K mg) {fbreaks : Addr} {fdbreaks : FuncData} (Dbreaks : Dn P w K mg base 6 "breaks" ["image"] mbreaks fbreaks fdbreaks) {f : Addr} {fd : FuncData} (F : Fun K "look_at_image" "look_at_image" slook_at_image f fd) (hat : mg "look_at_image" = some (.ref f)) (bd : Binds K fd ["image"] []) : Dn P w K mg base 7 "look_at_image" ["image"] mlook_at_image f fd := by
  refine dn_mk (k := 6) (N := ["image"]) (ps := ["image"]) (body := blook_at_image) F sclook_at_image hat bd fun cdv A outer s H E rm hr ϑ => ?_
  have nd := sclook_at_image.nd
  exact s_one (s_if (t_cmp (fun _ => o_ne2 rm.toRm) (e_fnP Dbreaks fn_len rm (hr.mono (by omega)) (e_cons (e_var 0) (e_nil))) (e_lst (e_nil)) (nomark _)) (s_one (s_bad)) (s_nil))
abbrev sleaks : Stmt := topS 38
theorem scleaks : FnScope ["image", "taken", "nodes", "data", "known", "many", "own", "found", "number", "node", "page", "bit"] ["image"] (defScope sleaks) := ⟨rfl, rfl, rfl, by decide +kernel, rfl, by decide +kernel, by decide +kernel⟩
theorem okleaks (B : Blt w K mg) {fpointed : Addr} {fdpointed : FuncData} (Dpointed : Dn P w K mg base 1 "pointed" ["image", "known"] mpointed fpointed fdpointed) {fleading : Addr} {fdleading : FuncData} (Dleading : Dn P w K mg base 2 "leading" ["image", "known"] mleading fleading fdleading) {fcome_to : Addr} {fdcome_to : FuncData} (Dcome_to : Dn P w K mg base 3 "come_to" ["image"] mcome_to fcome_to fdcome_to) {flook_at_image : Addr} {fdlook_at_image : FuncData} (Dlook_at_image : Dn P w K mg base 7 "look_at_image" ["image"] mlook_at_image flook_at_image fdlook_at_image) {f : Addr} {fd : FuncData} (F : Fun K "leaks" "leaks" sleaks f fd) (hat : mg "leaks" = some (.ref f)) (bd : Binds K fd ["image"] []) : Dn P w K mg base 8 "leaks" ["image"] mleaks f fd := by
  refine dn_mk (k := 7) (N := ["image", "taken", "nodes", "data", "known", "many", "own", "found", "number", "node", "page", "bit"]) (ps := ["image"]) (body := bleaks) F scleaks hat bd fun cdv A outer s H E rm hr ϑ => ?_
  have nd := scleaks.nd
  exact s_seq (s_expr (e_fnP Dlook_at_image fn_len rm (hr.mono (by omega)) (e_cons (e_var 0) (e_nil)))) (s_seq (s_asg (e_var 0) (g_tup rm (gs_cons (g_name (i := 1) nd) (gs_cons (g_name (i := 2) nd) (gs_cons (g_name (i := 3) nd) (gs_nil)))))) (s_seq (s_asg (e_fnP Dcome_to fn_len rm (hr.mono (by omega)) (e_cons (e_var 0) (e_nil))) (g_name (i := 4) nd)) (s_seq (s_asg (e_fnP Dleading fn_len rm (hr.mono (by omega)) (e_cons (e_var 0) (e_cons (e_var 4) (e_nil)))) (g_name (i := 5) nd)) (s_seq (s_asg (e_fnP Dpointed fn_len rm (hr.mono (by omega)) (e_cons (e_var 0) (e_cons (e_var 4) (e_nil)))) (g_name (i := 6) nd)) (s_seq (s_setLc (i := 7) (own := [("page", 10), ("bit", 11)]) rm nd (i_enum B.enumerate_ (e_cons (e_var 1) (e_nil))) (blkOk_by (by kernel_rfl)) (by decide) (fun _ _ _ _ _ => g_tup rm.blk (gs_cons (g_name (i := 10) nd) (gs_cons (g_name (i := 11) nd) (gs_nil)))) (fun _ _ _ _ _ => ts_one ((w_and (t_val (e_var 11)) (w_and1 (t_cmp (fun _ => o_nin rm.blk.toRm) (e_var 10) (e_var 6) (by rfl)))).pt)) (fun _ _ _ _ _ => e_tup (e_cons (e_str) (e_cons (e_var 10) (e_nil))))) (s_seq (s_for PassesOwn.never rm (i_enum B.enumerate_ (e_cons (e_var 2) (e_nil))) (g_tup rm (gs_cons (g_name (i := 8) nd) (gs_cons (g_name (i := 9) nd) (gs_nil)))) (s_seq (s_if ((w_and (t_cmp (fun _ => o_isnt) (e_var 9) (e_non) (nomark _)) (w_and1 (t_cmp (fun _ => o_nin rm.toRm) (e_var 8) (e_var 4) (by rfl)))).pt) (s_one (s_expr (e_mth (fun _ => m_app) PySem.F.slot_list_append PySem.F.type_list_append (e_var 7) (e_cons (e_tup (e_cons (e_str) (e_cons (e_var 8) (e_nil)))) (e_nil))))) (s_nil)) (s_one (s_if ((w_and (t_cmp (fun _ => o_in rm.toRm) (e_var 8) (e_var 4) (by rfl)) (w_and1 (t_cmp (fun _ => o_gt) (e_ix (e_var 9) (e_int)) (e_ixg rm.toRm (e_var 5) (e_var 8)) (nomark _)))).pt) (s_one (s_expr (e_mth (fun _ => m_app) PySem.F.slot_list_append PySem.F.type_list_append (e_var 7) (e_cons (e_tup (e_cons (e_str) (e_cons (e_var 8) (e_cons (e_op (fun _ => o_sub) (e_ix (e_var 9) (e_int)) (e_ixg rm.toRm (e_var 5) (e_var 8))) (e_nil))))) (e_nil))))) (s_nil))))) (s_one (s_ret (e_bi (fun _ => c_sorted3 rm) B.sorted_ (by decide +kernel) (e_cons (e_var 7) (e_nil)))))))))))
abbrev s_law_pool : Stmt := topS 40
theorem sc_law_pool : FnScope ["_law_script", "_law_k", "_law_cell", "_law_size", "_law_mixed"] ["_law_script", "_law_k"] (defScope s_law_pool) := ⟨rfl, rfl, rfl, by decide +kernel, rfl, by decide +kernel, by decide +kernel⟩
theorem ok_law_pool (B : Blt w K mg) {f : Addr} {fd : FuncData} (F : Fun K "_law_pool" "_law_pool" s_law_pool f fd) (hat : mg "_law_pool" = some (.ref f)) (bd : Binds K fd ["_law_script", "_law_k"] []) : Dn P w K mg base 1 "_law_pool" ["_law_script", "_law_k"] m_law_pool f fd := by
  refine dn_mk (k := 0) (N := ["_law_script", "_law_k", "_law_cell", "_law_size", "_law_mixed"]) (ps := ["_law_script", "_law_k"]) (body := b_law_pool) F sc_law_pool hat bd fun cdv A outer s H E rm hr ϑ => ?_
  have nd := sc_law_pool.nd
  exact s_seq (s_asg (e_int) (g_name (i := 2) nd)) (s_seq (s_if (t_cmp (fun _ => o_lt) (e_var 1) (e_bi (fun _ => c_len) B.len_ (by decide +kernel) (e_cons (e_var 0) (e_nil))) (nomark _)) (s_one (s_asg (e_ix (e_var 0) (e_var 1)) (g_name (i := 2) nd))) (s_nil)) (s_seq (s_asg (e_bi (fun _ => c_max rm) B.max_ (by decide +kernel) (e_cons (e_var 2) (e_cons (e_op (fun _ => o_sub) (e_neg (e_int)) (e_var 2)) (e_nil)))) (g_name (i := 3) nd)) (s_seq (s_asg (e_op (fun _ => o_mod) (e_op (fun _ => o_mul2) (e_op (fun _ => o_add) (e_op (fun _ => o_add) (e_op (fun _ => o_add) (e_op (fun _ => o_mod) (e_var 3) (e_int)) (e_op (fun _ => o_mul2) (e_op (fun _ => o_mul2) (e_int) (e_var 1)) (e_var 1))) (e_op (fun _ => o_mul2) (e_int) (e_var 1))) (e_int)) (e_int)) (e_int)) (g_name (i := 4) nd)) (s_one (s_ret (e_lst (e_cons (e_op (fun _ => o_mul2) (e_var 3) (e_bt (fun _ => c_int) B.int_ (by decide +kernel) (e_cons (e_cmp (fun _ => o_ge) (e_var 3) (e_op (fun _ => o_pow) (e_int) (e_int)) (nomark _)) (e_nil)))) (e_cons (e_var 4) (e_nil)))))))))
abbrev s_law_draw : Stmt := topS 41
theorem sc_law_draw : FnScope ["_law_pool_here", "_law_many", "_law_found"] ["_law_pool_here", "_law_many"] (defScope s_law_draw) := ⟨rfl, rfl, rfl, by decide +kernel, rfl, by decide +kernel, by decide +kernel⟩
theorem ok_law_draw (B : Blt w K mg) {f : Addr} {fd : FuncData} (F : Fun K "_law_draw" "_law_draw" s_law_draw f fd) (hat : mg "_law_draw" = some (.ref f)) (bd : Binds K fd ["_law_pool_here", "_law_many"] []) : Dn P w K mg base 1 "_law_draw" ["_law_pool_here", "_law_many"] m_law_draw f fd := by
  refine dn_mk (k := 0) (N := ["_law_pool_here", "_law_many", "_law_found"]) (ps := ["_law_pool_here", "_law_many"]) (body := b_law_draw) F sc_law_draw hat bd fun cdv A outer s H E rm hr ϑ => ?_
  have nd := sc_law_draw.nd
  exact s_seq (s_if (t_cmp (fun _ => o_gt) (e_ix (e_var 0) (e_int)) (e_int) (nomark _)) (s_seq (s_asg (e_op (fun _ => o_mod) (e_ix (e_var 0) (e_int)) (e_var 1)) (g_name (i := 2) nd)) (s_seq (s_set rm.toRm (e_op (fun _ => o_fdiv) (e_ix (e_var 0) (e_int)) (e_var 1)) (e_var 0) (e_int)) (s_one (s_ret (e_var 2))))) (s_nil)) (s_seq (s_set rm.toRm (e_op (fun _ => o_mod) (e_op (fun _ => o_add) (e_op (fun _ => o_mul2) (e_ix (e_var 0) (e_int)) (e_int)) (e_int)) (e_int)) (e_var 0) (e_int)) (s_one (s_ret (e_op (fun _ => o_mod) (e_op (fun _ => o_fdiv) (e_op (fun _ => o_mod) (e_op (fun _ => o_mul2) (e_ix (e_var 0) (e_int)) (e_ix (e_var 0) (e_int))) (e_int)) (e_int)) (e_var 1)))))
abbrev s_law_number : Stmt := topS 42
theorem sc_law_number : FnScope ["_law_pool_here", "_law_some"] ["_law_pool_here"] (defScope s_law_number) := ⟨rfl, rfl, rfl, by decide +kernel, rfl, by decide +kernel, by decide +kernel⟩
theorem ok_law_number (B : Blt w K mg) {f_law_draw : Addr} {fd_law_draw : FuncData} (D_law_draw : Dn P w K mg base 1 "_law_draw" ["_law_pool_here", "_law_many"] m_law_draw f_law_draw fd_law_draw) {f : Addr} {fd : FuncData} (F : Fun K "_law_number" "_law_number" s_law_number f fd) (hat : mg "_law_number" = some (.ref f)) (bd : Binds K fd ["_law_pool_here"] []) : Dn P w K mg base 2 "_law_number" ["_law_pool_here"] m_law_number f fd := by
  refine dn_mk (k := 1) (N := ["_law_pool_here", "_law_some"]) (ps := ["_law_pool_here"]) (body := b_law_number) F sc_law_number hat bd fun cdv A outer s H E rm hr ϑ => ?_
  have nd := sc_law_number.nd
  exact s_seq (s_asg (e_lst (e_cons (e_int) (e_cons (e_int) (e_cons (e_int) (e_cons (e_int) (e_cons (e_int) (e_cons (e_neg (e_int)) (e_cons (e_bl) (e_cons (e_non) (e_cons (e_str) (e_cons (e_op (fun _ => o_pow) (e_int) (e_int)) (e_cons (e_tup (e_cons (e_int) (e_nil))) (e_nil))))))))))))) (g_name (i := 1) nd)) (s_seq (s_if (t_cmp (fun _ => o_eq2 rm.toRm) (e_fn D_law_draw fn_len rm (hr.mono (by omega)) (e_cons (e_var 0) (e_cons (e_int) (e_nil)))) (e_int) (nomark _)) (s_one (s_ret (e_op (fun _ => o_add) (e_int) (e_fn D_law_draw fn_len rm (hr.mono (by omega)) (e_cons (e_var 0) (e_cons (e_int) (e_nil))))))) (s_nil)) (s_one (s_ret (e_ix (e_var 1) (e_fn D_law_draw fn_len rm (hr.mono (by omega)) (e_cons (e_var 0) (e_cons (e_bi (fun _ => c_len) B.len_ (by decide +kernel) (e_cons (e_var 1) (e_nil))) (e_nil))))))))
abbrev s_law_from : Stmt := topS 43
theorem sc_law_from : FnScope ["_law_thing", "_law_least", "_law_most"] ["_law_thing", "_law_least", "_law_most"] (defScope s_law_from) := ⟨rfl, rfl, rfl, by decide +kernel, rfl, by decide +kernel, by decide +kernel⟩
theorem ok_law_from (B : Blt w K mg) {f : Addr} {fd : FuncData} (F : Fun K "_law_from" "_law_from" s_law_from f fd) (hat : mg "_law_from" = some (.ref f)) (bd : Binds K fd ["_law_thing", "_law_least", "_law_most"] []) : Dn P w K mg base 1 "_law_from" ["_law_thing", "_law_least", "_law_most"] m_law_from f fd := by
  refine dn_mk (k := 0) (N := ["_law_thing", "_law_least", "_law_most"]) (ps := ["_law_thing", "_law_least", "_law_most"]) (body := b_law_from) F sc_law_from hat bd fun cdv A outer s H E rm hr ϑ => ?_
  have nd := sc_law_from.nd
  exact s_one (s_ret (e_and (e_bi (fun _ => c_isi) B.isinstance_ (by decide +kernel) (e_cons (e_var 0) (e_cons (e_ty B.int_ (by decide +kernel)) (e_nil)))) (e_and (e_not (e_bi (fun _ => c_isi) B.isinstance_ (by decide +kernel) (e_cons (e_var 0) (e_cons (e_ty B.bool_ (by decide +kernel)) (e_nil))))) (e_one (e_chain (fun _ => o_le) (fun _ => o_le) (e_var 1) (e_var 0) (e_var 2))))))
abbrev slaw : Stmt := topS 44
theorem sclaw : FnScope ["_law_script", "_law_k", "_law_pool_here", "_law_one", "_law_other", "_law_bad", "_law_found", "_law_kept", "e", "_law_due", "_law_thing", "_law_least"] ["_law_script"] (defScope slaw) := ⟨rfl, rfl, rfl, by decide +kernel, rfl, by decide +kernel, by decide +kernel⟩
theorem oklaw (B : Blt w K mg) {fis_image : Addr} {fdis_image : FuncData} (Dis_image : Dn P w K mg base 5 "is_image" ["thing"] mis_image fis_image fdis_image) {fbreaks : Addr} {fdbreaks : FuncData} (Dbreaks : Dn P w K mg base 6 "breaks" ["image"] mbreaks fbreaks fdbreaks) {fleaks : Addr} {fdleaks : FuncData} (Dleaks : Dn P w K mg base 8 "leaks" ["image"] mleaks fleaks fdleaks) {ffirst_image : Addr} {fdfirst_image : FuncData} (Dfirst_image : DnX P w K mg base 3 "first_image" ["nodes", "pages"] mfirst_image ffirst_image fdfirst_image) {f_law_from : Addr} {fd_law_from : FuncData} (D_law_from : Dn P w K mg base 1 "_law_from" ["_law_thing", "_law_least", "_law_most"] m_law_from f_law_from fd_law_from) {f_law_number : Addr} {fd_law_number : FuncData} (D_law_number : Dn P w K mg base 2 "_law_number" ["_law_pool_here"] m_law_number f_law_number fd_law_number) {f_law_pool : Addr} {fd_law_pool : FuncData} (D_law_pool : Dn P w K mg base 1 "_law_pool" ["_law_script", "_law_k"] m_law_pool f_law_pool fd_law_pool) {f : Addr} {fd : FuncData} (F : Fun K "law" "law" slaw f fd) (hat : mg "law" = some (.ref f)) (bd : Binds K fd ["_law_script"] []) : Dn P w K mg base 9 "law" ["_law_script"] mlaw f fd := by
  refine dn_mk (k := 8) (N := ["_law_script", "_law_k", "_law_pool_here", "_law_one", "_law_other", "_law_bad", "_law_found", "_law_kept", "e", "_law_due", "_law_thing", "_law_least"]) (ps := ["_law_script"]) (body := blaw) F sclaw hat bd fun cdv A outer s H E rm hr ϑ => ?_
  have nd := sclaw.nd
  exact s_seq (s_for PassesOwn.never rm (i_rng1 B.range_ (e_cons (e_bi (fun _ => c_max rm) B.max_ (by decide +kernel) (e_cons (e_int) (e_cons (e_bi (fun _ => c_min rm) B.min_ (by decide +kernel) (e_cons (e_int) (e_cons (e_bi (fun _ => c_len) B.len_ (by decide +kernel) (e_cons (e_var 0) (e_nil))) (e_nil)))) (e_nil)))) (e_nil))) (g_name (i := 1) nd) (ss_pure (fun ϑ => s_seq (s_asg (e_fn D_law_pool fn_len rm (hr.mono (by omega)) (e_cons (e_var 0) (e_cons (e_var 1) (e_nil)))) (g_name (i := 2) nd)) (s_seq (s_par (i := 3) (j := 4) rm nd (e_cons (e_fn D_law_number fn_len rm (hr.mono (by omega)) (e_cons (e_var 2) (e_nil))) (e_cons (e_fn D_law_number fn_len rm (hr.mono (by omega)) (e_cons (e_var 2) (e_nil))) (e_nil)))) (s_seq (s_setLc (i := 5) (own := [("_law_thing", 10), ("_law_least", 11)]) rm nd (i_val (e_lst (e_cons (e_tup (e_cons (e_var 3) (e_cons (e_int) (e_nil)))) (e_cons (e_tup (e_cons (e_var 4) (e_cons (e_int) (e_nil)))) (e_nil))))) (blkOk_by (by kernel_rfl)) (by decide) (fun _ _ _ _ _ => g_tup rm.blk (gs_cons (g_name (i := 10) nd) (gs_cons (g_name (i := 11) nd) (gs_nil)))) (fun _ _ _ _ _ => ts_one (t_not (t_val (e_fn D_law_from fn_len rm.blk (hr.mono (by omega)) (e_cons (e_var 10) (e_cons (e_var 11) (e_cons (e_int) (e_nil)))))))) (fun _ _ _ _ _ => e_var 10)) (s_seq (s_asg (e_non) (g_name (i := 6) nd)) (s_seq (s_asg (e_non) (g_name (i := 7) nd)) (s_seq (s_try (tab := [("NoSize", true)]) (i := 8) takes0 nd ⟨rfl, by decide, .inl B.g_NoSize⟩ (List.forall_mem_cons.mpr ⟨B.m_NoSize_NoSize, fun _ h => absurd h List.not_mem_nil⟩) (fun W1 pn1 xe1 tk1 hp1 => s_one (s_asg (e_fnX Dfirst_image fn_len rm.tr (hr.mono (by omega)) tk1 (e_cons (e_var 3) (e_cons (e_var 4) (e_nil)))) (g_name (i := 6) nd))) (fun _ _ => s_one (s_asg (e_lst (e_cons (e_xf (cs := ["NoSize"]) (List.forall_mem_cons.mpr ⟨B.f_NoSize_number, fun _ h => absurd h List.not_mem_nil⟩) (e_var 8)) (e_cons (e_and (e_isx (tab := [("NoSize", true)]) (c := .ty "ValueError") (cv := .type "ValueError") B.isinstance_ (fun u h => h) (List.forall_mem_cons.mpr ⟨⟨B.i_NoSize, B.k_NoSize_ValueError⟩, fun _ h => absurd h List.not_mem_nil⟩) (e_var 8) (pe_bltn (by rfl) B.ValueError_ (by decide +kernel) (v := .ty "ValueError") rfl (by decide) (by decide))) (e_one (e_not (e_isxT (tab := [("NoSize", false)]) (cs := [.ref (clA _ "Broken"), .ref (clA _ "NoDeed"), .ref (clA _ "NoText")]) B.isinstance_ (fun us h => vals_cs rfl h) (Nat.le_of_ble_eq_true rfl) (List.forall_mem_cons.mpr ⟨⟨B.i_NoSize, B.t_NoSize_Broken_NoDeed_NoText⟩, fun _ h => absurd h List.not_mem_nil⟩) (e_var 8) (pa_cons (pe_glob (by rfl) B.g_Broken (v := .ref (clA _ "Broken")) rfl) (pa_cons (pe_glob (by rfl) B.g_NoDeed (v := .ref (clA _ "NoDeed")) rfl) (pa_cons (pe_glob (by rfl) B.g_NoText (v := .ref (clA _ "NoText")) rfl) (pa_nil)))))))) (e_nil)))) (g_name (i := 7) nd)))) (s_one (s_if (t_cmp (fun _ => o_ne2 rm.toRm) (e_var 5) (e_lst (e_nil)) (nomark _)) (s_one (s_if ((w_or (t_cmp (fun _ => o_is) (e_var 7) (e_non) (nomark _)) (w_or1 (t_cmp (fun _ => o_ne2 rm.toRm) (e_bi (fun _ => c_repr2 rm.toRm) B.repr_ (by decide +kernel) (e_cons (e_var 7) (e_nil))) (e_bi (fun _ => c_repr2 rm.toRm) B.repr_ (by decide +kernel) (e_cons (e_lst (e_cons (e_ix (e_var 5) (e_int)) (e_cons (e_bl) (e_nil)))) (e_nil))) (nomark _)))).pt) (s_one (s_ret (e_bl))) (s_nil))) (s_seq (s_asg (e_tup (e_cons (e_op (fun _ => o_mul2) (e_tup (e_cons (e_bl) (e_nil))) (e_var 4)) (e_cons (e_op (fun _ => o_add) (e_tup (e_cons (e_tup (e_cons (e_str) (e_cons (e_int) (e_cons (e_tup (e_nil)) (e_nil))))) (e_nil))) (e_op (fun _ => o_mul2) (e_tup (e_cons (e_non) (e_nil))) (e_op (fun _ => o_sub) (e_var 3) (e_int)))) (e_cons (e_op (fun _ => o_mul2) (e_tup (e_cons (e_op (fun _ => o_mul2) (e_tup (e_cons (e_non) (e_nil))) (e_int)) (e_nil))) (e_var 4)) (e_nil))))) (g_name (i := 9) nd)) (s_one (s_if ((w_or (t_cmp (fun _ => o_ne2 rm.toRm) (e_bi (fun _ => c_repr2 rm.toRm) B.repr_ (by decide +kernel) (e_cons (e_var 6) (e_nil))) (e_bi (fun _ => c_repr2 rm.toRm) B.repr_ (by decide +kernel) (e_cons (e_var 9) (e_nil))) (nomark _)) (w_or (t_cmp (fun _ => o_isnt) (e_fnP Dis_image fn_len rm (hr.mono (by omega)) (e_cons (e_var 6) (e_nil))) (e_bl) (nomark _)) (w_or (t_cmp (fun _ => o_ne2 rm.toRm) (e_fnP Dbreaks fn_len rm (hr.mono (by omega)) (e_cons (e_var 6) (e_nil))) (e_lst (e_nil)) (nomark _)) (w_or1 (t_cmp (fun _ => o_ne2 rm.toRm) (e_fnP Dleaks fn_len rm (hr.mono (by omega)) (e_cons (e_var 6) (e_nil))) (e_lst (e_nil)) (nomark _)))))).pt) (s_one (s_ret (e_bl))) (s_nil)))))))))))))) (s_one (s_ret (e_bl)))
end
end K02
set_option maxRecDepth 100000
set_option maxHeartbeats 4000000
namespace K02
open PySem L2 Wo
theorem x_mul2 {i j : Int} (S : Store) (h : (-18446744073709551616 < i ∧ i < 18446744073709551616) ∨ (-18446744073709551616 < j ∧ j < 18446744073709551616)) : M.mul2W (.int i) (.int j) S = .ok (.int (i * j)) S := x_mul S h
theorem pool_1 (ns : List Int) (k : Nat) (S : Store) : ∃ c : Int, (M.ifS (M.tst (M.op2 M.ltW (M.var 1) (M.ops M.lenW (M.cons (M.var 0) (M.nil))))) (M.asg (M.op2 M.ixW (M.var 0) (M.var 1)) (M.tgN 2)) (M.skip)) [some (.fl (ns.map .int)), some (.int k), some (.int 0), none, none] S = .ok (.next [some (.fl (ns.map .int)), some (.int k), some (.int c), none, none]) S := by
  by_cases h : k < ns.length
  · have hx : (ns.map W.int)[k]? = some (W.int ns[k]) := by rw [List.getElem?_map, List.getElem?_eq_getElem h]; rfl
    have e1 : ((k : Int) < ((ns.map W.int).length : Int)) = True := eq_true (by rw [List.length_map]; exact_mod_cast h)
    exact ⟨ns[k], by simp only [x_var, gv_some, x_cst, x_op2, o2_ok, o2b_ok, x_op1, x_ops, x_nil, x_cons, c1_ok, c2_ok, x_bind, x_tst, x_tru, x_ofBl, x_truB, x_truI, x_truN, x_truT, x_andT, kA_t, kA_f, x_orT, kO_t, kO_f, x_notT, kN_ok, x_andV, vA_ok, vA_t, vA_f, x_orV, vO_ok, vO_t, vO_f, x_notV, vN_ok, x_ifE, vI_t, vI_f, x_yes,
    x_add, x_sub, x_neg, x_lt, x_le, x_gt, x_ge, x_ne, eqW_int, x_max, x_min, x_intI, x_intB, x_lenT, x_lenF, x_tupT, gx_some, x_ixT, x_ixF, x_at0, x_at1, x_at2, x_at3, x_at4, x_slT, x_sl, l1_ok, l2_ok, l3_ok, x_part, gp_int, x_noPart, x_iter, x_itT, x_rng1, x_rng2,
    x_seq, sq_next, sq_ret, sq_cont, sq_brk, sn_some, x_asg, sA_ok, x_ret, sR_ok, x_retN, x_drop, sD_ok, x_ifS, sI_t, sI_f, x_skip, x_brk, x_cont, x_tgN, x_tgC, x_tgO, Option.bind_some, so_some, x_set, s1_ok, s2_ok, s3_ok,
    List.getElem?_cons_zero, List.getElem?_cons_succ, List.set_cons_zero, List.set_cons_succ, decide_true, decide_false, Bool.not_true, Bool.not_false, e1, x_at k rfl hx]⟩
  · have e1 : ((k : Int) < ((ns.map W.int).length : Int)) = False := eq_false (by rw [List.length_map]; exact_mod_cast h)
    exact ⟨0, by simp only [x_var, gv_some, x_cst, x_op2, o2_ok, o2b_ok, x_op1, x_ops, x_nil, x_cons, c1_ok, c2_ok, x_bind, x_tst, x_tru, x_ofBl, x_truB, x_truI, x_truN, x_truT, x_andT, kA_t, kA_f, x_orT, kO_t, kO_f, x_notT, kN_ok, x_andV, vA_ok, vA_t, vA_f, x_orV, vO_ok, vO_t, vO_f, x_notV, vN_ok, x_ifE, vI_t, vI_f, x_yes,
    x_add, x_sub, x_neg, x_lt, x_le, x_gt, x_ge, x_ne, eqW_int, x_max, x_min, x_intI, x_intB, x_lenT, x_lenF, x_tupT, gx_some, x_ixT, x_ixF, x_at0, x_at1, x_at2, x_at3, x_at4, x_slT, x_sl, l1_ok, l2_ok, l3_ok, x_part, gp_int, x_noPart, x_iter, x_itT, x_rng1, x_rng2,
    x_seq, sq_next, sq_ret, sq_cont, sq_brk, sn_some, x_asg, sA_ok, x_ret, sR_ok, x_retN, x_drop, sD_ok, x_ifS, sI_t, sI_f, x_skip, x_brk, x_cont, x_tgN, x_tgC, x_tgO, Option.bind_some, so_some, x_set, s1_ok, s2_ok, s3_ok,
    List.getElem?_cons_zero, List.getElem?_cons_succ, List.set_cons_zero, List.set_cons_succ, decide_true, decide_false, Bool.not_true, Bool.not_false, e1]⟩
theorem pool_2 (x : W) (k c : Int) (S : Store) : ∃ z : Int, 0 ≤ z ∧ (M.asg (M.ops M.maxW (M.cons (M.var 2) (M.cons (M.op2 M.subW (M.op1 M.negW (M.cst (.int 1))) (M.var 2)) (M.nil)))) (M.tgN 3)) [some x, some (.int k), some (.int c), none, none] S = .ok (.next [some x, some (.int k), some (.int c), some (.int z), none]) S := by
  refine ⟨_, ?_, by simp only [x_var, gv_some, x_cst, x_op2, o2_ok, o2b_ok, x_op1, x_ops, x_nil, x_cons, c1_ok, c2_ok, x_bind, x_tst, x_tru, x_ofBl, x_truB, x_truI, x_truN, x_truT, x_andT, kA_t, kA_f, x_orT, kO_t, kO_f, x_notT, kN_ok, x_andV, vA_ok, vA_t, vA_f, x_orV, vO_ok, vO_t, vO_f, x_notV, vN_ok, x_ifE, vI_t, vI_f, x_yes,
    x_add, x_sub, x_neg, x_lt, x_le, x_gt, x_ge, x_ne, eqW_int, x_max, x_min, x_intI, x_intB, x_lenT, x_lenF, x_tupT, gx_some, x_ixT, x_ixF, x_at0, x_at1, x_at2, x_at3, x_at4, x_slT, x_sl, l1_ok, l2_ok, l3_ok, x_part, gp_int, x_noPart, x_iter, x_itT, x_rng1, x_rng2,
    x_seq, sq_next, sq_ret, sq_cont, sq_brk, sn_some, x_asg, sA_ok, x_ret, sR_ok, x_retN, x_drop, sD_ok, x_ifS, sI_t, sI_f, x_skip, x_brk, x_cont, x_tgN, x_tgC, x_tgO, Option.bind_some, so_some, x_set, s1_ok, s2_ok, s3_ok,
    List.getElem?_cons_zero, List.getElem?_cons_succ, List.set_cons_zero, List.set_cons_succ, decide_true, decide_false, Bool.not_true, Bool.not_false]; rfl⟩
  split <;> omega
theorem inR {i : Int} (h : -1000000 ≤ i) (h' : i ≤ 1000000) : (-18446744073709551616 < i ∧ i < 18446744073709551616) := ⟨by omega, by omega⟩
theorem pool_3 (x : W) (k c z : Int) (S : Store) (h0 : 0 ≤ k) (h1 : k ≤ 1000) : ∃ y : Int, (0 ≤ y ∧ y < 2147483647) ∧ (M.asg (M.op2 M.modW (M.op2 M.mul2W (M.op2 M.addW (M.op2 M.addW (M.op2 M.addW (M.op2 M.modW (M.var 3) (M.cst (.int 2147483629))) (M.op2 M.mul2W (M.op2 M.mul2W (M.cst (.int 7919)) (M.var 1)) (M.var 1))) (M.op2 M.mul2W (M.cst (.int 31)) (M.var 1))) (M.cst (.int 17))) (M.cst (.int 48271))) (M.cst (.int 2147483647))) (M.tgN 4)) [some x, some (.int k), some (.int c), some (.int z), none] S = .ok (.next [some x, some (.int k), some (.int c), some (.int z), some (.int y)]) S := by
  have b1 : (-18446744073709551616 < k ∧ k < 18446744073709551616) := inR (by omega) (by omega)
  have d3 : (-18446744073709551616 < (48271 : Int) ∧ (48271 : Int) < 18446744073709551616) := inR (by omega) (by omega)
  have d4 : (0 : Int) < 2147483629 := by omega
  have d5 : (0 : Int) < 2147483647 := by omega
  refine ⟨(z % 2147483629 + 7919 * k * k + 31 * k + 17) * 48271 % 2147483647, ⟨Int.emod_nonneg _ (by omega), Int.emod_lt_of_pos _ d5⟩, ?_⟩
  simp only [x_var, gv_some, x_cst, x_op2, o2_ok, o2b_ok, x_op1, x_ops, x_nil, x_cons, c1_ok, c2_ok, x_bind, x_tst, x_tru, x_ofBl, x_truB, x_truI, x_truN, x_truT, x_andT, kA_t, kA_f, x_orT, kO_t, kO_f, x_notT, kN_ok, x_andV, vA_ok, vA_t, vA_f, x_orV, vO_ok, vO_t, vO_f, x_notV, vN_ok, x_ifE, vI_t, vI_f, x_yes,
    x_add, x_sub, x_neg, x_lt, x_le, x_gt, x_ge, x_ne, eqW_int, x_max, x_min, x_intI, x_intB, x_lenT, x_lenF, x_tupT, gx_some, x_ixT, x_ixF, x_at0, x_at1, x_at2, x_at3, x_at4, x_slT, x_sl, l1_ok, l2_ok, l3_ok, x_part, gp_int, x_noPart, x_iter, x_itT, x_rng1, x_rng2,
    x_seq, sq_next, sq_ret, sq_cont, sq_brk, sn_some, x_asg, sA_ok, x_ret, sR_ok, x_retN, x_drop, sD_ok, x_ifS, sI_t, sI_f, x_skip, x_brk, x_cont, x_tgN, x_tgC, x_tgO, Option.bind_some, so_some, x_set, s1_ok, s2_ok, s3_ok,
    List.getElem?_cons_zero, List.getElem?_cons_succ, List.set_cons_zero, List.set_cons_succ, decide_true, decide_false, Bool.not_true, Bool.not_false, x_mod _ d4, x_mod _ d5, x_mul2 _ (Or.inr b1), x_mul2 _ (Or.inr d3)]
theorem pool_4 (x : W) (k c z y : Int) (S : Store) (hz : 0 ≤ z) : ∃ a : Int, 0 ≤ a ∧ (M.op2 M.mul2W (M.var 3) (M.ops M.intW (M.cons (M.op2 M.geW (M.var 3) (M.op2 M.powW (M.cst (.int 10)) (M.cst (.int 18)))) (M.nil)))) [some x, some (.int k), some (.int c), some (.int z), some (.int y)] S = .ok (.int a) S := by
  obtain ⟨w, hw⟩ : ∃ w : Int, M.powW (.int 10) (.int 18) S = .ok (.int w) S := ⟨_, x_pow S (by decide) (by decide) (by decide)⟩
  have e7 : (-18446744073709551616 < (if decide (w ≤ z) = true then (1 : Int) else 0) ∧ (if decide (w ≤ z) = true then (1 : Int) else 0) < 18446744073709551616) := by split <;> exact inR (by omega) (by omega)
  refine ⟨_, ?_, by simp only [x_var, gv_some, x_cst, x_op2, o2_ok, o2b_ok, x_op1, x_ops, x_nil, x_cons, c1_ok, c2_ok, x_bind, x_tst, x_tru, x_ofBl, x_truB, x_truI, x_truN, x_truT, x_andT, kA_t, kA_f, x_orT, kO_t, kO_f, x_notT, kN_ok, x_andV, vA_ok, vA_t, vA_f, x_orV, vO_ok, vO_t, vO_f, x_notV, vN_ok, x_ifE, vI_t, vI_f, x_yes,
    x_add, x_sub, x_neg, x_lt, x_le, x_gt, x_ge, x_ne, eqW_int, x_max, x_min, x_intI, x_intB, x_lenT, x_lenF, x_tupT, gx_some, x_ixT, x_ixF, x_at0, x_at1, x_at2, x_at3, x_at4, x_slT, x_sl, l1_ok, l2_ok, l3_ok, x_part, gp_int, x_noPart, x_iter, x_itT, x_rng1, x_rng2,
    x_seq, sq_next, sq_ret, sq_cont, sq_brk, sn_some, x_asg, sA_ok, x_ret, sR_ok, x_retN, x_drop, sD_ok, x_ifS, sI_t, sI_f, x_skip, x_brk, x_cont, x_tgN, x_tgC, x_tgO, Option.bind_some, so_some, x_set, s1_ok, s2_ok, s3_ok,
    List.getElem?_cons_zero, List.getElem?_cons_succ, List.set_cons_zero, List.set_cons_succ, decide_true, decide_false, Bool.not_true, Bool.not_false, hw, x_mul2 _ (Or.inr e7)]; rfl⟩
  split
  · rw [Int.mul_one]; exact hz
  · rw [Int.mul_zero]; exact Int.le_refl _
theorem pool_run (ns : List Int) (k : Nat) (hk : k < 1000) (S : Store) : ∃ a b : Int, m_law_pool [.fl (ns.map .int), .int k] S = .ok (.ref S.length) (S ++ [.lst [.int a, .int b]]) ∧ 0 ≤ a ∧ 0 ≤ b ∧ b < 2147483647 := by
  obtain ⟨c, hc⟩ := pool_1 ns k S
  obtain ⟨z, hz, e3⟩ := pool_2 (.fl (ns.map .int)) k c S
  obtain ⟨y, ⟨hy, hy2⟩, e4⟩ := pool_3 (.fl (ns.map .int)) k c z S (by omega) (by omega)
  obtain ⟨a, ha, e5⟩ := pool_4 (.fl (ns.map .int)) k c z y S hz
  refine ⟨a, y, r_fn rfl ?_, ha, hy, hy2⟩
  show b_law_pool [some (.fl (ns.map .int)), some (.int k), none, none, none] S = _
  unfold b_law_pool
  rw [r_seq (r_asg (t := M.tgN 2) (f' := [some (.fl (ns.map .int)), some (.int k), some (.int 0), none, none]) (w := .int 0) rfl rfl), r_seq hc, r_seq e3, r_seq e4]
  refine r_ret ?_
  rw [r_ops2 e5 (w' := .int y) (S2 := S) rfl]
  exact x_mkL S (Nat.le_of_ble_eq_true rfl)
def PlOk (S : Store) (p : Nat) : Prop := ∃ a b : Int, S[p]? = some (.lst [.int a, .int b]) ∧ 0 ≤ a ∧ 0 ≤ b ∧ b < 2147483647
theorem PlOk.lt {S : Store} {p : Nat} (h : PlOk S p) : p < S.length := by
  obtain ⟨a, b, h, _⟩ := h
  exact (List.getElem?_eq_some_iff.mp h).1
theorem PlOk.pre {S S' : Store} {p : Nat} (h : PlOk S p) (e : S <+: S') : PlOk S' p := by
  obtain ⟨a, b, h, r⟩ := h
  exact ⟨a, b, pre_get e h, r⟩
theorem PlOk.set {S : Store} {p q : Nat} (h : PlOk S p) (e : q ≠ p) (o : Ob) : PlOk (S.set q o) p := by
  obtain ⟨a, b, h, r⟩ := h
  exact ⟨a, b, (List.getElem?_set_ne e).trans h, r⟩
theorem draw_run {S : Store} {p : Nat} (n : Int) (h0 : 0 < n) (h1 : n < 1073741824) (h : PlOk S p) : ∃ v S', m_law_draw [.ref p, .int n] S = .ok (.int v) S' ∧ 0 ≤ v ∧ v < n ∧ PlOk S' p ∧ But p S S' ∧ S'.length = S.length := by
  obtain ⟨a, b, hp, ha, hb, hb2⟩ := h
  have hpl : p < S.length := (List.getElem?_eq_some_iff.mp hp).1
  by_cases hz : 0 < a
  · refine ⟨a % n, S.set p (.lst [.int (a / n), .int b]), r_fn rfl ?_, Int.emod_nonneg _ (by omega), Int.emod_lt_of_pos _ h0, ⟨a / n, b, List.getElem?_set_self hpl, Int.ediv_nonneg ha (by omega), hb, hb2⟩, (But.refl p S).set _, by rw [List.length_set]⟩
    show b_law_draw [some (.ref p), some (.int n), none] S = _
    unfold b_law_draw
    have z1 : (0 < a) = True := eq_true hz
    simp only [x_var, gv_some, x_cst, x_op2, o2_ok, o2b_ok, x_op1, x_ops, x_nil, x_cons, c1_ok, c2_ok, x_bind, x_tst, x_tru, x_ofBl, x_truB, x_truI, x_truN, x_truT, x_andT, kA_t, kA_f, x_orT, kO_t, kO_f, x_notT, kN_ok, x_andV, vA_ok, vA_t, vA_f, x_orV, vO_ok, vO_t, vO_f, x_notV, vN_ok, x_ifE, vI_t, vI_f, x_yes,
    x_add, x_sub, x_neg, x_lt, x_le, x_gt, x_ge, x_ne, eqW_int, x_max, x_min, x_intI, x_intB, x_lenT, x_lenF, x_tupT, gx_some, x_ixT, x_ixF, x_at0, x_at1, x_at2, x_at3, x_at4, x_slT, x_sl, l1_ok, l2_ok, l3_ok, x_part, gp_int, x_noPart, x_iter, x_itT, x_rng1, x_rng2,
    x_seq, sq_next, sq_ret, sq_cont, sq_brk, sn_some, x_asg, sA_ok, x_ret, sR_ok, x_retN, x_drop, sD_ok, x_ifS, sI_t, sI_f, x_skip, x_brk, x_cont, x_tgN, x_tgC, x_tgO, Option.bind_some, so_some, x_set, s1_ok, s2_ok, s3_ok,
    List.getElem?_cons_zero, List.getElem?_cons_succ, List.set_cons_zero, List.set_cons_succ, decide_true, decide_false, Bool.not_true, Bool.not_false, x_ixL hp, z1, x_mod _ h0, x_fdiv _ h0 h1, x_setL hp 0 _ (Nat.zero_lt_succ _) (i := 0) rfl]
  · have c1 := Int.emod_nonneg (b * 69621 + 7) (b := 2147483647) (by decide)
    have c2 := Int.emod_lt_of_pos (b * 69621 + 7) (b := 2147483647) (by decide)
    refine ⟨((b * 69621 + 7) % 2147483647) * ((b * 69621 + 7) % 2147483647) % 2147483629 / 32 % n, S.set p (.lst [.int a, .int ((b * 69621 + 7) % 2147483647)]), r_fn rfl ?_, Int.emod_nonneg _ (by omega), Int.emod_lt_of_pos _ h0, ⟨a, _, List.getElem?_set_self hpl, ha, c1, c2⟩, (But.refl p S).set _, by rw [List.length_set]⟩
    show b_law_draw [some (.ref p), some (.int n), none] S = _
    have c3 : (-18446744073709551616 < ((b * 69621 + 7) % 2147483647) ∧ ((b * 69621 + 7) % 2147483647) < 18446744073709551616) := by omega
    generalize hy : ((b * 69621 + 7) % 2147483647) = y at *
    unfold b_law_draw
    have z1 : (0 < a) = False := eq_false hz
    have hp' : (S.set p (.lst [.int a, .int y]))[p]? = some (.lst [.int a, .int y]) := List.getElem?_set_self hpl
    have d3 : (-18446744073709551616 < (69621 : Int) ∧ (69621 : Int) < 18446744073709551616) := by decide
    have d4 : (0 : Int) < 2147483629 := by decide
    have d5 : (0 : Int) < 2147483647 := by decide
    have d6 : (0 : Int) < 32 := by decide
    have d7 : (32 : Int) < 1073741824 := by decide
    simp only [x_var, gv_some, x_cst, x_op2, o2_ok, o2b_ok, x_op1, x_ops, x_nil, x_cons, c1_ok, c2_ok, x_bind, x_tst, x_tru, x_ofBl, x_truB, x_truI, x_truN, x_truT, x_andT, kA_t, kA_f, x_orT, kO_t, kO_f, x_notT, kN_ok, x_andV, vA_ok, vA_t, vA_f, x_orV, vO_ok, vO_t, vO_f, x_notV, vN_ok, x_ifE, vI_t, vI_f, x_yes,
    x_add, x_sub, x_neg, x_lt, x_le, x_gt, x_ge, x_ne, eqW_int, x_max, x_min, x_intI, x_intB, x_lenT, x_lenF, x_tupT, gx_some, x_ixT, x_ixF, x_at0, x_at1, x_at2, x_at3, x_at4, x_slT, x_sl, l1_ok, l2_ok, l3_ok, x_part, gp_int, x_noPart, x_iter, x_itT, x_rng1, x_rng2,
    x_seq, sq_next, sq_ret, sq_cont, sq_brk, sn_some, x_asg, sA_ok, x_ret, sR_ok, x_retN, x_drop, sD_ok, x_ifS, sI_t, sI_f, x_skip, x_brk, x_cont, x_tgN, x_tgC, x_tgO, Option.bind_some, so_some, x_set, s1_ok, s2_ok, s3_ok,
    List.getElem?_cons_zero, List.getElem?_cons_succ, List.set_cons_zero, List.set_cons_succ, decide_true, decide_false, Bool.not_true, Bool.not_false, x_ixL hp, z1, x_mul2 _ (Or.inr d3), x_mod _ d5, hy, x_setL hp 1 _ (Nat.succ_lt_succ (Nat.zero_lt_succ _)) (i := 1) rfl, x_ixL hp', x_mul2 _ (Or.inr c3), x_mod _ d4, x_mod _ h0, x_fdiv _ d6 d7]
end K02
set_option maxRecDepth 100000
set_option maxHeartbeats 4000000
namespace K02
open PySem L2 Wo
/-! from .. to .. -/
def isI : W → Bool | .int _ => true | .bl _ => true | _ => false
def isB : W → Bool | .bl _ => true | _ => false
def fromB : W → Int → Int → Bool
  | .int i, a, b => decide (a ≤ i) && decide (i ≤ b)
  | _, _, _ => false
def Sm : W → Bool
  | .ty _ => false
  | .ref _ => false
  | .fl _ => false
  | _ => true
theorem isi_int {w : W} {S : Store} (h : Sm w = true) : M.isiK [w, .ty "int"] S = .ok (.bl (isI w)) S := by
  cases w <;> first | exact via rfl | exact absurd h Bool.false_ne_true
theorem isi_bool {w : W} {S : Store} (h : Sm w = true) : M.isiK [w, .ty "bool"] S = .ok (.bl (isB w)) S := by
  cases w <;> first | exact via rfl | exact absurd h Bool.false_ne_true
def isW0 : W → Bool | .int _ => true | _ => false
theorem whole_run {w : W} {S : Store} (h : Sm w = true) : mis_whole [w] S = .ok (.bl (isW0 w)) S := by
  obtain ⟨v, S', e, q1, q2⟩ := Wp.eq (Q := fun v S' => v = .bl (isW0 w) ∧ S' = S) (r := mis_whole [w] S) (by
    rw [uis_whole]; unfold bis_whole
    cases w <;> first | exact absurd h Bool.false_ne_true | (simp only [wp_ok, on_ok, wp_bind, k_bd, wp_op2, k_o2, k_o2b, wp_op1, wp_ops, wp_nil, wp_cons, k_c1, k_c2, wp_var, gv_some, wp_cst, wp_yes, wp_tst, wp_tru, wp_andT, k_aTt, k_aTf, wp_orT, k_oTt, k_oTf, wp_notT, k_nT, wp_andV, k_aV, k_aV2t, k_aV2f, wp_orV, k_oV, k_oV2t, k_oV2f, wp_notV, k_nV, k_nV2, wp_ifE, k_iEt, k_iEf, wp_chain, k_ch1, k_ch2, k_ch3t, k_ch3f, k_ch4,
    wp_sl, k_l1, k_l2, k_l3, wp_part, gp_int, wp_noPart, wp_iter, wp_rng1, wp_rng2, wp_rev, k_rv, wp_mth, k_m1, k_m2, wp_mthD, k_d1, wp_lc, wp_dc, wp_dnew, k_fnN, k_fnR, k_fnE, ws_seq, k_sqN, k_sqR, k_sqE, ws_skip, ws_asg, k_as, k_tg, ws_ret, k_rt, ws_retN, ws_drop, k_dr, ws_if, k_ist, k_isf, ws_set, k_s1, k_s2, k_s3, k_st, ws_for, k_fo,
    x_ofBl, x_truB, x_truI, x_truN, x_truT, x_add, x_sub, x_neg, x_lt, x_le, x_gt, x_ge, x_ne, eqW_int, x_max, x_min, x_intI, x_intB, x_lenT, x_lenF, x_tupT, gx_some, x_ixT, x_ixF, x_at0, x_at1, x_at2, x_at3, x_at4, x_slT, y_ixR, gxl_lst, y_iterT, y_iterF, y_iterR, itl_lst, y_revR, rvl_lst, y_rng1, y_rng2, y_mul, y_fdiv, y_mod, y_mkT, y_mkL, y_addT, y_addR, adl_lst,
    y_el, y_elT, y_elt, y_elf, y_dl, y_dlT, y_dlt, y_dlf, y_dlk, y_dlv, y_fo, y_foT, x_tgN, x_tgC, x_tgO, Option.bind_some, wipeF, List.getElem?_cons_zero, List.getElem?_cons_succ, List.set_cons_zero, List.set_cons_succ, List.length_cons, List.length_nil, decide_true, decide_false, Bool.not_true, Bool.not_false, true_and, and_true, if_true, if_false, ite_true, ite_false, Int.reduceLT, Int.reduceLE, Int.reduceNeg, Nat.reduceAdd, Nat.reduceLeDiff, Nat.zero_add, or_true, true_or, and_self, eq2_int, ne2_int, eq2_str, ne2_str, y_mul2, y_mul2T, y_list2T, ws_asgStar, k_sr, Int.reduceEq, Int.reduceSub, Int.reduceAdd, ws_raise, k_ra, ws_try, k_trN, k_trR, k_trX, k_txY, k_txN, k_gnN, k_gnR, wp_rng3, y_rng3, wp_quiet, k_fnE, k_sqE, k_bdE, k_o2E, k_o2bE, k_c1E, k_c2E, k_nTE, k_aTE, k_oTE, k_aVE, k_oVE, k_iEE, k_drE, k_asE, k_rtE, k_isE, k_foE, k_m2E, isi_int h, isi_bool h, isI, isB]; rfl))
  rw [e, q1, q2]
theorem from_run {w : W} {S : Store} (a b : Int) (h : Sm w = true) : mis_from [w, .int a, .int b] S = .ok (.bl (fromB w a b)) S := by
  obtain ⟨v, S', e, q1, q2⟩ := Wp.eq (Q := fun v S' => v = .bl (fromB w a b) ∧ S' = S) (r := mis_from [w, .int a, .int b] S) (by
    rw [uis_from]; unfold bis_from
    cases w <;> first | exact absurd h Bool.false_ne_true | skip
    all_goals simp only [wp_ok, on_ok, wp_bind, k_bd, wp_op2, k_o2, k_o2b, wp_op1, wp_ops, wp_nil, wp_cons, k_c1, k_c2, wp_var, gv_some, wp_cst, wp_yes, wp_tst, wp_tru, wp_andT, k_aTt, k_aTf, wp_orT, k_oTt, k_oTf, wp_notT, k_nT, wp_andV, k_aV, k_aV2t, k_aV2f, wp_orV, k_oV, k_oV2t, k_oV2f, wp_notV, k_nV, k_nV2, wp_ifE, k_iEt, k_iEf, wp_chain, k_ch1, k_ch2, k_ch3t, k_ch3f, k_ch4,
    wp_sl, k_l1, k_l2, k_l3, wp_part, gp_int, wp_noPart, wp_iter, wp_rng1, wp_rng2, wp_rev, k_rv, wp_mth, k_m1, k_m2, wp_mthD, k_d1, wp_lc, wp_dc, wp_dnew, k_fnN, k_fnR, k_fnE, ws_seq, k_sqN, k_sqR, k_sqE, ws_skip, ws_asg, k_as, k_tg, ws_ret, k_rt, ws_retN, ws_drop, k_dr, ws_if, k_ist, k_isf, ws_set, k_s1, k_s2, k_s3, k_st, ws_for, k_fo,
    x_ofBl, x_truB, x_truI, x_truN, x_truT, x_add, x_sub, x_neg, x_lt, x_le, x_gt, x_ge, x_ne, eqW_int, x_max, x_min, x_intI, x_intB, x_lenT, x_lenF, x_tupT, gx_some, x_ixT, x_ixF, x_at0, x_at1, x_at2, x_at3, x_at4, x_slT, y_ixR, gxl_lst, y_iterT, y_iterF, y_iterR, itl_lst, y_revR, rvl_lst, y_rng1, y_rng2, y_mul, y_fdiv, y_mod, y_mkT, y_mkL, y_addT, y_addR, adl_lst,
    y_el, y_elT, y_elt, y_elf, y_dl, y_dlT, y_dlt, y_dlf, y_dlk, y_dlv, y_fo, y_foT, x_tgN, x_tgC, x_tgO, Option.bind_some, wipeF, List.getElem?_cons_zero, List.getElem?_cons_succ, List.set_cons_zero, List.set_cons_succ, List.length_cons, List.length_nil, decide_true, decide_false, Bool.not_true, Bool.not_false, true_and, and_true, if_true, if_false, ite_true, ite_false, Int.reduceLT, Int.reduceLE, Int.reduceNeg, Nat.reduceAdd, Nat.reduceLeDiff, Nat.zero_add, or_true, true_or, and_self, eq2_int, ne2_int, eq2_str, ne2_str, y_mul2, y_mul2T, y_list2T, ws_asgStar, k_sr, Int.reduceEq, Int.reduceSub, Int.reduceAdd, ws_raise, k_ra, ws_try, k_trN, k_trR, k_trX, k_txY, k_txN, k_gnN, k_gnR, wp_rng3, y_rng3, wp_quiet, k_fnE, k_sqE, k_bdE, k_o2E, k_o2bE, k_c1E, k_c2E, k_nTE, k_aTE, k_oTE, k_aVE, k_oVE, k_iEE, k_drE, k_asE, k_rtE, k_isE, k_foE, k_m2E, whole_run h, isW0, fromB]
    by_cases c : a ≤ ‹Int› <;> simp only [wp_ok, on_ok, wp_bind, k_bd, wp_op2, k_o2, k_o2b, wp_op1, wp_ops, wp_nil, wp_cons, k_c1, k_c2, wp_var, gv_some, wp_cst, wp_yes, wp_tst, wp_tru, wp_andT, k_aTt, k_aTf, wp_orT, k_oTt, k_oTf, wp_notT, k_nT, wp_andV, k_aV, k_aV2t, k_aV2f, wp_orV, k_oV, k_oV2t, k_oV2f, wp_notV, k_nV, k_nV2, wp_ifE, k_iEt, k_iEf, wp_chain, k_ch1, k_ch2, k_ch3t, k_ch3f, k_ch4,
    wp_sl, k_l1, k_l2, k_l3, wp_part, gp_int, wp_noPart, wp_iter, wp_rng1, wp_rng2, wp_rev, k_rv, wp_mth, k_m1, k_m2, wp_mthD, k_d1, wp_lc, wp_dc, wp_dnew, k_fnN, k_fnR, k_fnE, ws_seq, k_sqN, k_sqR, k_sqE, ws_skip, ws_asg, k_as, k_tg, ws_ret, k_rt, ws_retN, ws_drop, k_dr, ws_if, k_ist, k_isf, ws_set, k_s1, k_s2, k_s3, k_st, ws_for, k_fo,
    x_ofBl, x_truB, x_truI, x_truN, x_truT, x_add, x_sub, x_neg, x_lt, x_le, x_gt, x_ge, x_ne, eqW_int, x_max, x_min, x_intI, x_intB, x_lenT, x_lenF, x_tupT, gx_some, x_ixT, x_ixF, x_at0, x_at1, x_at2, x_at3, x_at4, x_slT, y_ixR, gxl_lst, y_iterT, y_iterF, y_iterR, itl_lst, y_revR, rvl_lst, y_rng1, y_rng2, y_mul, y_fdiv, y_mod, y_mkT, y_mkL, y_addT, y_addR, adl_lst,
    y_el, y_elT, y_elt, y_elf, y_dl, y_dlT, y_dlt, y_dlf, y_dlk, y_dlv, y_fo, y_foT, x_tgN, x_tgC, x_tgO, Option.bind_some, wipeF, List.getElem?_cons_zero, List.getElem?_cons_succ, List.set_cons_zero, List.set_cons_succ, List.length_cons, List.length_nil, decide_true, decide_false, Bool.not_true, Bool.not_false, true_and, and_true, if_true, if_false, ite_true, ite_false, Int.reduceLT, Int.reduceLE, Int.reduceNeg, Nat.reduceAdd, Nat.reduceLeDiff, Nat.zero_add, or_true, true_or, and_self, eq2_int, ne2_int, eq2_str, ne2_str, y_mul2, y_mul2T, y_list2T, ws_asgStar, k_sr, Int.reduceEq, Int.reduceSub, Int.reduceAdd, ws_raise, k_ra, ws_try, k_trN, k_trR, k_trX, k_txY, k_txN, k_gnN, k_gnR, wp_rng3, y_rng3, wp_quiet, k_fnE, k_sqE, k_bdE, k_o2E, k_o2bE, k_c1E, k_c2E, k_nTE, k_aTE, k_oTE, k_aVE, k_oVE, k_iEE, k_drE, k_asE, k_rtE, k_isE, k_foE, k_m2E, c, Bool.true_and, Bool.false_and])
  rw [e, q1, q2]
theorem draw_wp {S : Store} {p : Nat} (n : Int) (h0 : 0 < n) (h1 : n < 1073741824) (h : PlOk S p) : Wp (m_law_draw [.ref p, .int n] S) (on fun v S' => ∃ k : Int, v = .int k ∧ (0 ≤ k ∧ k < n) ∧ PlOk S' p ∧ But p S S') := by
  obtain ⟨v, S', e, a, b, c, d, _⟩ := draw_run n h0 h1 h
  rw [e]
  exact ⟨v, rfl, ⟨a, b⟩, c, d⟩

theorem lfrom_run {w : W} {S : Store} (a b : Int) (h : Sm w = true) : m_law_from [w, .int a, .int b] S = .ok (.bl (fromB w a b)) S := by
  obtain ⟨v, S', e, q1, q2⟩ := Wp.eq (Q := fun v S' => v = .bl (fromB w a b) ∧ S' = S) (r := m_law_from [w, .int a, .int b] S) (by
    rw [u_law_from]; unfold b_law_from
    cases w <;> first | exact absurd h Bool.false_ne_true | skip
    all_goals simp only [wp_ok, on_ok, wp_bind, k_bd, wp_op2, k_o2, k_o2b, wp_op1, wp_ops, wp_nil, wp_cons, k_c1, k_c2, wp_var, gv_some, wp_cst, wp_yes, wp_tst, wp_tru, wp_andT, k_aTt, k_aTf, wp_orT, k_oTt, k_oTf, wp_notT, k_nT, wp_andV, k_aV, k_aV2t, k_aV2f, wp_orV, k_oV, k_oV2t, k_oV2f, wp_notV, k_nV, k_nV2, wp_ifE, k_iEt, k_iEf, wp_chain, k_ch1, k_ch2, k_ch3t, k_ch3f, k_ch4,
    wp_sl, k_l1, k_l2, k_l3, wp_part, gp_int, wp_noPart, wp_iter, wp_rng1, wp_rng2, wp_rev, k_rv, wp_mth, k_m1, k_m2, wp_mthD, k_d1, wp_lc, wp_dc, wp_dnew, k_fnN, k_fnR, k_fnE, ws_seq, k_sqN, k_sqR, k_sqE, ws_skip, ws_asg, k_as, k_tg, ws_ret, k_rt, ws_retN, ws_drop, k_dr, ws_if, k_ist, k_isf, ws_set, k_s1, k_s2, k_s3, k_st, ws_for, k_fo,
    x_ofBl, x_truB, x_truI, x_truN, x_truT, x_add, x_sub, x_neg, x_lt, x_le, x_gt, x_ge, x_ne, eqW_int, x_max, x_min, x_intI, x_intB, x_lenT, x_lenF, x_tupT, gx_some, x_ixT, x_ixF, x_at0, x_at1, x_at2, x_at3, x_at4, x_slT, y_ixR, gxl_lst, y_iterT, y_iterF, y_iterR, itl_lst, y_revR, rvl_lst, y_rng1, y_rng2, y_mul, y_fdiv, y_mod, y_mkT, y_mkL, y_addT, y_addR, adl_lst,
    y_el, y_elT, y_elt, y_elf, y_dl, y_dlT, y_dlt, y_dlf, y_dlk, y_dlv, y_fo, y_foT, x_tgN, x_tgC, x_tgO, Option.bind_some, wipeF, List.getElem?_cons_zero, List.getElem?_cons_succ, List.set_cons_zero, List.set_cons_succ, List.length_cons, List.length_nil, decide_true, decide_false, Bool.not_true, Bool.not_false, true_and, and_true, if_true, if_false, ite_true, ite_false, Int.reduceLT, Int.reduceLE, Int.reduceNeg, Nat.reduceAdd, Nat.reduceLeDiff, Nat.zero_add, or_true, true_or, and_self, eq2_int, ne2_int, eq2_str, ne2_str, y_mul2, y_mul2T, y_list2T, ws_asgStar, k_sr, Int.reduceEq, Int.reduceSub, Int.reduceAdd, ws_raise, k_ra, ws_try, k_trN, k_trR, k_trX, k_txY, k_txN, k_gnN, k_gnR, wp_rng3, y_rng3, wp_quiet, k_fnE, k_sqE, k_bdE, k_o2E, k_o2bE, k_c1E, k_c2E, k_nTE, k_aTE, k_oTE, k_aVE, k_oVE, k_iEE, k_drE, k_asE, k_rtE, k_isE, k_foE, k_m2E, isi_int h, isi_bool h, isI, isB, fromB]
    by_cases c : a ≤ ‹Int› <;> simp only [wp_ok, on_ok, wp_bind, k_bd, wp_op2, k_o2, k_o2b, wp_op1, wp_ops, wp_nil, wp_cons, k_c1, k_c2, wp_var, gv_some, wp_cst, wp_yes, wp_tst, wp_tru, wp_andT, k_aTt, k_aTf, wp_orT, k_oTt, k_oTf, wp_notT, k_nT, wp_andV, k_aV, k_aV2t, k_aV2f, wp_orV, k_oV, k_oV2t, k_oV2f, wp_notV, k_nV, k_nV2, wp_ifE, k_iEt, k_iEf, wp_chain, k_ch1, k_ch2, k_ch3t, k_ch3f, k_ch4,
    wp_sl, k_l1, k_l2, k_l3, wp_part, gp_int, wp_noPart, wp_iter, wp_rng1, wp_rng2, wp_rev, k_rv, wp_mth, k_m1, k_m2, wp_mthD, k_d1, wp_lc, wp_dc, wp_dnew, k_fnN, k_fnR, k_fnE, ws_seq, k_sqN, k_sqR, k_sqE, ws_skip, ws_asg, k_as, k_tg, ws_ret, k_rt, ws_retN, ws_drop, k_dr, ws_if, k_ist, k_isf, ws_set, k_s1, k_s2, k_s3, k_st, ws_for, k_fo,
    x_ofBl, x_truB, x_truI, x_truN, x_truT, x_add, x_sub, x_neg, x_lt, x_le, x_gt, x_ge, x_ne, eqW_int, x_max, x_min, x_intI, x_intB, x_lenT, x_lenF, x_tupT, gx_some, x_ixT, x_ixF, x_at0, x_at1, x_at2, x_at3, x_at4, x_slT, y_ixR, gxl_lst, y_iterT, y_iterF, y_iterR, itl_lst, y_revR, rvl_lst, y_rng1, y_rng2, y_mul, y_fdiv, y_mod, y_mkT, y_mkL, y_addT, y_addR, adl_lst,
    y_el, y_elT, y_elt, y_elf, y_dl, y_dlT, y_dlt, y_dlf, y_dlk, y_dlv, y_fo, y_foT, x_tgN, x_tgC, x_tgO, Option.bind_some, wipeF, List.getElem?_cons_zero, List.getElem?_cons_succ, List.set_cons_zero, List.set_cons_succ, List.length_cons, List.length_nil, decide_true, decide_false, Bool.not_true, Bool.not_false, true_and, and_true, if_true, if_false, ite_true, ite_false, Int.reduceLT, Int.reduceLE, Int.reduceNeg, Nat.reduceAdd, Nat.reduceLeDiff, Nat.zero_add, or_true, true_or, and_self, eq2_int, ne2_int, eq2_str, ne2_str, y_mul2, y_mul2T, y_list2T, ws_asgStar, k_sr, Int.reduceEq, Int.reduceSub, Int.reduceAdd, ws_raise, k_ra, ws_try, k_trN, k_trR, k_trX, k_txY, k_txN, k_gnN, k_gnR, wp_rng3, y_rng3, wp_quiet, k_fnE, k_sqE, k_bdE, k_o2E, k_o2bE, k_c1E, k_c2E, k_nTE, k_aTE, k_oTE, k_aVE, k_oVE, k_iEE, k_drE, k_asE, k_rtE, k_isE, k_foE, k_m2E, c, Bool.true_and, Bool.false_and])
  rw [e, q1, q2]
/-! the images -/
def img (n p : Nat) : W := .tup [.tup (List.replicate p (.bl false)), .tup (.tup [.str "folder", .int 1, .tup []] :: List.replicate (n - 1) .non), .tup (List.replicate p (.tup [.non, .non, .non, .non, .non]))]
def isT : Rs W → Bool
  | .ok (.bl true) _ => true
  | _ => false
def isE : Rs W → Bool
  | .ok (.ref r) S => (match S[r]? with | some (.lst []) => true | _ => false)
  | _ => false
def chk (n p : Nat) : Bool := M.pureW (img n p) && isT (mis_image [img n p] []) && isE (mbreaks [img n p] []) && isE (mleaks [img n p] [])
theorem chk_all : ((List.range 15).all fun i => (List.range 16).all fun j => chk (i + 2) (j + 1)) = true := by decide +kernel
theorem isT_of {r : Rs W} (h : isT r = true) : ∃ S, r = .ok (.bl true) S := by
  unfold isT at h
  split at h
  · exact ⟨_, rfl⟩
  · cases h
theorem isE_of {r : Rs W} (h : isE r = true) : ∃ q S, r = .ok (.ref q) S ∧ S[q]? = some (.lst []) := by
  unfold isE at h
  split at h
  · rename_i q S
    split at h
    · rename_i e
      exact ⟨q, S, rfl, e⟩
    · cases h
  · cases h
theorem img_runs {n p : Nat} (h1 : 2 ≤ n) (h2 : n ≤ 16) (h3 : 1 ≤ p) (h4 : p ≤ 16) : ∃ w, w = img n p ∧ (∀ S, M.pureFn mis_image [w] S = .ok (.bl true) S) ∧ (∀ S, M.pureFn mbreaks [w] S = .ok (.ref S.length) (S ++ [.lst []])) ∧ ∀ S, M.pureFn mleaks [w] S = .ok (.ref S.length) (S ++ [.lst []]) := by
  have a := List.all_eq_true.mp chk_all (n - 2) (List.mem_range.mpr (by omega))
  have b := List.all_eq_true.mp a (p - 1) (List.mem_range.mpr (by omega))
  rw [show n - 2 + 2 = n by omega, show p - 1 + 1 = p by omega] at b
  unfold chk at b
  generalize img n p = w at b
  rw [Bool.and_eq_true, Bool.and_eq_true, Bool.and_eq_true] at b
  obtain ⟨⟨⟨b0, b1⟩, b2⟩, b3⟩ := b
  have pw : M.pureWs [w] = true := by simp only [M.pureWs, b0, Bool.and_self]
  obtain ⟨S1, e1⟩ := isT_of b1
  obtain ⟨q2, S2, e2, g2⟩ := isE_of b2
  obtain ⟨q3, S3, e3, g3⟩ := isE_of b3
  refine ⟨w, rfl, fun S => ?_, fun S => ?_, fun S => ?_⟩
  · rw [pure_call pw, e1]
    rfl
  · rw [pure_call pw, e2]
    exact out_ref (Nat.zero_le _) g2 rfl
  · rw [pure_call pw, e3]
    exact out_ref (Nat.zero_le _) g3 rfl
theorem img_rp {n p : Nat} (h2 : n ≤ 16) (h4 : p ≤ 16) : Rp (img n p) := by
  have f : ∀ x ∈ List.replicate p (W.bl false), Pu 1 20 x := fun x hx => by rw [(List.mem_replicate.mp hx).2]; exact (pu_bl _).mono (by omega) (by omega)
  have a1 : Pu 3 2000 (.tup (List.replicate p (.bl false))) := (pu_tup f (L := 16) (by simpa using h4)).mono (by omega) (by omega)
  have g : Pu 2 300 (.tup [.str "folder", .int 1, .tup []]) := (pu_tup (n := 1) (B := 90) (L := 3) (fun x hx => by
    simp only [List.mem_cons, List.not_mem_nil, or_false] at hx
    rcases hx with rfl | rfl | rfl
    · exact (pu_str (x := "folder") (by decide +kernel)).mono (by omega) (by decide +kernel)
    · exact (pu_int (N := 1) (by decide) (by omega)).mono (by omega) (by omega)
    · exact (pu_tup (n := 0) (B := 0) (L := 0) (xs := []) (fun x hx => absurd hx List.not_mem_nil) (Nat.le_refl _)).mono (by omega) (by omega)) (Nat.le_refl _)).mono (by omega) (by omega)
  have a2 : Pu 3 5000 (.tup (.tup [.str "folder", .int 1, .tup []] :: List.replicate (n - 1) .non)) := (pu_tup (n := 2) (B := 300) (L := 16) (fun x hx => by
    rcases List.mem_cons.mp hx with rfl | hx
    · exact g
    · rw [(List.mem_replicate.mp hx).2]
      exact pu_non.mono (by omega) (by omega)) (by simp; omega)).mono (by omega) (by omega)
  have d : Pu 2 40 (.tup [.non, .non, .non, .non, .non]) := (pu_tup (n := 1) (B := 4) (L := 5) (fun x hx => by
    simp only [List.mem_cons, List.not_mem_nil, or_false, or_self] at hx
    subst hx
    exact pu_non) (Nat.le_refl _)).mono (by omega) (by omega)
  have a3 : Pu 3 5000 (.tup (List.replicate p (.tup [.non, .non, .non, .non, .non]))) := (pu_tup (n := 2) (B := 40) (L := 16) (fun x hx => by rw [(List.mem_replicate.mp hx).2]; exact d) (by simpa using h4)).mono (by omega) (by omega)
  exact (pu_tup (n := 3) (B := 5000) (L := 3) (fun x hx => by
    simp only [List.mem_cons, List.not_mem_nil, or_false] at hx
    rcases hx with rfl | rfl | rfl
    · exact a1.mono (by omega) (by omega)
    · exact a2
    · exact a3) (Nat.le_refl _)).rp (by omega) (by omega)
end K02
set_option maxRecDepth 100000
set_option maxHeartbeats 4000000
namespace K02
open PySem L2 Wo
/-! what is drawn -/
theorem toR_pair {S : Store} {r : Nat} {w : W} {d : PyData} (g : S[r]? = some (.lst [w, .bl true])) (e : toR S 19 w = some d) : toR S rr (.ref r) = some (.list [d, .bool true]) := by
  show toR S 20 (.ref r) = _
  unfold toR
  dsimp only
  rw [g]
  dsimp only
  rw [List.mapM_cons, e]
  rfl
/-- what [w, True] is shown as -/
def Pr (w : W) : Prop := ∃ t : Str, ∀ (S : Store) (r : Nat), S[r]? = some (.lst [w, .bl true]) → M.repr2W [.ref r] S = .ok (.str t) S
theorem _root_.Wo.Pu.pr {n B : Nat} {w : W} (h : Pu n B w) (hn : n ≤ 18) (hB : B ≤ 20000) : Pr w := by
  obtain ⟨d, h1, h2, h3, h4⟩ := h
  refine ⟨(PyData.list [d, .bool true]).shown, fun S r g => ?_⟩
  have e : toR S 19 w = some d := by
    have := h2 S (19 - n)
    rw [Nat.add_sub_cancel' (by omega)] at this
    exact this
  refine repr2_run (toR_pair g e) (okList (B := 20000) (n := 2) (fun x hx => ?_) (Nat.le_refl _)) (by omega) ?_
  · simp only [List.mem_cons, List.not_mem_nil, or_false] at hx
    rcases hx with rfl | rfl
    · exact h3.mono hB
    · exact ⟨by rw [PyData.showable], bool_cost true, by rw [cost]; omega⟩
  · rw [PyData.depth]
    have := depthAll_le (n := 18) [d, .bool true] fun x hx => by
      simp only [List.mem_cons, List.not_mem_nil, or_false] at hx
      rcases hx with rfl | rfl
      · omega
      · rw [PyData.depth]; omega
    omega
def Num (w : W) : Prop := Sm w = true ∧ Pr w ∧ ∀ l : Int, (l = 1 ∨ l = 2) → fromB w l 16 = true → ∃ n : Nat, w = .int n ∧ l ≤ (n : Int) ∧ n ≤ 16
theorem num_int {i : Int} (h : i.natAbs ≤ 100) : Num (.int i) := ⟨rfl, (pu_int (N := 100) h (by omega)).pr (by omega) (by omega), fun l hl hf => by
  simp only [fromB, Bool.and_eq_true, decide_eq_true_eq] at hf
  exact ⟨i.toNat, by rw [Int.toNat_of_nonneg (by omega)], by omega, by omega⟩⟩
theorem num_big : Num (.int 100000000000000000000) := by
  refine ⟨rfl, ?_, fun l hl hf => ?_⟩
  · refine ⟨(PyData.list [.int 100000000000000000000, .bool true]).shown, fun S r g => ?_⟩
    unfold M.repr2W
    dsimp only
    rw [toR_pair g (d := .int 100000000000000000000) rfl]
    dsimp only
    rw [if_pos (by decide +kernel)]
  · simp only [fromB, Bool.and_eq_true, decide_eq_true_eq] at hf
    omega
def someL : List W := [.int 2, .int 16, .int 1, .int 0, .int 17, .int (-1), .bl true, .non, .str "2", .int 100000000000000000000, .tup [.int 2]]
theorem num_some : ∀ w ∈ someL, Num w := by
  unfold someL
  simp only [List.forall_mem_cons]
  refine ⟨num_int (by decide), num_int (by decide), num_int (by decide), num_int (by decide), num_int (by decide), num_int (by decide), ⟨rfl, (pu_bl _).pr (by omega) (by omega), fun l hl hf => by cases hf⟩, ⟨rfl, pu_non.pr (by omega) (by omega), fun l hl hf => by cases hf⟩, ⟨rfl, (pu_str (x := "2") (by decide +kernel)).pr (by omega) (by decide +kernel), fun l hl hf => by cases hf⟩, num_big, ⟨rfl, ?_, fun l hl hf => by cases hf⟩, fun w h => absurd h List.not_mem_nil⟩
  exact (pu_tup (n := 1) (B := 4) (L := 1) (xs := [.int 2]) (fun x hx => by rw [List.mem_singleton.mp hx]; exact (pu_int (N := 2) (by decide) (by omega))) (Nat.le_refl _)).pr (by omega) (by omega)
theorem number_wp {S : Store} {p : Nat} (h : PlOk S p) : Wp (m_law_number [.ref p] S) (on fun v S' => Num v ∧ PlOk S' p ∧ But p S S') := by
  rw [u_law_number]
  unfold b_law_number
  have pw : ∀ S, M.powW (.int 10) (.int 20) S = .ok (.int 100000000000000000000) S := fun S => x_pow S (by decide) (by decide) (by decide)
  simp only [wp_ok, on_ok, wp_bind, k_bd, wp_op2, k_o2, k_o2b, wp_op1, wp_ops, wp_nil, wp_cons, k_c1, k_c2, wp_var, gv_some, wp_cst, wp_yes, wp_tst, wp_tru, wp_andT, k_aTt, k_aTf, wp_orT, k_oTt, k_oTf, wp_notT, k_nT, wp_andV, k_aV, k_aV2t, k_aV2f, wp_orV, k_oV, k_oV2t, k_oV2f, wp_notV, k_nV, k_nV2, wp_ifE, k_iEt, k_iEf, wp_chain, k_ch1, k_ch2, k_ch3t, k_ch3f, k_ch4,
    wp_sl, k_l1, k_l2, k_l3, wp_part, gp_int, wp_noPart, wp_iter, wp_rng1, wp_rng2, wp_rev, k_rv, wp_mth, k_m1, k_m2, wp_mthD, k_d1, wp_lc, wp_dc, wp_dnew, k_fnN, k_fnR, k_fnE, ws_seq, k_sqN, k_sqR, k_sqE, ws_skip, ws_asg, k_as, k_tg, ws_ret, k_rt, ws_retN, ws_drop, k_dr, ws_if, k_ist, k_isf, ws_set, k_s1, k_s2, k_s3, k_st, ws_for, k_fo,
    x_ofBl, x_truB, x_truI, x_truN, x_truT, x_add, x_sub, x_neg, x_lt, x_le, x_gt, x_ge, x_ne, eqW_int, x_max, x_min, x_intI, x_intB, x_lenT, x_lenF, x_tupT, gx_some, x_ixT, x_ixF, x_at0, x_at1, x_at2, x_at3, x_at4, x_slT, y_ixR, gxl_lst, y_iterT, y_iterF, y_iterR, itl_lst, y_revR, rvl_lst, y_rng1, y_rng2, y_mul, y_fdiv, y_mod, y_mkT, y_mkL, y_addT, y_addR, adl_lst,
    y_el, y_elT, y_elt, y_elf, y_dl, y_dlT, y_dlt, y_dlf, y_dlk, y_dlv, y_fo, y_foT, x_tgN, x_tgC, x_tgO, Option.bind_some, wipeF, List.getElem?_cons_zero, List.getElem?_cons_succ, List.set_cons_zero, List.set_cons_succ, List.length_cons, List.length_nil, decide_true, decide_false, Bool.not_true, Bool.not_false, true_and, and_true, if_true, if_false, ite_true, ite_false, Int.reduceLT, Int.reduceLE, Int.reduceNeg, Nat.reduceAdd, Nat.reduceLeDiff, Nat.zero_add, or_true, true_or, and_self, eq2_int, ne2_int, eq2_str, ne2_str, y_mul2, y_mul2T, y_list2T, ws_asgStar, k_sr, Int.reduceEq, Int.reduceSub, Int.reduceAdd, ws_raise, k_ra, ws_try, k_trN, k_trR, k_trX, k_txY, k_txN, k_gnN, k_gnR, wp_rng3, y_rng3, wp_quiet, k_fnE, k_sqE, k_bdE, k_o2E, k_o2bE, k_c1E, k_c2E, k_nTE, k_aTE, k_oTE, k_aVE, k_oVE, k_iEE, k_drE, k_asE, k_rtE, k_isE, k_foE, k_m2E, pw]
  have pre := List.prefix_append S [Ob.lst someL]
  have p1 := h.pre pre
  have g1 := get_new S (Ob.lst someL)
  have e0 : S ++ [Ob.lst [.int 2, .int 16, .int 1, .int 0, .int 17, .int (-1), .bl true, .non, .str "2", .int 100000000000000000000, .tup [.int 2]]] = S ++ [Ob.lst someL] := rfl
  rw [e0]
  generalize hT : S ++ [Ob.lst someL] = T at *
  have bT : But p S T := But.pre pre
  have ne : S.length ≠ p := fun z => by have := h.lt; omega
  refine (draw_wp 2 (by decide) (by decide) p1).then fun v S2 ⟨k, e, hk, p2, b2⟩ => ?_
  subst e
  have g2 : S2[S.length]? = some (.lst someL) := (b2.2 _ (List.getElem?_eq_some_iff.mp g1).1 ne).trans g1
  by_cases c : k = 0
  · simp only [wp_ok, on_ok, wp_bind, k_bd, wp_op2, k_o2, k_o2b, wp_op1, wp_ops, wp_nil, wp_cons, k_c1, k_c2, wp_var, gv_some, wp_cst, wp_yes, wp_tst, wp_tru, wp_andT, k_aTt, k_aTf, wp_orT, k_oTt, k_oTf, wp_notT, k_nT, wp_andV, k_aV, k_aV2t, k_aV2f, wp_orV, k_oV, k_oV2t, k_oV2f, wp_notV, k_nV, k_nV2, wp_ifE, k_iEt, k_iEf, wp_chain, k_ch1, k_ch2, k_ch3t, k_ch3f, k_ch4,
    wp_sl, k_l1, k_l2, k_l3, wp_part, gp_int, wp_noPart, wp_iter, wp_rng1, wp_rng2, wp_rev, k_rv, wp_mth, k_m1, k_m2, wp_mthD, k_d1, wp_lc, wp_dc, wp_dnew, k_fnN, k_fnR, k_fnE, ws_seq, k_sqN, k_sqR, k_sqE, ws_skip, ws_asg, k_as, k_tg, ws_ret, k_rt, ws_retN, ws_drop, k_dr, ws_if, k_ist, k_isf, ws_set, k_s1, k_s2, k_s3, k_st, ws_for, k_fo,
    x_ofBl, x_truB, x_truI, x_truN, x_truT, x_add, x_sub, x_neg, x_lt, x_le, x_gt, x_ge, x_ne, eqW_int, x_max, x_min, x_intI, x_intB, x_lenT, x_lenF, x_tupT, gx_some, x_ixT, x_ixF, x_at0, x_at1, x_at2, x_at3, x_at4, x_slT, y_ixR, gxl_lst, y_iterT, y_iterF, y_iterR, itl_lst, y_revR, rvl_lst, y_rng1, y_rng2, y_mul, y_fdiv, y_mod, y_mkT, y_mkL, y_addT, y_addR, adl_lst,
    y_el, y_elT, y_elt, y_elf, y_dl, y_dlT, y_dlt, y_dlf, y_dlk, y_dlv, y_fo, y_foT, x_tgN, x_tgC, x_tgO, Option.bind_some, wipeF, List.getElem?_cons_zero, List.getElem?_cons_succ, List.set_cons_zero, List.set_cons_succ, List.length_cons, List.length_nil, decide_true, decide_false, Bool.not_true, Bool.not_false, true_and, and_true, if_true, if_false, ite_true, ite_false, Int.reduceLT, Int.reduceLE, Int.reduceNeg, Nat.reduceAdd, Nat.reduceLeDiff, Nat.zero_add, or_true, true_or, and_self, eq2_int, ne2_int, eq2_str, ne2_str, y_mul2, y_mul2T, y_list2T, ws_asgStar, k_sr, Int.reduceEq, Int.reduceSub, Int.reduceAdd, ws_raise, k_ra, ws_try, k_trN, k_trR, k_trX, k_txY, k_txN, k_gnN, k_gnR, wp_rng3, y_rng3, wp_quiet, k_fnE, k_sqE, k_bdE, k_o2E, k_o2bE, k_c1E, k_c2E, k_nTE, k_aTE, k_oTE, k_aVE, k_oVE, k_iEE, k_drE, k_asE, k_rtE, k_isE, k_foE, k_m2E, show (k = 0) = True from eq_true c]
    refine (draw_wp 15 (by decide) (by decide) p2).then fun v S3 ⟨j, e, hj, p3, b3⟩ => ?_
    subst e
    simp only [wp_ok, on_ok, wp_bind, k_bd, wp_op2, k_o2, k_o2b, wp_op1, wp_ops, wp_nil, wp_cons, k_c1, k_c2, wp_var, gv_some, wp_cst, wp_yes, wp_tst, wp_tru, wp_andT, k_aTt, k_aTf, wp_orT, k_oTt, k_oTf, wp_notT, k_nT, wp_andV, k_aV, k_aV2t, k_aV2f, wp_orV, k_oV, k_oV2t, k_oV2f, wp_notV, k_nV, k_nV2, wp_ifE, k_iEt, k_iEf, wp_chain, k_ch1, k_ch2, k_ch3t, k_ch3f, k_ch4,
    wp_sl, k_l1, k_l2, k_l3, wp_part, gp_int, wp_noPart, wp_iter, wp_rng1, wp_rng2, wp_rev, k_rv, wp_mth, k_m1, k_m2, wp_mthD, k_d1, wp_lc, wp_dc, wp_dnew, k_fnN, k_fnR, k_fnE, ws_seq, k_sqN, k_sqR, k_sqE, ws_skip, ws_asg, k_as, k_tg, ws_ret, k_rt, ws_retN, ws_drop, k_dr, ws_if, k_ist, k_isf, ws_set, k_s1, k_s2, k_s3, k_st, ws_for, k_fo,
    x_ofBl, x_truB, x_truI, x_truN, x_truT, x_add, x_sub, x_neg, x_lt, x_le, x_gt, x_ge, x_ne, eqW_int, x_max, x_min, x_intI, x_intB, x_lenT, x_lenF, x_tupT, gx_some, x_ixT, x_ixF, x_at0, x_at1, x_at2, x_at3, x_at4, x_slT, y_ixR, gxl_lst, y_iterT, y_iterF, y_iterR, itl_lst, y_revR, rvl_lst, y_rng1, y_rng2, y_mul, y_fdiv, y_mod, y_mkT, y_mkL, y_addT, y_addR, adl_lst,
    y_el, y_elT, y_elt, y_elf, y_dl, y_dlT, y_dlt, y_dlf, y_dlk, y_dlv, y_fo, y_foT, x_tgN, x_tgC, x_tgO, Option.bind_some, wipeF, List.getElem?_cons_zero, List.getElem?_cons_succ, List.set_cons_zero, List.set_cons_succ, List.length_cons, List.length_nil, decide_true, decide_false, Bool.not_true, Bool.not_false, true_and, and_true, if_true, if_false, ite_true, ite_false, Int.reduceLT, Int.reduceLE, Int.reduceNeg, Nat.reduceAdd, Nat.reduceLeDiff, Nat.zero_add, or_true, true_or, and_self, eq2_int, ne2_int, eq2_str, ne2_str, y_mul2, y_mul2T, y_list2T, ws_asgStar, k_sr, Int.reduceEq, Int.reduceSub, Int.reduceAdd, ws_raise, k_ra, ws_try, k_trN, k_trR, k_trX, k_txY, k_txN, k_gnN, k_gnR, wp_rng3, y_rng3, wp_quiet, k_fnE, k_sqE, k_bdE, k_o2E, k_o2bE, k_c1E, k_c2E, k_nTE, k_aTE, k_oTE, k_aVE, k_oVE, k_iEE, k_drE, k_asE, k_rtE, k_isE, k_foE, k_m2E]
    exact ⟨num_int (by omega), p3, (bT.trans b2).trans b3⟩
  · have ln : M.lenW [.ref S.length] S2 = .ok (.int 11) S2 := by
      unfold M.lenW
      dsimp only
      rw [g2]
      rfl
    simp only [wp_ok, on_ok, wp_bind, k_bd, wp_op2, k_o2, k_o2b, wp_op1, wp_ops, wp_nil, wp_cons, k_c1, k_c2, wp_var, gv_some, wp_cst, wp_yes, wp_tst, wp_tru, wp_andT, k_aTt, k_aTf, wp_orT, k_oTt, k_oTf, wp_notT, k_nT, wp_andV, k_aV, k_aV2t, k_aV2f, wp_orV, k_oV, k_oV2t, k_oV2f, wp_notV, k_nV, k_nV2, wp_ifE, k_iEt, k_iEf, wp_chain, k_ch1, k_ch2, k_ch3t, k_ch3f, k_ch4,
    wp_sl, k_l1, k_l2, k_l3, wp_part, gp_int, wp_noPart, wp_iter, wp_rng1, wp_rng2, wp_rev, k_rv, wp_mth, k_m1, k_m2, wp_mthD, k_d1, wp_lc, wp_dc, wp_dnew, k_fnN, k_fnR, k_fnE, ws_seq, k_sqN, k_sqR, k_sqE, ws_skip, ws_asg, k_as, k_tg, ws_ret, k_rt, ws_retN, ws_drop, k_dr, ws_if, k_ist, k_isf, ws_set, k_s1, k_s2, k_s3, k_st, ws_for, k_fo,
    x_ofBl, x_truB, x_truI, x_truN, x_truT, x_add, x_sub, x_neg, x_lt, x_le, x_gt, x_ge, x_ne, eqW_int, x_max, x_min, x_intI, x_intB, x_lenT, x_lenF, x_tupT, gx_some, x_ixT, x_ixF, x_at0, x_at1, x_at2, x_at3, x_at4, x_slT, y_ixR, gxl_lst, y_iterT, y_iterF, y_iterR, itl_lst, y_revR, rvl_lst, y_rng1, y_rng2, y_mul, y_fdiv, y_mod, y_mkT, y_mkL, y_addT, y_addR, adl_lst,
    y_el, y_elT, y_elt, y_elf, y_dl, y_dlT, y_dlt, y_dlf, y_dlk, y_dlv, y_fo, y_foT, x_tgN, x_tgC, x_tgO, Option.bind_some, wipeF, List.getElem?_cons_zero, List.getElem?_cons_succ, List.set_cons_zero, List.set_cons_succ, List.length_cons, List.length_nil, decide_true, decide_false, Bool.not_true, Bool.not_false, true_and, and_true, if_true, if_false, ite_true, ite_false, Int.reduceLT, Int.reduceLE, Int.reduceNeg, Nat.reduceAdd, Nat.reduceLeDiff, Nat.zero_add, or_true, true_or, and_self, eq2_int, ne2_int, eq2_str, ne2_str, y_mul2, y_mul2T, y_list2T, ws_asgStar, k_sr, Int.reduceEq, Int.reduceSub, Int.reduceAdd, ws_raise, k_ra, ws_try, k_trN, k_trR, k_trX, k_txY, k_txN, k_gnN, k_gnR, wp_rng3, y_rng3, wp_quiet, k_fnE, k_sqE, k_bdE, k_o2E, k_o2bE, k_c1E, k_c2E, k_nTE, k_aTE, k_oTE, k_aVE, k_oVE, k_iEE, k_drE, k_asE, k_rtE, k_isE, k_foE, k_m2E, show (k = 0) = False from eq_false c, ln]
    refine (draw_wp 11 (by decide) (by decide) p2).then fun v S3 ⟨j, e, hj, p3, b3⟩ => ?_
    subst e
    have g3 : S3[S.length]? = some (.lst someL) := (b3.2 _ (List.getElem?_eq_some_iff.mp g2).1 ne).trans g2
    obtain ⟨jn, rfl⟩ : ∃ jn : Nat, j = jn := ⟨j.toNat, by rw [Int.toNat_of_nonneg (by omega)]⟩
    have jl : jn < someL.length := by show jn < 11; omega
    have gx : someL[jn]? = some someL[jn] := List.getElem?_eq_getElem jl
    simp only [wp_ok, on_ok, wp_bind, k_bd, wp_op2, k_o2, k_o2b, wp_op1, wp_ops, wp_nil, wp_cons, k_c1, k_c2, wp_var, gv_some, wp_cst, wp_yes, wp_tst, wp_tru, wp_andT, k_aTt, k_aTf, wp_orT, k_oTt, k_oTf, wp_notT, k_nT, wp_andV, k_aV, k_aV2t, k_aV2f, wp_orV, k_oV, k_oV2t, k_oV2f, wp_notV, k_nV, k_nV2, wp_ifE, k_iEt, k_iEf, wp_chain, k_ch1, k_ch2, k_ch3t, k_ch3f, k_ch4,
    wp_sl, k_l1, k_l2, k_l3, wp_part, gp_int, wp_noPart, wp_iter, wp_rng1, wp_rng2, wp_rev, k_rv, wp_mth, k_m1, k_m2, wp_mthD, k_d1, wp_lc, wp_dc, wp_dnew, k_fnN, k_fnR, k_fnE, ws_seq, k_sqN, k_sqR, k_sqE, ws_skip, ws_asg, k_as, k_tg, ws_ret, k_rt, ws_retN, ws_drop, k_dr, ws_if, k_ist, k_isf, ws_set, k_s1, k_s2, k_s3, k_st, ws_for, k_fo,
    x_ofBl, x_truB, x_truI, x_truN, x_truT, x_add, x_sub, x_neg, x_lt, x_le, x_gt, x_ge, x_ne, eqW_int, x_max, x_min, x_intI, x_intB, x_lenT, x_lenF, x_tupT, gx_some, x_ixT, x_ixF, x_at0, x_at1, x_at2, x_at3, x_at4, x_slT, y_ixR, gxl_lst, y_iterT, y_iterF, y_iterR, itl_lst, y_revR, rvl_lst, y_rng1, y_rng2, y_mul, y_fdiv, y_mod, y_mkT, y_mkL, y_addT, y_addR, adl_lst,
    y_el, y_elT, y_elt, y_elf, y_dl, y_dlT, y_dlt, y_dlf, y_dlk, y_dlv, y_fo, y_foT, x_tgN, x_tgC, x_tgO, Option.bind_some, wipeF, List.getElem?_cons_zero, List.getElem?_cons_succ, List.set_cons_zero, List.set_cons_succ, List.length_cons, List.length_nil, decide_true, decide_false, Bool.not_true, Bool.not_false, true_and, and_true, if_true, if_false, ite_true, ite_false, Int.reduceLT, Int.reduceLE, Int.reduceNeg, Nat.reduceAdd, Nat.reduceLeDiff, Nat.zero_add, or_true, true_or, and_self, eq2_int, ne2_int, eq2_str, ne2_str, y_mul2, y_mul2T, y_list2T, ws_asgStar, k_sr, Int.reduceEq, Int.reduceSub, Int.reduceAdd, ws_raise, k_ra, ws_try, k_trN, k_trR, k_trX, k_txY, k_txN, k_gnN, k_gnR, wp_rng3, y_rng3, wp_quiet, k_fnE, k_sqE, k_bdE, k_o2E, k_o2bE, k_c1E, k_c2E, k_nTE, k_aTE, k_oTE, k_aVE, k_oVE, k_iEE, k_drE, k_asE, k_rtE, k_isE, k_foE, k_m2E, g3, x_at jn rfl gx]
    exact ⟨num_some _ (List.getElem_mem jl), p3, (bT.trans b2).trans b3⟩
/-! first_image -/
theorem first_bad {v w : W} {S : Store} (hv : Sm v = true) (hw : Sm w = true) (P : Pst W) : (fromB v 2 16 = false → Wp (mfirst_image [v, w] S) P = P.ex ⟨"NoSize", some [("number", v)]⟩ S) ∧ (fromB v 2 16 = true → fromB w 1 16 = false → Wp (mfirst_image [v, w] S) P = P.ex ⟨"NoSize", some [("number", w)]⟩ S) := by
  refine ⟨fun h => ?_, fun h h' => ?_⟩
  · rw [ufirst_image]; unfold bfirst_image
    simp only [wp_ok, on_ok, wp_bind, k_bd, wp_op2, k_o2, k_o2b, wp_op1, wp_ops, wp_nil, wp_cons, k_c1, k_c2, wp_var, gv_some, wp_cst, wp_yes, wp_tst, wp_tru, wp_andT, k_aTt, k_aTf, wp_orT, k_oTt, k_oTf, wp_notT, k_nT, wp_andV, k_aV, k_aV2t, k_aV2f, wp_orV, k_oV, k_oV2t, k_oV2f, wp_notV, k_nV, k_nV2, wp_ifE, k_iEt, k_iEf, wp_chain, k_ch1, k_ch2, k_ch3t, k_ch3f, k_ch4,
    wp_sl, k_l1, k_l2, k_l3, wp_part, gp_int, wp_noPart, wp_iter, wp_rng1, wp_rng2, wp_rev, k_rv, wp_mth, k_m1, k_m2, wp_mthD, k_d1, wp_lc, wp_dc, wp_dnew, k_fnN, k_fnR, k_fnE, ws_seq, k_sqN, k_sqR, k_sqE, ws_skip, ws_asg, k_as, k_tg, ws_ret, k_rt, ws_retN, ws_drop, k_dr, ws_if, k_ist, k_isf, ws_set, k_s1, k_s2, k_s3, k_st, ws_for, k_fo,
    x_ofBl, x_truB, x_truI, x_truN, x_truT, x_add, x_sub, x_neg, x_lt, x_le, x_gt, x_ge, x_ne, eqW_int, x_max, x_min, x_intI, x_intB, x_lenT, x_lenF, x_tupT, gx_some, x_ixT, x_ixF, x_at0, x_at1, x_at2, x_at3, x_at4, x_slT, y_ixR, gxl_lst, y_iterT, y_iterF, y_iterR, itl_lst, y_revR, rvl_lst, y_rng1, y_rng2, y_mul, y_fdiv, y_mod, y_mkT, y_mkL, y_addT, y_addR, adl_lst,
    y_el, y_elT, y_elt, y_elf, y_dl, y_dlT, y_dlt, y_dlf, y_dlk, y_dlv, y_fo, y_foT, x_tgN, x_tgC, x_tgO, Option.bind_some, wipeF, List.getElem?_cons_zero, List.getElem?_cons_succ, List.set_cons_zero, List.set_cons_succ, List.length_cons, List.length_nil, decide_true, decide_false, Bool.not_true, Bool.not_false, true_and, and_true, if_true, if_false, ite_true, ite_false, Int.reduceLT, Int.reduceLE, Int.reduceNeg, Nat.reduceAdd, Nat.reduceLeDiff, Nat.zero_add, or_true, true_or, and_self, eq2_int, ne2_int, eq2_str, ne2_str, y_mul2, y_mul2T, y_list2T, ws_asgStar, k_sr, Int.reduceEq, Int.reduceSub, Int.reduceAdd, ws_raise, k_ra, ws_try, k_trN, k_trR, k_trX, k_txY, k_txN, k_gnN, k_gnR, wp_rng3, y_rng3, wp_quiet, k_fnE, k_sqE, k_bdE, k_o2E, k_o2bE, k_c1E, k_c2E, k_nTE, k_aTE, k_oTE, k_aVE, k_oVE, k_iEE, k_drE, k_asE, k_rtE, k_isE, k_foE, k_m2E, from_run _ _ hv, h]
  · rw [ufirst_image]; unfold bfirst_image
    simp only [wp_ok, on_ok, wp_bind, k_bd, wp_op2, k_o2, k_o2b, wp_op1, wp_ops, wp_nil, wp_cons, k_c1, k_c2, wp_var, gv_some, wp_cst, wp_yes, wp_tst, wp_tru, wp_andT, k_aTt, k_aTf, wp_orT, k_oTt, k_oTf, wp_notT, k_nT, wp_andV, k_aV, k_aV2t, k_aV2f, wp_orV, k_oV, k_oV2t, k_oV2f, wp_notV, k_nV, k_nV2, wp_ifE, k_iEt, k_iEf, wp_chain, k_ch1, k_ch2, k_ch3t, k_ch3f, k_ch4,
    wp_sl, k_l1, k_l2, k_l3, wp_part, gp_int, wp_noPart, wp_iter, wp_rng1, wp_rng2, wp_rev, k_rv, wp_mth, k_m1, k_m2, wp_mthD, k_d1, wp_lc, wp_dc, wp_dnew, k_fnN, k_fnR, k_fnE, ws_seq, k_sqN, k_sqR, k_sqE, ws_skip, ws_asg, k_as, k_tg, ws_ret, k_rt, ws_retN, ws_drop, k_dr, ws_if, k_ist, k_isf, ws_set, k_s1, k_s2, k_s3, k_st, ws_for, k_fo,
    x_ofBl, x_truB, x_truI, x_truN, x_truT, x_add, x_sub, x_neg, x_lt, x_le, x_gt, x_ge, x_ne, eqW_int, x_max, x_min, x_intI, x_intB, x_lenT, x_lenF, x_tupT, gx_some, x_ixT, x_ixF, x_at0, x_at1, x_at2, x_at3, x_at4, x_slT, y_ixR, gxl_lst, y_iterT, y_iterF, y_iterR, itl_lst, y_revR, rvl_lst, y_rng1, y_rng2, y_mul, y_fdiv, y_mod, y_mkT, y_mkL, y_addT, y_addR, adl_lst,
    y_el, y_elT, y_elt, y_elf, y_dl, y_dlT, y_dlt, y_dlf, y_dlk, y_dlv, y_fo, y_foT, x_tgN, x_tgC, x_tgO, Option.bind_some, wipeF, List.getElem?_cons_zero, List.getElem?_cons_succ, List.set_cons_zero, List.set_cons_succ, List.length_cons, List.length_nil, decide_true, decide_false, Bool.not_true, Bool.not_false, true_and, and_true, if_true, if_false, ite_true, ite_false, Int.reduceLT, Int.reduceLE, Int.reduceNeg, Nat.reduceAdd, Nat.reduceLeDiff, Nat.zero_add, or_true, true_or, and_self, eq2_int, ne2_int, eq2_str, ne2_str, y_mul2, y_mul2T, y_list2T, ws_asgStar, k_sr, Int.reduceEq, Int.reduceSub, Int.reduceAdd, ws_raise, k_ra, ws_try, k_trN, k_trR, k_trX, k_txY, k_txN, k_gnN, k_gnR, wp_rng3, y_rng3, wp_quiet, k_fnE, k_sqE, k_bdE, k_o2E, k_o2bE, k_c1E, k_c2E, k_nTE, k_aTE, k_oTE, k_aVE, k_oVE, k_iEE, k_drE, k_asE, k_rtE, k_isE, k_foE, k_m2E, from_run _ _ hv, from_run _ _ hw, h, h']
theorem first_good {n p : Nat} {S : Store} (h1 : 2 ≤ n) (h2 : n ≤ 16) (h3 : 1 ≤ p) (h4 : p ≤ 16) (P : Pst W) : Wp (mfirst_image [.int n, .int p] S) P = P.ok (img n p) S := by
  have f1 : fromB (.int n) 2 16 = true := by simp only [fromB, Bool.and_eq_true, decide_eq_true_eq]; omega
  have f2 : fromB (.int p) 1 16 = true := by simp only [fromB, Bool.and_eq_true, decide_eq_true_eq]; omega
  rw [ufirst_image]; unfold bfirst_image
  have z1 : (0 ≤ (p : Int) ∧ (p : Int) ≤ 1000) = True := eq_true (by omega)
  have z2 : (0 ≤ (n : Int) - 1 ∧ (n : Int) - 1 ≤ 1000) = True := eq_true (by omega)
  have z3 : ((n : Int) - 1).toNat = n - 1 := by omega
  have z4 : (1 + (n - 1) ≤ 100000) = True := eq_true (by omega)
  simp only [wp_ok, on_ok, wp_bind, k_bd, wp_op2, k_o2, k_o2b, wp_op1, wp_ops, wp_nil, wp_cons, k_c1, k_c2, wp_var, gv_some, wp_cst, wp_yes, wp_tst, wp_tru, wp_andT, k_aTt, k_aTf, wp_orT, k_oTt, k_oTf, wp_notT, k_nT, wp_andV, k_aV, k_aV2t, k_aV2f, wp_orV, k_oV, k_oV2t, k_oV2f, wp_notV, k_nV, k_nV2, wp_ifE, k_iEt, k_iEf, wp_chain, k_ch1, k_ch2, k_ch3t, k_ch3f, k_ch4,
    wp_sl, k_l1, k_l2, k_l3, wp_part, gp_int, wp_noPart, wp_iter, wp_rng1, wp_rng2, wp_rev, k_rv, wp_mth, k_m1, k_m2, wp_mthD, k_d1, wp_lc, wp_dc, wp_dnew, k_fnN, k_fnR, k_fnE, ws_seq, k_sqN, k_sqR, k_sqE, ws_skip, ws_asg, k_as, k_tg, ws_ret, k_rt, ws_retN, ws_drop, k_dr, ws_if, k_ist, k_isf, ws_set, k_s1, k_s2, k_s3, k_st, ws_for, k_fo,
    x_ofBl, x_truB, x_truI, x_truN, x_truT, x_add, x_sub, x_neg, x_lt, x_le, x_gt, x_ge, x_ne, eqW_int, x_max, x_min, x_intI, x_intB, x_lenT, x_lenF, x_tupT, gx_some, x_ixT, x_ixF, x_at0, x_at1, x_at2, x_at3, x_at4, x_slT, y_ixR, gxl_lst, y_iterT, y_iterF, y_iterR, itl_lst, y_revR, rvl_lst, y_rng1, y_rng2, y_mul, y_fdiv, y_mod, y_mkT, y_mkL, y_addT, y_addR, adl_lst,
    y_el, y_elT, y_elt, y_elf, y_dl, y_dlT, y_dlt, y_dlf, y_dlk, y_dlv, y_fo, y_foT, x_tgN, x_tgC, x_tgO, Option.bind_some, wipeF, List.getElem?_cons_zero, List.getElem?_cons_succ, List.set_cons_zero, List.set_cons_succ, List.length_cons, List.length_nil, decide_true, decide_false, Bool.not_true, Bool.not_false, true_and, and_true, if_true, if_false, ite_true, ite_false, Int.reduceLT, Int.reduceLE, Int.reduceNeg, Nat.reduceAdd, Nat.reduceLeDiff, Nat.zero_add, or_true, true_or, and_self, eq2_int, ne2_int, eq2_str, ne2_str, y_mul2, y_mul2T, y_list2T, ws_asgStar, k_sr, Int.reduceEq, Int.reduceSub, Int.reduceAdd, ws_raise, k_ra, ws_try, k_trN, k_trR, k_trX, k_txY, k_txN, k_gnN, k_gnR, wp_rng3, y_rng3, wp_quiet, k_fnE, k_sqE, k_bdE, k_o2E, k_o2bE, k_c1E, k_c2E, k_nTE, k_aTE, k_oTE, k_aVE, k_oVE, k_iEE, k_drE, k_asE, k_rtE, k_isE, k_foE, k_m2E, from_run _ _ (show Sm (.int n) = true from rfl), from_run _ _ (show Sm (.int p) = true from rfl), f1, f2, z1, z2, z3, z4, List.length_replicate, Int.toNat_natCast, List.cons_append, List.nil_append]
  rfl
end K02
set_option maxRecDepth 100000
set_option maxHeartbeats 4000000
namespace K02
open PySem L2 Wo
def dropO : Option W → Option W
  | none => none
  | some w => if M.pureW w = true then some w else none
theorem dropF_cons (o : Option W) (f : Fr) : M.dropF (o :: f) = dropO o :: M.dropF f := by
  cases o <;> rfl
theorem dropF_nil : M.dropF [] = [] := rfl
theorem pure_ints : ∀ ns : List Int, M.pureWs (ns.map .int) = true
  | [] => rfl
  | n :: ns => by simp only [List.map_cons, M.pureWs, M.pureW, pure_ints ns, Bool.and_self]
theorem drop_script (ns : List Int) : dropO (some (.fl (ns.map .int))) = some (.fl (ns.map .int)) := by
  unfold dropO
  dsimp only
  rw [if_pos (by simp only [M.pureW, pure_ints])]
def prO (i j : Nat) (f : Fr) (P : PstS) : List W → Store → Prop
  | [x, y], S => P.nx ((f.set i (some x)).set j (some y)) S
  | _, _ => False
def pr (i j : Nat) (f : Fr) (P : PstS) : Pst (List W) := ⟨prO i j f P, fun e S => P.ex e f S⟩
theorem ws_par (i j : Nat) (g : MA) (f : Fr) (S : Store) (P : PstS) : WpS (M.par i j g f S) P = Wp (g f S) (pr i j f P) := by
  unfold M.par M.thenS
  cases e : g f S with
  | ok ws S1 =>
    match ws with
    | [] => rfl
    | [x] => rfl
    | [x, y] => rfl
    | x :: y :: z :: r => rfl
  | ex x S1 => rfl
  | no => rfl
theorem k_pr (i j : Nat) (f : Fr) (P : PstS) (x y : W) (S : Store) : (pr i j f P).ok [x, y] S = P.nx ((f.set i (some x)).set j (some y)) S := via rfl
theorem k_pS (S : Store) (P : PstS) (f : Fr) (S' : Store) : (K.pS S P).nx f S' = P.nx (M.dropF f) S := via rfl
theorem law_true (ns : List Int) (hn : ns.length ≤ 63) : ∃ S, mlaw [scriptW ns] [] = .ok (.bl true) S := by
  have goal : Wp (mlaw [scriptW ns] []) (on fun v S => v = .bl true) := by
    rw [ulaw]
    unfold blaw scriptW
    simp only [wp_ok, on_ok, wp_bind, k_bd, wp_op2, k_o2, k_o2b, wp_op1, wp_ops, wp_nil, wp_cons, k_c1, k_c2, wp_var, gv_some, wp_cst, wp_yes, wp_tst, wp_tru, wp_andT, k_aTt, k_aTf, wp_orT, k_oTt, k_oTf, wp_notT, k_nT, wp_andV, k_aV, k_aV2t, k_aV2f, wp_orV, k_oV, k_oV2t, k_oV2f, wp_notV, k_nV, k_nV2, wp_ifE, k_iEt, k_iEf, wp_chain, k_ch1, k_ch2, k_ch3t, k_ch3f, k_ch4,
    wp_sl, k_l1, k_l2, k_l3, wp_part, gp_int, wp_noPart, wp_iter, wp_rng1, wp_rng2, wp_rev, k_rv, wp_mth, k_m1, k_m2, wp_mthD, k_d1, wp_lc, wp_dc, wp_dnew, k_fnN, k_fnR, k_fnE, ws_seq, k_sqN, k_sqR, k_sqE, ws_skip, ws_asg, k_as, k_tg, ws_ret, k_rt, ws_retN, ws_drop, k_dr, ws_if, k_ist, k_isf, ws_set, k_s1, k_s2, k_s3, k_st, ws_for, k_fo,
    x_ofBl, x_truB, x_truI, x_truN, x_truT, x_add, x_sub, x_neg, x_lt, x_le, x_gt, x_ge, x_ne, eqW_int, x_max, x_min, x_intI, x_intB, x_lenT, x_lenF, x_tupT, gx_some, x_ixT, x_ixF, x_at0, x_at1, x_at2, x_at3, x_at4, x_slT, y_ixR, gxl_lst, y_iterT, y_iterF, y_iterR, itl_lst, y_revR, rvl_lst, y_rng1, y_rng2, y_mul, y_fdiv, y_mod, y_mkT, y_mkL, y_addT, y_addR, adl_lst,
    y_el, y_elT, y_elt, y_elf, y_dl, y_dlT, y_dlt, y_dlf, y_dlk, y_dlv, y_fo, y_foT, x_tgN, x_tgC, x_tgO, Option.bind_some, wipeF, List.getElem?_cons_zero, List.getElem?_cons_succ, List.set_cons_zero, List.set_cons_succ, List.length_cons, List.length_nil, decide_true, decide_false, Bool.not_true, Bool.not_false, true_and, and_true, if_true, if_false, ite_true, ite_false, Int.reduceLT, Int.reduceLE, Int.reduceNeg, Nat.reduceAdd, Nat.reduceLeDiff, Nat.zero_add, or_true, true_or, and_self, eq2_int, ne2_int, eq2_str, ne2_str, y_mul2, y_mul2T, y_list2T, ws_asgStar, k_sr, Int.reduceEq, Int.reduceSub, Int.reduceAdd, ws_raise, k_ra, ws_try, k_trN, k_trR, k_trX, k_txY, k_txN, k_gnN, k_gnR, wp_rng3, y_rng3, wp_quiet, k_fnE, k_sqE, k_bdE, k_o2E, k_o2bE, k_c1E, k_c2E, k_nTE, k_aTE, k_oTE, k_aVE, k_oVE, k_iEE, k_drE, k_asE, k_rtE, k_isE, k_foE, k_m2E, List.length_map]
    refine ⟨by omega, ?_⟩
    refine k_forN (fun i f S => ∃ y1 y2 y3 y4 y5 y6 y7 y8 y9 y10 y11, f = [some (.fl (ns.map .int)), y1, y2, y3, y4, y5, y6, y7, y8, y9, y10, y11]) ⟨_, _, _, _, _, _, _, _, _, _, _, rfl⟩ ?_ ?_
    · rintro i f S hi ⟨y1, y2, y3, y4, y5, y6, y7, y8, y9, y10, y11, rfl⟩
      refine ws_pure _ _ _ _ ?_
      obtain ⟨a, b, e1, a0, b0, b1⟩ := pool_run ns i (by omega) []
      have e1' : m_law_pool [.fl (ns.map .int), .int (0 + (i : Nat))] [] = .ok (.ref 0) [.lst [.int a, .int b]] := by rw [Int.zero_add]; exact e1
      have ok1 : PlOk [.lst [.int a, .int b]] 0 := ⟨a, b, rfl, a0, b0, b1⟩
      have di : dropO (some (.int (0 + (i : Nat)))) = some (.int (0 + (i : Nat))) := rfl
      simp only [dropF_cons, dropF_nil, List.set_cons_zero, List.set_cons_succ, drop_script, di, wp_ok, on_ok, wp_bind, k_bd, wp_op2, k_o2, k_o2b, wp_op1, wp_ops, wp_nil, wp_cons, k_c1, k_c2, wp_var, gv_some, wp_cst, wp_yes, wp_tst, wp_tru, wp_andT, k_aTt, k_aTf, wp_orT, k_oTt, k_oTf, wp_notT, k_nT, wp_andV, k_aV, k_aV2t, k_aV2f, wp_orV, k_oV, k_oV2t, k_oV2f, wp_notV, k_nV, k_nV2, wp_ifE, k_iEt, k_iEf, wp_chain, k_ch1, k_ch2, k_ch3t, k_ch3f, k_ch4,
    wp_sl, k_l1, k_l2, k_l3, wp_part, gp_int, wp_noPart, wp_iter, wp_rng1, wp_rng2, wp_rev, k_rv, wp_mth, k_m1, k_m2, wp_mthD, k_d1, wp_lc, wp_dc, wp_dnew, k_fnN, k_fnR, k_fnE, ws_seq, k_sqN, k_sqR, k_sqE, ws_skip, ws_asg, k_as, k_tg, ws_ret, k_rt, ws_retN, ws_drop, k_dr, ws_if, k_ist, k_isf, ws_set, k_s1, k_s2, k_s3, k_st, ws_for, k_fo,
    x_ofBl, x_truB, x_truI, x_truN, x_truT, x_add, x_sub, x_neg, x_lt, x_le, x_gt, x_ge, x_ne, eqW_int, x_max, x_min, x_intI, x_intB, x_lenT, x_lenF, x_tupT, gx_some, x_ixT, x_ixF, x_at0, x_at1, x_at2, x_at3, x_at4, x_slT, y_ixR, gxl_lst, y_iterT, y_iterF, y_iterR, itl_lst, y_revR, rvl_lst, y_rng1, y_rng2, y_mul, y_fdiv, y_mod, y_mkT, y_mkL, y_addT, y_addR, adl_lst,
    y_el, y_elT, y_elt, y_elf, y_dl, y_dlT, y_dlt, y_dlf, y_dlk, y_dlv, y_fo, y_foT, x_tgN, x_tgC, x_tgO, Option.bind_some, wipeF, List.getElem?_cons_zero, List.getElem?_cons_succ, List.set_cons_zero, List.set_cons_succ, List.length_cons, List.length_nil, decide_true, decide_false, Bool.not_true, Bool.not_false, true_and, and_true, if_true, if_false, ite_true, ite_false, Int.reduceLT, Int.reduceLE, Int.reduceNeg, Nat.reduceAdd, Nat.reduceLeDiff, Nat.zero_add, or_true, true_or, and_self, eq2_int, ne2_int, eq2_str, ne2_str, y_mul2, y_mul2T, y_list2T, ws_asgStar, k_sr, Int.reduceEq, Int.reduceSub, Int.reduceAdd, ws_raise, k_ra, ws_try, k_trN, k_trR, k_trX, k_txY, k_txN, k_gnN, k_gnR, wp_rng3, y_rng3, wp_quiet, k_fnE, k_sqE, k_bdE, k_o2E, k_o2bE, k_c1E, k_c2E, k_nTE, k_aTE, k_oTE, k_aVE, k_oVE, k_iEE, k_drE, k_asE, k_rtE, k_isE, k_foE, k_m2E, e1']
      rw [ws_par]
      simp only [wp_ok, on_ok, wp_bind, k_bd, wp_op2, k_o2, k_o2b, wp_op1, wp_ops, wp_nil, wp_cons, k_c1, k_c2, wp_var, gv_some, wp_cst, wp_yes, wp_tst, wp_tru, wp_andT, k_aTt, k_aTf, wp_orT, k_oTt, k_oTf, wp_notT, k_nT, wp_andV, k_aV, k_aV2t, k_aV2f, wp_orV, k_oV, k_oV2t, k_oV2f, wp_notV, k_nV, k_nV2, wp_ifE, k_iEt, k_iEf, wp_chain, k_ch1, k_ch2, k_ch3t, k_ch3f, k_ch4,
    wp_sl, k_l1, k_l2, k_l3, wp_part, gp_int, wp_noPart, wp_iter, wp_rng1, wp_rng2, wp_rev, k_rv, wp_mth, k_m1, k_m2, wp_mthD, k_d1, wp_lc, wp_dc, wp_dnew, k_fnN, k_fnR, k_fnE, ws_seq, k_sqN, k_sqR, k_sqE, ws_skip, ws_asg, k_as, k_tg, ws_ret, k_rt, ws_retN, ws_drop, k_dr, ws_if, k_ist, k_isf, ws_set, k_s1, k_s2, k_s3, k_st, ws_for, k_fo,
    x_ofBl, x_truB, x_truI, x_truN, x_truT, x_add, x_sub, x_neg, x_lt, x_le, x_gt, x_ge, x_ne, eqW_int, x_max, x_min, x_intI, x_intB, x_lenT, x_lenF, x_tupT, gx_some, x_ixT, x_ixF, x_at0, x_at1, x_at2, x_at3, x_at4, x_slT, y_ixR, gxl_lst, y_iterT, y_iterF, y_iterR, itl_lst, y_revR, rvl_lst, y_rng1, y_rng2, y_mul, y_fdiv, y_mod, y_mkT, y_mkL, y_addT, y_addR, adl_lst,
    y_el, y_elT, y_elt, y_elf, y_dl, y_dlT, y_dlt, y_dlf, y_dlk, y_dlv, y_fo, y_foT, x_tgN, x_tgC, x_tgO, Option.bind_some, wipeF, List.getElem?_cons_zero, List.getElem?_cons_succ, List.set_cons_zero, List.set_cons_succ, List.length_cons, List.length_nil, decide_true, decide_false, Bool.not_true, Bool.not_false, true_and, and_true, if_true, if_false, ite_true, ite_false, Int.reduceLT, Int.reduceLE, Int.reduceNeg, Nat.reduceAdd, Nat.reduceLeDiff, Nat.zero_add, or_true, true_or, and_self, eq2_int, ne2_int, eq2_str, ne2_str, y_mul2, y_mul2T, y_list2T, ws_asgStar, k_sr, Int.reduceEq, Int.reduceSub, Int.reduceAdd, ws_raise, k_ra, ws_try, k_trN, k_trR, k_trX, k_txY, k_txN, k_gnN, k_gnR, wp_rng3, y_rng3, wp_quiet, k_fnE, k_sqE, k_bdE, k_o2E, k_o2bE, k_c1E, k_c2E, k_nTE, k_aTE, k_oTE, k_aVE, k_oVE, k_iEE, k_drE, k_asE, k_rtE, k_isE, k_foE, k_m2E]
      refine (number_wp ok1).then fun v S1 ⟨nv, p1, _⟩ => ?_
      simp only [wp_ok, on_ok, wp_bind, k_bd, wp_op2, k_o2, k_o2b, wp_op1, wp_ops, wp_nil, wp_cons, k_c1, k_c2, wp_var, gv_some, wp_cst, wp_yes, wp_tst, wp_tru, wp_andT, k_aTt, k_aTf, wp_orT, k_oTt, k_oTf, wp_notT, k_nT, wp_andV, k_aV, k_aV2t, k_aV2f, wp_orV, k_oV, k_oV2t, k_oV2f, wp_notV, k_nV, k_nV2, wp_ifE, k_iEt, k_iEf, wp_chain, k_ch1, k_ch2, k_ch3t, k_ch3f, k_ch4,
    wp_sl, k_l1, k_l2, k_l3, wp_part, gp_int, wp_noPart, wp_iter, wp_rng1, wp_rng2, wp_rev, k_rv, wp_mth, k_m1, k_m2, wp_mthD, k_d1, wp_lc, wp_dc, wp_dnew, k_fnN, k_fnR, k_fnE, ws_seq, k_sqN, k_sqR, k_sqE, ws_skip, ws_asg, k_as, k_tg, ws_ret, k_rt, ws_retN, ws_drop, k_dr, ws_if, k_ist, k_isf, ws_set, k_s1, k_s2, k_s3, k_st, ws_for, k_fo,
    x_ofBl, x_truB, x_truI, x_truN, x_truT, x_add, x_sub, x_neg, x_lt, x_le, x_gt, x_ge, x_ne, eqW_int, x_max, x_min, x_intI, x_intB, x_lenT, x_lenF, x_tupT, gx_some, x_ixT, x_ixF, x_at0, x_at1, x_at2, x_at3, x_at4, x_slT, y_ixR, gxl_lst, y_iterT, y_iterF, y_iterR, itl_lst, y_revR, rvl_lst, y_rng1, y_rng2, y_mul, y_fdiv, y_mod, y_mkT, y_mkL, y_addT, y_addR, adl_lst,
    y_el, y_elT, y_elt, y_elf, y_dl, y_dlT, y_dlt, y_dlf, y_dlk, y_dlv, y_fo, y_foT, x_tgN, x_tgC, x_tgO, Option.bind_some, wipeF, List.getElem?_cons_zero, List.getElem?_cons_succ, List.set_cons_zero, List.set_cons_succ, List.length_cons, List.length_nil, decide_true, decide_false, Bool.not_true, Bool.not_false, true_and, and_true, if_true, if_false, ite_true, ite_false, Int.reduceLT, Int.reduceLE, Int.reduceNeg, Nat.reduceAdd, Nat.reduceLeDiff, Nat.zero_add, or_true, true_or, and_self, eq2_int, ne2_int, eq2_str, ne2_str, y_mul2, y_mul2T, y_list2T, ws_asgStar, k_sr, Int.reduceEq, Int.reduceSub, Int.reduceAdd, ws_raise, k_ra, ws_try, k_trN, k_trR, k_trX, k_txY, k_txN, k_gnN, k_gnR, wp_rng3, y_rng3, wp_quiet, k_fnE, k_sqE, k_bdE, k_o2E, k_o2bE, k_c1E, k_c2E, k_nTE, k_aTE, k_oTE, k_aVE, k_oVE, k_iEE, k_drE, k_asE, k_rtE, k_isE, k_foE, k_m2E]
      refine (number_wp p1).then fun w S2 ⟨nw, p2, _⟩ => ?_
      simp only [wp_ok, on_ok, wp_bind, k_bd, wp_op2, k_o2, k_o2b, wp_op1, wp_ops, wp_nil, wp_cons, k_c1, k_c2, wp_var, gv_some, wp_cst, wp_yes, wp_tst, wp_tru, wp_andT, k_aTt, k_aTf, wp_orT, k_oTt, k_oTf, wp_notT, k_nT, wp_andV, k_aV, k_aV2t, k_aV2f, wp_orV, k_oV, k_oV2t, k_oV2f, wp_notV, k_nV, k_nV2, wp_ifE, k_iEt, k_iEf, wp_chain, k_ch1, k_ch2, k_ch3t, k_ch3f, k_ch4,
    wp_sl, k_l1, k_l2, k_l3, wp_part, gp_int, wp_noPart, wp_iter, wp_rng1, wp_rng2, wp_rev, k_rv, wp_mth, k_m1, k_m2, wp_mthD, k_d1, wp_lc, wp_dc, wp_dnew, k_fnN, k_fnR, k_fnE, ws_seq, k_sqN, k_sqR, k_sqE, ws_skip, ws_asg, k_as, k_tg, ws_ret, k_rt, ws_retN, ws_drop, k_dr, ws_if, k_ist, k_isf, ws_set, k_s1, k_s2, k_s3, k_st, ws_for, k_fo,
    x_ofBl, x_truB, x_truI, x_truN, x_truT, x_add, x_sub, x_neg, x_lt, x_le, x_gt, x_ge, x_ne, eqW_int, x_max, x_min, x_intI, x_intB, x_lenT, x_lenF, x_tupT, gx_some, x_ixT, x_ixF, x_at0, x_at1, x_at2, x_at3, x_at4, x_slT, y_ixR, gxl_lst, y_iterT, y_iterF, y_iterR, itl_lst, y_revR, rvl_lst, y_rng1, y_rng2, y_mul, y_fdiv, y_mod, y_mkT, y_mkL, y_addT, y_addR, adl_lst,
    y_el, y_elT, y_elt, y_elf, y_dl, y_dlT, y_dlt, y_dlf, y_dlk, y_dlv, y_fo, y_foT, x_tgN, x_tgC, x_tgO, Option.bind_some, wipeF, List.getElem?_cons_zero, List.getElem?_cons_succ, List.set_cons_zero, List.set_cons_succ, List.length_cons, List.length_nil, decide_true, decide_false, Bool.not_true, Bool.not_false, true_and, and_true, if_true, if_false, ite_true, ite_false, Int.reduceLT, Int.reduceLE, Int.reduceNeg, Nat.reduceAdd, Nat.reduceLeDiff, Nat.zero_add, or_true, true_or, and_self, eq2_int, ne2_int, eq2_str, ne2_str, y_mul2, y_mul2T, y_list2T, ws_asgStar, k_sr, Int.reduceEq, Int.reduceSub, Int.reduceAdd, ws_raise, k_ra, ws_try, k_trN, k_trR, k_trX, k_txY, k_txN, k_gnN, k_gnR, wp_rng3, y_rng3, wp_quiet, k_fnE, k_sqE, k_bdE, k_o2E, k_o2bE, k_c1E, k_c2E, k_nTE, k_aTE, k_oTE, k_aVE, k_oVE, k_iEE, k_drE, k_asE, k_rtE, k_isE, k_foE, k_m2E, k_pr]
      obtain ⟨sv, prv, gv⟩ := nv
      obtain ⟨sw, prw, gw⟩ := nw
      have g3 := get_new S2 (Ob.lst [W.tup [v, .int 2], .tup [w, .int 1]])
      generalize hT : S2 ++ [Ob.lst [W.tup [v, .int 2], .tup [w, .int 1]]] = T at *
      simp only [wp_ok, on_ok, wp_bind, k_bd, wp_op2, k_o2, k_o2b, wp_op1, wp_ops, wp_nil, wp_cons, k_c1, k_c2, wp_var, gv_some, wp_cst, wp_yes, wp_tst, wp_tru, wp_andT, k_aTt, k_aTf, wp_orT, k_oTt, k_oTf, wp_notT, k_nT, wp_andV, k_aV, k_aV2t, k_aV2f, wp_orV, k_oV, k_oV2t, k_oV2f, wp_notV, k_nV, k_nV2, wp_ifE, k_iEt, k_iEf, wp_chain, k_ch1, k_ch2, k_ch3t, k_ch3f, k_ch4,
    wp_sl, k_l1, k_l2, k_l3, wp_part, gp_int, wp_noPart, wp_iter, wp_rng1, wp_rng2, wp_rev, k_rv, wp_mth, k_m1, k_m2, wp_mthD, k_d1, wp_lc, wp_dc, wp_dnew, k_fnN, k_fnR, k_fnE, ws_seq, k_sqN, k_sqR, k_sqE, ws_skip, ws_asg, k_as, k_tg, ws_ret, k_rt, ws_retN, ws_drop, k_dr, ws_if, k_ist, k_isf, ws_set, k_s1, k_s2, k_s3, k_st, ws_for, k_fo,
    x_ofBl, x_truB, x_truI, x_truN, x_truT, x_add, x_sub, x_neg, x_lt, x_le, x_gt, x_ge, x_ne, eqW_int, x_max, x_min, x_intI, x_intB, x_lenT, x_lenF, x_tupT, gx_some, x_ixT, x_ixF, x_at0, x_at1, x_at2, x_at3, x_at4, x_slT, y_ixR, gxl_lst, y_iterT, y_iterF, y_iterR, itl_lst, y_revR, rvl_lst, y_rng1, y_rng2, y_mul, y_fdiv, y_mod, y_mkT, y_mkL, y_addT, y_addR, adl_lst,
    y_el, y_elT, y_elt, y_elf, y_dl, y_dlT, y_dlt, y_dlf, y_dlk, y_dlv, y_fo, y_foT, x_tgN, x_tgC, x_tgO, Option.bind_some, wipeF, List.getElem?_cons_zero, List.getElem?_cons_succ, List.set_cons_zero, List.set_cons_succ, List.length_cons, List.length_nil, decide_true, decide_false, Bool.not_true, Bool.not_false, true_and, and_true, if_true, if_false, ite_true, ite_false, Int.reduceLT, Int.reduceLE, Int.reduceNeg, Nat.reduceAdd, Nat.reduceLeDiff, Nat.zero_add, or_true, true_or, and_self, eq2_int, ne2_int, eq2_str, ne2_str, y_mul2, y_mul2T, y_list2T, ws_asgStar, k_sr, Int.reduceEq, Int.reduceSub, Int.reduceAdd, ws_raise, k_ra, ws_try, k_trN, k_trR, k_trX, k_txY, k_txN, k_gnN, k_gnR, wp_rng3, y_rng3, wp_quiet, k_fnE, k_sqE, k_bdE, k_o2E, k_o2bE, k_c1E, k_c2E, k_nTE, k_aTE, k_oTE, k_aVE, k_oVE, k_iEE, k_drE, k_asE, k_rtE, k_isE, k_foE, k_m2E, g3]
      refine k_lcR (ds := [(v, (2 : Int)), (w, 1)]) (en := fun q => .tup [q.1, .int q.2]) (fun q => if fromB q.1 q.2 16 = true then [] else [q.1]) g3 (by simp) (fun q hq S' hp => ?_) (fun S' hp gl => ?_) rfl
      · obtain ⟨u, l⟩ := q
        have sq : Sm u = true := by
          simp only [List.mem_cons, List.not_mem_nil, or_false, Prod.mk.injEq] at hq
          rcases hq with ⟨rfl, _⟩ | ⟨rfl, _⟩
          · exact sv
          · exact sw
        dsimp only
        have tg : ∀ (a b : W) (f : Fr) (S : Store), M.tgT 2 (M.tgCons (M.tgN 10) (M.tgCons (M.tgN 11) M.tgNil)) (W.tup [a, b]) f S = some ((f.set 10 (some a)).set 11 (some b)) := fun a b f S => via rfl
        cases hf : fromB u l 16
        · simp only [wp_ok, on_ok, wp_bind, k_bd, wp_op2, k_o2, k_o2b, wp_op1, wp_ops, wp_nil, wp_cons, k_c1, k_c2, wp_var, gv_some, wp_cst, wp_yes, wp_tst, wp_tru, wp_andT, k_aTt, k_aTf, wp_orT, k_oTt, k_oTf, wp_notT, k_nT, wp_andV, k_aV, k_aV2t, k_aV2f, wp_orV, k_oV, k_oV2t, k_oV2f, wp_notV, k_nV, k_nV2, wp_ifE, k_iEt, k_iEf, wp_chain, k_ch1, k_ch2, k_ch3t, k_ch3f, k_ch4,
    wp_sl, k_l1, k_l2, k_l3, wp_part, gp_int, wp_noPart, wp_iter, wp_rng1, wp_rng2, wp_rev, k_rv, wp_mth, k_m1, k_m2, wp_mthD, k_d1, wp_lc, wp_dc, wp_dnew, k_fnN, k_fnR, k_fnE, ws_seq, k_sqN, k_sqR, k_sqE, ws_skip, ws_asg, k_as, k_tg, ws_ret, k_rt, ws_retN, ws_drop, k_dr, ws_if, k_ist, k_isf, ws_set, k_s1, k_s2, k_s3, k_st, ws_for, k_fo,
    x_ofBl, x_truB, x_truI, x_truN, x_truT, x_add, x_sub, x_neg, x_lt, x_le, x_gt, x_ge, x_ne, eqW_int, x_max, x_min, x_intI, x_intB, x_lenT, x_lenF, x_tupT, gx_some, x_ixT, x_ixF, x_at0, x_at1, x_at2, x_at3, x_at4, x_slT, y_ixR, gxl_lst, y_iterT, y_iterF, y_iterR, itl_lst, y_revR, rvl_lst, y_rng1, y_rng2, y_mul, y_fdiv, y_mod, y_mkT, y_mkL, y_addT, y_addR, adl_lst,
    y_el, y_elT, y_elt, y_elf, y_dl, y_dlT, y_dlt, y_dlf, y_dlk, y_dlv, y_fo, y_foT, x_tgN, x_tgC, x_tgO, Option.bind_some, wipeF, List.getElem?_cons_zero, List.getElem?_cons_succ, List.set_cons_zero, List.set_cons_succ, List.length_cons, List.length_nil, decide_true, decide_false, Bool.not_true, Bool.not_false, true_and, and_true, if_true, if_false, ite_true, ite_false, Int.reduceLT, Int.reduceLE, Int.reduceNeg, Nat.reduceAdd, Nat.reduceLeDiff, Nat.zero_add, or_true, true_or, and_self, eq2_int, ne2_int, eq2_str, ne2_str, y_mul2, y_mul2T, y_list2T, ws_asgStar, k_sr, Int.reduceEq, Int.reduceSub, Int.reduceAdd, ws_raise, k_ra, ws_try, k_trN, k_trR, k_trX, k_txY, k_txN, k_gnN, k_gnR, wp_rng3, y_rng3, wp_quiet, k_fnE, k_sqE, k_bdE, k_o2E, k_o2bE, k_c1E, k_c2E, k_nTE, k_aTE, k_oTE, k_aVE, k_oVE, k_iEE, k_drE, k_asE, k_rtE, k_isE, k_foE, k_m2E, tg, lfrom_run _ _ sq, hf, Bool.false_eq_true]
          exact List.prefix_refl _
        · simp only [wp_ok, on_ok, wp_bind, k_bd, wp_op2, k_o2, k_o2b, wp_op1, wp_ops, wp_nil, wp_cons, k_c1, k_c2, wp_var, gv_some, wp_cst, wp_yes, wp_tst, wp_tru, wp_andT, k_aTt, k_aTf, wp_orT, k_oTt, k_oTf, wp_notT, k_nT, wp_andV, k_aV, k_aV2t, k_aV2f, wp_orV, k_oV, k_oV2t, k_oV2f, wp_notV, k_nV, k_nV2, wp_ifE, k_iEt, k_iEf, wp_chain, k_ch1, k_ch2, k_ch3t, k_ch3f, k_ch4,
    wp_sl, k_l1, k_l2, k_l3, wp_part, gp_int, wp_noPart, wp_iter, wp_rng1, wp_rng2, wp_rev, k_rv, wp_mth, k_m1, k_m2, wp_mthD, k_d1, wp_lc, wp_dc, wp_dnew, k_fnN, k_fnR, k_fnE, ws_seq, k_sqN, k_sqR, k_sqE, ws_skip, ws_asg, k_as, k_tg, ws_ret, k_rt, ws_retN, ws_drop, k_dr, ws_if, k_ist, k_isf, ws_set, k_s1, k_s2, k_s3, k_st, ws_for, k_fo,
    x_ofBl, x_truB, x_truI, x_truN, x_truT, x_add, x_sub, x_neg, x_lt, x_le, x_gt, x_ge, x_ne, eqW_int, x_max, x_min, x_intI, x_intB, x_lenT, x_lenF, x_tupT, gx_some, x_ixT, x_ixF, x_at0, x_at1, x_at2, x_at3, x_at4, x_slT, y_ixR, gxl_lst, y_iterT, y_iterF, y_iterR, itl_lst, y_revR, rvl_lst, y_rng1, y_rng2, y_mul, y_fdiv, y_mod, y_mkT, y_mkL, y_addT, y_addR, adl_lst,
    y_el, y_elT, y_elt, y_elf, y_dl, y_dlT, y_dlt, y_dlf, y_dlk, y_dlv, y_fo, y_foT, x_tgN, x_tgC, x_tgO, Option.bind_some, wipeF, List.getElem?_cons_zero, List.getElem?_cons_succ, List.set_cons_zero, List.set_cons_succ, List.length_cons, List.length_nil, decide_true, decide_false, Bool.not_true, Bool.not_false, true_and, and_true, if_true, if_false, ite_true, ite_false, Int.reduceLT, Int.reduceLE, Int.reduceNeg, Nat.reduceAdd, Nat.reduceLeDiff, Nat.zero_add, or_true, true_or, and_self, eq2_int, ne2_int, eq2_str, ne2_str, y_mul2, y_mul2T, y_list2T, ws_asgStar, k_sr, Int.reduceEq, Int.reduceSub, Int.reduceAdd, ws_raise, k_ra, ws_try, k_trN, k_trR, k_trX, k_txY, k_txN, k_gnN, k_gnR, wp_rng3, y_rng3, wp_quiet, k_fnE, k_sqE, k_bdE, k_o2E, k_o2bE, k_c1E, k_c2E, k_nTE, k_aTE, k_oTE, k_aVE, k_oVE, k_iEE, k_drE, k_asE, k_rtE, k_isE, k_foE, k_m2E, tg, lfrom_run _ _ sq, hf]
          exact List.prefix_refl _
      · simp only [wp_ok, on_ok, wp_bind, k_bd, wp_op2, k_o2, k_o2b, wp_op1, wp_ops, wp_nil, wp_cons, k_c1, k_c2, wp_var, gv_some, wp_cst, wp_yes, wp_tst, wp_tru, wp_andT, k_aTt, k_aTf, wp_orT, k_oTt, k_oTf, wp_notT, k_nT, wp_andV, k_aV, k_aV2t, k_aV2f, wp_orV, k_oV, k_oV2t, k_oV2f, wp_notV, k_nV, k_nV2, wp_ifE, k_iEt, k_iEf, wp_chain, k_ch1, k_ch2, k_ch3t, k_ch3f, k_ch4,
    wp_sl, k_l1, k_l2, k_l3, wp_part, gp_int, wp_noPart, wp_iter, wp_rng1, wp_rng2, wp_rev, k_rv, wp_mth, k_m1, k_m2, wp_mthD, k_d1, wp_lc, wp_dc, wp_dnew, k_fnN, k_fnR, k_fnE, ws_seq, k_sqN, k_sqR, k_sqE, ws_skip, ws_asg, k_as, k_tg, ws_ret, k_rt, ws_retN, ws_drop, k_dr, ws_if, k_ist, k_isf, ws_set, k_s1, k_s2, k_s3, k_st, ws_for, k_fo,
    x_ofBl, x_truB, x_truI, x_truN, x_truT, x_add, x_sub, x_neg, x_lt, x_le, x_gt, x_ge, x_ne, eqW_int, x_max, x_min, x_intI, x_intB, x_lenT, x_lenF, x_tupT, gx_some, x_ixT, x_ixF, x_at0, x_at1, x_at2, x_at3, x_at4, x_slT, y_ixR, gxl_lst, y_iterT, y_iterF, y_iterR, itl_lst, y_revR, rvl_lst, y_rng1, y_rng2, y_mul, y_fdiv, y_mod, y_mkT, y_mkL, y_addT, y_addR, adl_lst,
    y_el, y_elT, y_elt, y_elf, y_dl, y_dlT, y_dlt, y_dlf, y_dlk, y_dlv, y_fo, y_foT, x_tgN, x_tgC, x_tgO, Option.bind_some, wipeF, List.getElem?_cons_zero, List.getElem?_cons_succ, List.set_cons_zero, List.set_cons_succ, List.length_cons, List.length_nil, decide_true, decide_false, Bool.not_true, Bool.not_false, true_and, and_true, if_true, if_false, ite_true, ite_false, Int.reduceLT, Int.reduceLE, Int.reduceNeg, Nat.reduceAdd, Nat.reduceLeDiff, Nat.zero_add, or_true, true_or, and_self, eq2_int, ne2_int, eq2_str, ne2_str, y_mul2, y_mul2T, y_list2T, ws_asgStar, k_sr, Int.reduceEq, Int.reduceSub, Int.reduceAdd, ws_raise, k_ra, ws_try, k_trN, k_trR, k_trX, k_txY, k_txN, k_gnN, k_gnR, wp_rng3, y_rng3, wp_quiet, k_fnE, k_sqE, k_bdE, k_o2E, k_o2bE, k_c1E, k_c2E, k_nTE, k_aTE, k_oTE, k_aVE, k_oVE, k_iEE, k_drE, k_asE, k_rtE, k_isE, k_foE, k_m2E]
        have lk : List.lookup "NoSize" [("NoSize", true)] = some true := rfl
        have pl : ∀ (u : W) (S : Store), Sm u = true → M.plain S u = true := fun u S h => by cases u <;> first | rfl | cases h
        cases f1 : fromB v 2 16 with
        | false =>
          have gl1 : S'[T.length]? = some (.lst (v :: if fromB w 1 16 = true then [] else [w])) := by
            rw [gl]
            simp only [List.flatMap_cons, List.flatMap_nil, f1, Bool.false_eq_true, if_false, List.cons_append, List.nil_append, List.append_nil]
          rw [(first_bad sv sw _).1 f1]
          obtain ⟨tx, ht⟩ := prv
          have ge := get_new S' (.exc "NoSize" (some [("number", v)]))
          have i1 := fun P => y_isx (P := P) ge (tab := [("NoSize", true)]) (b := true) (by rfl)
          have i2 := fun P => y_isx (P := P) ge (tab := [("NoSize", false)]) (b := false) (by rfl)
          have i3 := fun P => y_xf (P := P) ge (cs := ["NoSize"]) (fl := "number") (w := v) (by rfl) (by decide)
          have gl2 := pre_get (List.prefix_append S' [.exc "NoSize" (some [("number", v)])]) gl1
          generalize hS3 : S' ++ [Ob.exc "NoSize" (some [("number", v)])] = S3 at *
          have l3 : S3.length = S'.length + 1 := by rw [← hS3, List.length_append]; rfl
          have g4 := get_new S3 (.lst [v, .bl true])
          have gl4 := pre_get (List.prefix_append S3 [.lst [v, .bl true]]) gl2
          generalize hS4 : S3 ++ [Ob.lst [v, .bl true]] = S4 at *
          have g5 := get_new S4 (.lst [])
          have gl5 := pre_get (List.prefix_append S4 [.lst []]) gl4
          have g45 := pre_get (List.prefix_append S4 [.lst []]) g4
          have ne := ne2W_of (eq2_nil gl5 g5 (by
            rw [List.all_eq_true]
            intro x hx
            rcases List.mem_cons.mp hx with rfl | hx
            · exact pl _ _ sv
            · split at hx
              · exact absurd hx List.not_mem_nil
              · rw [List.mem_singleton.mp hx]; exact pl _ _ sw))
          generalize hS5 : S4 ++ [Ob.lst []] = S5 at *
          have g6 := get_new S5 (.lst [v, .bl true])
          have isn : ∀ S, M.isW (.ref S3.length) .non S = .ok (.bl false) S := fun S => rfl
          simp only [wp_ok, on_ok, wp_bind, k_bd, wp_op2, k_o2, k_o2b, wp_op1, wp_ops, wp_nil, wp_cons, k_c1, k_c2, wp_var, gv_some, wp_cst, wp_yes, wp_tst, wp_tru, wp_andT, k_aTt, k_aTf, wp_orT, k_oTt, k_oTf, wp_notT, k_nT, wp_andV, k_aV, k_aV2t, k_aV2f, wp_orV, k_oV, k_oV2t, k_oV2f, wp_notV, k_nV, k_nV2, wp_ifE, k_iEt, k_iEf, wp_chain, k_ch1, k_ch2, k_ch3t, k_ch3f, k_ch4,
    wp_sl, k_l1, k_l2, k_l3, wp_part, gp_int, wp_noPart, wp_iter, wp_rng1, wp_rng2, wp_rev, k_rv, wp_mth, k_m1, k_m2, wp_mthD, k_d1, wp_lc, wp_dc, wp_dnew, k_fnN, k_fnR, k_fnE, ws_seq, k_sqN, k_sqR, k_sqE, ws_skip, ws_asg, k_as, k_tg, ws_ret, k_rt, ws_retN, ws_drop, k_dr, ws_if, k_ist, k_isf, ws_set, k_s1, k_s2, k_s3, k_st, ws_for, k_fo,
    x_ofBl, x_truB, x_truI, x_truN, x_truT, x_add, x_sub, x_neg, x_lt, x_le, x_gt, x_ge, x_ne, eqW_int, x_max, x_min, x_intI, x_intB, x_lenT, x_lenF, x_tupT, gx_some, x_ixT, x_ixF, x_at0, x_at1, x_at2, x_at3, x_at4, x_slT, y_ixR, gxl_lst, y_iterT, y_iterF, y_iterR, itl_lst, y_revR, rvl_lst, y_rng1, y_rng2, y_mul, y_fdiv, y_mod, y_mkT, y_mkL, y_addT, y_addR, adl_lst,
    y_el, y_elT, y_elt, y_elf, y_dl, y_dlT, y_dlt, y_dlf, y_dlk, y_dlv, y_fo, y_foT, x_tgN, x_tgC, x_tgO, Option.bind_some, wipeF, List.getElem?_cons_zero, List.getElem?_cons_succ, List.set_cons_zero, List.set_cons_succ, List.length_cons, List.length_nil, decide_true, decide_false, Bool.not_true, Bool.not_false, true_and, and_true, if_true, if_false, ite_true, ite_false, Int.reduceLT, Int.reduceLE, Int.reduceNeg, Nat.reduceAdd, Nat.reduceLeDiff, Nat.zero_add, or_true, true_or, and_self, eq2_int, ne2_int, eq2_str, ne2_str, y_mul2, y_mul2T, y_list2T, ws_asgStar, k_sr, Int.reduceEq, Int.reduceSub, Int.reduceAdd, ws_raise, k_ra, ws_try, k_trN, k_trR, k_trX, k_txY, k_txN, k_gnN, k_gnR, wp_rng3, y_rng3, wp_quiet, k_fnE, k_sqE, k_bdE, k_o2E, k_o2bE, k_c1E, k_c2E, k_nTE, k_aTE, k_oTE, k_aVE, k_oVE, k_iEE, k_drE, k_asE, k_rtE, k_isE, k_foE, k_m2E, k_trX, lk, i1, i2, i3, hS3, hS4, hS5, ne, decide_eq_false (List.cons_ne_nil _ _), isn, ht _ _ g45, gl5, ht _ _ g6, eq_self, k_pS, dropF_cons, dropF_nil, drop_script]
          exact ⟨_, _, _, _, _, _, _, _, _, _, _, rfl⟩
        | true =>
          obtain ⟨n, rfl, n1, n2⟩ := gv 2 (.inr rfl) f1
          cases f2 : fromB w 1 16 with
          | false =>
            have gl1 : S'[T.length]? = some (.lst [w]) := by
              rw [gl]
              simp only [List.flatMap_cons, List.flatMap_nil, f1, f2, Bool.false_eq_true, if_false, if_true, List.cons_append, List.nil_append, List.append_nil]
            rw [(first_bad sv sw _).2 f1 f2]
            obtain ⟨tx, ht⟩ := prw
            have ge := get_new S' (.exc "NoSize" (some [("number", w)]))
            have i1 := fun P => y_isx (P := P) ge (tab := [("NoSize", true)]) (b := true) (by rfl)
            have i2 := fun P => y_isx (P := P) ge (tab := [("NoSize", false)]) (b := false) (by rfl)
            have i3 := fun P => y_xf (P := P) ge (cs := ["NoSize"]) (fl := "number") (w := w) (by rfl) (by decide)
            have gl2 := pre_get (List.prefix_append S' [.exc "NoSize" (some [("number", w)])]) gl1
            generalize hS3 : S' ++ [Ob.exc "NoSize" (some [("number", w)])] = S3 at *
            have l3 : S3.length = S'.length + 1 := by rw [← hS3, List.length_append]; rfl
            have g4 := get_new S3 (.lst [w, .bl true])
            have gl4 := pre_get (List.prefix_append S3 [.lst [w, .bl true]]) gl2
            generalize hS4 : S3 ++ [Ob.lst [w, .bl true]] = S4 at *
            have g5 := get_new S4 (.lst [])
            have gl5 := pre_get (List.prefix_append S4 [.lst []]) gl4
            have g45 := pre_get (List.prefix_append S4 [.lst []]) g4
            have ne := ne2W_of (eq2_nil gl5 g5 (by
              rw [List.all_eq_true]
              intro x hx
              rw [List.mem_singleton.mp hx]
              exact pl _ _ sw))
            generalize hS5 : S4 ++ [Ob.lst []] = S5 at *
            have g6 := get_new S5 (.lst [w, .bl true])
            have isn : ∀ S, M.isW (.ref S3.length) .non S = .ok (.bl false) S := fun S => rfl
            simp only [wp_ok, on_ok, wp_bind, k_bd, wp_op2, k_o2, k_o2b, wp_op1, wp_ops, wp_nil, wp_cons, k_c1, k_c2, wp_var, gv_some, wp_cst, wp_yes, wp_tst, wp_tru, wp_andT, k_aTt, k_aTf, wp_orT, k_oTt, k_oTf, wp_notT, k_nT, wp_andV, k_aV, k_aV2t, k_aV2f, wp_orV, k_oV, k_oV2t, k_oV2f, wp_notV, k_nV, k_nV2, wp_ifE, k_iEt, k_iEf, wp_chain, k_ch1, k_ch2, k_ch3t, k_ch3f, k_ch4,
    wp_sl, k_l1, k_l2, k_l3, wp_part, gp_int, wp_noPart, wp_iter, wp_rng1, wp_rng2, wp_rev, k_rv, wp_mth, k_m1, k_m2, wp_mthD, k_d1, wp_lc, wp_dc, wp_dnew, k_fnN, k_fnR, k_fnE, ws_seq, k_sqN, k_sqR, k_sqE, ws_skip, ws_asg, k_as, k_tg, ws_ret, k_rt, ws_retN, ws_drop, k_dr, ws_if, k_ist, k_isf, ws_set, k_s1, k_s2, k_s3, k_st, ws_for, k_fo,
    x_ofBl, x_truB, x_truI, x_truN, x_truT, x_add, x_sub, x_neg, x_lt, x_le, x_gt, x_ge, x_ne, eqW_int, x_max, x_min, x_intI, x_intB, x_lenT, x_lenF, x_tupT, gx_some, x_ixT, x_ixF, x_at0, x_at1, x_at2, x_at3, x_at4, x_slT, y_ixR, gxl_lst, y_iterT, y_iterF, y_iterR, itl_lst, y_revR, rvl_lst, y_rng1, y_rng2, y_mul, y_fdiv, y_mod, y_mkT, y_mkL, y_addT, y_addR, adl_lst,
    y_el, y_elT, y_elt, y_elf, y_dl, y_dlT, y_dlt, y_dlf, y_dlk, y_dlv, y_fo, y_foT, x_tgN, x_tgC, x_tgO, Option.bind_some, wipeF, List.getElem?_cons_zero, List.getElem?_cons_succ, List.set_cons_zero, List.set_cons_succ, List.length_cons, List.length_nil, decide_true, decide_false, Bool.not_true, Bool.not_false, true_and, and_true, if_true, if_false, ite_true, ite_false, Int.reduceLT, Int.reduceLE, Int.reduceNeg, Nat.reduceAdd, Nat.reduceLeDiff, Nat.zero_add, or_true, true_or, and_self, eq2_int, ne2_int, eq2_str, ne2_str, y_mul2, y_mul2T, y_list2T, ws_asgStar, k_sr, Int.reduceEq, Int.reduceSub, Int.reduceAdd, ws_raise, k_ra, ws_try, k_trN, k_trR, k_trX, k_txY, k_txN, k_gnN, k_gnR, wp_rng3, y_rng3, wp_quiet, k_fnE, k_sqE, k_bdE, k_o2E, k_o2bE, k_c1E, k_c2E, k_nTE, k_aTE, k_oTE, k_aVE, k_oVE, k_iEE, k_drE, k_asE, k_rtE, k_isE, k_foE, k_m2E, k_trX, lk, i1, i2, i3, hS3, hS4, hS5, ne, decide_eq_false (List.cons_ne_nil _ _), isn, ht _ _ g45, gl5, ht _ _ g6, eq_self, k_pS, dropF_cons, dropF_nil, drop_script]
            exact ⟨_, _, _, _, _, _, _, _, _, _, _, rfl⟩
          | true =>
            obtain ⟨p, rfl, m1, m2⟩ := gw 1 (.inl rfl) f2
            have gl1 : S'[T.length]? = some (.lst []) := by
              rw [gl]
              simp only [List.flatMap_cons, List.flatMap_nil, f1, f2, if_true, List.append_nil]
            rw [first_good (by omega) n2 (by omega) m2]
            obtain ⟨tx, ht⟩ := img_rp n2 m2
            have g5 := get_new S' (.lst [])
            have gl5 := pre_get (List.prefix_append S' [.lst []]) gl1
            have ne := ne2W_of (eq2_nil gl5 g5 rfl)
            generalize hS5 : S' ++ [Ob.lst []] = S5 at *
            obtain ⟨im, him, r1, r2, r3⟩ := img_runs (n := n) (p := p) (by omega) n2 (by omega) m2
            rw [← him] at ht
            have z1 : (0 ≤ (p : Int) ∧ (p : Int) ≤ 1000) = True := eq_true (by omega)
            have z2 : (0 ≤ (n : Int) - 1 ∧ (n : Int) - 1 ≤ 1000) = True := eq_true (by omega)
            have z3 : ((n : Int) - 1).toNat = n - 1 := by omega
            have z4 : (1 + (n - 1) ≤ 100000) = True := eq_true (by omega)
            have z5 : (0 ≤ (5 : Int) ∧ (5 : Int) ≤ 1000) = True := eq_true (by omega)
            have e5 : List.replicate (Int.toNat 5) W.non = [.non, .non, .non, .non, .non] := rfl
            have idue : W.tup [.tup (List.replicate p (.bl false)), .tup (.tup [.str "folder", .int 1, .tup []] :: List.replicate (n - 1) .non), .tup (List.replicate p (.tup [.non, .non, .non, .non, .non]))] = img n p := rfl
            have nb : ∀ S : Store, M.ne2W (.ref S.length) (.ref (S ++ [Ob.lst []]).length) (S ++ [Ob.lst []] ++ [Ob.lst []]) = .ok (.bl false) (S ++ [Ob.lst []] ++ [Ob.lst []]) := fun S => ne2W_of (eq2_nil (pre_get (List.prefix_append (S ++ [.lst []]) [.lst []]) (get_new S (.lst []))) (get_new (S ++ [.lst []]) (.lst [])) rfl)
            have ist : ∀ S, M.isntW (.bl true) (.bl true) S = .ok (.bl false) S := fun S => rfl
            simp only [wp_ok, on_ok, wp_bind, k_bd, wp_op2, k_o2, k_o2b, wp_op1, wp_ops, wp_nil, wp_cons, k_c1, k_c2, wp_var, gv_some, wp_cst, wp_yes, wp_tst, wp_tru, wp_andT, k_aTt, k_aTf, wp_orT, k_oTt, k_oTf, wp_notT, k_nT, wp_andV, k_aV, k_aV2t, k_aV2f, wp_orV, k_oV, k_oV2t, k_oV2f, wp_notV, k_nV, k_nV2, wp_ifE, k_iEt, k_iEf, wp_chain, k_ch1, k_ch2, k_ch3t, k_ch3f, k_ch4,
    wp_sl, k_l1, k_l2, k_l3, wp_part, gp_int, wp_noPart, wp_iter, wp_rng1, wp_rng2, wp_rev, k_rv, wp_mth, k_m1, k_m2, wp_mthD, k_d1, wp_lc, wp_dc, wp_dnew, k_fnN, k_fnR, k_fnE, ws_seq, k_sqN, k_sqR, k_sqE, ws_skip, ws_asg, k_as, k_tg, ws_ret, k_rt, ws_retN, ws_drop, k_dr, ws_if, k_ist, k_isf, ws_set, k_s1, k_s2, k_s3, k_st, ws_for, k_fo,
    x_ofBl, x_truB, x_truI, x_truN, x_truT, x_add, x_sub, x_neg, x_lt, x_le, x_gt, x_ge, x_ne, eqW_int, x_max, x_min, x_intI, x_intB, x_lenT, x_lenF, x_tupT, gx_some, x_ixT, x_ixF, x_at0, x_at1, x_at2, x_at3, x_at4, x_slT, y_ixR, gxl_lst, y_iterT, y_iterF, y_iterR, itl_lst, y_revR, rvl_lst, y_rng1, y_rng2, y_mul, y_fdiv, y_mod, y_mkT, y_mkL, y_addT, y_addR, adl_lst,
    y_el, y_elT, y_elt, y_elf, y_dl, y_dlT, y_dlt, y_dlf, y_dlk, y_dlv, y_fo, y_foT, x_tgN, x_tgC, x_tgO, Option.bind_some, wipeF, List.getElem?_cons_zero, List.getElem?_cons_succ, List.set_cons_zero, List.set_cons_succ, List.length_cons, List.length_nil, decide_true, decide_false, Bool.not_true, Bool.not_false, true_and, and_true, if_true, if_false, ite_true, ite_false, Int.reduceLT, Int.reduceLE, Int.reduceNeg, Nat.reduceAdd, Nat.reduceLeDiff, Nat.zero_add, or_true, true_or, and_self, eq2_int, ne2_int, eq2_str, ne2_str, y_mul2, y_mul2T, y_list2T, ws_asgStar, k_sr, Int.reduceEq, Int.reduceSub, Int.reduceAdd, ws_raise, k_ra, ws_try, k_trN, k_trR, k_trX, k_txY, k_txN, k_gnN, k_gnR, wp_rng3, y_rng3, wp_quiet, k_fnE, k_sqE, k_bdE, k_o2E, k_o2bE, k_c1E, k_c2E, k_nTE, k_aTE, k_oTE, k_aVE, k_oVE, k_iEE, k_drE, k_asE, k_rtE, k_isE, k_foE, k_m2E, hS5, ne, z1, z2, z3, z4, z5, e5, List.length_replicate, Int.toNat_natCast, List.cons_append, List.nil_append, idue, ← him, ht, eq_self, r1, r2, r3, ist, nb, k_pS, dropF_cons, dropF_nil, drop_script]
            exact ⟨_, _, _, _, _, _, _, _, _, _, _, rfl⟩
    · rintro f S ⟨y1, y2, y3, y4, y5, y6, y7, y8, y9, y10, y11, rfl⟩
      simp only [wp_ok, on_ok, wp_bind, k_bd, wp_op2, k_o2, k_o2b, wp_op1, wp_ops, wp_nil, wp_cons, k_c1, k_c2, wp_var, gv_some, wp_cst, wp_yes, wp_tst, wp_tru, wp_andT, k_aTt, k_aTf, wp_orT, k_oTt, k_oTf, wp_notT, k_nT, wp_andV, k_aV, k_aV2t, k_aV2f, wp_orV, k_oV, k_oV2t, k_oV2f, wp_notV, k_nV, k_nV2, wp_ifE, k_iEt, k_iEf, wp_chain, k_ch1, k_ch2, k_ch3t, k_ch3f, k_ch4,
    wp_sl, k_l1, k_l2, k_l3, wp_part, gp_int, wp_noPart, wp_iter, wp_rng1, wp_rng2, wp_rev, k_rv, wp_mth, k_m1, k_m2, wp_mthD, k_d1, wp_lc, wp_dc, wp_dnew, k_fnN, k_fnR, k_fnE, ws_seq, k_sqN, k_sqR, k_sqE, ws_skip, ws_asg, k_as, k_tg, ws_ret, k_rt, ws_retN, ws_drop, k_dr, ws_if, k_ist, k_isf, ws_set, k_s1, k_s2, k_s3, k_st, ws_for, k_fo,
    x_ofBl, x_truB, x_truI, x_truN, x_truT, x_add, x_sub, x_neg, x_lt, x_le, x_gt, x_ge, x_ne, eqW_int, x_max, x_min, x_intI, x_intB, x_lenT, x_lenF, x_tupT, gx_some, x_ixT, x_ixF, x_at0, x_at1, x_at2, x_at3, x_at4, x_slT, y_ixR, gxl_lst, y_iterT, y_iterF, y_iterR, itl_lst, y_revR, rvl_lst, y_rng1, y_rng2, y_mul, y_fdiv, y_mod, y_mkT, y_mkL, y_addT, y_addR, adl_lst,
    y_el, y_elT, y_elt, y_elf, y_dl, y_dlT, y_dlt, y_dlf, y_dlk, y_dlv, y_fo, y_foT, x_tgN, x_tgC, x_tgO, Option.bind_some, wipeF, List.getElem?_cons_zero, List.getElem?_cons_succ, List.set_cons_zero, List.set_cons_succ, List.length_cons, List.length_nil, decide_true, decide_false, Bool.not_true, Bool.not_false, true_and, and_true, if_true, if_false, ite_true, ite_false, Int.reduceLT, Int.reduceLE, Int.reduceNeg, Nat.reduceAdd, Nat.reduceLeDiff, Nat.zero_add, or_true, true_or, and_self, eq2_int, ne2_int, eq2_str, ne2_str, y_mul2, y_mul2T, y_list2T, ws_asgStar, k_sr, Int.reduceEq, Int.reduceSub, Int.reduceAdd, ws_raise, k_ra, ws_try, k_trN, k_trR, k_trX, k_txY, k_txN, k_gnN, k_gnR, wp_rng3, y_rng3, wp_quiet, k_fnE, k_sqE, k_bdE, k_o2E, k_o2bE, k_c1E, k_c2E, k_nTE, k_aTE, k_oTE, k_aVE, k_oVE, k_iEE, k_drE, k_asE, k_rtE, k_isE, k_foE, k_m2E]
  obtain ⟨w, S, e, q⟩ := Wp.eq goal
  exact ⟨S, by rw [e, q]⟩
end K02
set_option maxRecDepth 100000
set_option maxHeartbeats 4000000

namespace K02
open PySem L2 Wo
/-! printed by gen.py: the end -/
theorem all_mk {l : PySem.W.OpenLaw} {w : World} {K : PySem.W.Frag} {h : Heap} {mg : Str → Option Value} {fa f0 f1 f2 f3 f4 f5 f6 f7 f8 f9 f10 f11 f12 f13 f14 f15 f16 f17 f18 f19 f20 f21 f22 f23 f24 f25 f26 : Addr} (X : K.In h) (G : h.Ns mainGlobals mg) (hfa : mg "law" = some (.ref fa))
    {od0 an0 od1 an1 od2 an2 od3 an3 od4 an4 od5 an5 od6 an6 od7 an7 od8 an8 od9 an9 od10 an10 od11 an11 od12 an12 od13 an13 od14 an14 od15 an15 od16 an16 od17 an17 od18 an18 od19 an19 od20 an20 od21 an21 od22 an22 od23 an23 od24 an24 od25 an25 od26 an26 : Option Addr} {sl0 sl1 sl2 sl3 sl4 sl5 sl6 sl7 sl8 sl9 sl10 sl11 sl12 sl13 sl14 sl15 sl16 sl17 sl18 sl19 sl20 sl21 sl22 sl23 sl24 sl25 sl26 : Array (Option Value)} {oc0 kV0 dc0 pm0 cd0 ct0 oc1 kV1 dc1 pm1 cd1 ct1 oc2 kV2 dc2 pm2 cd2 ct2 oc3 kV3 dc3 pm3 cd3 ct3 oc4 kV4 dc4 pm4 cd4 ct4 oc5 kV5 dc5 pm5 cd5 ct5 oc6 kV6 dc6 pm6 cd6 ct6 oc7 kV7 dc7 pm7 cd7 ct7 oc8 kV8 dc8 pm8 cd8 ct8 oc9 kV9 dc9 pm9 cd9 ct9 oc10 kV10 dc10 pm10 cd10 ct10 oc11 kV11 dc11 pm11 cd11 ct11 oc12 kV12 dc12 pm12 cd12 ct12 oc13 kV13 dc13 pm13 cd13 ct13 oc14 kV14 dc14 pm14 cd14 ct14 oc15 kV15 dc15 pm15 cd15 ct15 oc16 kV16 dc16 pm16 cd16 ct16 oc17 kV17 dc17 pm17 cd17 ct17 oc18 kV18 dc18 pm18 cd18 ct18 oc19 kV19 dc19 pm19 cd19 ct19 oc20 kV20 dc20 pm20 cd20 ct20 oc21 kV21 dc21 pm21 cd21 ct21 oc22 kV22 dc22 pm22 cd22 ct22 oc23 kV23 dc23 pm23 cd23 ct23 oc24 kV24 dc24 pm24 cd24 ct24 oc25 kV25 dc25 pm25 cd25 ct25 oc26 kV26 dc26 pm26 cd26 ct26 : Value}
    {aKINDS : Addr} {odKINDS : Option Addr} {nKINDS : Nat} {slKINDS : Array (Option Value)}
    {aNEVER : Addr} {odNEVER : Option Addr} {nNEVER : Nat} {slNEVER : Array (Option Value)}
    {tSIGNS tLONGEST tLONGEST_TEXT tMOST_PAGES tKINDS_0 tKINDS_1 tMOST_LINKS tMOST_SIZE tLEAST_NODES tFOLDER : Tok}
    {cNoSize cNoText cNoDeed cBroken : Addr}
    {wiNoSize wNNoSize : Addr} {wnmNoSize wqNoSize : Str} {wbsNoSize wbmNoSize wsubNoSize : List Value} {wsnNoSize : List Str} {wabNoSize : Bool} {wcolNoSize : Option Bool} {wddNoSize : Option Addr} {wk0NoSize wk1NoSize wk2NoSize wk3NoSize wk5NoSize : Option Value} {wocNoSize wkVNoSize wdcNoSize wpmNoSize wcdNoSize wctNoSize : Value} {wodNoSize wanNoSize : Option Addr} {wslNoSize : Array (Option Value)}
    (a0 : PySem.W.nsIn K mainGlobals "is_whole" = some (some (.ref f0)))
    (l0 : K.lookup f0 = some ⟨oc0, od0, .func (PySem.W.fnOf "is_whole" "is_whole" (defArgs sis_whole) (defBody sis_whole) (defScope sis_whole) .none kV0 dc0 pm0 an0 cd0 ct0), sl0⟩) (c0 : PySem.W.codeIn K cd0 "is_whole" = true) (k0 : PySem.W.keepIn K (.ref f0) = true)
    (a1 : PySem.W.nsIn K mainGlobals "is_from" = some (some (.ref f1)))
    (l1 : K.lookup f1 = some ⟨oc1, od1, .func (PySem.W.fnOf "is_from" "is_from" (defArgs sis_from) (defBody sis_from) (defScope sis_from) .none kV1 dc1 pm1 an1 cd1 ct1), sl1⟩) (c1 : PySem.W.codeIn K cd1 "is_from" = true) (k1 : PySem.W.keepIn K (.ref f1) = true)
    (a2 : PySem.W.nsIn K mainGlobals "is_name" = some (some (.ref f2)))
    (l2 : K.lookup f2 = some ⟨oc2, od2, .func (PySem.W.fnOf "is_name" "is_name" (defArgs sis_name) (defBody sis_name) (defScope sis_name) .none kV2 dc2 pm2 an2 cd2 ct2), sl2⟩) (c2 : PySem.W.codeIn K cd2 "is_name" = true) (k2 : PySem.W.keepIn K (.ref f2) = true)
    (a3 : PySem.W.nsIn K mainGlobals "is_text" = some (some (.ref f3)))
    (l3 : K.lookup f3 = some ⟨oc3, od3, .func (PySem.W.fnOf "is_text" "is_text" (defArgs sis_text) (defBody sis_text) (defScope sis_text) .none kV3 dc3 pm3 an3 cd3 ct3), sl3⟩) (c3 : PySem.W.codeIn K cd3 "is_text" = true) (k3 : PySem.W.keepIn K (.ref f3) = true)
    (a4 : PySem.W.nsIn K mainGlobals "is_node" = some (some (.ref f4)))
    (l4 : K.lookup f4 = some ⟨oc4, od4, .func (PySem.W.fnOf "is_node" "is_node" (defArgs sis_node) (defBody sis_node) (defScope sis_node) .none kV4 dc4 pm4 an4 cd4 ct4), sl4⟩) (c4 : PySem.W.codeIn K cd4 "is_node" = true) (k4 : PySem.W.keepIn K (.ref f4) = true)
    (a5 : PySem.W.nsIn K mainGlobals "is_entry" = some (some (.ref f5)))
    (l5 : K.lookup f5 = some ⟨oc5, od5, .func (PySem.W.fnOf "is_entry" "is_entry" (defArgs sis_entry) (defBody sis_entry) (defScope sis_entry) .none kV5 dc5 pm5 an5 cd5 ct5), sl5⟩) (c5 : PySem.W.codeIn K cd5 "is_entry" = true) (k5 : PySem.W.keepIn K (.ref f5) = true)
    (a6 : PySem.W.nsIn K mainGlobals "is_data" = some (some (.ref f6)))
    (l6 : K.lookup f6 = some ⟨oc6, od6, .func (PySem.W.fnOf "is_data" "is_data" (defArgs sis_data) (defBody sis_data) (defScope sis_data) .none kV6 dc6 pm6 an6 cd6 ct6), sl6⟩) (c6 : PySem.W.codeIn K cd6 "is_data" = true) (k6 : PySem.W.keepIn K (.ref f6) = true)
    (a7 : PySem.W.nsIn K mainGlobals "is_image" = some (some (.ref f7)))
    (l7 : K.lookup f7 = some ⟨oc7, od7, .func (PySem.W.fnOf "is_image" "is_image" (defArgs sis_image) (defBody sis_image) (defScope sis_image) .none kV7 dc7 pm7 an7 cd7 ct7), sl7⟩) (c7 : PySem.W.codeIn K cd7 "is_image" = true) (k7 : PySem.W.keepIn K (.ref f7) = true)
    (a8 : PySem.W.nsIn K mainGlobals "first_image" = some (some (.ref f8)))
    (l8 : K.lookup f8 = some ⟨oc8, od8, .func (PySem.W.fnOf "first_image" "first_image" (defArgs sfirst_image) (defBody sfirst_image) (defScope sfirst_image) .none kV8 dc8 pm8 an8 cd8 ct8), sl8⟩) (c8 : PySem.W.codeIn K cd8 "first_image" = true) (k8 : PySem.W.keepIn K (.ref f8) = true)
    (a9 : PySem.W.nsIn K mainGlobals "names_in" = some (some (.ref f9)))
    (l9 : K.lookup f9 = some ⟨oc9, od9, .func (PySem.W.fnOf "names_in" "names_in" (defArgs snames_in) (defBody snames_in) (defScope snames_in) .none kV9 dc9 pm9 an9 cd9 ct9), sl9⟩) (c9 : PySem.W.codeIn K cd9 "names_in" = true) (k9 : PySem.W.keepIn K (.ref f9) = true)
    (a10 : PySem.W.nsIn K mainGlobals "is_folder" = some (some (.ref f10)))
    (l10 : K.lookup f10 = some ⟨oc10, od10, .func (PySem.W.fnOf "is_folder" "is_folder" (defArgs sis_folder) (defBody sis_folder) (defScope sis_folder) .none kV10 dc10 pm10 an10 cd10 ct10), sl10⟩) (c10 : PySem.W.codeIn K cd10 "is_folder" = true) (k10 : PySem.W.keepIn K (.ref f10) = true)
    (a11 : PySem.W.nsIn K mainGlobals "come_from" = some (some (.ref f11)))
    (l11 : K.lookup f11 = some ⟨oc11, od11, .func (PySem.W.fnOf "come_from" "come_from" (defArgs scome_from) (defBody scome_from) (defScope scome_from) .none kV11 dc11 pm11 an11 cd11 ct11), sl11⟩) (c11 : PySem.W.codeIn K cd11 "come_from" = true) (k11 : PySem.W.keepIn K (.ref f11) = true)
    (a12 : PySem.W.nsIn K mainGlobals "come_to" = some (some (.ref f12)))
    (l12 : K.lookup f12 = some ⟨oc12, od12, .func (PySem.W.fnOf "come_to" "come_to" (defArgs scome_to) (defBody scome_to) (defScope scome_to) .none kV12 dc12 pm12 an12 cd12 ct12), sl12⟩) (c12 : PySem.W.codeIn K cd12 "come_to" = true) (k12 : PySem.W.keepIn K (.ref f12) = true)
    (a13 : PySem.W.nsIn K mainGlobals "leading" = some (some (.ref f13)))
    (l13 : K.lookup f13 = some ⟨oc13, od13, .func (PySem.W.fnOf "leading" "leading" (defArgs sleading) (defBody sleading) (defScope sleading) .none kV13 dc13 pm13 an13 cd13 ct13), sl13⟩) (c13 : PySem.W.codeIn K cd13 "leading" = true) (k13 : PySem.W.keepIn K (.ref f13) = true)
    (a14 : PySem.W.nsIn K mainGlobals "pointed" = some (some (.ref f14)))
    (l14 : K.lookup f14 = some ⟨oc14, od14, .func (PySem.W.fnOf "pointed" "pointed" (defArgs spointed) (defBody spointed) (defScope spointed) .none kV14 dc14 pm14 an14 cd14 ct14), sl14⟩) (c14 : PySem.W.codeIn K cd14 "pointed" = true) (k14 : PySem.W.keepIn K (.ref f14) = true)
    (a15 : PySem.W.nsIn K mainGlobals "page_breaks" = some (some (.ref f15)))
    (l15 : K.lookup f15 = some ⟨oc15, od15, .func (PySem.W.fnOf "page_breaks" "page_breaks" (defArgs spage_breaks) (defBody spage_breaks) (defScope spage_breaks) .none kV15 dc15 pm15 an15 cd15 ct15), sl15⟩) (c15 : PySem.W.codeIn K cd15 "page_breaks" = true) (k15 : PySem.W.keepIn K (.ref f15) = true)
    (a16 : PySem.W.nsIn K mainGlobals "is_in_ring" = some (some (.ref f16)))
    (l16 : K.lookup f16 = some ⟨oc16, od16, .func (PySem.W.fnOf "is_in_ring" "is_in_ring" (defArgs sis_in_ring) (defBody sis_in_ring) (defScope sis_in_ring) .none kV16 dc16 pm16 an16 cd16 ct16), sl16⟩) (c16 : PySem.W.codeIn K cd16 "is_in_ring" = true) (k16 : PySem.W.keepIn K (.ref f16) = true)
    (a17 : PySem.W.nsIn K mainGlobals "folder_breaks" = some (some (.ref f17)))
    (l17 : K.lookup f17 = some ⟨oc17, od17, .func (PySem.W.fnOf "folder_breaks" "folder_breaks" (defArgs sfolder_breaks) (defBody sfolder_breaks) (defScope sfolder_breaks) .none kV17 dc17 pm17 an17 cd17 ct17), sl17⟩) (c17 : PySem.W.codeIn K cd17 "folder_breaks" = true) (k17 : PySem.W.keepIn K (.ref f17) = true)
    (a18 : PySem.W.nsIn K mainGlobals "node_breaks" = some (some (.ref f18)))
    (l18 : K.lookup f18 = some ⟨oc18, od18, .func (PySem.W.fnOf "node_breaks" "node_breaks" (defArgs snode_breaks) (defBody snode_breaks) (defScope snode_breaks) .none kV18 dc18 pm18 an18 cd18 ct18), sl18⟩) (c18 : PySem.W.codeIn K cd18 "node_breaks" = true) (k18 : PySem.W.keepIn K (.ref f18) = true)
    (a19 : PySem.W.nsIn K mainGlobals "breaks" = some (some (.ref f19)))
    (l19 : K.lookup f19 = some ⟨oc19, od19, .func (PySem.W.fnOf "breaks" "breaks" (defArgs sbreaks) (defBody sbreaks) (defScope sbreaks) .none kV19 dc19 pm19 an19 cd19 ct19), sl19⟩) (c19 : PySem.W.codeIn K cd19 "breaks" = true) (k19 : PySem.W.keepIn K (.ref f19) = true)
    (a20 : PySem.W.nsIn K mainGlobals "look_at_image" = some (some (.ref f20)))
    (l20 : K.lookup f20 = some ⟨oc20, od20, .func (PySem.W.fnOf "look_at_image" "look_at_image" (defArgs slook_at_image) (defBody slook_at_image) (defScope slook_at_image) .none kV20 dc20 pm20 an20 cd20 ct20), sl20⟩) (c20 : PySem.W.codeIn K cd20 "look_at_image" = true) (k20 : PySem.W.keepIn K (.ref f20) = true)
    (a21 : PySem.W.nsIn K mainGlobals "leaks" = some (some (.ref f21)))
    (l21 : K.lookup f21 = some ⟨oc21, od21, .func (PySem.W.fnOf "leaks" "leaks" (defArgs sleaks) (defBody sleaks) (defScope sleaks) .none kV21 dc21 pm21 an21 cd21 ct21), sl21⟩) (c21 : PySem.W.codeIn K cd21 "leaks" = true) (k21 : PySem.W.keepIn K (.ref f21) = true)
    (a22 : PySem.W.nsIn K mainGlobals "_law_pool" = some (some (.ref f22)))
    (l22 : K.lookup f22 = some ⟨oc22, od22, .func (PySem.W.fnOf "_law_pool" "_law_pool" (defArgs s_law_pool) (defBody s_law_pool) (defScope s_law_pool) .none kV22 dc22 pm22 an22 cd22 ct22), sl22⟩) (c22 : PySem.W.codeIn K cd22 "_law_pool" = true) (k22 : PySem.W.keepIn K (.ref f22) = true)
    (a23 : PySem.W.nsIn K mainGlobals "_law_draw" = some (some (.ref f23)))
    (l23 : K.lookup f23 = some ⟨oc23, od23, .func (PySem.W.fnOf "_law_draw" "_law_draw" (defArgs s_law_draw) (defBody s_law_draw) (defScope s_law_draw) .none kV23 dc23 pm23 an23 cd23 ct23), sl23⟩) (c23 : PySem.W.codeIn K cd23 "_law_draw" = true) (k23 : PySem.W.keepIn K (.ref f23) = true)
    (a24 : PySem.W.nsIn K mainGlobals "_law_number" = some (some (.ref f24)))
    (l24 : K.lookup f24 = some ⟨oc24, od24, .func (PySem.W.fnOf "_law_number" "_law_number" (defArgs s_law_number) (defBody s_law_number) (defScope s_law_number) .none kV24 dc24 pm24 an24 cd24 ct24), sl24⟩) (c24 : PySem.W.codeIn K cd24 "_law_number" = true) (k24 : PySem.W.keepIn K (.ref f24) = true)
    (a25 : PySem.W.nsIn K mainGlobals "_law_from" = some (some (.ref f25)))
    (l25 : K.lookup f25 = some ⟨oc25, od25, .func (PySem.W.fnOf "_law_from" "_law_from" (defArgs s_law_from) (defBody s_law_from) (defScope s_law_from) .none kV25 dc25 pm25 an25 cd25 ct25), sl25⟩) (c25 : PySem.W.codeIn K cd25 "_law_from" = true) (k25 : PySem.W.keepIn K (.ref f25) = true)
    (a26 : PySem.W.nsIn K mainGlobals "law" = some (some (.ref f26)))
    (l26 : K.lookup f26 = some ⟨oc26, od26, .func (PySem.W.fnOf "law" "law" (defArgs slaw) (defBody slaw) (defScope slaw) .none kV26 dc26 pm26 an26 cd26 ct26), sl26⟩) (c26 : PySem.W.codeIn K cd26 "law" = true) (k26 : PySem.W.keepIn K (.ref f26) = true)
    (zint : PySem.W.nsIn K mainGlobals "int" = some none)
    (zisinstance : PySem.W.nsIn K mainGlobals "isinstance" = some none)
    (zbool : PySem.W.nsIn K mainGlobals "bool" = some none)
    (zall : PySem.W.nsIn K mainGlobals "all" = some none)
    (zstr : PySem.W.nsIn K mainGlobals "str" = some none)
    (zlen : PySem.W.nsIn K mainGlobals "len" = some none)
    (ztuple : PySem.W.nsIn K mainGlobals "tuple" = some none)
    (zValueError : PySem.W.nsIn K mainGlobals "ValueError" = some none)
    (zsorted : PySem.W.nsIn K mainGlobals "sorted" = some none)
    (zany : PySem.W.nsIn K mainGlobals "any" = some none)
    (zenumerate : PySem.W.nsIn K mainGlobals "enumerate" = some none)
    (zmax : PySem.W.nsIn K mainGlobals "max" = some none)
    (zmin : PySem.W.nsIn K mainGlobals "min" = some none)
    (zrange : PySem.W.nsIn K mainGlobals "range" = some none)
    (zrepr : PySem.W.nsIn K mainGlobals "repr" = some none)
    (kSIGNS : PySem.W.nsIn K mainGlobals "SIGNS" = some (some (.str "abcdefghijklmnopqrstuvwxyz" tSIGNS)))
    (kLONGEST : PySem.W.nsIn K mainGlobals "LONGEST" = some (some (.int 8 tLONGEST)))
    (kLONGEST_TEXT : PySem.W.nsIn K mainGlobals "LONGEST_TEXT" = some (some (.int 40 tLONGEST_TEXT)))
    (kMOST_PAGES : PySem.W.nsIn K mainGlobals "MOST_PAGES" = some (some (.int 3 tMOST_PAGES)))
    (kKINDS : PySem.W.nsIn K mainGlobals "KINDS" = some (some (.ref aKINDS)))
    (qKINDS : K.lookup aKINDS = some ⟨.type "tuple", odKINDS, .seq #[.str "file" tKINDS_0, .str "folder" tKINDS_1] nKINDS, slKINDS⟩)
    (kMOST_LINKS : PySem.W.nsIn K mainGlobals "MOST_LINKS" = some (some (.int 99 tMOST_LINKS)))
    (kNEVER : PySem.W.nsIn K mainGlobals "NEVER" = some (some (.ref aNEVER)))
    (qNEVER : K.lookup aNEVER = some ⟨.type "tuple", odNEVER, .seq #[.none, .none, .none, .none, .none] nNEVER, slNEVER⟩)
    (kMOST_SIZE : PySem.W.nsIn K mainGlobals "MOST_SIZE" = some (some (.int 16 tMOST_SIZE)))
    (kLEAST_NODES : PySem.W.nsIn K mainGlobals "LEAST_NODES" = some (some (.int 2 tLEAST_NODES)))
    (kFOLDER : PySem.W.nsIn K mainGlobals "FOLDER" = some (some (.str "folder" tFOLDER)))
    (gNoSize : PySem.W.nsIn K mainGlobals "NoSize" = some (some (.ref cNoSize)))
    (xsNoSize : PySem.W.subIn K (.ref cNoSize) (.type "BaseException") = some true)
    (xhNoSize : PySem.W.hasDictIn K cNoSize = true)
    (xtNoSize : PySem.W.typeIn K (.ref cNoSize) = some (.type "type"))
    (gNoText : PySem.W.nsIn K mainGlobals "NoText" = some (some (.ref cNoText)))
    (xsNoText : PySem.W.subIn K (.ref cNoText) (.type "BaseException") = some true)
    (xhNoText : PySem.W.hasDictIn K cNoText = true)
    (xtNoText : PySem.W.typeIn K (.ref cNoText) = some (.type "type"))
    (gNoDeed : PySem.W.nsIn K mainGlobals "NoDeed" = some (some (.ref cNoDeed)))
    (xsNoDeed : PySem.W.subIn K (.ref cNoDeed) (.type "BaseException") = some true)
    (xhNoDeed : PySem.W.hasDictIn K cNoDeed = true)
    (xtNoDeed : PySem.W.typeIn K (.ref cNoDeed) = some (.type "type"))
    (gBroken : PySem.W.nsIn K mainGlobals "Broken" = some (some (.ref cBroken)))
    (xsBroken : PySem.W.subIn K (.ref cBroken) (.type "BaseException") = some true)
    (xhBroken : PySem.W.hasDictIn K cBroken = true)
    (xtBroken : PySem.W.typeIn K (.ref cBroken) = some (.type "type"))
    (wlNoSize : K.lookup cNoSize = some (excClassObj wnmNoSize wqNoSize cNoSize wNNoSize wbsNoSize wbmNoSize true wsnNoSize wsubNoSize wabNoSize wcolNoSize wddNoSize wk0NoSize wk1NoSize wk2NoSize wk3NoSize wk5NoSize "ValueError.__new__"))
    (weNoSize : PySem.W.excTail bmVE wbmNoSize = true)
    (waNoSize : PySem.W.findIn K (.ref cNoSize) "__setattr__" = some (some (.builtin "object.__setattr__")))
    (wkNoSize : PySem.W.keepIn K (.ref cNoSize) = true)
    (wnNoSize : PySem.W.findIn K (.ref cNoSize) "__init__" = some (some (.ref wiNoSize)))
    (wtNoSize : PySem.W.typeIn K (.ref wiNoSize) = some (.type "function"))
    (wfNoSize : K.lookup wiNoSize = some ⟨wocNoSize, wodNoSize, .func (PySem.W.fnOf "__init__" "NoSize.__init__" (defArgs iNoSize) (defBody iNoSize) (defScope iNoSize) .none wkVNoSize wdcNoSize wpmNoSize wanNoSize wcdNoSize wctNoSize), wslNoSize⟩)
    (wcNoSize : PySem.W.codeIn K wcdNoSize "NoSize.__init__" = true)
    (wjNoSize : PySem.W.keepIn K (.ref wiNoSize) = true)
    (woNoSize : PySem.W.findIn K (.ref cNoSize) "number" = some none)
    (vValueError : PySem.W.findCls K (.type "ValueError") (.type "type") "__init__" = some (.val (.builtin "ValueError.__init__")))
    (yaNoSize : PySem.W.findIn K (.ref cNoSize) "__getattribute__" = some (some (.builtin "BaseException.__getattribute__")))
    (ygNoSize : PySem.W.findIn K (.ref cNoSize) "__getattr__" = some none)
    (ycNoSize : PySem.W.findIn K (.ref cNoSize) "__class__" = some (some (.builtin "object.__class__")))
    (ymNoSize : PySem.W.mroIn K cNoSize (.type "object") = some true)
    (yhn : PySem.W.specialIn K (.builtin "object.__class__") "__get__" = some (some (.builtin "getset_descriptor.__get__")))
    (ytk : PySem.W.takesIn K (.builtin "object.__class__") = some true)
    (jNoSize_ValueError : PySem.W.subIn K (.ref cNoSize) (.type "ValueError") = some true)
    (yfNoSize_number : PySem.W.findIn K (.ref cNoSize) "number" = some none)
    (jNoSize_NoSize : PySem.W.subIn K (.ref cNoSize) (.ref cNoSize) = some true)
    (jNoSize_Broken : PySem.W.subIn K (.ref cNoSize) (.ref cBroken) = some false)
    (neNoSize_Broken : (cNoSize == cBroken) = false)
    (jNoSize_NoDeed : PySem.W.subIn K (.ref cNoSize) (.ref cNoDeed) = some false)
    (neNoSize_NoDeed : (cNoSize == cNoDeed) = false)
    (jNoSize_NoText : PySem.W.subIn K (.ref cNoSize) (.ref cNoText) = some false)
    (neNoSize_NoText : (cNoSize == cNoText) = false) :
    ∃ fd : FuncData, (∀ (s : Shared) (v : Value), BindsTo s fd ⟨[v], []⟩ [("_law_script", v)]) ∧ ∀ base : Heap, K.In base → base.Ns mainGlobals mg → FnG l.prog w K mg base CX0 9 fa fd ["_law_script"] (spLaw mlaw K) := by
  have e := hfa.symm.trans (PySem.W.mg_of X G a26)
  cases e
  have B : Blt w K mg := ⟨PySem.W.mg_none_of X G zint, PySem.W.mg_none_of X G zisinstance, PySem.W.mg_none_of X G zbool, PySem.W.mg_none_of X G zall, PySem.W.mg_none_of X G zstr, PySem.W.mg_none_of X G zlen, PySem.W.mg_none_of X G ztuple, PySem.W.mg_none_of X G zValueError, PySem.W.mg_none_of X G zsorted, PySem.W.mg_none_of X G zany, PySem.W.mg_none_of X G zenumerate, PySem.W.mg_none_of X G zmax, PySem.W.mg_none_of X G zmin, PySem.W.mg_none_of X G zrange, PySem.W.mg_none_of X G zrepr, ⟨_, PySem.W.mg_of X G kSIGNS, ⟨_, rfl⟩⟩, ⟨_, PySem.W.mg_of X G kLONGEST, ⟨_, rfl⟩⟩, ⟨_, PySem.W.mg_of X G kLONGEST_TEXT, ⟨_, rfl⟩⟩, ⟨_, PySem.W.mg_of X G kMOST_PAGES, ⟨_, rfl⟩⟩, ⟨_, PySem.W.mg_of X G kKINDS, fun _ => sqt_in qKINDS rfl rfl (by rw [sizeLine_eq]; exact Nat.le_of_ble_eq_true rfl) (.cons ⟨_, rfl⟩ (.cons ⟨_, rfl⟩ (.nil)))⟩, ⟨_, PySem.W.mg_of X G kMOST_LINKS, ⟨_, rfl⟩⟩, ⟨_, PySem.W.mg_of X G kNEVER, fun _ => sqt_in qNEVER rfl rfl (by rw [sizeLine_eq]; exact Nat.le_of_ble_eq_true rfl) (.cons rfl (.cons rfl (.cons rfl (.cons rfl (.cons rfl (.nil))))))⟩, ⟨_, PySem.W.mg_of X G kMOST_SIZE, ⟨_, rfl⟩⟩, ⟨_, PySem.W.mg_of X G kLEAST_NODES, ⟨_, rfl⟩⟩, ⟨_, PySem.W.mg_of X G kFOLDER, ⟨_, rfl⟩⟩, (by rw [clA_of gNoSize]; exact ⟨cls_some xhNoSize, yaNoSize, ygNoSize, xsNoSize, ycNoSize, yhn, ytk, ymNoSize⟩), (by rw [clA_of gNoSize]; exact kit_bt (by decide +kernel) jNoSize_ValueError), (kAny_f (by rw [clA_of gNoSize, clA_of gBroken]; exact kit_own xhBroken xtBroken jNoSize_Broken neNoSize_Broken) (kAny_f (by rw [clA_of gNoSize, clA_of gNoDeed]; exact kit_own xhNoDeed xtNoDeed jNoSize_NoDeed neNoSize_NoDeed) (kAny_f (by rw [clA_of gNoSize, clA_of gNoText]; exact kit_own xhNoText xtNoText jNoSize_NoText neNoSize_NoText) (kAny_nil)))), (by rw [clA_of gNoText]; exact PySem.W.mg_of X G gNoText), (by rw [clA_of gNoDeed]; exact PySem.W.mg_of X G gNoDeed), (by rw [clA_of gBroken]; exact PySem.W.mg_of X G gBroken), (by rw [clA_of gNoSize]; exact ⟨⟨yaNoSize, ygNoSize, xsNoSize, xhNoSize⟩, yfNoSize_number⟩), (by rw [clA_of gNoSize]; exact PySem.W.mg_of X G gNoSize), (by rw [clA_of gNoSize]; exact PySem.W.exm_ref xsNoSize xhNoSize xtNoSize jNoSize_NoSize), (by rw [clA_of gNoSize, clA_of gBroken]; exact kit_own xhBroken xtBroken jNoSize_Broken neNoSize_Broken), (by rw [clA_of gNoSize, clA_of gNoDeed]; exact kit_own xhNoDeed xtNoDeed jNoSize_NoDeed neNoSize_NoDeed), (by rw [clA_of gNoSize, clA_of gNoText]; exact kit_own xhNoText xtNoText jNoSize_NoText neNoSize_NoText), vValueError⟩
  have F0 := fun_mk (st := sis_whole) l0 c0 k0
  have b0 := F0.binds (ps := ["thing"]) fun _ _ _ _ _ _ us hl => match us, hl with | [_], _ => rfl
  have g0 := PySem.W.mg_of X G a0
  have F1 := fun_mk (st := sis_from) l1 c1 k1
  have b1 := F1.binds (ps := ["thing", "least", "most"]) fun _ _ _ _ _ _ us hl => match us, hl with | [_, _, _], _ => rfl
  have g1 := PySem.W.mg_of X G a1
  have F2 := fun_mk (st := sis_name) l2 c2 k2
  have b2 := F2.binds (ps := ["thing"]) fun _ _ _ _ _ _ us hl => match us, hl with | [_], _ => rfl
  have g2 := PySem.W.mg_of X G a2
  have F3 := fun_mk (st := sis_text) l3 c3 k3
  have b3 := F3.binds (ps := ["thing"]) fun _ _ _ _ _ _ us hl => match us, hl with | [_], _ => rfl
  have g3 := PySem.W.mg_of X G a3
  have F4 := fun_mk (st := sis_node) l4 c4 k4
  have b4 := F4.binds (ps := ["thing", "pages"]) fun _ _ _ _ _ _ us hl => match us, hl with | [_, _], _ => rfl
  have g4 := PySem.W.mg_of X G a4
  have F5 := fun_mk (st := sis_entry) l5 c5 k5
  have b5 := F5.binds (ps := ["thing", "nodes"]) fun _ _ _ _ _ _ us hl => match us, hl with | [_, _], _ => rfl
  have g5 := PySem.W.mg_of X G a5
  have F6 := fun_mk (st := sis_data) l6 c6 k6
  have b6 := F6.binds (ps := ["thing", "nodes"]) fun _ _ _ _ _ _ us hl => match us, hl with | [_, _], _ => rfl
  have g6 := PySem.W.mg_of X G a6
  have F7 := fun_mk (st := sis_image) l7 c7 k7
  have b7 := F7.binds (ps := ["thing"]) fun _ _ _ _ _ _ us hl => match us, hl with | [_], _ => rfl
  have g7 := PySem.W.mg_of X G a7
  have F8 := fun_mk (st := sfirst_image) l8 c8 k8
  have b8 := F8.binds (ps := ["nodes", "pages"]) fun _ _ _ _ _ _ us hl => match us, hl with | [_, _], _ => rfl
  have g8 := PySem.W.mg_of X G a8
  have F9 := fun_mk (st := snames_in) l9 c9 k9
  have b9 := F9.binds (ps := ["image", "node"]) fun _ _ _ _ _ _ us hl => match us, hl with | [_, _], _ => rfl
  have g9 := PySem.W.mg_of X G a9
  have F10 := fun_mk (st := sis_folder) l10 c10 k10
  have b10 := F10.binds (ps := ["image", "node"]) fun _ _ _ _ _ _ us hl => match us, hl with | [_, _], _ => rfl
  have g10 := PySem.W.mg_of X G a10
  have F11 := fun_mk (st := scome_from) l11 c11 k11
  have b11 := F11.binds (ps := ["image", "node"]) fun _ _ _ _ _ _ us hl => match us, hl with | [_, _], _ => rfl
  have g11 := PySem.W.mg_of X G a11
  have F12 := fun_mk (st := scome_to) l12 c12 k12
  have b12 := F12.binds (ps := ["image"]) fun _ _ _ _ _ _ us hl => match us, hl with | [_], _ => rfl
  have g12 := PySem.W.mg_of X G a12
  have F13 := fun_mk (st := sleading) l13 c13 k13
  have b13 := F13.binds (ps := ["image", "known"]) fun _ _ _ _ _ _ us hl => match us, hl with | [_, _], _ => rfl
  have g13 := PySem.W.mg_of X G a13
  have F14 := fun_mk (st := spointed) l14 c14 k14
  have b14 := F14.binds (ps := ["image", "known"]) fun _ _ _ _ _ _ us hl => match us, hl with | [_, _], _ => rfl
  have g14 := PySem.W.mg_of X G a14
  have F15 := fun_mk (st := spage_breaks) l15 c15 k15
  have b15 := F15.binds (ps := ["image", "node"]) fun _ _ _ _ _ _ us hl => match us, hl with | [_, _], _ => rfl
  have g15 := PySem.W.mg_of X G a15
  have F16 := fun_mk (st := sis_in_ring) l16 c16 k16
  have b16 := F16.binds (ps := ["image", "folder"]) fun _ _ _ _ _ _ us hl => match us, hl with | [_, _], _ => rfl
  have g16 := PySem.W.mg_of X G a16
  have F17 := fun_mk (st := sfolder_breaks) l17 c17 k17
  have b17 := F17.binds (ps := ["image", "folder"]) fun _ _ _ _ _ _ us hl => match us, hl with | [_, _], _ => rfl
  have g17 := PySem.W.mg_of X G a17
  have F18 := fun_mk (st := snode_breaks) l18 c18 k18
  have b18 := F18.binds (ps := ["image", "node", "many"]) fun _ _ _ _ _ _ us hl => match us, hl with | [_, _, _], _ => rfl
  have g18 := PySem.W.mg_of X G a18
  have F19 := fun_mk (st := sbreaks) l19 c19 k19
  have b19 := F19.binds (ps := ["image"]) fun _ _ _ _ _ _ us hl => match us, hl with | [_], _ => rfl
  have g19 := PySem.W.mg_of X G a19
  have F20 := fun_mk (st := slook_at_image) l20 c20 k20
  have b20 := F20.binds (ps := ["image"]) fun _ _ _ _ _ _ us hl => match us, hl with | [_], _ => rfl
  have g20 := PySem.W.mg_of X G a20
  have F21 := fun_mk (st := sleaks) l21 c21 k21
  have b21 := F21.binds (ps := ["image"]) fun _ _ _ _ _ _ us hl => match us, hl with | [_], _ => rfl
  have g21 := PySem.W.mg_of X G a21
  have F22 := fun_mk (st := s_law_pool) l22 c22 k22
  have b22 := F22.binds (ps := ["_law_script", "_law_k"]) fun _ _ _ _ _ _ us hl => match us, hl with | [_, _], _ => rfl
  have g22 := PySem.W.mg_of X G a22
  have F23 := fun_mk (st := s_law_draw) l23 c23 k23
  have b23 := F23.binds (ps := ["_law_pool_here", "_law_many"]) fun _ _ _ _ _ _ us hl => match us, hl with | [_, _], _ => rfl
  have g23 := PySem.W.mg_of X G a23
  have F24 := fun_mk (st := s_law_number) l24 c24 k24
  have b24 := F24.binds (ps := ["_law_pool_here"]) fun _ _ _ _ _ _ us hl => match us, hl with | [_], _ => rfl
  have g24 := PySem.W.mg_of X G a24
  have F25 := fun_mk (st := s_law_from) l25 c25 k25
  have b25 := F25.binds (ps := ["_law_thing", "_law_least", "_law_most"]) fun _ _ _ _ _ _ us hl => match us, hl with | [_, _, _], _ => rfl
  have g25 := PySem.W.mg_of X G a25
  have F26 := fun_mk (st := slaw) l26 c26 k26
  have b26 := F26.binds (ps := ["_law_script"]) fun _ _ _ _ _ _ us hl => match us, hl with | [_], _ => rfl
  have g26 := PySem.W.mg_of X G a26
  refine ⟨PySem.W.fnOf "law" "law" (defArgs slaw) (defBody slaw) (defScope slaw) .none kV26 dc26 pm26 an26 cd26 ct26, fun s v => .of_eq rfl, fun base _ _ => ?_⟩
  have TNoSize : OexB K "ValueError" "ValueError.__new__" "ValueError.__init__" bmVE (clA K "NoSize") := by
    rw [clA_of gNoSize]
    exact oexB_mk base_ValueError wlNoSize weNoSize waNoSize xsNoSize xtNoSize wkNoSize
  have FINoSize := fun_mk (st := iNoSize) wfNoSize wcNoSize wjNoSize
  have bINoSize := FINoSize.binds (ps := ["self", "number"]) fun _ _ _ _ _ _ us hl => match us, hl with | [_, _], _ => rfl
  have XNoSize : OwnX l.prog w K mg base "NoSize" "number" := ⟨by rw [clA_of gNoSize]; exact PySem.W.mg_of X G gNoSize, ⟨_, _, _, _, _, _, _, TNoSize, by rw [clA_of gNoSize]; exact wnNoSize, wtNoSize, okiNoSize B FINoSize TNoSize (by rw [clA_of gNoSize]; exact woNoSize), bINoSize⟩⟩
  have D0 := okis_whole (P := l.prog) (w := w) (base := base) B F0 g0 b0
  have D1 := okis_from (P := l.prog) (w := w) (base := base) B D0 F1 g1 b1
  have D2 := okis_name (P := l.prog) (w := w) (base := base) B F2 g2 b2
  have D3 := okis_text (P := l.prog) (w := w) (base := base) B F3 g3 b3
  have D4 := okis_node (P := l.prog) (w := w) (base := base) B D1 F4 g4 b4
  have D5 := okis_entry (P := l.prog) (w := w) (base := base) B D2 D1 F5 g5 b5
  have D6 := okis_data (P := l.prog) (w := w) (base := base) B D5 D3 F6 g6 b6
  have D7 := okis_image (P := l.prog) (w := w) (base := base) B D6 D4 F7 g7 b7
  have D8 := okfirst_image (P := l.prog) (w := w) (base := base) B D1 XNoSize F8 g8 b8
  have D9 := oknames_in (P := l.prog) (w := w) (base := base) B F9 g9 b9
  have D10 := okis_folder (P := l.prog) (w := w) (base := base) B F10 g10 b10
  have D11 := okcome_from (P := l.prog) (w := w) (base := base) B D10 D9 F11 g11 b11
  have D12 := okcome_to (P := l.prog) (w := w) (base := base) B D11 F12 g12 b12
  have D13 := okleading (P := l.prog) (w := w) (base := base) B D10 D9 F13 g13 b13
  have D14 := okpointed (P := l.prog) (w := w) (base := base) B F14 g14 b14
  have D15 := okpage_breaks (P := l.prog) (w := w) (base := base) B F15 g15 b15
  have D16 := okis_in_ring (P := l.prog) (w := w) (base := base) B D9 D11 F16 g16 b16
  have D17 := okfolder_breaks (P := l.prog) (w := w) (base := base) B D16 D9 F17 g17 b17
  have D18 := oknode_breaks (P := l.prog) (w := w) (base := base) B D10 D17 D15 F18 g18 b18
  have D19 := okbreaks (P := l.prog) (w := w) (base := base) B D14 D18 D10 D13 D12 F19 g19 b19
  have D20 := oklook_at_image (P := l.prog) (w := w) (base := base) B D19 F20 g20 b20
  have D21 := okleaks (P := l.prog) (w := w) (base := base) B D14 D13 D12 D20 F21 g21 b21
  have D22 := ok_law_pool (P := l.prog) (w := w) (base := base) B F22 g22 b22
  have D23 := ok_law_draw (P := l.prog) (w := w) (base := base) B F23 g23 b23
  have D24 := ok_law_number (P := l.prog) (w := w) (base := base) B D23 F24 g24 b24
  have D25 := ok_law_from (P := l.prog) (w := w) (base := base) B F25 g25 b25
  have D26 := oklaw (P := l.prog) (w := w) (base := base) B D7 D19 D21 D8 D25 D24 D22 F26 g26 b26
  exact D26.ok
end K02

open PySem PySem.W PyProof.Rows Wo in
set_option maxRecDepth 100000 in
set_option maxHeartbeats 0 in
theorem PySem.Challenge.cw_writeorders_k02_first_images_holds : PySem.Challenge.rw_writeorders_k02_first_images.Holds := by
  w_on; o_law; k_head; (case hw => w_witness2)
  k_fill
  refine Wo.walk_G (k := 9) (l := PySem.Challenge.rw_writeorders_k02_first_images) (g := K02.mlaw) (x := "_law_script") rfl rfl ⟨rfl, by decide, by decide⟩ (fun w h Y => PySem.W.kIn_of Y) ?F K02.law_true
  case F =>
    intro w mg fa h KX G hmg
    refine' K02.all_mk KX G hmg ?a0 ?l0 ?c0 ?k0 ?a1 ?l1 ?c1 ?k1 ?a2 ?l2 ?c2 ?k2 ?a3 ?l3 ?c3 ?k3 ?a4 ?l4 ?c4 ?k4 ?a5 ?l5 ?c5 ?k5 ?a6 ?l6 ?c6 ?k6 ?a7 ?l7 ?c7 ?k7 ?a8 ?l8 ?c8 ?k8 ?a9 ?l9 ?c9 ?k9 ?a10 ?l10 ?c10 ?k10 ?a11 ?l11 ?c11 ?k11 ?a12 ?l12 ?c12 ?k12 ?a13 ?l13 ?c13 ?k13 ?a14 ?l14 ?c14 ?k14 ?a15 ?l15 ?c15 ?k15 ?a16 ?l16 ?c16 ?k16 ?a17 ?l17 ?c17 ?k17 ?a18 ?l18 ?c18 ?k18 ?a19 ?l19 ?c19 ?k19 ?a20 ?l20 ?c20 ?k20 ?a21 ?l21 ?c21 ?k21 ?a22 ?l22 ?c22 ?k22 ?a23 ?l23 ?c23 ?k23 ?a24 ?l24 ?c24 ?k24 ?a25 ?l25 ?c25 ?k25 ?a26 ?l26 ?c26 ?k26 ?zint ?zisinstance ?zbool ?zall ?zstr ?zlen ?ztuple ?zValueError ?zsorted ?zany ?zenumerate ?zmax ?zmin ?zrange ?zrepr ?kSIGNS ?kLONGEST ?kLONGEST_TEXT ?kMOST_PAGES ?kKINDS ?qKINDS ?kMOST_LINKS ?kNEVER ?qNEVER ?kMOST_SIZE ?kLEAST_NODES ?kFOLDER ?gNoSize ?xsNoSize ?xhNoSize ?xtNoSize ?gNoText ?xsNoText ?xhNoText ?xtNoText ?gNoDeed ?xsNoDeed ?xhNoDeed ?xtNoDeed ?gBroken ?xsBroken ?xhBroken ?xtBroken ?wlNoSize ?weNoSize ?waNoSize ?wkNoSize ?wnNoSize ?wtNoSize ?wfNoSize ?wcNoSize ?wjNoSize ?woNoSize ?vValueError ?yaNoSize ?ygNoSize ?ycNoSize ?ymNoSize ?yhn ?ytk ?jNoSize_ValueError ?yfNoSize_number ?jNoSize_NoSize ?jNoSize_Broken ?neNoSize_Broken ?jNoSize_NoDeed ?neNoSize_NoDeed ?jNoSize_NoText ?neNoSize_NoText
    (case a0 => k_is)
    (case l0 => k_is)
    (case c0 => k_is)
    (case k0 => k_is)
    (case a1 => k_is)
    (case l1 => k_is)
    (case c1 => k_is)
    (case k1 => k_is)
    (case a2 => k_is)
    (case l2 => k_is)
    (case c2 => k_is)
    (case k2 => k_is)
    (case a3 => k_is)
    (case l3 => k_is)
    (case c3 => k_is)
    (case k3 => k_is)
    (case a4 => k_is)
    (case l4 => k_is)
    (case c4 => k_is)
    (case k4 => k_is)
    (case a5 => k_is)
    (case l5 => k_is)
    (case c5 => k_is)
    (case k5 => k_is)
    (case a6 => k_is)
    (case l6 => k_is)
    (case c6 => k_is)
    (case k6 => k_is)
    (case a7 => k_is)
    (case l7 => k_is)
    (case c7 => k_is)
    (case k7 => k_is)
    (case a8 => k_is)
    (case l8 => k_is)
    (case c8 => k_is)
    (case k8 => k_is)
    (case a9 => k_is)
    (case l9 => k_is)
    (case c9 => k_is)
    (case k9 => k_is)
    (case a10 => k_is)
    (case l10 => k_is)
    (case c10 => k_is)
    (case k10 => k_is)
    (case a11 => k_is)
    (case l11 => k_is)
    (case c11 => k_is)
    (case k11 => k_is)
    (case a12 => k_is)
    (case l12 => k_is)
    (case c12 => k_is)
    (case k12 => k_is)
    (case a13 => k_is)
    (case l13 => k_is)
    (case c13 => k_is)
    (case k13 => k_is)
    (case a14 => k_is)
    (case l14 => k_is)
    (case c14 => k_is)
    (case k14 => k_is)
    (case a15 => k_is)
    (case l15 => k_is)
    (case c15 => k_is)
    (case k15 => k_is)
    (case a16 => k_is)
    (case l16 => k_is)
    (case c16 => k_is)
    (case k16 => k_is)
    (case a17 => k_is)
    (case l17 => k_is)
    (case c17 => k_is)
    (case k17 => k_is)
    (case a18 => k_is)
    (case l18 => k_is)
    (case c18 => k_is)
    (case k18 => k_is)
    (case a19 => k_is)
    (case l19 => k_is)
    (case c19 => k_is)
    (case k19 => k_is)
    (case a20 => k_is)
    (case l20 => k_is)
    (case c20 => k_is)
    (case k20 => k_is)
    (case a21 => k_is)
    (case l21 => k_is)
    (case c21 => k_is)
    (case k21 => k_is)
    (case a22 => k_is)
    (case l22 => k_is)
    (case c22 => k_is)
    (case k22 => k_is)
    (case a23 => k_is)
    (case l23 => k_is)
    (case c23 => k_is)
    (case k23 => k_is)
    (case a24 => k_is)
    (case l24 => k_is)
    (case c24 => k_is)
    (case k24 => k_is)
    (case a25 => k_is)
    (case l25 => k_is)
    (case c25 => k_is)
    (case k25 => k_is)
    (case a26 => k_is)
    (case l26 => k_is)
    (case c26 => k_is)
    (case k26 => k_is)
    (case zint => k_is)
    (case zisinstance => k_is)
    (case zbool => k_is)
    (case zall => k_is)
    (case zstr => k_is)
    (case zlen => k_is)
    (case ztuple => k_is)
    (case zValueError => k_is)
    (case zsorted => k_is)
    (case zany => k_is)
    (case zenumerate => k_is)
    (case zmax => k_is)
    (case zmin => k_is)
    (case zrange => k_is)
    (case zrepr => k_is)
    (case kSIGNS => k_is)
    (case kLONGEST => k_is)
    (case kLONGEST_TEXT => k_is)
    (case kMOST_PAGES => k_is)
    (case kKINDS => k_is)
    (case qKINDS => k_is)
    (case kMOST_LINKS => k_is)
    (case kNEVER => k_is)
    (case qNEVER => k_is)
    (case kMOST_SIZE => k_is)
    (case kLEAST_NODES => k_is)
    (case kFOLDER => k_is)
    (case gNoSize => k_is)
    (case xsNoSize => k_is)
    (case xhNoSize => k_is)
    (case xtNoSize => k_is)
    (case gNoText => k_is)
    (case xsNoText => k_is)
    (case xhNoText => k_is)
    (case xtNoText => k_is)
    (case gNoDeed => k_is)
    (case xsNoDeed => k_is)
    (case xhNoDeed => k_is)
    (case xtNoDeed => k_is)
    (case gBroken => k_is)
    (case xsBroken => k_is)
    (case xhBroken => k_is)
    (case xtBroken => k_is)
    (case wlNoSize => k_is)
    (case weNoSize => first | rfl | decide)
    (case waNoSize => k_is)
    (case wkNoSize => k_is)
    (case wnNoSize => k_is)
    (case wtNoSize => k_is)
    (case wfNoSize => k_is)
    (case wcNoSize => k_is)
    (case wjNoSize => k_is)
    (case woNoSize => k_is)
    (case vValueError => k_is)
    (case yaNoSize => k_is)
    (case ygNoSize => k_is)
    (case ycNoSize => k_is)
    (case ymNoSize => k_is)
    (case yhn => k_is)
    (case ytk => k_is)
    (case jNoSize_ValueError => k_is)
    (case yfNoSize_number => k_is)
    (case jNoSize_NoSize => k_is)
    (case jNoSize_Broken => k_is)
    (case neNoSize_Broken => first | rfl | decide)
    (case jNoSize_NoDeed => k_is)
    (case neNoSize_NoDeed => first | rfl | decide)
    (case jNoSize_NoText => k_is)
    (case neNoSize_NoText => first | rfl | decide)
