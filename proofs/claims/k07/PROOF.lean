import PyProof.Rows.All
import Wide.All
import OpenK.AllK
import Wide.FinOn
import HandS.ForMost
import HandS.Flow
import HandS.Conv
import HandS.DictComp
import HandS.TupAny
import HandS.TupMul
import HandS.Deep
import HandS.IsInst
import HandS.Style
import HandS.SortInts
import PySem.Challenge.RW_writeorders_k07_changes_put_on
set_option Elab.async false
set_option linter.all false
set_option maxRecDepth 100000
set_option maxHeartbeats 4000000
/-! W0: a small semantics of our own: values W (tuples by value, all else that lives in the heap by a number into a store), slots, results. -/
namespace Wo
open PySem L2

inductive W where
  | non
  | bl (b : Bool)
  | int (i : Int)
  | str (x : Str)
  | ty (n : String)
  | ref (r : Nat)
  | tup (xs : List W)
  | fl (xs : List W)
  deriving Inhabited

inductive Ob where
  | lst (xs : List W)
  | dK (kvs : List (Key × W))
  deriving Inhabited

abbrev Store := List Ob
abbrev Fr := List (Option W)

structure Xn where
  cls : Addr
  fld : Option (List (Str × W))

inductive Rs (α : Type) where
  | ok (a : α) (S : Store)
  | ex (e : Xn) (S : Store)
  | no

def Rs.bind {α β : Type} (m : Rs α) (k : α → Store → Rs β) : Rs β := match m with
  | .ok a S => k a S
  | .ex e S => .ex e S
  | .no => .no
@[simp] theorem Rs.bind_ok {α β : Type} (a : α) (S : Store) (k : α → Store → Rs β) : (Rs.ok a S).bind k = k a S := rfl
@[simp] theorem Rs.bind_ex {α β : Type} (e : Xn) (S : Store) (k : α → Store → Rs β) : (Rs.ex e S : Rs α).bind k = .ex e S := rfl
@[simp] theorem Rs.bind_no {α β : Type} (k : α → Store → Rs β) : (Rs.no : Rs α).bind k = .no := rfl

/-! ### the relation with the layer's values and heap -/
/-- a list that is locked, or of the written part: it stays -/
def SqF (K : PySem.W.Frag) (H : Hp) (a : Addr) (xs : List V) : Prop := (∃ o, H a = some (.frz o (.lst xs))) ∨ (∀ H', SqL K H' a xs)
theorem SqF.l {K : PySem.W.Frag} {H : Hp} {a : Addr} {xs : List V} (h : SqF K H a xs) : SqL K H a xs := by
  rcases h with ⟨o, h⟩ | h
  · exact Or.inl (Or.inr ⟨o, h⟩)
  · exact h H
section
variable (K : PySem.W.Frag) (m : List Addr) (H : Hp)
mutual
inductive RV : W → V → Prop
  | non : RV .non .non
  | bl (b : Bool) : RV (.bl b) (.bl b)
  | int (i : Int) : RV (.int i) (.int i)
  | str (x : Str) : RV (.str x) (.str x)
  | ty (n : String) : RV (.ty n) (.ty n)
  | ref {r : Nat} {a : Addr} : m[r]? = some a → RV (.ref r) (.ref a)
  | tup {a : Addr} {ws : List W} {vs : List V} : SqT K H a vs → RVs ws vs → RV (.tup ws) (.ref a)
  | fl {a : Addr} {ws : List W} {vs : List V} : SqF K H a vs → RVs ws vs → RV (.fl ws) (.ref a)
inductive RVs : List W → List V → Prop
  | nil : RVs [] []
  | cons {w : W} {ws : List W} {v : V} {vs : List V} : RV w v → RVs ws vs → RVs (w :: ws) (v :: vs)
end
end

structure Stay (K : PySem.W.Frag) (H H' : Hp) : Prop where
  t : ∀ a vs, SqT K H a vs → SqT K H' a vs
  f : ∀ a vs, SqF K H a vs → SqF K H' a vs
theorem Stay.refl {K : PySem.W.Frag} (H : Hp) : Stay K H H := ⟨fun _ _ h => h, fun _ _ h => h⟩
theorem Stay.trans {K : PySem.W.Frag} {H H1 H2 : Hp} (a : Stay K H H1) (b : Stay K H1 H2) : Stay K H H2 := ⟨fun x vs h => b.t x vs (a.t x vs h), fun x vs h => b.f x vs (a.f x vs h)⟩
/-- what is written, or new, is no tuple and nothing locked -/
def Soft : Option HO → Prop
  | some (.tup _) => False
  | some (.frz _ _) => False
  | _ => True
theorem Stay.upd {K : PySem.W.Frag} {H : Hp} {a : Addr} {o : HO} (h : Soft (H a)) : Stay K H (L2.upd H a o) := by
  refine ⟨fun b vs q => ?_, fun b vs q => ?_⟩
  · rcases q with (q | ⟨ob, q⟩) | q
    · refine Or.inl (Or.inl ?_)
      rw [upd_ne]
      · exact q
      · rintro rfl
        rw [q] at h
        exact h
    · refine Or.inl (Or.inr ⟨ob, ?_⟩)
      rw [upd_ne]
      · exact q
      · rintro rfl
        rw [q] at h
        exact h
    · exact Or.inr q
  · rcases q with ⟨ob, q⟩ | q
    · refine Or.inl ⟨ob, ?_⟩
      rw [upd_ne]
      · exact q
      · rintro rfl
        rw [q] at h
        exact h
    · exact Or.inr q
theorem Stay.new {K : PySem.W.Frag} {H : Hp} {a : Addr} {o : HO} (h : H a = none) : Stay K H (L2.upd H a o) := Stay.upd (by rw [h]; trivial)

abbrev Pre (m m' : List Addr) : Prop := m <+: m'
theorem Pre.get {m m' : List Addr} (p : Pre m m') {r : Nat} {a : Addr} (h : m[r]? = some a) : m'[r]? = some a := by
  obtain ⟨t, rfl⟩ := p
  have hr : r < m.length := (List.getElem?_eq_some_iff.mp h).1
  rw [List.getElem?_append_left hr]
  exact h

section
variable {K : PySem.W.Frag} {m m' : List Addr} {H H' : Hp}
mutual
theorem RV.mono (p : Pre m m') (s : Stay K H H') : ∀ {w : W} {v : V}, RV K m H w v → RV K m' H' w v
  | _, _, .non => .non
  | _, _, .bl b => .bl b
  | _, _, .int i => .int i
  | _, _, .str x => .str x
  | _, _, .ty n => .ty n
  | _, _, .ref h => .ref (p.get h)
  | _, _, .tup h t => .tup (s.t _ _ h) (RVs.mono p s t)
  | _, _, .fl h t => .fl (s.f _ _ h) (RVs.mono p s t)
theorem RVs.mono (p : Pre m m') (s : Stay K H H') : ∀ {ws : List W} {vs : List V}, RVs K m H ws vs → RVs K m' H' ws vs
  | _, _, .nil => .nil
  | _, _, .cons h t => .cons (RV.mono p s h) (RVs.mono p s t)
end
theorem RVs.length : ∀ {ws : List W} {vs : List V}, RVs K m H ws vs → ws.length = vs.length
  | _, _, .nil => rfl
  | _, _, .cons _ t => by rw [List.length_cons, List.length_cons, RVs.length t]
theorem RVs.get : ∀ {ws : List W} {vs : List V} {i : Nat} {w : W}, RVs K m H ws vs → ws[i]? = some w → ∃ v, vs[i]? = some v ∧ RV K m H w v
  | _, _, _, _, .nil, e => by simp at e
  | _, _, 0, _, .cons h t, e => by
    simp at e
    subst e
    exact ⟨_, rfl, h⟩
  | _, _, i + 1, _, .cons h t, e => by
    obtain ⟨v, h1, h2⟩ := RVs.get (i := i) t (by simpa using e)
    exact ⟨v, by simpa using h1, h2⟩
theorem RVs.append : ∀ {ws ws' : List W} {vs vs' : List V}, RVs K m H ws vs → RVs K m H ws' vs' → RVs K m H (ws ++ ws') (vs ++ vs')
  | _, _, _, _, .nil, t => t
  | _, _, _, _, .cons h t, u => .cons h (RVs.append t u)
theorem RVs.one {w : W} {v : V} (h : RV K m H w v) : RVs K m H [w] [v] := .cons h .nil
theorem RVs.set {w : W} {v : V} (r : RV K m H w v) : ∀ {ws : List W} {vs : List V} (i : Nat), RVs K m H ws vs → RVs K m H (ws.set i w) (vs.set i v)
  | _, _, _, .nil => .nil
  | _, _, 0, .cons _ t => .cons r t
  | _, _, i + 1, .cons q t => .cons q (RVs.set r i t)
theorem RVs.take : ∀ {ws : List W} {vs : List V} (n : Nat), RVs K m H ws vs → RVs K m H (ws.take n) (vs.take n)
  | _, _, 0, _ => .nil
  | _, _, _ + 1, .nil => .nil
  | _, _, n + 1, .cons r t => .cons r (RVs.take n t)
theorem RVs.drop : ∀ {ws : List W} {vs : List V} (n : Nat), RVs K m H ws vs → RVs K m H (ws.drop n) (vs.drop n)
  | _, _, 0, r => r
  | _, _, _ + 1, .nil => .nil
  | _, _, n + 1, .cons _ t => RVs.drop n t
theorem RVs.dropLast {ws : List W} {vs : List V} (r : RVs K m H ws vs) : RVs K m H ws.dropLast vs.dropLast := by
  rw [List.dropLast_eq_take, List.dropLast_eq_take, ← r.length]
  exact r.take _
end

abbrev RKV (K : PySem.W.Frag) (m : List Addr) (H : Hp) : List (Key × W) → List (Key × V) → Prop := Paired fun p q => p.1 = q.1 ∧ RV K m H p.2 q.2
theorem RKV.mono {K : PySem.W.Frag} {m m' : List Addr} {H H' : Hp} (p : Pre m m') (s : Stay K H H') {l : List (Key × W)} {l' : List (Key × V)} (h : RKV K m H l l') : RKV K m' H' l l' :=
  Paired.mapP h fun _ _ ⟨a, b⟩ => ⟨a, b.mono p s⟩

def RO (K : PySem.W.Frag) (m : List Addr) (H : Hp) : Ob → Addr → Prop
  | .lst xs, a => ∃ vs, H a = some (.lst vs) ∧ RVs K m H xs vs
  | .dK kvs, a => ∃ ls, H a = some (.dK ls) ∧ RKV K m H kvs ls

theorem nodupA {N : List Addr} (hN : N.Nodup) {i j : Nat} {x : Addr} (a : N[i]? = some x) (b : N[j]? = some x) : i = j := by
  obtain ⟨h1, e1⟩ := List.getElem?_eq_some_iff.mp a
  obtain ⟨h2, e2⟩ := List.getElem?_eq_some_iff.mp b
  exact (List.getElem_inj hN).mp (e1.trans e2.symm)
structure RS (K : PySem.W.Frag) (m : List Addr) (S : Store) (H : Hp) : Prop where
  len : m.length = S.length
  nd : m.Nodup
  ob : ∀ (r : Nat) (o : Ob) (a : Addr), S[r]? = some o → m[r]? = some a → RO K m H o a

theorem RO.mono {K : PySem.W.Frag} {m m' : List Addr} {H H' : Hp} {o : Ob} {a : Addr} (p : Pre m m') (s : Stay K H H') (e : H' a = H a) (h : RO K m H o a) : RO K m' H' o a := by
  cases o with
  | lst xs =>
    obtain ⟨vs, h1, h2⟩ := h
    exact ⟨vs, e.trans h1, h2.mono p s⟩
  | dK kvs =>
    obtain ⟨vs, h1, h2⟩ := h
    exact ⟨vs, e.trans h1, h2.mono p s⟩
theorem RO.some {K : PySem.W.Frag} {m : List Addr} {H : Hp} {o : Ob} {a : Addr} (h : RO K m H o a) : ∃ u, H a = some u ∧ Soft (some u) := by
  cases o with
  | lst xs =>
    obtain ⟨vs, h1, h2⟩ := h
    exact ⟨_, h1, trivial⟩
  | dK kvs =>
    obtain ⟨vs, h1, h2⟩ := h
    exact ⟨_, h1, trivial⟩

section
variable {K : PySem.W.Frag} {m : List Addr} {S : Store} {H : Hp}
theorem RS.addr (h : RS K m S H) {r : Nat} {o : Ob} (e : S[r]? = some o) : ∃ a, m[r]? = some a := by
  have hr : r < S.length := (List.getElem?_eq_some_iff.mp e).1
  exact ⟨m[r]'(by rw [h.len]; exact hr), List.getElem?_eq_getElem _⟩
theorem RS.obj (h : RS K m S H) {r : Nat} {a : Addr} (e : m[r]? = some a) : ∃ o, S[r]? = some o := by
  have hr : r < m.length := (List.getElem?_eq_some_iff.mp e).1
  exact ⟨S[r]'(by rw [← h.len]; exact hr), List.getElem?_eq_getElem _⟩
/-- an address that the heap does not know is none of the store's -/
theorem RS.fresh (h : RS K m S H) {p : Addr} (hp : H p = none) : p ∉ m := fun hm => by
  obtain ⟨r, hr⟩ := List.getElem?_of_mem hm
  obtain ⟨o, ho⟩ := h.obj hr
  obtain ⟨u, hu, _⟩ := (h.ob r o p ho hr).some
  rw [hp] at hu
  cases hu
/-- a new object -/
theorem RS.push (h : RS K m S H) {p : Addr} {o : HO} {b : Ob} (hp : H p = none) (ho : RO K (m ++ [p]) (upd H p o) b p) : RS K (m ++ [p]) (S ++ [b]) (upd H p o) := by
  have st : Stay K H (upd H p o) := Stay.new hp
  have pr : Pre m (m ++ [p]) := List.prefix_append _ _
  refine ⟨by rw [List.length_append, List.length_append, h.len]; rfl, ?_, fun r c a h1 h2 => ?_⟩
  · rw [List.nodup_append]
    refine ⟨h.nd, List.nodup_cons.mpr ⟨by simp, List.nodup_nil⟩, fun x hx y hy e => ?_⟩
    have e2 : y = p := by simpa using hy
    subst e2
    subst e
    exact h.fresh hp hx
  · by_cases hr : r < S.length
    · rw [List.getElem?_append_left hr] at h1
      rw [List.getElem?_append_left (by rw [h.len]; exact hr)] at h2
      have q := h.ob r c a h1 h2
      obtain ⟨u, hu, _⟩ := q.some
      exact q.mono pr st (upd_ne (ne_of_none hu hp))
    · have hr' : S.length ≤ r := Nat.le_of_not_lt hr
      rw [List.getElem?_append_right hr'] at h1
      rw [List.getElem?_append_right (by rw [h.len]; exact hr')] at h2
      have e0 : r - S.length = 0 := by
        have := (List.getElem?_eq_some_iff.mp h1).1
        simp at this
        omega
      rw [h.len, e0] at h2
      rw [e0] at h1
      simp at h1 h2
      subst h1
      subst h2
      exact ho
/-- a written object -/
theorem RS.put (h : RS K m S H) {r : Nat} {p : Addr} {o : HO} {b b' : Ob} (hb : S[r]? = some b) (hr : m[r]? = some p) (ho : RO K m (upd H p o) b' p) : RS K m (S.set r b') (upd H p o) := by
  have q := h.ob r b p hb hr
  obtain ⟨u, hu, hs⟩ := q.some
  have st : Stay K H (upd H p o) := Stay.upd (by rw [hu]; exact hs)
  refine ⟨by rw [List.length_set]; exact h.len, h.nd, fun i c a h1 h2 => ?_⟩
  by_cases e : r = i
  · subst e
    have hl : r < S.length := (List.getElem?_eq_some_iff.mp hb).1
    rw [List.getElem?_set_self hl] at h1
    rw [hr] at h2
    cases h1
    cases h2
    exact ho
  · rw [List.getElem?_set_ne e] at h1
    have ne : a ≠ p := fun z => e (by
      subst z
      exact nodupA h.nd hr h2)
    exact (h.ob i c a h1 h2).mono (List.prefix_refl _) st (upd_ne ne)
/-- the heap grows by things of its own (tuples) -/
theorem RS.grow (h : RS K m S H) {p : Addr} {o : HO} (hp : H p = none) : RS K m S (upd H p o) :=
  ⟨h.len, h.nd, fun r c a h1 h2 => by
    have q := h.ob r c a h1 h2
    obtain ⟨u, hu, _⟩ := q.some
    exact q.mono (List.prefix_refl _) (Stay.new hp) (upd_ne (ne_of_none hu hp))⟩
end

/-- slots -/
def RF (K : PySem.W.Frag) (m : List Addr) (H : Hp) (f : Fr) (s : St) : Prop := f.length = s.length ∧ ∀ (i : Nat) (w : W), f[i]? = some (some w) → ∃ v, s[i]? = some (some v) ∧ RV K m H w v
theorem RF.mono {K : PySem.W.Frag} {m m' : List Addr} {H H' : Hp} {f : Fr} {s : St} (p : Pre m m') (st : Stay K H H') (h : RF K m H f s) : RF K m' H' f s :=
  ⟨h.1, fun i w e => let ⟨v, h1, h2⟩ := h.2 i w e; ⟨v, h1, h2.mono p st⟩⟩
theorem RF.set {K : PySem.W.Frag} {m : List Addr} {H : Hp} {f : Fr} {s : St} (h : RF K m H f s) {w : W} {v : V} (r : RV K m H w v) (i : Nat) : RF K m H (f.set i (some w)) (s.set i (some v)) := by
  refine ⟨by rw [List.length_set, List.length_set]; exact h.1, fun j u e => ?_⟩
  by_cases hj : i = j
  · subst hj
    by_cases hl : i < f.length
    · rw [List.getElem?_set_self hl] at e
      cases e
      exact ⟨v, List.getElem?_set_self (by rw [← h.1]; exact hl), r⟩
    · rw [List.getElem?_eq_none (by rw [List.length_set]; omega)] at e
      cases e
  · rw [List.getElem?_set_ne hj] at e ⊢
    exact h.2 j u e
/-- fewer things known -/
theorem RF.drop {K : PySem.W.Frag} {m : List Addr} {H : Hp} {f : Fr} {s : St} (h : RF K m H f s) (i : Nat) (o : Option V) : RF K m H (f.set i none) (s.set i o) := by
  refine ⟨by rw [List.length_set, List.length_set]; exact h.1, fun j u e => ?_⟩
  by_cases hj : i = j
  · subst hj
    by_cases hl : i < f.length
    · rw [List.getElem?_set_self hl] at e
      cases e
    · rw [List.getElem?_eq_none (by rw [List.length_set]; omega)] at e
      cases e
  · rw [List.getElem?_set_ne hj] at e ⊢
    exact h.2 j u e
end Wo
set_option maxRecDepth 100000
set_option maxHeartbeats 4000000
namespace Wo
open PySem L2
/-! W1: what a run of the small semantics says of a run of the layer's. -/
def RFs (K : PySem.W.Frag) (m : List Addr) (H : Hp) : List (Str × W) → List (Str × V) → Prop := Paired fun p q => p.1 = q.1 ∧ RV K m H p.2 q.2
def RX (K : PySem.W.Frag) (m : List Addr) (H : Hp) (e : Xn) (d : Option Addr) : Prop := match e.fld, d with
  | none, none => True
  | some fs, some a => ∃ vs, H a = some (.xd vs) ∧ RFs K m H fs vs
  | _, _ => False

def Post {α β : Type} (K : PySem.W.Frag) (E : XK) (R : List Addr → Hp → α → β → Prop) (m : List Addr) (H : Hp) (r : Rs α) (Q : β → Hp → Prop) : Prop := match r with
  | .ok a S => ∀ m' H' b, Pre m m' → Stay K H H' → RS K m' S H' → R m' H' a b → Q b H'
  | .ex e S => ∀ m' H' d, Pre m m' → Stay K H H' → RS K m' S H' → RX K m' H' e d → E (.ref e.cls) d H'
  | .no => False

section
variable {α β γ δ : Type} {K : PySem.W.Frag} {E : XK} {R : List Addr → Hp → α → β → Prop} {R' : List Addr → Hp → γ → δ → Prop} {m m1 : List Addr} {H H1 : Hp} {r : Rs α} {Q Q' : β → Hp → Prop}
theorem Post.mono (h : Post K E R m H r Q) (p : Pre m m1) (s : Stay K H H1) : Post K E R m1 H1 r Q := by
  cases r with
  | ok a S => exact fun m' H' b p' s' => h m' H' b (p.trans p') (s.trans s')
  | ex e S => exact fun m' H' d p' s' => h m' H' d (p.trans p') (s.trans s')
  | no => exact h
theorem Post.imp (h : Post K E R m H r Q) (q : ∀ b H', Q b H' → Q' b H') : Post K E R m H r Q' := by
  cases r with
  | ok a S => exact fun m' H' b p' s' rs rv => q b H' (h m' H' b p' s' rs rv)
  | ex e S => exact h
  | no => exact h
theorem Post.bind {k : α → Store → Rs γ} {Q2 : δ → Hp → Prop} (h : Post K E R' m H (r.bind k) Q2) :
    Post K E R m H r (fun b H1 => ∃ m1 S1 a, Pre m m1 ∧ Stay K H H1 ∧ RS K m1 S1 H1 ∧ R m1 H1 a b ∧ Post K E R' m1 H1 (k a S1) Q2) := by
  cases r with
  | ok a S => exact fun m' H' b p s rs rv => ⟨m', S, a, p, s, rs, rv, Post.mono h p s⟩
  | ex e S => exact h
  | no => exact h
end

abbrev EX := St → XK
def tM {α β : Type} (K : PySem.W.Frag) (E : EX) (R : List Addr → Hp → α → β → Prop) (g : Fr → Store → Rs α) : St → Hp → (β → Hp → Prop) → Prop :=
  fun s H Q => ∃ m S f, RS K m S H ∧ RF K m H f s ∧ Post K (E s) R m H (g f S) Q
abbrev ME := Fr → Store → Rs W
abbrev MA := Fr → Store → Rs (List W)
abbrev MT := Fr → Store → Rs Bool
abbrev RB (_ : List Addr) (_ : Hp) (a b : Bool) : Prop := a = b
abbrev tE (K : PySem.W.Frag) (E : EX) (g : ME) : TE := tM K E (RV K) g
abbrev tA (K : PySem.W.Frag) (E : EX) (g : MA) : TA := tM K E (RVs K) g
abbrev tT (K : PySem.W.Frag) (E : EX) (g : MT) : TT := tM K E RB g

section
variable {α β γ δ : Type} {K : PySem.W.Frag} {E : EX} {R : List Addr → Hp → α → β → Prop} {R' : List Addr → Hp → γ → δ → Prop}
theorem tM.imp {g : Fr → Store → Rs α} {s : St} {H : Hp} {Q Q' : β → Hp → Prop} (h : tM K E R g s H Q) (q : ∀ b H', Q b H' → Q' b H') : tM K E R g s H Q' :=
  let ⟨m, S, f, h1, h2, h3⟩ := h
  ⟨m, S, f, h1, h2, h3.imp q⟩
/-- one behind the other: first g, then k -/
theorem tM.seq {g : Fr → Store → Rs α} {k : Fr → α → Store → Rs γ} {s : St} {H : Hp} {Q : δ → Hp → Prop} (h : tM K E R' (fun f S => (g f S).bind (k f)) s H Q) :
    tM K E R g s H (fun b H1 => ∃ m S f a, RS K m S H1 ∧ RF K m H1 f s ∧ R m H1 a b ∧ Post K (E s) R' m H1 (k f a S) Q) := by
  obtain ⟨m, S, f, h1, h2, h3⟩ := h
  exact ⟨m, S, f, h1, h2, h3.bind.imp fun b H1 ⟨m1, S1, a, p, st, rs, rv, q⟩ => ⟨m1, S1, f, a, rs, h2.mono p st, rv, q⟩⟩
end

/-! ### rules by values -/
abbrev G2 := W → W → Store → Rs W
def rW (K : PySem.W.Frag) (E : XK) (g : G2) : R2 := fun x y H Q => ∃ m S a b, RS K m S H ∧ RV K m H a x ∧ RV K m H b y ∧ Post K E (RV K) m H (g a b S) Q
def rW1 (K : PySem.W.Frag) (E : XK) (g : W → Store → Rs W) : V → Hp → VK → Prop := fun x H Q => ∃ m S a, RS K m S H ∧ RV K m H a x ∧ Post K E (RV K) m H (g a S) Q
def rWs (K : PySem.W.Frag) (E : XK) (g : List W → Store → Rs W) : List V → Hp → VK → Prop := fun xs H Q => ∃ m S ws, RS K m S H ∧ RVs K m H ws xs ∧ Post K E (RV K) m H (g ws S) Q
abbrev X0 : XK := fun _ _ _ => False
abbrev EX0 : EX := fun _ => X0
/-- a result that lets no exception out serves any wish -/
theorem Post.noex {K : PySem.W.Frag} {E E' : XK} {α β : Type} {R : List Addr → Hp → α → β → Prop} {m : List Addr} {H : Hp} {r : Rs α} {Q : β → Hp → Prop} (hn : ∀ e S, r ≠ .ex e S) (h : Post K E R m H r Q) : Post K E' R m H r Q := by
  cases r with
  | ok a S => exact h
  | ex e S => exact absurd rfl (hn e S)
  | no => exact h

section
variable {X : Cx}
theorem PE.imp {e : Expr} {t t' : TE} (h : PE X e t) (i : ∀ s H Q, t' s H Q → t s H Q) : PE X e t' := ⟨fun pins sh s H Q I q => h.run pins sh s H Q I (i s H Q q)⟩
theorem PT.imp {e : Expr} {t t' : TT} (h : PT X e t) (i : ∀ s H Q, t' s H Q → t s H Q) : PT X e t' := ⟨fun pins sh s H Q I q => h.run pins sh s H Q I (i s H Q q)⟩
theorem PW.imp {e : Expr} {t t' : TT} (h : PW X e t) (i : ∀ s H Q, t' s H Q → t s H Q) : PW X e t' := ⟨fun w pins sh s H Q I q => h.run w pins sh s H Q I (i s H Q q)⟩
theorem PA.imp {e : List Expr} {t t' : TA} (h : PA X e t) (i : ∀ s H Q, t' s H Q → t s H Q) : PA X e t' := ⟨fun pos pins sh s H Q I q => h.run pos pins sh s H Q I (i s H Q q)⟩
theorem PS.imp {e : Stmt} {t t' : TS} (h : PS X e t) (i : ∀ D s H, t' D s H → t D s H) : PS X e t' := ⟨fun pins sh s H D I q => h.run pins sh s H D I (i D s H q)⟩
theorem PSs.imp {e : List Stmt} {t t' : TS} (h : PSs X e t) (i : ∀ D s H, t' D s H → t D s H) : PSs X e t' := ⟨fun pins sh s H D I q => h.run pins sh s H D I (i D s H q)⟩
end

/-! ### expressions -/
namespace M
def var (i : Nat) : ME := fun f S => match f[i]? with
  | some (some w) => .ok w S
  | _ => .no
def cst (w : W) : ME := fun _ S => .ok w S
def op2 (g : G2) (a b : ME) : ME := fun f S => (a f S).bind fun x S1 => (b f S1).bind fun y S2 => g x y S2
def op1 (g : W → Store → Rs W) (a : ME) : ME := fun f S => (a f S).bind g
def nil : MA := fun _ S => .ok [] S
def cons (a : ME) (r : MA) : MA := fun f S => (a f S).bind fun x S1 => (r f S1).bind fun xs S2 => .ok (x :: xs) S2
def ops (g : List W → Store → Rs W) (a : MA) : ME := fun f S => (a f S).bind g
def lim : Nat := 100000
def mkTup : List W → Store → Rs W := fun ws S => if ws.length ≤ lim then .ok (.tup ws) S else .no
def mkLst : List W → Store → Rs W := fun ws S => if ws.length ≤ lim then .ok (.ref S.length) (S ++ [.lst ws]) else .no
end M
theorem lim_line {n : Nat} (h : n ≤ M.lim) : n ≤ sizeLine := Nat.le_trans h (by rw [sizeLine_eq]; decide)
theorem lim_lt {n : Nat} (h : n < M.lim) : n < sizeLine := Nat.lt_of_lt_of_le h (by rw [sizeLine_eq]; decide)

section
variable {X : Cx} {E : EX}
theorem e_var (i : Nat) {x : Str} {pos : Pos} (hN : X.N[i]? = some x := by rfl) (hv : Vis X.env.scope x := by first | exact Or.inl rfl | exact Or.inr (Or.inl rfl) | exact Or.inr (Or.inr rfl)) (hd : (x == ("__debug__" : Str)) = false := by decide)
    (hcd : (x == ("__classdict__" : Str)) = false := by decide) : PE X (.Name x pos) (tE X.K E (M.var i)) := by
  refine PE.imp (pv i hN hv hd hcd) fun s H Q h => ?_
  obtain ⟨m, S, f, h1, h2, h3⟩ := h
  unfold M.var at h3
  cases e : f[i]? with
  | none =>
    rw [e] at h3
    exact h3.elim
  | some o =>
    cases o with
    | none =>
      rw [e] at h3
      exact h3.elim
    | some w =>
      rw [e] at h3
      obtain ⟨v, e1, e2⟩ := h2.2 i w e
      exact ⟨v, e1, h3 m H v (List.prefix_refl _) (Stay.refl _) h1 e2⟩
theorem e_cst {w : W} {v : V} {e : Expr} (h : PE X e (tC v)) (r : ∀ m H, RV X.K m H w v) : PE X e (tE X.K E (M.cst w)) := by
  refine PE.imp h fun s H Q q => ?_
  obtain ⟨m, S, f, h1, h2, h3⟩ := q
  exact h3 m H v (List.prefix_refl _) (Stay.refl _) h1 (r m H)
theorem e_int {i : Int} {j : Nat} {pos : Pos} : PE X (.Constant (.int i) j pos) (tE X.K E (M.cst (.int i))) := e_cst pe_int fun _ _ => .int i
theorem e_bl {b : Bool} {j : Nat} {pos : Pos} : PE X (.Constant (.bool b) j pos) (tE X.K E (M.cst (.bl b))) := e_cst pe_bl fun _ _ => .bl b
theorem e_non {j : Nat} {pos : Pos} : PE X (.Constant .none j pos) (tE X.K E (M.cst .non)) := e_cst pe_non fun _ _ => .non
theorem e_str {x : Str} {j : Nat} {pos : Pos} : PE X (.Constant (.str x) j pos) (tE X.K E (M.cst (.str x))) := e_cst pe_str fun _ _ => .str x
/-- two values, one behind the other -/
theorem tE.two {K : PySem.W.Frag} {ga gb : ME} {g : G2} {s : St} {H : Hp} {Q : VK} (h : tE K E (M.op2 g ga gb) s H Q) : tE K E ga s H fun x H1 => tE K E gb s H1 fun y H2 => rW K (E s) g x y H2 Q := by
  refine tM.imp (tM.seq (R := RV K) (g := ga) (k := fun f x S1 => (gb f S1).bind fun y S2 => g x y S2) h) fun x H1 q => ?_
  obtain ⟨m, S, f, a, rs, rf, rv, q⟩ := q
  refine ⟨m, S, f, rs, rf, q.bind.imp fun y H2 ⟨m1, S1, b, p, st, rs1, rb, q1⟩ => ?_⟩
  exact ⟨m1, S1, a, b, rs1, rv.mono p st, rb, q1⟩
theorem e_op {a b : Expr} {pos : Pos} {op : Operator} {g : G2} {ga gb : ME} (ho : ∀ E, OpR X (binaryOp op) (rW X.K E g)) (ha : PE X a (tE X.K E ga)) (hb : PE X b (tE X.K E gb)) : PE X (.BinOp a op b pos) (tE X.K E (M.op2 g ga gb)) := by
  refine ⟨fun pins sh s H Q I h => ?_⟩
  exact (pe_op (ho (E s)) ha hb).run pins sh s H Q I (tE.two h)
theorem e_cmp {a b : Expr} {pos : Pos} {op : CmpOp} {g : G2} {ga gb : ME} (ho : ∀ E, OpR X (compareOp op) (rW X.K E g)) (ha : PE X a (tE X.K E ga)) (hb : PE X b (tE X.K E gb)) (hm : behindInMarks op b = false) : PE X (.Compare a [op] [b] pos) (tE X.K E (M.op2 g ga gb)) := by
  refine ⟨fun pins sh s H Q I h => ?_⟩
  exact (pe_cmpR (ho (E s)) ha hb hm).run pins sh s H Q I (tE.two h)
theorem e_nil : PA X [] (tA X.K E M.nil) := PA.imp pa_nil fun s H Q h => by
  obtain ⟨m, S, f, h1, h2, h3⟩ := h
  exact h3 m H [] (List.prefix_refl _) (Stay.refl _) h1 .nil
theorem e_cons {e : Expr} {es : List Expr} {g : ME} {gs : MA} (ha : PE X e (tE X.K E g)) (hr : PA X es (tA X.K E gs)) (hs : starEach (e :: es) X.env = (false, eval e X.env) :: starEach es X.env := by rfl) : PA X (e :: es) (tA X.K E (M.cons g gs)) := by
  refine PA.imp (pa_cons ha hr hs) fun s H Q h => ?_
  refine tM.imp (tM.seq (R := RV X.K) (g := g) (k := fun f x S1 => (gs f S1).bind fun xs S2 => .ok (x :: xs) S2) h) fun x H1 q => ?_
  obtain ⟨m, S, f, a, rs, rf, rv, q⟩ := q
  refine ⟨m, S, f, rs, rf, q.bind.imp fun ys H2 ⟨m1, S1, b, p, st, rs1, rb, q1⟩ => ?_⟩
  exact q1 m1 H2 (x :: ys) (List.prefix_refl _) (Stay.refl _) rs1 (.cons (rv.mono p st) rb)
theorem tE.many {K : PySem.W.Frag} {ga : MA} {g : List W → Store → Rs W} {s : St} {H : Hp} {Q : VK} (h : tE K E (M.ops g ga) s H Q) : tA K E ga s H fun xs H1 => rWs K (E s) g xs H1 Q :=
  tM.imp (tM.seq (R := RVs K) (g := ga) (k := fun _ => g) h) fun x H1 ⟨m, S, f, a, rs, rf, rv, q⟩ => ⟨m, S, a, rs, rv, q⟩
theorem tE.one {K : PySem.W.Frag} {ga : ME} {g : W → Store → Rs W} {s : St} {H : Hp} {Q : VK} (h : tE K E (M.op1 g ga) s H Q) : tE K E ga s H fun x H1 => rW1 K (E s) g x H1 Q :=
  tM.imp (tM.seq (R := RV K) (g := ga) (k := fun _ => g) h) fun x H1 ⟨m, S, f, a, rs, rf, rv, q⟩ => ⟨m, S, a, rs, rv, q⟩
theorem e_tup {es : List Expr} {x1 : Nat} {pos : Pos} {gs : MA} (h : PA X es (tA X.K E gs)) : PE X (.Tuple es x1 pos) (tE X.K E (M.ops M.mkTup gs)) := by
  refine PE.imp (pe_tup h) fun s H Q q => tM.imp (tE.many q) fun xs H1 q => ?_
  obtain ⟨m, S, ws, rs, rv, q⟩ := q
  unfold M.mkTup at q
  split at q
  · rename_i hl
    refine ⟨lim_line (by rw [← rv.length]; exact hl), fun p hp => ?_⟩
    exact q m _ _ (List.prefix_refl _) (Stay.new hp) (rs.grow hp) (.tup (SqT.of upd_same) (rv.mono (List.prefix_refl _) (Stay.new hp)))
  · exact q.elim
theorem RS.newList {K : PySem.W.Frag} {m : List Addr} {S : Store} {H : Hp} {p : Addr} {ws : List W} {vs : List V} (rs : RS K m S H) (hp : H p = none) (rv : RVs K m H ws vs) :
    Pre m (m ++ [p]) ∧ Stay K H (upd H p (.lst vs)) ∧ RS K (m ++ [p]) (S ++ [.lst ws]) (upd H p (.lst vs)) ∧ RV K (m ++ [p]) (upd H p (.lst vs)) (.ref S.length) (.ref p) := by
  have pr : Pre m (m ++ [p]) := List.prefix_append _ _
  refine ⟨pr, Stay.new hp, rs.push hp ⟨vs, upd_same, rv.mono pr (Stay.new hp)⟩, .ref ?_⟩
  rw [← rs.len]
  exact List.getElem?_concat_length
theorem e_lst {es : List Expr} {pos : Pos} {gs : MA} (h : PA X es (tA X.K E gs)) : PE X (.List es pos) (tE X.K E (M.ops M.mkLst gs)) := by
  refine PE.imp (pe_lst h) fun s H Q q => tM.imp (tE.many q) fun xs H1 q => ?_
  obtain ⟨m, S, ws, rs, rv, q⟩ := q
  unfold M.mkLst at q
  split at q
  · rename_i hl
    refine ⟨lim_line (by rw [← rv.length]; exact hl), fun p hp => ?_⟩
    obtain ⟨a1, a2, a3, a4⟩ := rs.newList hp rv
    exact q _ _ _ a1 a2 a3 a4
  · exact q.elim
end
end Wo
set_option maxRecDepth 100000
set_option maxHeartbeats 4000000
namespace Wo
open PySem L2
/-! W2: operations by values. -/
structure Rm (X : Cx) : Prop where
  un : X.A.units + 200 < cLine
  g : X.A.guards = some []
  calm : X.calm = true
section
variable {K : PySem.W.Frag} {E : XK} {m : List Addr} {S : Store} {H : Hp}
theorem Post.here {α β : Type} {R : List Addr → Hp → α → β → Prop} {a : α} {b : β} {Q : β → Hp → Prop} (q : Post K E R m H (.ok a S) Q) (rs : RS K m S H) (r : R m H a b) : Q b H := q m H b (List.prefix_refl _) (Stay.refl _) rs r
end

/-! ### whole data -/
def toD (S : Store) : Nat → W → Option PyData
  | 0, _ => none
  | n + 1, w => match w with
    | .non => some .none
    | .bl b => some (.bool b)
    | .int i => some (.int i)
    | .str x => if PyData.strOk x = true then some (.str x) else none
    | .ty _ => none
    | .tup xs => (xs.mapM (toD S n)).map .tuple
    | .fl xs => (xs.mapM (toD S n)).map .list
    | .ref r => match S[r]? with
      | some (.lst xs) => (xs.mapM (toD S n)).map .list
      | _ => none
def dd : Nat := 20
theorem mapM_all {α β : Type} {f : α → Option β} {P : α → β → Prop} (h : ∀ a b, f a = some b → P a b) : ∀ {xs : List α} {ys : List β}, xs.mapM f = some ys → Paired P xs ys
  | [], ys, e => by
    simp at e
    subst e
    exact .nil
  | x :: xs, ys, e => by
    rw [List.mapM_cons] at e
    cases e1 : f x with
    | none => simp [e1] at e
    | some y =>
      cases e2 : xs.mapM f with
      | none => simp [e1, e2] at e
      | some zs =>
        simp [e1, e2] at e
        subst e
        exact .cons (h x y e1) (mapM_all h e2)
theorem shape_all : ∀ {ds : List PyData} {n : Nat}, (∀ d ∈ ds, d.canLay0 = true ∧ d.depth ≤ n) → PyData.canLayAll0 ds = true ∧ PyData.depthAll ds ≤ n
  | [], n, _ => by
    simp [PyData.canLayAll0, PyData.depthAll]
  | d :: ds, n, h => by
    obtain ⟨h1, h2⟩ := h d (List.mem_cons_self ..)
    obtain ⟨h3, h4⟩ := shape_all fun x hx => h x (List.mem_cons_of_mem _ hx)
    simp only [PyData.canLayAll0, PyData.depthAll, h1, h3, Bool.and_self, true_and]
    omega
theorem paired_mem {α β : Type} {P : α → β → Prop} : ∀ {xs : List α} {ys : List β}, Paired P xs ys → ∀ y ∈ ys, ∃ x, P x y
  | _, _, .nil, y, h => by simp at h
  | _, _, .cons h t, y, hy => by
    rcases List.mem_cons.mp hy with rfl | hy
    · exact ⟨_, h⟩
    · exact paired_mem t y hy
theorem toD_shape {S : Store} : ∀ {n : Nat} {w : W} {d : PyData}, toD S n w = some d → d.canLay0 = true ∧ d.depth ≤ n
  | 0, w, d, h => by simp [toD] at h
  | n + 1, w, d, h => by
    cases w with
    | non =>
      simp only [toD, Option.some.injEq] at h
      subst h
      simp [PyData.canLay0, PyData.depth]
    | bl b =>
      simp only [toD, Option.some.injEq] at h
      subst h
      simp [PyData.canLay0, PyData.depth]
    | int i =>
      simp only [toD, Option.some.injEq] at h
      subst h
      simp [PyData.canLay0, PyData.depth]
    | str x =>
      simp only [toD] at h
      split at h
      · rename_i hx
        cases h
        simp [PyData.canLay0, PyData.depth, hx]
      · cases h
    | ty x => simp [toD] at h
    | tup xs =>
      simp only [toD, Option.map_eq_some_iff] at h
      obtain ⟨ds, h1, rfl⟩ := h
      obtain ⟨a, b⟩ := shape_all fun d hd => (let ⟨x, hx⟩ := paired_mem (mapM_all (P := fun _ d => d.canLay0 = true ∧ d.depth ≤ n) (fun a b e => toD_shape e) h1) d hd; hx)
      simp only [PyData.canLay0, PyData.depth]
      exact ⟨a, by omega⟩
    | fl xs =>
      simp only [toD, Option.map_eq_some_iff] at h
      obtain ⟨ds, h1, rfl⟩ := h
      obtain ⟨a, b⟩ := shape_all fun d hd => (let ⟨x, hx⟩ := paired_mem (mapM_all (P := fun _ d => d.canLay0 = true ∧ d.depth ≤ n) (fun a b e => toD_shape e) h1) d hd; hx)
      simp only [PyData.canLay0, PyData.depth]
      exact ⟨a, by omega⟩
    | ref r =>
      simp only [toD] at h
      split at h
      · simp only [Option.map_eq_some_iff] at h
        obtain ⟨ds, h1, rfl⟩ := h
        obtain ⟨a, b⟩ := shape_all fun d hd => (let ⟨x, hx⟩ := paired_mem (mapM_all (P := fun _ d => d.canLay0 = true ∧ d.depth ≤ n) (fun a b e => toD_shape e) h1) d hd; hx)
        simp only [PyData.canLay0, PyData.depth]
        exact ⟨a, by omega⟩
      · cases h
theorem toD_shaped {S : Store} {w : W} {d : PyData} (h : toD S dd w = some d) : SeqAt.shaped d = true := by
  obtain ⟨a, b⟩ := toD_shape h
  unfold SeqAt.shaped
  rw [a, Bool.true_and]
  have : dd = 20 := rfl
  exact decide_eq_true (by omega)
theorem dps_of {K : PySem.W.Frag} {m : List Addr} {H : Hp} {P : W → PyData → Prop} (hP : ∀ w d v, P w d → RV K m H w v → Dp K H v d) : ∀ {ws : List W} {ds : List PyData} {vs : List V}, Paired P ws ds → RVs K m H ws vs → DpAll K H vs ds
  | _, _, _, .nil, .nil => .nil
  | _, _, _, .cons h t, .cons r q => .cons (hP _ _ _ h r) (dps_of hP t q)
theorem toD_dp {K : PySem.W.Frag} {m : List Addr} {H : Hp} {S : Store} (rs : RS K m S H) : ∀ {n : Nat} {w : W} {d : PyData} {v : V}, toD S n w = some d → RV K m H w v → Dp K H v d
  | 0, w, d, v, h, r => by simp [toD] at h
  | n + 1, w, d, v, h, r => by
    cases r with
    | non =>
      simp only [toD, Option.some.injEq] at h
      subst h
      exact .non
    | bl b =>
      simp only [toD, Option.some.injEq] at h
      subst h
      exact .bl b
    | int i =>
      simp only [toD, Option.some.injEq] at h
      subst h
      exact .int i
    | str x =>
      simp only [toD] at h
      split at h
      · cases h
        exact .str x
      · cases h
    | ty x => simp [toD] at h
    | tup hq rv =>
      simp only [toD, Option.map_eq_some_iff] at h
      obtain ⟨ds, h1, rfl⟩ := h
      exact .tup hq (dps_of (P := fun w d => toD S n w = some d) (fun w d v e r => toD_dp rs e r) (mapM_all (fun _ _ e => e) h1) rv)
    | fl hq rv =>
      simp only [toD, Option.map_eq_some_iff] at h
      obtain ⟨ds, h1, rfl⟩ := h
      exact .lst hq.l (dps_of (P := fun w d => toD S n w = some d) (fun w d v e r => toD_dp rs e r) (mapM_all (fun _ _ e => e) h1) rv)
    | ref hr =>
      simp only [toD] at h
      split at h
      · rename_i xs e
        simp only [Option.map_eq_some_iff] at h
        obtain ⟨ds, h1, rfl⟩ := h
        obtain ⟨vs, e1, e2⟩ := rs.ob _ _ _ e hr
        exact .lst (SqL.of e1) (dps_of (P := fun w d => toD S n w = some d) (fun w d v e r => toD_dp rs e r) (mapM_all (fun _ _ e => e) h1) e2)
      · cases h

/-! ### operators -/
namespace M
def addW : G2 := fun a b S => match a, b with
  | .int i, .int j => .ok (.int (i + j)) S
  | .str x, .str y => if x.length + y.length ≤ lim then .ok (.str (x ++ y)) S else .no
  | .tup xs, .tup ys => if xs.length + ys.length ≤ lim then .ok (.tup (xs ++ ys)) S else .no
  | .ref r, .ref q => match S[r]?, S[q]? with
    | some (.lst xs), some (.lst ys) => if xs.length + ys.length ≤ lim then .ok (.ref S.length) (S ++ [.lst (xs ++ ys)]) else .no
    | _, _ => .no
  | _, _ => .no
def subW : G2 := fun a b S => match a, b with
  | .int i, .int j => .ok (.int (i - j)) S
  | _, _ => .no
def mulW : G2 := fun a b S => match a, b with
  | .int i, .int j => if (-18446744073709551616 < i ∧ i < 18446744073709551616) ∨ (-18446744073709551616 < j ∧ j < 18446744073709551616) then .ok (.int (i * j)) S else .no
  | .tup xs, .int k => if xs.length = 1 ∧ 0 ≤ k ∧ k ≤ 1000 then .ok (.tup (List.replicate k.toNat xs).flatten) S else .no
  | _, _ => .no
def fdivW : G2 := fun a b S => match a, b with
  | .int i, .int j => if 0 < j ∧ j < 1073741824 then .ok (.int (i / j)) S else .no
  | _, _ => .no
def modW : G2 := fun a b S => match a, b with
  | .int i, .int j => if 0 < j then .ok (.int (i % j)) S else .no
  | _, _ => .no
def powW : G2 := fun a b S => match a, b with
  | .int i, .int j => if 0 ≤ j ∧ j ≤ 1000 ∧ i.natAbs < 18446744073709551616 then .ok (.int (i ^ j.toNat)) S else .no
  | _, _ => .no
def ltW : G2 := fun a b S => match a, b with
  | .int i, .int j => .ok (.bl (decide (i < j))) S
  | _, _ => .no
def leW : G2 := fun a b S => match a, b with
  | .int i, .int j => .ok (.bl (decide (i ≤ j))) S
  | .str x, .str y => .ok (.bl (!decide (y.cps.toList < x.cps.toList))) S
  | _, _ => .no
def gtW : G2 := fun a b S => match a, b with
  | .int i, .int j => .ok (.bl (decide (j < i))) S
  | _, _ => .no
def geW : G2 := fun a b S => match a, b with
  | .int i, .int j => .ok (.bl (decide (j ≤ i))) S
  | _, _ => .no
/-- whether two things are equal; two texts at once -/
def isEq (a b : W) (S : Store) : Option Bool := match a, b with
  | .str x, .str y => some (decide (x = y))
  | a, b => match toD S dd a, toD S dd b with
    | some d, some e => some (PyData.eqv d e)
    | _, _ => none
def eqW : G2 := fun a b S => match isEq a b S with
  | some k => .ok (.bl k) S
  | none => .no
def neW : G2 := fun a b S => match isEq a b S with
  | some k => .ok (.bl (!k)) S
  | none => .no
def keyOf : W → Option Key
  | .int i => some (Sum.inl i)
  | .str x => some (Sum.inr x)
  | _ => none
def valW (kvs : List (Key × W)) (k : Key) : Option W := (kvs.find? fun kv => decide (kv.1 = k)).map (·.2)
/-- whether x is in c -/
def isIn (x c : W) (S : Store) : Option Bool := match c with
  | .tup ys => match toD S dd x, toD S dd (.tup ys) with
    | some d, some (.tuple ds) => some (ds.any fun z => PyData.eqv z d)
    | _, _ => none
  | .fl ys => match toD S dd x, toD S dd (.fl ys) with
    | some d, some (.list ds) => some (ds.any fun z => PyData.eqv z d)
    | _, _ => none
  | .ref r => match S[r]? with
    | some (.lst ys) => match toD S dd x, toD S dd (.ref r) with
      | some d, some (.list ds) => some (ds.any fun z => PyData.eqv z d)
      | _, _ => none
    | some (.dK kvs) => match keyOf x with
      | some k => some (valW kvs k).isSome
      | none => none
    | _ => none
  | .str z => match x with
    | .str y => match y.cps.toList with
      | [c] => some (decide (c ∈ z.cps.toList))
      | _ => none
    | _ => none
  | _ => none
def inW : G2 := fun x c S => match isIn x c S with
  | some b => .ok (.bl b) S
  | none => .no
def ninW : G2 := fun x c S => match isIn x c S with
  | some b => .ok (.bl (!b)) S
  | none => .no
end M

section
variable {X : Cx} {E : XK}
theorem o_add : OpR X (binaryOp .Add) (rW X.K E M.addW) := by
  intro pins s σ H x y v u Q I rx ry h
  obtain ⟨m, S, a, b, rs, ra, rb, q⟩ := h
  cases ra <;> cases rb <;> try exact False.elim q
  · exact op_add pins s σ H _ _ v u Q I rx ry ⟨_, _, rfl, rfl, q.here rs (.int _)⟩
  · simp only [M.addW] at q
    split at q
    · rename_i hl
      exact op_add_str pins s σ H _ _ v u Q I rx ry ⟨_, _, rfl, rfl, lim_line hl, q.here rs (.str _)⟩
    · exact False.elim q
  · rename_i r1 a1 e1 r2 a2 e2
    simp only [M.addW] at q
    split at q
    · rename_i xs ys f1 f2
      split at q
      · rename_i hl
        obtain ⟨vs, h1, h2⟩ := rs.ob _ _ _ f1 e1
        obtain ⟨us, h3, h4⟩ := rs.ob _ _ _ f2 e2
        refine op_cat pins s σ H _ _ v u Q I rx ry ⟨_, _, vs, us, rfl, rfl, h1, h3, lim_line (by rw [← h2.length, ← h4.length]; exact hl), fun p hp => ?_⟩
        obtain ⟨b1, b2, b3, b4⟩ := rs.newList hp (h2.append h4)
        exact q _ _ _ b1 b2 b3 b4
      · exact False.elim q
    · exact False.elim q
  · rename_i a1 ws vs h1 h2 a2 zs us h3 h4
    simp only [M.addW] at q
    split at q
    · rename_i hl
      refine op_catA pins s σ H _ _ v u Q I rx ry ⟨_, _, vs, us, rfl, rfl, h1, h3, lim_line (by rw [← h2.length, ← h4.length]; exact hl), fun e => ?_, fun _ e => ?_, fun _ _ p hp => ?_⟩
      · subst e
        cases h2
        exact q.here rs (.tup h3 h4)
      · subst e
        cases h4
        rw [List.append_nil] at q
        exact q.here rs (.tup h1 h2)
      · exact q m _ _ (List.prefix_refl _) (Stay.new hp) (rs.grow hp) (.tup (SqT.of upd_same) ((h2.append h4).mono (List.prefix_refl _) (Stay.new hp)))
    · exact False.elim q
theorem o_sub : OpR X (binaryOp .Sub) (rW X.K E M.subW) := by
  intro pins s σ H x y v u Q I rx ry h
  obtain ⟨m, S, a, b, rs, ra, rb, q⟩ := h
  cases ra <;> cases rb <;> try exact False.elim q
  exact op_sub pins s σ H _ _ v u Q I rx ry ⟨_, _, rfl, rfl, q.here rs (.int _)⟩
theorem o_fdiv : OpR X (binaryOp .FloorDiv) (rW X.K E M.fdivW) := by
  intro pins s σ H x y v u Q I rx ry h
  obtain ⟨m, S, a, b, rs, ra, rb, q⟩ := h
  cases ra <;> cases rb <;> try exact False.elim q
  simp only [M.fdivW] at q
  split at q
  · rename_i hc
    exact op_fdiv pins s σ H _ _ v u Q I rx ry ⟨_, _, rfl, rfl, hc, q.here rs (.int _)⟩
  · exact False.elim q
theorem o_mod : OpR X (binaryOp .Mod) (rW X.K E M.modW) := by
  intro pins s σ H x y v u Q I rx ry h
  obtain ⟨m, S, a, b, rs, ra, rb, q⟩ := h
  cases ra <;> cases rb <;> try exact False.elim q
  simp only [M.modW] at q
  split at q
  · rename_i hc
    exact op_mod pins s σ H _ _ v u Q I rx ry ⟨_, _, rfl, rfl, hc, q.here rs (.int _)⟩
  · exact False.elim q
theorem o_pow : OpR X (binaryOp .Pow) (rW X.K E M.powW) := by
  intro pins s σ H x y v u Q I rx ry h
  obtain ⟨m, S, a, b, rs, ra, rb, q⟩ := h
  cases ra <;> cases rb <;> try exact False.elim q
  simp only [M.powW] at q
  split at q
  · rename_i hc
    exact op_pow pins s σ H _ _ v u Q I rx ry ⟨_, _, rfl, rfl, ⟨hc.1, by omega, hc.2.2⟩, q.here rs (.int _)⟩
  · exact False.elim q
theorem o_lt : OpR X (compareOp .Lt) (rW X.K E M.ltW) := by
  intro pins s σ H x y v u Q I rx ry h
  obtain ⟨m, S, a, b, rs, ra, rb, q⟩ := h
  cases ra <;> cases rb <;> try exact False.elim q
  exact op_lt pins s σ H _ _ v u Q I rx ry ⟨_, _, rfl, rfl, q.here rs (.bl _)⟩
theorem o_gt : OpR X (compareOp .Gt) (rW X.K E M.gtW) := by
  intro pins s σ H x y v u Q I rx ry h
  obtain ⟨m, S, a, b, rs, ra, rb, q⟩ := h
  cases ra <;> cases rb <;> try exact False.elim q
  exact op_gt pins s σ H _ _ v u Q I rx ry ⟨_, _, rfl, rfl, q.here rs (.bl _)⟩
theorem o_ge : OpR X (compareOp .GtE) (rW X.K E M.geW) := by
  intro pins s σ H x y v u Q I rx ry h
  obtain ⟨m, S, a, b, rs, ra, rb, q⟩ := h
  cases ra <;> cases rb <;> try exact False.elim q
  exact op_ge pins s σ H _ _ v u Q I rx ry ⟨_, _, rfl, rfl, q.here rs (.bl _)⟩
theorem o_le : OpR X (compareOp .LtE) (rW X.K E M.leW) := by
  intro pins s σ H x y v u Q I rx ry h
  obtain ⟨m, S, a, b, rs, ra, rb, q⟩ := h
  cases ra <;> cases rb <;> try exact False.elim q
  · exact op_le pins s σ H _ _ v u Q I rx ry ⟨_, _, rfl, rfl, q.here rs (.bl _)⟩
  · exact op_le_str pins s σ H _ _ v u Q I rx ry ⟨_, _, rfl, rfl, q.here rs (.bl _)⟩
theorem isEq_ok (rm : Rm X) {pins : List (Addr × Obj)} {s : Shared} {σ : St} {H : Hp} {x y : V} {v u : Value} {m : List Addr} {S : Store} {a b : W} {k : Bool} (I : Inv X pins σ H s) (rx : RelV x v) (ry : RelV y u) (rs : RS X.K m S H)
    (ra : RV X.K m H a x) (rb : RV X.K m H b y) (h : M.isEq a b S = some k) (Q : VK) :
    (Q (.bl k) H → wpAny (model X.prog X.w) X.A (compareOp .Eq v u) (EP X pins σ Q) X.xe s) ∧ (Q (.bl (!k)) H → wpAny (model X.prog X.w) X.A (compareOp .NotEq v u) (EP X pins σ Q) X.xe s) := by
  unfold M.isEq at h
  split at h
  · cases ra
    cases rb
    rename_i x y
    cases h
    have e : decide (V.str x = V.str y) = decide (x = y) := by
      by_cases q : x = y
      · subst q
        simp
      · have q' : ¬ V.str x = V.str y := fun z => q (by injection z)
        rw [decide_eq_false q, decide_eq_false q']
    refine ⟨fun q => op_eq pins s σ H _ _ v u Q I rx ry ⟨rfl, ?_⟩, fun q => op_ne pins s σ H _ _ v u Q I rx ry ⟨rfl, ?_⟩⟩
    · rw [e]
      exact q
    · rw [e]
      exact q
  · split at h
    · rename_i d e hd he
      cases h
      exact ⟨fun q => op_eqD (by have := rm.un; omega) pins s σ H _ _ v u Q I rx ry ⟨d, e, toD_dp rs hd ra, toD_dp rs he rb, toD_shaped hd, toD_shaped he, q⟩,
        fun q => op_neD (by have := rm.un; omega) pins s σ H _ _ v u Q I rx ry ⟨d, e, toD_dp rs hd ra, toD_dp rs he rb, toD_shaped hd, toD_shaped he, q⟩⟩
    · cases h
theorem o_eq (rm : Rm X) : OpR X (compareOp .Eq) (rW X.K E M.eqW) := by
  intro pins s σ H x y v u Q I rx ry h
  obtain ⟨m, S, a, b, rs, ra, rb, q⟩ := h
  unfold M.eqW at q
  split at q
  · rename_i k hk
    exact (isEq_ok rm I rx ry rs ra rb hk Q).1 (q.here rs (.bl _))
  · exact False.elim q
theorem o_ne (rm : Rm X) : OpR X (compareOp .NotEq) (rW X.K E M.neW) := by
  intro pins s σ H x y v u Q I rx ry h
  obtain ⟨m, S, a, b, rs, ra, rb, q⟩ := h
  unfold M.neW at q
  split at q
  · rename_i k hk
    exact (isEq_ok rm I rx ry rs ra rb hk Q).2 (q.here rs (.bl _))
  · exact False.elim q
end
end Wo
set_option maxRecDepth 100000
set_option maxHeartbeats 4000000
namespace Wo
open PySem L2
/-! W3: in, subscripts, slices, calls of built-ins, by values. -/
theorem valW_rel {K : PySem.W.Frag} {m : List Addr} {H : Hp} {k : Key} : ∀ {l : List (Key × W)} {l' : List (Key × V)}, RKV K m H l l' → (∀ w, M.valW l k = some w → ∃ v, valV l' k = some v ∧ RV K m H w v) ∧ (M.valW l k = none → valV l' k = none)
  | _, _, .nil => ⟨fun w h => by simp [M.valW] at h, fun _ => rfl⟩
  | (k1, w1) :: l, (k2, v2) :: l', .cons ⟨e, r⟩ t => by
    obtain ⟨i1, i2⟩ := valW_rel (k := k) t
    have e' : k1 = k2 := e
    subst e'
    unfold M.valW valV at i1 i2 ⊢
    by_cases hk : k1 = k
    · simp only [List.find?_cons, hk, decide_true]
      exact ⟨fun w h => ⟨v2, rfl, by cases h; exact r⟩, fun h => by cases h⟩
    · simp only [List.find?_cons, hk, decide_false]
      exact ⟨i1, i2⟩
theorem keyOf_rel {K : PySem.W.Frag} {m : List Addr} {H : Hp} {w : W} {v : V} {k : Key} (h : M.keyOf w = some k) (r : RV K m H w v) : v = kV k := by
  cases r <;> simp [M.keyOf] at h
  · subst h
    rfl
  · subst h
    rfl
theorem one_sign {y : Str} {c : Nat} (h : y.cps.toList = [c]) : y = ⟨#[c]⟩ := by
  obtain ⟨a⟩ := y
  simp only at h
  congr 1
  exact Array.toList_inj.mp h

section
variable {X : Cx} {E : XK}
theorem isIn_ok (rm : Rm X) {pins : List (Addr × Obj)} {s : Shared} {σ : St} {H : Hp} {x y : V} {v u : Value} {m : List Addr} {S : Store} {a b : W} {k : Bool} (I : Inv X pins σ H s) (rx : RelV x v) (ry : RelV y u) (rs : RS X.K m S H)
    (ra : RV X.K m H a x) (rb : RV X.K m H b y) (h : M.isIn a b S = some k) (Q : VK) :
    (Q (.bl k) H → wpAny (model X.prog X.w) X.A (compareOp .In v u) (EP X pins σ Q) X.xe s) ∧ (Q (.bl (!k)) H → wpAny (model X.prog X.w) X.A (compareOp .NotIn v u) (EP X pins σ Q) X.xe s) := by
  have hu : X.A.units + 65 < cLine := by have := rm.un; omega
  cases rb with
  | non => simp [M.isIn] at h
  | bl _ => simp [M.isIn] at h
  | int _ => simp [M.isIn] at h
  | ty _ => simp [M.isIn] at h
  | str z =>
    cases ra <;> simp only [M.isIn] at h <;> try (cases h)
    rename_i y'
    split at h
    · rename_i c hc
      cases h
      have e := one_sign hc
      subst e
      exact ⟨fun q => op_in_sign pins s σ H _ _ v u Q I rx ry ⟨c, z, rfl, rfl, q⟩, fun q => op_notIn_sign pins s σ H _ _ v u Q I rx ry ⟨c, z, rfl, rfl, q⟩⟩
    · cases h
  | ref hr =>
    simp only [M.isIn] at h
    split at h
    · rename_i ys e
      split at h
      · rename_i d ds h1 h2
        cases h
        exact ⟨fun q => op_inD hu pins s σ H _ _ v u Q I rx ry ⟨d, ds, toD_dp rs h1 ra, toD_dp rs h2 (.ref hr), toD_shaped h1, toD_shaped h2, q⟩,
          fun q => op_notInD hu pins s σ H _ _ v u Q I rx ry ⟨d, ds, toD_dp rs h1 ra, toD_dp rs h2 (.ref hr), toD_shaped h1, toD_shaped h2, q⟩⟩
      · cases h
    · rename_i kvs e
      split at h
      · rename_i kk hk
        cases h
        obtain ⟨ls, e1, e2⟩ := rs.ob _ _ _ e hr
        have ex := keyOf_rel hk ra
        subst ex
        cases (show u = Value.ref _ from ry)
        obtain ⟨i1, i2⟩ := valW_rel (k := kk) e2
        have es : (valV ls kk).isSome = (M.valW kvs kk).isSome := by
          cases hv : M.valW kvs kk with
          | none => rw [i2 hv]; rfl
          | some w =>
            obtain ⟨z, hz, _⟩ := i1 w hv
            rw [hz]; rfl
        refine ⟨fun q => ?_, fun q => ?_⟩
        · refine d_in (A := X.A) (by omega) I (DGet.k (k := kk) e1) rx fun s' I' => ?_
          rw [es]
          exact ⟨.bl _, H, I', rfl, q⟩
        · refine d_notIn (A := X.A) (by omega) I (DGet.k (k := kk) e1) rx fun s' I' => ?_
          rw [es]
          exact ⟨.bl _, H, I', rfl, q⟩
      · cases h
    · cases h
  | tup hq rv =>
    simp only [M.isIn] at h
    split at h
    · rename_i d ds h1 h2
      cases h
      obtain ⟨as, r1⟩ := Dp.reads I d x v (toD_dp rs h1 ra) rx
      obtain ⟨bs, r2⟩ := Dp.reads I (.tuple ds) _ u (toD_dp rs h2 (.tup hq rv)) ry
      have s1 := toD_shaped h1
      have s2 := toD_shaped h2
      exact ⟨fun q => SeqAt.in_tuple_reads r2 r1 (SeqAt.canLay_of_shaped s2) (SeqAt.canLay_of_shaped s1) (PyProof.Rows.room_in_shaped s1 hu) ⟨.bl _, H, I, rfl, q⟩,
        fun q => SeqAt.notIn_tuple_reads r2 r1 (SeqAt.canLay_of_shaped s2) (SeqAt.canLay_of_shaped s1) (PyProof.Rows.room_in_shaped s1 hu) ⟨.bl _, H, I, rfl, q⟩⟩
    · cases h
  | fl hq rv =>
    simp only [M.isIn] at h
    split at h
    · rename_i d ds h1 h2
      cases h
      exact ⟨fun q => op_inD hu pins s σ H _ _ v u Q I rx ry ⟨d, ds, toD_dp rs h1 ra, toD_dp rs h2 (.fl hq rv), toD_shaped h1, toD_shaped h2, q⟩,
        fun q => op_notInD hu pins s σ H _ _ v u Q I rx ry ⟨d, ds, toD_dp rs h1 ra, toD_dp rs h2 (.fl hq rv), toD_shaped h1, toD_shaped h2, q⟩⟩
    · cases h
theorem o_in (rm : Rm X) : OpR X (compareOp .In) (rW X.K E M.inW) := by
  intro pins s σ H x y v u Q I rx ry h
  obtain ⟨m, S, a, b, rs, ra, rb, q⟩ := h
  unfold M.inW at q
  split at q
  · rename_i k hk
    exact (isIn_ok rm I rx ry rs ra rb hk Q).1 (q.here rs (.bl _))
  · exact False.elim q
theorem o_nin (rm : Rm X) : OpR X (compareOp .NotIn) (rW X.K E M.ninW) := by
  intro pins s σ H x y v u Q I rx ry h
  obtain ⟨m, S, a, b, rs, ra, rb, q⟩ := h
  unfold M.ninW at q
  split at q
  · rename_i k hk
    exact (isIn_ok rm I rx ry rs ra rb hk Q).2 (q.here rs (.bl _))
  · exact False.elim q
end

/-! ### subscripts -/
namespace M
def itemsOf (w : W) (S : Store) : Option (List W) := match w with
  | .tup xs => some xs
  | .fl xs => some xs
  | .ref r => match S[r]? with
    | some (.lst xs) => some xs
    | _ => none
  | _ => none
def ixW : G2 := fun a b S => match b with
  | .int i => match a with
    | .str z => if z.length ≤ lim then (match atI z.cps.toList i with
      | some c => .ok (.str ⟨#[c]⟩) S
      | none => .no) else .no
    | _ => match itemsOf a S with
      | some xs => match atI xs i with
        | some w => .ok w S
        | none => .no
      | none => .no
  | _ => .no
def cutW (xs : List W) (lo hi : Option Int) : List W := (xs.drop (HT.sIx xs.length 0 lo)).take (HT.sIx xs.length xs.length hi - HT.sIx xs.length 0 lo)
def slW (a : W) (lo hi : Option Int) (S : Store) : Rs W := match a with
  | .tup xs => .ok (.tup (cutW xs lo hi)) S
  | .fl xs => .ok (.ref S.length) (S ++ [.lst (cutW xs lo hi)])
  | .ref r => match S[r]? with
    | some (.lst xs) => .ok (.ref S.length) (S ++ [.lst (cutW xs lo hi)])
    | _ => .no
  | _ => .no
abbrev MO := Fr → Store → Rs (Option Int)
def noPart : MO := fun _ S => .ok none S
def part (g : ME) : MO := fun f S => (g f S).bind fun w S1 => match w with
  | .int i => .ok (some i) S1
  | _ => .no
def sl (a : ME) (lo hi : MO) : ME := fun f S => (a f S).bind fun x S1 => (lo f S1).bind fun l S2 => (hi f S2).bind fun u S3 => slW x l u S3
end M
theorem atI_rel {K : PySem.W.Frag} {m : List Addr} {H : Hp} {xs : List W} {vs : List V} {i : Int} {w : W} (r : RVs K m H xs vs) (h : atI xs i = some w) : ∃ v, atI vs i = some v ∧ RV K m H w v := by
  unfold atI at h ⊢
  rw [← r.length]
  cases e : ixN xs.length i with
  | none => rw [e] at h; cases h
  | some j =>
    rw [e] at h
    exact r.get h
theorem items_rel {K : PySem.W.Frag} {m : List Addr} {H : Hp} {S : Store} {w : W} {x : V} {xs : List W} (rs : RS K m S H) (r : RV K m H w x) (h : M.itemsOf w S = some xs) : ∃ a vs, x = .ref a ∧ RVs K m H xs vs ∧ (SqL K H a vs ∨ SqT K H a vs) := by
  cases r <;> simp only [M.itemsOf] at h <;> try (cases h)
  · split at h
    · rename_i e
      cases h
      rename_i hr _
      obtain ⟨vs, e1, e2⟩ := rs.ob _ _ _ e hr
      exact ⟨_, vs, rfl, e2, Or.inl (SqL.of e1)⟩
    · cases h
  · rename_i hq rv
    exact ⟨_, _, rfl, rv, Or.inr hq⟩
  · rename_i hq rv
    exact ⟨_, _, rfl, rv, Or.inl hq.l⟩
abbrev RPt (_ : List Addr) (_ : Hp) (a b : Option Int) : Prop := a = b
abbrev tO (K : PySem.W.Frag) (E : EX) (g : M.MO) : TO := tM K E RPt g
section
variable {X : Cx} {E : EX}
theorem i_seq {E : XK} : IxR X (rW X.K E M.ixW) := by
  intro value slice pins s σ H x y v u Q I rx ry h hs
  obtain ⟨m, S, a, b, rs, ra, rb, q⟩ := h
  unfold M.ixW at q
  split at q
  · rename_i i
    cases rb
    split at q
    · rename_i z
      cases ra
      split at q
      · rename_i hl
        split at q
        · rename_i c hc
          exact ix_str value slice pins s σ H _ _ v u Q I rx ry ⟨z, i, c, rfl, rfl, lim_line hl, hc, q.here rs (.str _)⟩ hs
        · exact False.elim q
      · exact False.elim q
    · split at q
      · rename_i xs hx
        split at q
        · rename_i w hw
          obtain ⟨p, vs, rfl, rv, hq⟩ := items_rel rs ra hx
          obtain ⟨z, hz, rz⟩ := atI_rel rv hw
          rcases hq with hq | hq
          · exact ix_list value slice pins s σ H _ _ v u Q I rx ry ⟨p, vs, i, z, rfl, rfl, hq, hz, q.here rs rz⟩ hs
          · exact ix_tup value slice pins s σ H _ _ v u Q I rx ry ⟨p, vs, i, z, rfl, rfl, hq, hz, q.here rs rz⟩ hs
        · exact False.elim q
      · exact False.elim q
  · exact False.elim q
theorem e_ix {a b : Expr} {pos : Pos} {ga gb : ME} (ha : PE X a (tE X.K E ga)) (hb : PE X b (tE X.K E gb)) (hs : PlainIx b := by exact fun _ _ => rfl) : PE X (.Subscript a b pos) (tE X.K E (M.op2 M.ixW ga gb)) :=
  ⟨fun pins sh s H Q I h => (pe_ix (i_seq (E := E s)) ha hb hs).run pins sh s H Q I (tE.two h)⟩
theorem PO.imp {e : Option Expr} {t t' : TO} (h : PO X e t) (i : ∀ s H Q, t' s H Q → t s H Q) : PO X e t' := ⟨fun pins sh s H Q I q => h.run pins sh s H Q I (i s H Q q)⟩
theorem e_noPart : PO X none (tO X.K E M.noPart) := PO.imp po_none fun s H Q h => by
  obtain ⟨m, S, f, h1, h2, h3⟩ := h
  exact h3.here h1 rfl
theorem e_part {e : Expr} {g : ME} (h : PE X e (tE X.K E g)) : PO X (some e) (tO X.K E (M.part g)) := by
  refine PO.imp (po_some h) fun s H Q q => ?_
  refine tM.imp (tM.seq (R := RV X.K) (g := g) (k := fun _ w S1 => match w with | .int i => .ok (some i) S1 | _ => .no) q) fun x H1 ⟨m, S, f, a, rs, rf, rv, q⟩ => ?_
  cases rv <;> try exact False.elim q
  exact ⟨_, rfl, q.here rs rfl⟩
theorem cut_rel {K : PySem.W.Frag} {m : List Addr} {H : Hp} {xs : List W} {vs : List V} (r : RVs K m H xs vs) (lo hi : Option Int) : RVs K m H (M.cutW xs lo hi) (cutV vs lo hi) := by
  unfold M.cutW cutV
  rw [r.length]
  exact (r.drop _).take _
theorem sl_any {E : XK} : SlR X (fun x lo hi H Q => ∃ m S a, RS X.K m S H ∧ RV X.K m H a x ∧ Post X.K E (RV X.K) m H (M.slW a lo hi S) Q) := by
  intro pins s σ H x v vl vu lo hi sl Q I rx hs pl pu h
  obtain ⟨m, S, a, rs, ra, q⟩ := h
  cases ra <;> try exact False.elim q
  · rename_i r ad hr
    simp only [M.slW] at q
    split at q
    · rename_i xs e
      obtain ⟨vs, e1, e2⟩ := rs.ob _ _ _ e hr
      refine sl_list pins s σ H _ v vl vu lo hi sl Q I rx hs pl pu ⟨ad, vs, rfl, SqL.of e1, fun p hp => ?_⟩
      obtain ⟨b1, b2, b3, b4⟩ := rs.newList hp (cut_rel e2 lo hi)
      exact q _ _ _ b1 b2 b3 b4
    · exact False.elim q
  · rename_i ad ws vs hq rv
    simp only [M.slW] at q
    refine sl_tupA pins s σ H _ v vl vu lo hi sl Q I rx hs pl pu ⟨ad, vs, rfl, hq, fun ⟨z1, z2⟩ => ?_, fun _ p hp => ?_⟩
    · refine q.here rs ?_
      unfold M.cutW
      rw [rv.length, z1, z2]
      have e : List.take (vs.length - 0) (List.drop 0 ws) = ws := by
        rw [List.drop_zero, ← rv.length, Nat.sub_zero, List.take_length]
      rw [e]
      exact .tup hq rv
    · exact q m _ _ (List.prefix_refl _) (Stay.new hp) (rs.grow hp) (.tup (SqT.of upd_same) ((cut_rel rv lo hi).mono (List.prefix_refl _) (Stay.new hp)))
  · rename_i ad ws vs hq rv
    simp only [M.slW] at q
    refine sl_list pins s σ H _ v vl vu lo hi sl Q I rx hs pl pu ⟨ad, vs, rfl, hq.l, fun p hp => ?_⟩
    obtain ⟨b1, b2, b3, b4⟩ := rs.newList hp (cut_rel rv lo hi)
    exact q _ _ _ b1 b2 b3 b4
theorem e_sl {e : Expr} {lo hi : Option Expr} {p2 pos : Pos} {g : ME} {gl gh : M.MO} (he : PE X e (tE X.K E g)) (hl : PO X lo (tO X.K E gl)) (hh : PO X hi (tO X.K E gh)) : PE X (.Subscript e (.Slice lo hi none p2) pos) (tE X.K E (M.sl g gl gh)) := by
  refine ⟨fun pins sh s H Q I h => (pe_slice (sl_any (E := E s)) he hl hh).run pins sh s H Q I ?_⟩
  refine tM.imp (tM.seq (R := RV X.K) (g := g) (k := fun f x S1 => (gl f S1).bind fun l S2 => (gh f S2).bind fun u S3 => M.slW x l u S3) h) fun x H1 ⟨m, S, f, a, rs, rf, rv, q⟩ => ?_
  refine ⟨m, S, f, rs, rf, q.bind.imp fun l H2 ⟨m1, S1, l', p, st, rs1, el, q1⟩ => ?_⟩
  cases el
  refine ⟨m1, S1, f, rs1, rf.mono p st, q1.bind.imp fun u H3 ⟨m2, S2, u', p', st', rs2, eu, q2⟩ => ?_⟩
  cases eu
  exact ⟨m2, S2, a, rs2, rv.mono (p.trans p') (st.trans st'), q2⟩
end
end Wo
set_option maxRecDepth 100000
set_option maxHeartbeats 4000000
namespace Wo
open PySem L2
/-! W4: calls of built-ins. -/
/-! ### a sort of our own -/
def ins1 (x : Int) : List Int → List Int
  | [] => [x]
  | y :: ys => if x ≤ y then x :: y :: ys else y :: ins1 x ys
def isort : List Int → List Int
  | [] => []
  | x :: xs => ins1 x (isort xs)
theorem ins1_perm (x : Int) : ∀ l : List Int, (ins1 x l).Perm (x :: l)
  | [] => .refl _
  | y :: ys => by
    unfold ins1
    split
    · exact .refl _
    · exact ((ins1_perm x ys).cons y).trans (.swap x y ys)
theorem isort_perm : ∀ l : List Int, (isort l).Perm l
  | [] => .refl _
  | x :: xs => (ins1_perm x _).trans ((isort_perm xs).cons x)
theorem ins1_sorted (x : Int) : ∀ l : List Int, l.Pairwise (· ≤ ·) → (ins1 x l).Pairwise (· ≤ ·)
  | [], _ => by simp [ins1]
  | y :: ys, h => by
    unfold ins1
    rw [List.pairwise_cons] at h
    split
    · rename_i hxy
      rw [List.pairwise_cons, List.pairwise_cons]
      refine ⟨fun z hz => ?_, h⟩
      rcases List.mem_cons.mp hz with rfl | hz
      · exact hxy
      · exact Int.le_trans hxy (h.1 z hz)
    · rename_i hxy
      rw [List.pairwise_cons]
      refine ⟨fun z hz => ?_, ins1_sorted x ys h.2⟩
      have hm := (ins1_perm x ys).mem_iff.mp hz
      rcases List.mem_cons.mp hm with rfl | hm
      · omega
      · exact h.1 z hm
theorem isort_sorted : ∀ l : List Int, (isort l).Pairwise (· ≤ ·)
  | [] => .nil
  | x :: xs => ins1_sorted x _ (isort_sorted xs)
theorem sorted_uniq : ∀ {a b : List Int}, a.Perm b → a.Pairwise (· ≤ ·) → b.Pairwise (· ≤ ·) → a = b
  | [], b, p, _, _ => by
    have := p.length_eq
    cases b with
    | nil => rfl
    | cons _ _ => simp at this
  | x :: xs, [], p, _, _ => by
    have := p.length_eq
    simp at this
  | x :: xs, y :: ys, p, ha, hb => by
    have e : x = y := by
      have h1 : x ∈ y :: ys := p.mem_iff.mp (List.mem_cons_self ..)
      have h2 : y ∈ x :: xs := p.mem_iff.mpr (List.mem_cons_self ..)
      rw [List.pairwise_cons] at ha hb
      rcases List.mem_cons.mp h1 with h1 | h1
      · exact h1
      · rcases List.mem_cons.mp h2 with h2 | h2
        · exact h2.symm
        · exact Int.le_antisymm (ha.1 y h2) (hb.1 x h1)
    subst e
    rw [sorted_uniq (p.cons_inv) (List.pairwise_cons.mp ha).2 (List.pairwise_cons.mp hb).2]

namespace M
def intsW : List W → Option (List Int)
  | [] => some []
  | .int i :: r => (intsW r).map (i :: ·)
  | _ :: _ => none
def boolsW : List W → Option (List Bool)
  | [] => some []
  | .bl b :: r => (boolsW r).map (b :: ·)
  | _ :: _ => none
def lenW : List W → Store → Rs W := fun ws S => match ws with
  | [.str z] => if z.length ≤ lim then .ok (.int z.length) S else .no
  | [.ref r] => match S[r]? with
    | some (.lst xs) => .ok (.int xs.length) S
    | some (.dK kvs) => .ok (.int kvs.length) S
    | _ => .no
  | [.tup xs] => .ok (.int xs.length) S
  | [.fl xs] => .ok (.int xs.length) S
  | _ => .no
def maxW : List W → Store → Rs W := fun ws S => match ws with
  | [.int i, .int j] => .ok (.int (if j > i then j else i)) S
  | _ => .no
def minW : List W → Store → Rs W := fun ws S => match ws with
  | [.int i, .int j] => .ok (.int (if j < i then j else i)) S
  | _ => .no
def intW : List W → Store → Rs W := fun ws S => match ws with
  | [.int i] => .ok (.int i) S
  | [.bl b] => .ok (.int (if b then 1 else 0)) S
  | _ => .no
def tupleW : List W → Store → Rs W := fun ws S => match ws with
  | [.tup xs] => .ok (.tup xs) S
  | [.fl xs] => .ok (.tup xs) S
  | [.ref r] => match S[r]? with
    | some (.lst xs) => .ok (.tup xs) S
    | _ => .no
  | _ => .no
def keyW : Key → W
  | .inl i => .int i
  | .inr x => .str x
def listW : List W → Store → Rs W := fun ws S => match ws with
  | [.tup xs] => .ok (.ref S.length) (S ++ [.lst xs])
  | [.fl xs] => .ok (.ref S.length) (S ++ [.lst xs])
  | [.ref r] => match S[r]? with
    | some (.lst xs) => .ok (.ref S.length) (S ++ [.lst xs])
    | some (.dK kvs) => .ok (.ref S.length) (S ++ [.lst (kvs.map fun kv => keyW kv.1)])
    | _ => .no
  | _ => .no
def allW : List W → Store → Rs W := fun ws S => match ws with
  | [.ref r] => match S[r]? with
    | some (.lst xs) => match boolsW xs with
      | some bs => .ok (.bl (bs.all id)) S
      | none => .no
    | _ => .no
  | _ => .no
def anyW : List W → Store → Rs W := fun ws S => match ws with
  | [.ref r] => match S[r]? with
    | some (.lst xs) => match boolsW xs with
      | some bs => .ok (.bl (bs.any id)) S
      | none => .no
    | _ => .no
  | _ => .no
def sortedW : List W → Store → Rs W := fun ws S => match ws with
  | [.ref r] => match S[r]? with
    | some (.lst xs) => match intsW xs with
      | some ns => .ok (.ref S.length) (S ++ [.lst ((isort ns).map .int)])
      | none => .no
    | _ => .no
  | _ => .no
def reprW : List W → Store → Rs W := fun ws S => match ws with
  | [w] => match toD S dd w with
    | some d => if d.showable = true ∧ d.shown.length ≤ lim then .ok (.str d.shown) S else .no
    | none => .no
  | _ => .no
def tyName (w : W) (S : Store) : Option String := match w with
  | .non => some "NoneType"
  | .bl _ => some "bool"
  | .int _ => some "int"
  | .str _ => some "str"
  | .tup _ => some "tuple"
  | .fl _ => some "list"
  | .ref r => match S[r]? with
    | some (.lst _) => some "list"
    | some (.dK _) => some "dict"
    | none => none
  | .ty _ => none
def isiB (a b : String) : Bool := a == b || (a == "bool" && b == "int")
def isiW : List W → Store → Rs W := fun ws S => match ws with
  | [w, .ty T] => match tyName w S with
    | some t => .ok (.bl (isiB t T)) S
    | none => .no
  | _ => .no
end M
theorem ints_rel {K : PySem.W.Frag} {m : List Addr} {H : Hp} : ∀ {xs : List W} {vs : List V} {ns : List Int}, M.intsW xs = some ns → RVs K m H xs vs → vs = ns.map V.int
  | [], _, ns, h, .nil => by
    cases h
    rfl
  | w :: xs, _, ns, h, .cons r t => by
    cases r <;> simp only [M.intsW, Option.map_eq_some_iff] at h <;> try (cases h)
    rename_i h1
    obtain ⟨h1, h2⟩ := h1
    subst h2
    rw [ints_rel h1 t]
    rfl
theorem bools_rel {K : PySem.W.Frag} {m : List Addr} {H : Hp} : ∀ {xs : List W} {vs : List V} {ns : List Bool}, M.boolsW xs = some ns → RVs K m H xs vs → vs = ns.map V.bl
  | [], _, ns, h, .nil => by
    cases h
    rfl
  | w :: xs, _, ns, h, .cons r t => by
    cases r <;> simp only [M.boolsW, Option.map_eq_some_iff] at h <;> try (cases h)
    rename_i h1
    obtain ⟨h1, h2⟩ := h1
    subst h2
    rw [bools_rel h1 t]
    rfl
theorem rvs_ints {K : PySem.W.Frag} {m : List Addr} {H : Hp} : ∀ ns : List Int, RVs K m H (ns.map W.int) (ns.map V.int)
  | [] => .nil
  | n :: ns => .cons (.int n) (rvs_ints ns)
theorem rvs_keys {K : PySem.W.Frag} {m : List Addr} {H : Hp} : ∀ {l : List (Key × W)} {l' : List (Key × V)}, RKV K m H l l' → RVs K m H (l.map fun kv => M.keyW kv.1) (l'.map fun kv => kV kv.1)
  | _, _, .nil => .nil
  | (k1, w1) :: l, (k2, v2) :: l', .cons ⟨e, r⟩ t => by
    have e' : k1 = k2 := e
    subst e'
    refine .cons ?_ (rvs_keys t)
    cases k1 with
    | inl i => exact .int i
    | inr x => exact .str x
theorem rkv_len {K : PySem.W.Frag} {m : List Addr} {H : Hp} {l : List (Key × W)} {l' : List (Key × V)} (h : RKV K m H l l') : l.length = l'.length := Paired.length h
theorem rvs1 {K : PySem.W.Frag} {m : List Addr} {H : Hp} {w : W} {vs : List V} (h : RVs K m H [w] vs) : ∃ v, vs = [v] ∧ RV K m H w v := by
  cases h with
  | cons r t =>
    cases t
    exact ⟨_, rfl, r⟩
theorem rvs2 {K : PySem.W.Frag} {m : List Addr} {H : Hp} {w u : W} {vs : List V} (h : RVs K m H [w, u] vs) : ∃ v z, vs = [v, z] ∧ RV K m H w v ∧ RV K m H u z := by
  cases h with
  | cons r t =>
    obtain ⟨z, rfl, r2⟩ := rvs1 t
    exact ⟨_, z, rfl, r, r2⟩
section
variable {X : Cx} {E : XK}
theorem c_len : CallR X (.builtin "len") (rWs X.K E M.lenW) := by
  intro pins s σ H xs us Q I r h
  obtain ⟨m, S, ws, rs, rv, q⟩ := h
  unfold M.lenW at q
  split at q
  · obtain ⟨v, rfl, r1⟩ := rvs1 rv
    cases r1
    split at q
    · rename_i hl
      exact call_len_str pins s σ H _ us Q I r ⟨_, rfl, lim_line hl, q.here rs (.int _)⟩
    · exact False.elim q
  · obtain ⟨v, rfl, r1⟩ := rvs1 rv
    cases r1 with
    | ref hr =>
      split at q
      · rename_i ys e
        obtain ⟨vs, e1, e2⟩ := rs.ob _ _ _ e hr
        refine call_len_seq pins s σ H _ us Q I r ⟨_, vs, rfl, Or.inl (SqL.of e1), ?_⟩
        rw [← e2.length]
        exact q.here rs (.int _)
      · rename_i kvs e
        obtain ⟨ls, e1, e2⟩ := rs.ob _ _ _ e hr
        refine call_lenD pins s σ H _ us Q I r ⟨_, ls, rfl, e1, ?_⟩
        rw [← rkv_len e2]
        exact q.here rs (.int _)
      · exact False.elim q
  · obtain ⟨v, rfl, r1⟩ := rvs1 rv
    cases r1 with
    | tup hq rv' =>
      refine call_len_seq pins s σ H _ us Q I r ⟨_, _, rfl, Or.inr hq, ?_⟩
      rw [← rv'.length]
      exact q.here rs (.int _)
  · obtain ⟨v, rfl, r1⟩ := rvs1 rv
    cases r1 with
    | fl hq rv' =>
      refine call_len_seq pins s σ H _ us Q I r ⟨_, _, rfl, Or.inl hq.l, ?_⟩
      rw [← rv'.length]
      exact q.here rs (.int _)
  · exact False.elim q
theorem c_max (rm : Rm X) : CallR X (.builtin "max") (rWs X.K E M.maxW) := by
  intro pins s σ H xs us Q I r h
  obtain ⟨m, S, ws, rs, rv, q⟩ := h
  unfold M.maxW at q
  split at q
  · obtain ⟨v, z, rfl, r1, r2⟩ := rvs2 rv
    cases r1
    cases r2
    exact call_max2 rm.calm pins s σ H _ us Q I r ⟨_, _, rfl, q.here rs (.int _)⟩
  · exact False.elim q
theorem c_min (rm : Rm X) : CallR X (.builtin "min") (rWs X.K E M.minW) := by
  intro pins s σ H xs us Q I r h
  obtain ⟨m, S, ws, rs, rv, q⟩ := h
  unfold M.minW at q
  split at q
  · obtain ⟨v, z, rfl, r1, r2⟩ := rvs2 rv
    cases r1
    cases r2
    exact call_min2 rm.calm pins s σ H _ us Q I r ⟨_, _, rfl, q.here rs (.int _)⟩
  · exact False.elim q
theorem c_int : CallR X (.type "int") (rWs X.K E M.intW) := by
  intro pins s σ H xs us Q I r h
  obtain ⟨m, S, ws, rs, rv, q⟩ := h
  unfold M.intW at q
  split at q
  · obtain ⟨v, rfl, r1⟩ := rvs1 rv
    cases r1
    exact call_int1 pins s σ H _ us Q I r (Or.inl ⟨_, rfl, q.here rs (.int _)⟩)
  · obtain ⟨v, rfl, r1⟩ := rvs1 rv
    cases r1
    exact call_int1 pins s σ H _ us Q I r (Or.inr ⟨_, rfl, q.here rs (.int _)⟩)
  · exact False.elim q
theorem c_tuple : CallR X (.type "tuple") (rWs X.K E M.tupleW) := by
  intro pins s σ H xs us Q I r h
  obtain ⟨m, S, ws, rs, rv, q⟩ := h
  unfold M.tupleW at q
  have new : ∀ {ys : List W} {vs : List V} {p : Addr}, RVs X.K m H ys vs → Post X.K E (RV X.K) m H (.ok (.tup ys) S) Q → H p = none → Q (.ref p) (upd H p (.tup vs)) := fun rv q hp =>
    q m _ _ (List.prefix_refl _) (Stay.new hp) (rs.grow hp) (.tup (SqT.of upd_same) (rv.mono (List.prefix_refl _) (Stay.new hp)))
  split at q
  · obtain ⟨v, rfl, r1⟩ := rvs1 rv
    cases r1 with
    | tup hq rv' => exact call_tuple_of pins s σ H _ us Q I r ⟨_, _, rfl, Or.inr ⟨hq, q.here rs (.tup hq rv')⟩⟩
  · obtain ⟨v, rfl, r1⟩ := rvs1 rv
    cases r1 with
    | fl hq rv' => exact call_tuple_of pins s σ H _ us Q I r ⟨_, _, rfl, Or.inl ⟨hq.l, fun p hp => new rv' q hp⟩⟩
  · obtain ⟨v, rfl, r1⟩ := rvs1 rv
    cases r1 with
    | ref hr =>
      split at q
      · rename_i ys e
        obtain ⟨vs, e1, e2⟩ := rs.ob _ _ _ e hr
        exact call_tuple_of pins s σ H _ us Q I r ⟨_, vs, rfl, Or.inl ⟨SqL.of e1, fun p hp => new e2 q hp⟩⟩
      · exact False.elim q
  · exact False.elim q
theorem c_list (rm : Rm X) : CallR X (.type "list") (rWs X.K E M.listW) := by
  intro pins s σ H xs us Q I r h
  obtain ⟨m, S, ws, rs, rv, q⟩ := h
  unfold M.listW at q
  have new : ∀ {ys : List W} {vs : List V} {p : Addr}, RVs X.K m H ys vs → Post X.K E (RV X.K) m H (.ok (.ref S.length) (S ++ [.lst ys])) Q → H p = none → Q (.ref p) (upd H p (.lst vs)) := fun rv q hp => by
    obtain ⟨b1, b2, b3, b4⟩ := rs.newList hp rv
    exact q _ _ _ b1 b2 b3 b4
  split at q
  · obtain ⟨v, rfl, r1⟩ := rvs1 rv
    cases r1 with
    | tup hq rv' => exact call_list_of pins s σ H _ us Q I r ⟨_, _, rfl, Or.inr hq, fun p hp => new rv' q hp⟩
  · obtain ⟨v, rfl, r1⟩ := rvs1 rv
    cases r1 with
    | fl hq rv' => exact call_list_of pins s σ H _ us Q I r ⟨_, _, rfl, Or.inl hq.l, fun p hp => new rv' q hp⟩
  · obtain ⟨v, rfl, r1⟩ := rvs1 rv
    cases r1 with
    | ref hr =>
      split at q
      · rename_i ys e
        obtain ⟨vs, e1, e2⟩ := rs.ob _ _ _ e hr
        exact call_list_of pins s σ H _ us Q I r ⟨_, vs, rfl, Or.inl (SqL.of e1), fun p hp => new e2 q hp⟩
      · rename_i kvs e
        obtain ⟨ls, e1, e2⟩ := rs.ob _ _ _ e hr
        exact call_list_dK rm.calm pins s σ H _ us Q I r ⟨_, ls, rfl, e1, fun p hp => new (rvs_keys e2) q hp⟩
      · exact False.elim q
  · exact False.elim q
theorem c_all (rm : Rm X) : CallR X (.builtin "all") (rWs X.K E M.allW) := by
  intro pins s σ H xs us Q I r h
  obtain ⟨m, S, ws, rs, rv, q⟩ := h
  unfold M.allW at q
  split at q
  · obtain ⟨v, rfl, r1⟩ := rvs1 rv
    cases r1 with
    | ref hr =>
      split at q
      · rename_i ys e
        split at q
        · rename_i bs hb
          obtain ⟨vs, e1, e2⟩ := rs.ob _ _ _ e hr
          have e3 := bools_rel hb e2
          subst e3
          exact cr_all rm.calm pins s σ H _ us Q I r ⟨_, bs, rfl, SqL.of e1, q.here rs (.bl _)⟩
        · exact False.elim q
      · exact False.elim q
  · exact False.elim q
theorem c_any (rm : Rm X) : CallR X (.builtin "any") (rWs X.K E M.anyW) := by
  intro pins s σ H xs us Q I r h
  obtain ⟨m, S, ws, rs, rv, q⟩ := h
  unfold M.anyW at q
  split at q
  · obtain ⟨v, rfl, r1⟩ := rvs1 rv
    cases r1 with
    | ref hr =>
      split at q
      · rename_i ys e
        split at q
        · rename_i bs hb
          obtain ⟨vs, e1, e2⟩ := rs.ob _ _ _ e hr
          have e3 := bools_rel hb e2
          subst e3
          exact cr_any rm.calm pins s σ H _ us Q I r ⟨_, bs, rfl, SqL.of e1, q.here rs (.bl _)⟩
        · exact False.elim q
      · exact False.elim q
  · exact False.elim q
theorem c_sorted : CallR X (.builtin "sorted") (rWs X.K E M.sortedW) := by
  intro pins s σ H xs us Q I r h
  obtain ⟨m, S, ws, rs, rv, q⟩ := h
  unfold M.sortedW at q
  split at q
  · obtain ⟨v, rfl, r1⟩ := rvs1 rv
    cases r1 with
    | ref hr =>
      split at q
      · rename_i ys e
        split at q
        · rename_i ns hb
          obtain ⟨vs, e1, e2⟩ := rs.ob _ _ _ e hr
          have e3 := ints_rel hb e2
          subst e3
          refine cr_sortedI pins s σ H _ us Q I r ⟨_, ns, rfl, SqL.of e1, fun ns' p hp hs hn => ?_⟩
          have e4 : ns' = isort ns := sorted_uniq (hp.trans (isort_perm ns).symm) hs (isort_sorted ns)
          subst e4
          obtain ⟨b1, b2, b3, b4⟩ := rs.newList hn (rvs_ints (isort ns))
          exact q _ _ _ b1 b2 b3 b4
        · exact False.elim q
      · exact False.elim q
  · exact False.elim q
theorem c_repr (rm : Rm X) : CallR X (.builtin "repr") (rWs X.K E M.reprW) := by
  intro pins s σ H xs us Q I r h
  obtain ⟨m, S, ws, rs, rv, q⟩ := h
  unfold M.reprW at q
  split at q
  · rename_i w
    obtain ⟨v, rfl, r1⟩ := rvs1 rv
    obtain ⟨u, rfl, ru⟩ := vals1 r
    split at q
    · rename_i d hd
      split at q
      · rename_i hc
        have hq : Q (.str d.shown) H := q.here rs (.str _)
        have hz := lim_line hc.2
        have dp := toD_dp rs hd r1
        obtain ⟨as, rd⟩ := Dp.reads I d v u dp ru
        obtain ⟨s1, s2⟩ := toD_shape hd
        have s2' : d.depth ≤ 20 := s2
        cases dp with
        | non =>
          cases ru
          exact PySem.P.repr_of_none ⟨.str _, H, I.tok _, ⟨_, rfl⟩, hq⟩
        | bl b =>
          cases ru
          exact PySem.P.repr_of_bool ⟨.str _, H, I.tok _, ⟨_, rfl⟩, hq⟩
        | int i =>
          obtain ⟨t, rfl⟩ := ru
          have hs := hc.1
          simp only [PyData.showable, decide_eq_true_eq] at hs
          exact PySem.P.repr_of_int hs ⟨.str _, H, I.tok _, ⟨_, rfl⟩, hq⟩
        | str x =>
          obtain ⟨t, rfl⟩ := ru
          exact PySem.P.repr_of_str ⟨.str _, H, I.tok _, ⟨_, rfl⟩, hq⟩ hz
        | lst hs ha =>
          cases ru
          exact repr_of_reads' rd hc.1 (PyData.noDict_hsm (PyData.hasDict_of_canLay _ s1)) rm.g (by have := rm.un; omega) (fun _ _ e => e) (fun h' u tk hk => ⟨.str _, H, I.kept hk, ⟨_, rfl⟩, hq⟩) hz
        | tup hs ha =>
          cases ru
          exact repr_of_reads' rd hc.1 (PyData.noDict_hsm (PyData.hasDict_of_canLay _ s1)) rm.g (by have := rm.un; omega) (fun _ _ e => e) (fun h' u tk hk => ⟨.str _, H, I.kept hk, ⟨_, rfl⟩, hq⟩) hz
      · exact False.elim q
    · exact False.elim q
  · exact False.elim q
end
end Wo
set_option maxRecDepth 100000
set_option maxHeartbeats 4000000
namespace Wo
open PySem PySem.Spec PyProof.Rows L2
/-! W5: a tuple taken none, one or many times; isinstance; is. -/
theorem bool_no {b c : Bool} (h : b = c) (hc : c = false) : decide (b = true) = false := by
  subst h
  subst hc
  rfl
theorem bool_yes {b : Bool} (h : b = true) : decide (b = true) = true := by
  subst h
  rfl
abbrev tupObj (items : Array Value) (n : Nat) (dd : Option Addr) (sl : Array (Option Value)) : Obj := { cls := .type "tuple", dict := dd, data := .seq items n, slots := sl }
theorem mul_none (l : Addr) (items : Array Value) (n : Nat) (dd : Option Addr) (sl : Array (Option Value)) (x : Int) (u : Tok)
    (c0 : (decide (x < -(2 ^ 63)) || decide (x ≥ 2 ^ 63)) = false) (c1 : (items.isEmpty || x == 1) = false) (c2 : (decide (x ≤ 0) || items.isEmpty) = true) :
    Meets (Builtin.«tuple.__mul__» ⟨[.ref l, .int x u], []⟩) (fun _ R s => s.heap.get? l = some (tupObj items n dd sl) ∧
      R (.ok (.ret (Value.ref s.heap.objs.size))) { s with heap := s.heap.push { cls := Value.type "tuple", data := Data.seq #[] }, toks := s.toks }) := by
  refine .of_wp fun prog w A R s h => ?_
  obtain ⟨hp, g, d, tk, os⟩ := s
  obtain ⟨hl, h⟩ := h
  have ix := AutoSeq1.idx_int
  wp_walk using wpAny_loadPart' hl
  repeat (first
    | (refine wpAny_ite_false (bool_no c0 rfl) ?_; wp_walk using wpAny_loadPart' hl)
    | (refine wpAny_ite_false (bool_no c1 rfl) ?_; wp_walk using wpAny_loadPart' hl)
    | (refine wpAny_ite_true (bool_yes c2) ?_; wp_walk using wpAny_loadPart' hl))
  exact ⟨_, rfl, h⟩
theorem mul_one (l : Addr) (items : Array Value) (n : Nat) (dd : Option Addr) (sl : Array (Option Value)) (x : Int) (u : Tok)
    (c0 : (decide (x < -(2 ^ 63)) || decide (x ≥ 2 ^ 63)) = false) (c1 : (items.isEmpty || x == 1) = true) :
    Meets (Builtin.«tuple.__mul__» ⟨[.ref l, .int x u], []⟩) (fun _ R s => s.heap.get? l = some (tupObj items n dd sl) ∧ R (.ok (.ret (Value.ref l))) s) := by
  refine .of_wp fun prog w A R s h => ?_
  obtain ⟨hp, g, d, tk, os⟩ := s
  obtain ⟨hl, h⟩ := h
  have ix := AutoSeq1.idx_int
  wp_walk using wpAny_loadPart' hl
  repeat (first
    | (refine wpAny_ite_false (bool_no c0 rfl) ?_; wp_walk using wpAny_loadPart' hl)
    | (refine wpAny_ite_true (bool_yes c1) ?_; wp_walk using wpAny_loadPart' hl))
  exact ⟨_, rfl, h⟩
section
variable {X : Cx}
/-- t * k for k at most one -/
theorem op_rep01 : OpR X (binaryOp .Mult) (fun x y H Q => ∃ l k xs, x = .ref l ∧ y = .int k ∧ SqT X.K H l xs ∧ xs ≠ [] ∧ 0 ≤ k ∧ k ≤ 1 ∧ (k = 1 → Q (.ref l) H) ∧ (k = 0 → ∀ p, H p = none → Q (.ref p) (upd H p (.tup [])))) := by
  intro pins s σ H x y v u Q I rx ry h
  obtain ⟨l, k, xs, rfl, rfl, hT, hne, h1, h2, q1, q0⟩ := h
  cases rx
  obtain ⟨t, rfl⟩ := ry
  obtain ⟨its, r, ⟨⟨cls, dd, data, sl⟩, ho, hc, n, hd⟩, hs⟩ := I.tuple hT
  simp only at hc hd
  subst hc hd
  have hi : its.toArray.isEmpty = false := by
    cases its with
    | nil =>
      cases r
      exact absurd rfl hne
    | cons a b => rfl
  have c0 : (decide (k < -(2 ^ 63)) || decide (k ≥ 2 ^ 63)) = false := by
    rw [decide_eq_false (by omega), decide_eq_false (by omega)]
    rfl
  by_cases hk : k = 1
  · have c1 : (its.toArray.isEmpty || k == 1) = true := by
      rw [hi, Bool.false_or]
      exact beq_iff_eq.mpr hk
    refine wpAny_binaryOp_repeat_ref (T := "tuple") (U := "int") (by decide) ⟨_, ho, rfl⟩ (fun s' => typeIs_int s' k t) noFill_tuple_mul F.fills_int_mul F.slot_int_rmul repeat_tuple F.slot_int_index.lookup ?_
    refine call_meets F.slot_int_rmul (typeIs_int s k t) F.entry_int_rmul (F.args_int_rmul_2 _ _) (int_rmul_tuple k t l its.toArray n dd sl) ⟨ho, rfl, ⟨_, ho, rfl⟩, ?_⟩
    refine call_meets F.slot_tuple_mul ⟨_, ho, rfl⟩ F.entry_tuple_mul (F.args_tuple_mul_2 _ _) (mul_one l its.toArray n dd sl k t c0 c1) ⟨ho, ?_⟩
    exact ⟨.ref l, H, I, rfl, q1 hk⟩
  · have c1 : (its.toArray.isEmpty || k == 1) = false := by
      rw [hi, Bool.false_or]
      exact beq_eq_false_iff_ne.mpr hk
    have c2 : (decide (k ≤ 0) || its.toArray.isEmpty) = true := by
      rw [hi, Bool.or_false]
      exact decide_eq_true (by omega)
    refine wpAny_binaryOp_repeat_ref (T := "tuple") (U := "int") (by decide) ⟨_, ho, rfl⟩ (fun s' => typeIs_int s' k t) noFill_tuple_mul F.fills_int_mul F.slot_int_rmul repeat_tuple F.slot_int_index.lookup ?_
    refine call_meets F.slot_int_rmul (typeIs_int s k t) F.entry_int_rmul (F.args_int_rmul_2 _ _) (int_rmul_tuple k t l its.toArray n dd sl) ⟨ho, rfl, ⟨_, ho, rfl⟩, ?_⟩
    refine call_meets F.slot_tuple_mul ⟨_, ho, rfl⟩ F.entry_tuple_mul (F.args_tuple_mul_2 _ _) (mul_none l its.toArray n dd sl k t c0 c1 c2) ⟨ho, ?_⟩
    refine ⟨.ref s.heap.objs.size, _, I.laid (t' := s.toks) (o := .tup []) (fun b ob q => Heap.get?_push_of_some _ q) (Nat.le_refl _) ?_, rfl, q0 (by omega) _ (I.hok.fresh (Nat.le_refl _))⟩
    exact ⟨Nat.zero_le _, [], .nil, IsTup.new _ _⟩
theorem RVs.rep {K : PySem.W.Frag} {m : List Addr} {H : Hp} {ws : List W} {vs : List V} (r : RVs K m H ws vs) : ∀ k : Nat, RVs K m H (List.replicate k ws).flatten (List.replicate k vs).flatten
  | 0 => .nil
  | k + 1 => by
    rw [List.replicate_succ, List.replicate_succ, List.flatten_cons, List.flatten_cons]
    exact r.append (RVs.rep r k)
theorem o_mul {E : XK} : OpR X (binaryOp .Mult) (rW X.K E M.mulW) := by
  intro pins s σ H x y v u Q I rx ry h
  obtain ⟨m, S, a, b, rs, ra, rb, q⟩ := h
  cases ra <;> cases rb <;> try exact False.elim q
  · simp only [M.mulW] at q
    split at q
    · rename_i hc
      refine op_mul pins s σ H _ _ v u Q I rx ry ⟨_, _, rfl, rfl, ?_, q.here rs (.int _)⟩
      rcases hc with hc | hc
      · exact Or.inl ⟨by omega, by omega⟩
      · exact Or.inr ⟨by omega, by omega⟩
    · exact False.elim q
  · rename_i ad ws vs hq rv k
    simp only [M.mulW] at q
    split at q
    · rename_i hc
      obtain ⟨h1, h2, h3⟩ := hc
      have hl : vs.length = 1 := by rw [← rv.length]; exact h1
      have hne : vs ≠ [] := fun e => by
        rw [e] at hl
        cases hl
      by_cases hk : 2 ≤ k
      · refine op_repT pins s σ H _ _ v u Q I rx ry ⟨_, k, vs, rfl, rfl, hq, hne, hk, h3, by omega, fun p hp => ?_⟩
        exact q m _ _ (List.prefix_refl _) (Stay.new hp) (rs.grow hp) (.tup (SqT.of upd_same) ((rv.rep k.toNat).mono (List.prefix_refl _) (Stay.new hp)))
      · refine op_rep01 pins s σ H _ _ v u Q I rx ry ⟨_, k, vs, rfl, rfl, hq, hne, h2, by omega, fun e => ?_, fun e p hp => ?_⟩
        · subst e
          refine q.here rs ?_
          have e2 : (List.replicate (1 : Int).toNat ws).flatten = ws := by simp
          rw [e2]
          exact .tup hq rv
        · subst e
          exact q m _ _ (List.prefix_refl _) (Stay.new hp) (rs.grow hp) (.tup (SqT.of upd_same) .nil)
    · exact False.elim q
end

/-! ### isinstance, is -/
namespace M
def kinds : List String := ["int", "bool", "str", "tuple", "list", "dict"]
def isiK : List W → Store → Rs W := fun ws S => match ws with
  | [w, .ty T] => if T ∈ kinds then (match tyName w S with
    | some t => .ok (.bl (isiB t T)) S
    | none => .no) else .no
  | _ => .no
def isW : G2 := fun a b S => match a, b with
  | .bl x, .bl y => .ok (.bl (decide (x = y))) S
  | .non, .non => .ok (.bl true) S
  | .bl _, .non => .ok (.bl false) S
  | .int _, .non => .ok (.bl false) S
  | .str _, .non => .ok (.bl false) S
  | .tup _, .non => .ok (.bl false) S
  | .ref _, .non => .ok (.bl false) S
  | .fl _, .non => .ok (.bl false) S
  | _, _ => .no
def isntW : G2 := fun a b S => match a, b with
  | .bl x, .bl y => .ok (.bl (!decide (x = y))) S
  | .non, .non => .ok (.bl false) S
  | .bl _, .non => .ok (.bl true) S
  | .int _, .non => .ok (.bl true) S
  | .str _, .non => .ok (.bl true) S
  | .tup _, .non => .ok (.bl true) S
  | .ref _, .non => .ok (.bl true) S
  | .fl _, .non => .ok (.bl true) S
  | _, _ => .no
end M
theorem kit_all : ∀ t ∈ ["NoneType", "bool", "int", "str", "tuple", "list", "dict"], ∀ T ∈ M.kinds, kitB t T = some (M.isiB t T) := by decide +kernel
theorem sqt_ty {K : PySem.W.Frag} {H : Hp} {a : Addr} {vs : List V} (h : SqT K H a vs) : TyX K H (.ref a) (.type "tuple") := by
  rcases h with (h | ⟨o, h⟩) | ⟨o, its, n, h1, h2, _⟩
  · exact .base (.tup h)
  · exact .fTuple h
  · exact .kTuple h1 h2
theorem sql_ty {K : PySem.W.Frag} {H : Hp} {a : Addr} {vs : List V} (h : SqL K H a vs) : TyX K H (.ref a) (.type "list") := by
  rcases h with (h | ⟨o, h⟩) | ⟨o, its, n, h1, h2, _⟩
  · exact .base (.lst h)
  · exact .base (.frz h)
  · exact .kList h1 h2
theorem ty_rel {K : PySem.W.Frag} {m : List Addr} {H : Hp} {S : Store} {w : W} {v : V} {t : String} (rs : RS K m S H) (r : RV K m H w v) (h : M.tyName w S = some t) :
    TyX K H v (.type t) ∧ t ∈ ["NoneType", "bool", "int", "str", "tuple", "list", "dict"] := by
  cases r <;> simp only [M.tyName] at h
  · cases h
    exact ⟨.base .non, by decide⟩
  · cases h
    exact ⟨.base (.bl _), by decide⟩
  · cases h
    exact ⟨.base (.int _), by decide⟩
  · cases h
    exact ⟨.base (.str _), by decide⟩
  · cases h
  · rename_i r a hr
    split at h
    · rename_i ys e
      cases h
      obtain ⟨vs, e1, e2⟩ := rs.ob _ _ _ e hr
      exact ⟨sql_ty (SqL.of e1), by decide⟩
    · rename_i ys e
      cases h
      obtain ⟨vs, e1, e2⟩ := rs.ob _ _ _ e hr
      exact ⟨.base (.dK e1), by decide⟩
    · cases h
  · cases h
    rename_i hq _
    exact ⟨sqt_ty hq, by decide⟩
  · cases h
    rename_i hq _
    exact ⟨sql_ty hq.l, by decide⟩
section
variable {X : Cx} {E : XK}
theorem c_isi : CallR X (.builtin "isinstance") (rWs X.K E M.isiK) := by
  intro pins s σ H xs us Q I r h
  obtain ⟨m, S, ws, rs, rv, q⟩ := h
  unfold M.isiK at q
  split at q
  · rename_i w T
    obtain ⟨v, z, rfl, r1, r2⟩ := rvs2 rv
    cases r2
    split at q
    · rename_i hT
      split at q
      · rename_i t ht
        obtain ⟨ty, hm⟩ := ty_rel rs r1 ht
        exact call_isi pins s σ H _ us Q I r ⟨v, _, _, _, _, rfl, .ty T, ty, kit_ty (kit_all t hm T hT), q.here rs (.bl _)⟩
      · exact False.elim q
    · exact False.elim q
  · exact False.elim q
theorem o_is : OpR X (compareOp .Is) (rW X.K E M.isW) := by
  intro pins s σ H x y v u Q I rx ry h
  obtain ⟨m, S, a, b, rs, ra, rb, q⟩ := h
  cases rb <;> cases ra <;> first
    | exact False.elim q
    | exact op_isN pins s σ H _ _ v u Q I rx ry ⟨rfl, q.here rs (.bl _)⟩
    | exact op_isBl pins s σ H _ _ v u Q I rx ry ⟨_, _, rfl, rfl, q.here rs (.bl _)⟩
theorem o_isnt : OpR X (compareOp .IsNot) (rW X.K E M.isntW) := by
  intro pins s σ H x y v u Q I rx ry h
  obtain ⟨m, S, a, b, rs, ra, rb, q⟩ := h
  cases rb <;> cases ra <;> first
    | exact False.elim q
    | exact op_notN pins s σ H _ _ v u Q I rx ry ⟨rfl, q.here rs (.bl _)⟩
    | exact op_notBl pins s σ H _ _ v u Q I rx ry ⟨_, _, rfl, rfl, q.here rs (.bl _)⟩
end
end Wo
set_option maxRecDepth 100000
set_option maxHeartbeats 4000000
namespace Wo
open PySem L2
/-! W6: tests, statements, targets. -/
namespace M
def truW (w : W) (S : Store) : Option Bool := match w with
  | .non => some false
  | .bl b => some b
  | .int i => some (i != 0)
  | .str x => if x.length ≤ lim then some ((x.length : Int) != 0) else none
  | .tup xs => some (!xs.isEmpty)
  | .fl xs => some (!xs.isEmpty)
  | .ref r => match S[r]? with
    | some (.lst xs) => some (!xs.isEmpty)
    | some (.dK kvs) => some (!kvs.isEmpty)
    | none => none
  | .ty _ => none
def ofTru (w : W) (S : Store) : Rs Bool := match truW w S with
  | some b => .ok b S
  | none => .no
def ofBl (w : W) (S : Store) : Rs Bool := match w with
  | .bl b => .ok b S
  | _ => .no
def tru (g : ME) : MT := fun f S => (g f S).bind ofTru
def tst (g : ME) : MT := fun f S => (g f S).bind ofBl
def andT (a b : MT) : MT := fun f S => (a f S).bind fun c S1 => if c = true then b f S1 else .ok false S1
def orT (a b : MT) : MT := fun f S => (a f S).bind fun c S1 => if c = true then .ok true S1 else b f S1
def notT (a : MT) : MT := fun f S => (a f S).bind fun c S1 => .ok (!c) S1
def andV (a b : ME) : ME := fun f S => (a f S).bind fun x S1 => (ofTru x S1).bind fun c S2 => if c = true then b f S2 else .ok x S2
def orV (a b : ME) : ME := fun f S => (a f S).bind fun x S1 => (ofTru x S1).bind fun c S2 => if c = true then .ok x S2 else b f S2
def notV (a : ME) : ME := fun f S => (a f S).bind fun x S1 => (ofTru x S1).bind fun c S2 => .ok (.bl (!c)) S2
def ifE (c : MT) (a b : ME) : ME := fun f S => (c f S).bind fun k S1 => if k = true then a f S1 else b f S1
/-- a op b op' c -/
def chain (g g' : G2) (a b c : ME) : ME := fun f S => (a f S).bind fun x S1 => (b f S1).bind fun y S2 => (g x y S2).bind fun z S3 => (ofBl z S3).bind fun k S4 => if k = true then (c f S4).bind fun w S5 => g' y w S5 else .ok (.bl false) S4
end M
theorem tru_rel {K : PySem.W.Frag} {m : List Addr} {H : Hp} {S : Store} {w : W} {v : V} {b : Bool} (rs : RS K m S H) (r : RV K m H w v) (h : M.truW w S = some b) : TruV K v H b := by
  have emp : ∀ {ws : List W} {vs : List V}, RVs K m H ws vs → (!ws.isEmpty) = !vs.isEmpty := fun r => by cases r <;> rfl
  cases r <;> simp only [M.truW] at h
  · cases h
    rfl
  · cases h
    rfl
  · cases h
    rfl
  · split at h
    · rename_i hl
      cases h
      exact ⟨lim_line hl, rfl⟩
    · cases h
  · cases h
  · rename_i r a hr
    split at h
    · rename_i ys e
      cases h
      obtain ⟨vs, e1, e2⟩ := rs.ob _ _ _ e hr
      exact Or.inl ⟨vs, SqL.of e1, emp e2⟩
    · rename_i ys e
      cases h
      obtain ⟨vs, e1, e2⟩ := rs.ob _ _ _ e hr
      refine Or.inr (Or.inr ⟨vs, e1, ?_⟩)
      cases e2 <;> rfl
    · cases h
  · rename_i hq rv
    cases h
    exact Or.inr (Or.inl ⟨_, hq, emp rv⟩)
  · rename_i hq rv
    cases h
    exact Or.inl ⟨_, hq.l, emp rv⟩
section
variable {X : Cx} {E : EX} {a b c : Expr} {pos : Pos} {rest : List Expr}
theorem t_val {g : ME} (h : PE X a (tE X.K E g)) (he : ∀ whole, isTrue a X.env whole = (do let v ← whole; standAt a.pos; holding [v] (truthy v)) := by intro _; rfl) : PT X a (tT X.K E (M.tru g)) := by
  refine PT.imp (pt_truth h he) fun s H Q q => ?_
  refine tM.imp (tM.seq (R := RV X.K) (g := g) (k := fun _ => M.ofTru) q) fun x H1 ⟨m, S, f, w, rs, rf, rv, q⟩ => ?_
  unfold M.ofTru at q
  split at q
  · rename_i k hk
    exact ⟨k, tru_rel rs rv hk, q.here rs rfl⟩
  · exact False.elim q
theorem ofBl_at {K : PySem.W.Frag} {E : XK} {m : List Addr} {H : Hp} {S : Store} {w : W} {x : V} {Q : Bool → Hp → Prop} (rs : RS K m S H) (rv : RV K m H w x) (q : Post K E RB m H (M.ofBl w S) Q) : ∃ k, x = .bl k ∧ Q k H := by
  cases rv <;> try exact False.elim q
  exact ⟨_, rfl, q.here rs rfl⟩
theorem t_cmp {op : CmpOp} {g : G2} {ga gb : ME} (ho : ∀ E, OpR X (compareOp op) (rW X.K E g)) (ha : PE X a (tE X.K E ga)) (hb : PE X b (tE X.K E gb)) (hm : behindInMarks op b = false) : PT X (.Compare a [op] [b] pos) (tT X.K E (M.tst (M.op2 g ga gb))) := by
  refine ⟨fun pins sh s H Q I h => ?_⟩
  refine (pt_cmpR (ho (E s)) ha hb hm).run pins sh s H Q I ?_
  have h2 := tM.seq (R := RV X.K) (g := M.op2 g ga gb) (k := fun _ => M.ofBl) h
  exact tE.two (tM.imp h2 fun x H1 ⟨m, S, f, w, rs, rf, rv, q⟩ => ofBl_at rs rv q)
theorem t_not {g : MT} (h : PT X a (tT X.K E g)) : PT X (.UnaryOp .Not a pos) (tT X.K E (M.notT g)) := by
  refine PT.imp (pt_not h) fun s H Q q => ?_
  refine tM.imp (tM.seq (R := RB) (g := g) (k := fun _ c S1 => .ok (!c) S1) q) fun x H1 ⟨m, S, f, w, rs, rf, rv, q⟩ => ?_
  cases rv
  exact q.here rs rfl
theorem w_and1 {g : MT} (h : PT X a (tT X.K E g)) : PW X (.BoolOp .And [a] pos) (tT X.K E g) := pw_and1 h
theorem w_or1 {g : MT} (h : PT X a (tT X.K E g)) : PW X (.BoolOp .Or [a] pos) (tT X.K E g) := pw_or1 h
theorem w_and {ga gb : MT} (ha : PT X a (tT X.K E ga)) (hb : PW X (.BoolOp .And (b :: rest) pos) (tT X.K E gb)) : PW X (.BoolOp .And (a :: b :: rest) pos) (tT X.K E (M.andT ga gb)) := by
  refine PW.imp (pw_and ha hb) fun s H Q q => ?_
  refine tM.imp (tM.seq (R := RB) (g := ga) (k := fun f c S1 => if c = true then gb f S1 else .ok false S1) q) fun x H1 ⟨m, S, f, w, rs, rf, rv, q⟩ => ?_
  cases rv
  cases x with
  | true => exact ⟨m, S, f, rs, rf, q⟩
  | false => exact Post.here (S := S) (a := false) q rs rfl
theorem w_or {ga gb : MT} (ha : PT X a (tT X.K E ga)) (hb : PW X (.BoolOp .Or (b :: rest) pos) (tT X.K E gb)) : PW X (.BoolOp .Or (a :: b :: rest) pos) (tT X.K E (M.orT ga gb)) := by
  refine PW.imp (pw_or ha hb) fun s H Q q => ?_
  refine tM.imp (tM.seq (R := RB) (g := ga) (k := fun f c S1 => if c = true then .ok true S1 else gb f S1) q) fun x H1 ⟨m, S, f, w, rs, rf, rv, q⟩ => ?_
  cases rv
  cases x with
  | true => exact Post.here (S := S) (a := true) q rs rfl
  | false => exact ⟨m, S, f, rs, rf, q⟩
/-- by its truth -/
theorem tru_at {K : PySem.W.Frag} {E : XK} {α β : Type} {R : List Addr → Hp → α → β → Prop} {m : List Addr} {H : Hp} {S : Store} {w : W} {x : V} {k : Bool → Store → Rs α} {Q : β → Hp → Prop} (rs : RS K m S H) (rv : RV K m H w x)
    (q : Post K E R m H ((M.ofTru w S).bind k) Q) : ∃ c, TruV K x H c ∧ Post K E R m H (k c S) Q := by
  unfold M.ofTru at q
  split at q
  · rename_i c hc
    exact ⟨c, tru_rel rs rv hc, q⟩
  · exact False.elim q
theorem e_one {op : BoolOp} {g : ME} (h : PE X a (tE X.K E g)) : PE X (.BoolOp op [a] pos) (tE X.K E g) := pe_one h
theorem e_and {ga gb : ME} (ha : PE X a (tE X.K E ga)) (hb : PE X (.BoolOp .And (b :: rest) pos) (tE X.K E gb)) : PE X (.BoolOp .And (a :: b :: rest) pos) (tE X.K E (M.andV ga gb)) := by
  refine PE.imp (pe_andT ha hb) fun s H Q q => ?_
  refine tM.imp (tM.seq (R := RV X.K) (g := ga) (k := fun f x S1 => (M.ofTru x S1).bind fun c S2 => if c = true then gb f S2 else .ok x S2) q) fun x H1 ⟨m, S, f, w, rs, rf, rv, q⟩ => ?_
  obtain ⟨c, hc, q⟩ := tru_at rs rv q
  refine ⟨c, hc, ?_⟩
  cases c with
  | true => exact ⟨m, S, f, rs, rf, q⟩
  | false => exact Post.here (S := S) (a := w) q rs rv
theorem e_or {ga gb : ME} (ha : PE X a (tE X.K E ga)) (hb : PE X (.BoolOp .Or (b :: rest) pos) (tE X.K E gb)) : PE X (.BoolOp .Or (a :: b :: rest) pos) (tE X.K E (M.orV ga gb)) := by
  refine PE.imp (pe_orT ha hb) fun s H Q q => ?_
  refine tM.imp (tM.seq (R := RV X.K) (g := ga) (k := fun f x S1 => (M.ofTru x S1).bind fun c S2 => if c = true then .ok x S2 else gb f S2) q) fun x H1 ⟨m, S, f, w, rs, rf, rv, q⟩ => ?_
  obtain ⟨c, hc, q⟩ := tru_at rs rv q
  refine ⟨c, hc, ?_⟩
  cases c with
  | true => exact Post.here (S := S) (a := w) q rs rv
  | false => exact ⟨m, S, f, rs, rf, q⟩
theorem e_not {g : ME} (h : PE X a (tE X.K E g)) : PE X (.UnaryOp .Not a pos) (tE X.K E (M.notV g)) := by
  refine PE.imp (pe_notT h) fun s H Q q => ?_
  refine tM.imp (tM.seq (R := RV X.K) (g := g) (k := fun f x S1 => (M.ofTru x S1).bind fun c S2 => .ok (W.bl (!c)) S2) q) fun x H1 ⟨m, S, f, w, rs, rf, rv, q⟩ => ?_
  obtain ⟨c, hc, q⟩ := tru_at rs rv q
  exact ⟨c, hc, q.here rs (.bl _)⟩
theorem e_if {gc : MT} {ga gb : ME} (hc : PT X c (tT X.K E gc)) (ha : PE X a (tE X.K E ga)) (hb : PE X b (tE X.K E gb)) : PE X (.IfExp c a b pos) (tE X.K E (M.ifE gc ga gb)) := by
  refine PE.imp (pe_ifExp hc ha hb) fun s H Q q => ?_
  refine tM.imp (tM.seq (R := RB) (g := gc) (k := fun f k S1 => if k = true then ga f S1 else gb f S1) q) fun x H1 ⟨m, S, f, w, rs, rf, rv, q⟩ => ?_
  cases rv
  cases x with
  | true => exact ⟨m, S, f, rs, rf, q⟩
  | false => exact ⟨m, S, f, rs, rf, q⟩
theorem chain_at {K : PySem.W.Frag} {ga gb gc : ME} {g g' : G2} {s : St} {H : Hp} {Q : VK} (h : tE K E (M.chain g g' ga gb gc) s H Q) : tChain (rW K (E s) g) (rW K (E s) g') (tE K E ga) (tE K E gb) (tE K E gc) s H Q := by
  refine tM.imp (tM.seq (R := RV K) (g := ga) (k := fun f x S1 => (gb f S1).bind fun y S2 => (g x y S2).bind fun z S3 => (M.ofBl z S3).bind fun k S4 => if k = true then (gc f S4).bind fun w S5 => g' y w S5 else .ok (.bl false) S4) h) fun x H1 q => ?_
  obtain ⟨m, S, f, a, rs, rf, rv, q⟩ := q
  refine ⟨m, S, f, rs, rf, q.bind.imp fun y H2 ⟨m1, S1, b, p, st, rs1, rb, q1⟩ => ?_⟩
  refine ⟨m1, S1, a, b, rs1, rv.mono p st, rb, q1.bind.imp fun z H3 ⟨m2, S2, d, p', st', rs2, rd, q2⟩ => ?_⟩
  have hb : ∃ k, d = .bl k ∧ z = .bl k := by
    cases rd <;> first | exact False.elim q2 | exact ⟨_, rfl, rfl⟩
  obtain ⟨k, rfl, rfl⟩ := hb
  refine ⟨k, rfl, ?_⟩
  cases k with
  | true =>
    refine ⟨m2, S2, f, rs2, (rf.mono p st).mono p' st', Post.bind (r := gc f S2) (k := fun w S5 => g' b w S5) q2 |>.imp fun w H4 ⟨m3, S3, d3, p3, st3, rs3, rd3, q3⟩ => ?_⟩
    exact ⟨m3, S3, b, d3, rs3, (rb.mono p' st').mono p3 st3, rd3, q3⟩
  | false => exact Post.here (S := S2) (a := W.bl false) q2 rs2 (.bl _)
theorem e_chain {op op' : CmpOp} {g g' : G2} {ga gb gc : ME} (ho : ∀ E, OpR X (compareOp op) (rW X.K E g)) (ho' : ∀ E, OpR X (compareOp op') (rW X.K E g')) (ha : PE X a (tE X.K E ga)) (hb : PE X b (tE X.K E gb)) (hc : PE X c (tE X.K E gc))
    (hm : lastMarks [op, op'] [b, c] = false := by with_unfolding_all rfl) : PE X (.Compare a [op, op'] [b, c] pos) (tE X.K E (M.chain g g' ga gb gc)) :=
  ⟨fun pins sh s H Q I h => (pe_chain (ho (E s)) (ho' (E s)) ha hb hc hm).run pins sh s H Q I (chain_at h)⟩
theorem t_chain {op op' : CmpOp} {g g' : G2} {ga gb gc : ME} (ho : ∀ E, OpR X (compareOp op) (rW X.K E g)) (ho' : ∀ E, OpR X (compareOp op') (rW X.K E g')) (ha : PE X a (tE X.K E ga)) (hb : PE X b (tE X.K E gb)) (hc : PE X c (tE X.K E gc))
    (hm : lastMarks [op, op'] [b, c] = false := by with_unfolding_all rfl) : PT X (.Compare a [op, op'] [b, c] pos) (tT X.K E (M.tst (M.chain g g' ga gb gc))) := by
  refine ⟨fun pins sh s H Q I h => (pt_chain (ho (E s)) (ho' (E s)) ha hb hc hm).run pins sh s H Q I ?_⟩
  have h2 := tM.seq (R := RV X.K) (g := M.chain g g' ga gb gc) (k := fun _ => M.ofBl) h
  exact chain_at (tM.imp h2 fun x H1 ⟨m, S, f, w, rs, rf, rv, q⟩ => ofBl_at rs rv q)
end

/-! ### statements -/
inductive Fl where
  | next (f : Fr)
  | ret (w : W)
  | brk (f : Fr)
  | cont (f : Fr)
inductive RsS where
  | ok (l : Fl) (S : Store)
  | ex (e : Xn) (f : Fr) (S : Store)
  | no
abbrev MS := Fr → Store → RsS
def PostS (K : PySem.W.Frag) (E : EX) (m : List Addr) (H : Hp) (r : RsS) (D : Ends) : Prop := match r with
  | .ok (.next f) S => ∀ m' H' s', Pre m m' → Stay K H H' → RS K m' S H' → RF K m' H' f s' → D.nx s' H'
  | .ok (.ret w) S => ∀ m' H' v, Pre m m' → Stay K H H' → RS K m' S H' → RV K m' H' w v → D.rt v H'
  | .ok (.brk f) S => ∀ m' H' s', Pre m m' → Stay K H H' → RS K m' S H' → RF K m' H' f s' → D.bk s' H'
  | .ok (.cont f) S => ∀ m' H' s', Pre m m' → Stay K H H' → RS K m' S H' → RF K m' H' f s' → D.ct s' H'
  | .ex e f S => ∀ m' H' s' d, Pre m m' → Stay K H H' → RS K m' S H' → RF K m' H' f s' → RX K m' H' e d → E s' (.ref e.cls) d H'
  | .no => False
theorem PostS.mono {K : PySem.W.Frag} {E : EX} {m m1 : List Addr} {H H1 : Hp} {r : RsS} {D : Ends} (h : PostS K E m H r D) (p : Pre m m1) (s : Stay K H H1) : PostS K E m1 H1 r D := by
  cases r with
  | ok l S =>
    cases l <;> exact fun m' H' b p' s' => h m' H' b (p.trans p') (s.trans s')
  | ex e f S => exact fun m' H' b d p' s' => h m' H' b d (p.trans p') (s.trans s')
  | no => exact h
def tS (K : PySem.W.Frag) (E : EX) (g : MS) : TS := fun D s H => ∃ m S f, RS K m S H ∧ RF K m H f s ∧ PostS K E m H (g f S) D
namespace M
/-- an expression, then a statement's end -/
def thenS {α : Type} (g : Fr → Store → Rs α) (k : α → Fr → Store → RsS) : MS := fun f S => match g f S with
  | .ok a S1 => k a f S1
  | .ex e S1 => .ex e f S1
  | .no => .no
def seq (a b : MS) : MS := fun f S => match a f S with
  | .ok (.next f1) S1 => b f1 S1
  | r => r
def skip : MS := fun f S => .ok (.next f) S
def ret (g : ME) : MS := thenS g fun w _ S => .ok (.ret w) S
def retN : MS := fun _ S => .ok (.ret .non) S
def drop (g : ME) : MS := thenS g fun _ f S => .ok (.next f) S
def ifS (c : MT) (a b : MS) : MS := thenS c fun k f S => if k = true then a f S else b f S
def brk : MS := fun f S => .ok (.brk f) S
def cont : MS := fun f S => .ok (.cont f) S
abbrev MG := W → Fr → Store → Option Fr
abbrev MGs := List W → Fr → Store → Option Fr
def tgN (i : Nat) : MG := fun w f _ => some (f.set i (some w))
def tgNil : MGs := fun ws f _ => match ws with
  | [] => some f
  | _ => none
def tgCons (t : MG) (u : MGs) : MGs := fun ws f S => match ws with
  | w :: r => (t w f S).bind fun f1 => u r f1 S
  | [] => none
def tgT (n : Nat) (t : MGs) : MG := fun w f S => match w with
  | .tup ws => if ws.length = n then t ws f S else none
  | _ => none
def asg (g : ME) (t : MG) : MS := thenS g fun w f S => match t w f S with
  | some f' => .ok (.next f') S
  | none => .no
end M
/-- an expression ahead of a statement's end -/
theorem tS.first {K : PySem.W.Frag} {E : EX} {α β : Type} {R : List Addr → Hp → α → β → Prop} {g : Fr → Store → Rs α} {k : α → Fr → Store → RsS} {D : Ends} {s : St} {H : Hp} (h : tS K E (M.thenS g k) D s H) :
    tM K E R g s H (fun b H1 => ∃ m S f a, RS K m S H1 ∧ RF K m H1 f s ∧ R m H1 a b ∧ PostS K E m H1 (k a f S) D) := by
  obtain ⟨m, S, f, rs, rf, q⟩ := h
  refine ⟨m, S, f, rs, rf, ?_⟩
  unfold M.thenS at q
  cases e : g f S with
  | ok a S1 =>
    rw [e] at q
    exact fun m' H' b p st rs' rv => ⟨m', S1, f, a, rs', rf.mono p st, rv, PostS.mono q p st⟩
  | ex x S1 =>
    rw [e] at q
    exact fun m' H' d p st rs' rx => q m' H' s d p st rs' (rf.mono p st) rx
  | no =>
    rw [e] at q
    exact q
section
variable {K : PySem.W.Frag} {E : EX} {m : List Addr} {H : Hp} {S : Store} {f : Fr} {s : St} {D : Ends}
theorem PostS.next (q : PostS K E m H (.ok (.next f) S) D) (rs : RS K m S H) (rf : RF K m H f s) : D.nx s H := q m H s (List.prefix_refl _) (Stay.refl _) rs rf
end
section
variable {X : Cx} {E : EX} {pos : Pos} {st : Stmt} {rest : List Stmt} {e : Expr}
theorem s_nil : PSs X [] (tS X.K E M.skip) := PSs.imp pss_nil fun D s H ⟨m, S, f, rs, rf, q⟩ => q.next rs rf
theorem s_seq {a b : MS} (h1 : PS X st (tS X.K E a)) (h2 : PSs X rest (tS X.K E b)) : PSs X (st :: rest) (tS X.K E (M.seq a b)) := by
  refine PSs.imp (pss_cons h1 h2) fun D s H ⟨m, S, f, rs, rf, q⟩ => ?_
  refine ⟨m, S, f, rs, rf, ?_⟩
  unfold M.seq at q
  cases ea : a f S with
  | ok l S1 =>
    rw [ea] at q
    cases l with
    | next f1 => exact fun m' H' s' p st rs' rf' => ⟨m', S1, f1, rs', rf', PostS.mono q p st⟩
    | ret w => exact q
    | brk f1 => exact q
    | cont f1 => exact q
  | ex x f1 S1 =>
    rw [ea] at q
    exact q
  | no =>
    rw [ea] at q
    exact q
theorem s_one {a : MS} (h1 : PS X st (tS X.K E a)) : PSs X [st] (tS X.K E a) := pss_one h1
theorem s_pass : PS X (.Pass pos) (tS X.K E M.skip) := PS.imp ps_pass fun D s H ⟨m, S, f, rs, rf, q⟩ => q.next rs rf
theorem s_brk : PS X (.Break pos) (tS X.K E M.brk) := PS.imp ps_break fun D s H ⟨m, S, f, rs, rf, q⟩ => q m H s (List.prefix_refl _) (Stay.refl _) rs rf
theorem s_cont : PS X (.Continue pos) (tS X.K E M.cont) := PS.imp ps_continue fun D s H ⟨m, S, f, rs, rf, q⟩ => q m H s (List.prefix_refl _) (Stay.refl _) rs rf
theorem s_ret {g : ME} (h : PE X e (tE X.K E g)) : PS X (.Return (some e) pos) (tS X.K E (M.ret g)) :=
  PS.imp (ps_ret h) fun D s H q => tM.imp (tS.first (R := RV X.K) q) fun v H1 ⟨m, S, f, w, rs, rf, rv, q⟩ => q m H1 v (List.prefix_refl _) (Stay.refl _) rs rv
theorem s_expr {g : ME} (h : PE X e (tE X.K E g)) (hs : swapsWith e none pos.line X.env = pure false := by rfl) : PS X (.Expr e pos) (tS X.K E (M.drop g)) :=
  PS.imp (ps_expr h hs) fun D s H q => tM.imp (tS.first (R := RV X.K) q) fun v H1 ⟨m, S, f, w, rs, rf, rv, q⟩ => q.next rs rf
theorem s_if {c : Expr} {p q : List Stmt} {gc : MT} {a b : MS} (hc : PT X c (tT X.K E gc)) (ha : PSs X p (tS X.K E a)) (hb : PSs X q (tS X.K E b)) : PS X (.If c p q pos) (tS X.K E (M.ifS gc a b)) := by
  refine PS.imp (ps_if hc ha hb) fun D s H q => tM.imp (tS.first (R := RB) q) fun v H1 ⟨m, S, f, w, rs, rf, rv, q⟩ => ?_
  cases rv
  cases v with
  | true => exact ⟨m, S, f, rs, rf, q⟩
  | false => exact ⟨m, S, f, rs, rf, q⟩
/-! ### targets -/
def tG (K : PySem.W.Frag) (t : M.MG) (js : List Nat) : TG := fun v s H Q => ∃ m S f w f', RS K m S H ∧ RF K m H f s ∧ RV K m H w v ∧ t w f S = some f' ∧
  ∀ s', RF K m H f' s' → s'.length = s.length → (∀ j, j ∉ js → s'[j]? = s[j]?) → Q s' H
def tGs (K : PySem.W.Frag) (t : M.MGs) (js : List Nat) : TGs := fun vs s H Q => ∃ m S f ws f', RS K m S H ∧ RF K m H f s ∧ RVs K m H ws vs ∧ t ws f S = some f' ∧
  ∀ s', RF K m H f' s' → s'.length = s.length → (∀ j, j ∉ js → s'[j]? = s[j]?) → Q s' H
theorem PG.imp {e : Expr} {t t' : TG} (h : PG X e t) (i : ∀ v s H Q, t' v s H Q → t v s H Q) : PG X e t' := ⟨fun pins sh s H v u Q I r q => h.run pins sh s H v u Q I r (i v s H Q q)⟩
theorem PGs.imp {e : List Expr} {t t' : TGs} (h : PGs X e t) (i : ∀ v s H Q, t' v s H Q → t v s H Q) : PGs X e t' := ⟨fun pins sh s H v u Q I r q => h.run pins sh s H v u Q I r (i v s H Q q)⟩
theorem g_name {i : Nat} {x : Str} (hN : X.N.Nodup) (hi : X.N[i]? = some x := by rfl) (hx : Loc X.env.scope x := by first | exact Or.inl rfl | exact Or.inr rfl) (hf : X.fn x = true ∨ X.env.scope.names.lookup x = some .local := by first | exact .inl rfl | exact .inr rfl | assumption) :
    PG X (.Name x pos) (tG X.K (M.tgN i) [i]) := by
  refine PG.imp (pg_name hN hi hx hf) fun v s H Q h => ?_
  obtain ⟨m, S, f, w, f', rs, rf, rv, e, q⟩ := h
  cases e
  refine q _ (rf.set rv i) (List.length_set ..) fun j hj => ?_
  exact List.getElem?_set_ne fun z => hj (by rw [z]; exact List.mem_singleton_self _)
theorem gs_nil : PGs X [] (tGs X.K M.tgNil []) := by
  refine PGs.imp pgs_nil fun vs s H Q h => ?_
  obtain ⟨m, S, f, w, f', rs, rf, rv, e, q⟩ := h
  cases rv with
  | nil =>
    cases e
    exact ⟨rfl, q s rf rfl fun _ _ => rfl⟩
  | cons _ _ => cases e
theorem gs_cons {e : Expr} {es : List Expr} {t : M.MG} {u : M.MGs} {js ks : List Nat} (h1 : PG X e (tG X.K t js)) (h2 : PGs X es (tGs X.K u ks)) (hs : (assignEach (e :: es) X.env).map (·.2) = assign e X.env :: (assignEach es X.env).map (·.2) := by rfl) :
    PGs X (e :: es) (tGs X.K (M.tgCons t u) (js ++ ks)) := by
  refine PGs.imp (pgs_cons h1 h2 hs) fun vs s H Q h => ?_
  obtain ⟨m, S, f, ws, f', rs, rf, rv, e, q⟩ := h
  cases rv with
  | nil => cases e
  | cons r rr =>
    simp only [M.tgCons, Option.bind_eq_some_iff] at e
    obtain ⟨f1, e1, e2⟩ := e
    refine ⟨_, _, rfl, m, S, f, _, f1, rs, rf, r, e1, fun s1 rf1 l1 k1 => ?_⟩
    refine ⟨m, S, f1, _, f', rs, rf1, rr, e2, fun s2 rf2 l2 k2 => ?_⟩
    refine q s2 rf2 (l2.trans l1) fun j hj => ?_
    rw [k2 j fun z => hj (List.mem_append_right _ z), k1 j fun z => hj (List.mem_append_left _ z)]
theorem g_tup {es : List Expr} {k n : Nat} {t : M.MGs} {js : List Nat} (rm : Rm X) (h : PGs X es (tGs X.K t js)) (hn : (assignEach es X.env).length = n := by rfl) (hst : (assignEach es X.env).findIdx? (·.1) = none := by rfl) :
    PG X (.Tuple es k pos) (tG X.K (M.tgT n t) js) := by
  refine PG.imp (pg_tup rm.calm h hn hst) fun v s H Q h => ?_
  obtain ⟨m, S, f, w, f', rs, rf, rv, e, q⟩ := h
  cases rv <;> simp only [M.tgT] at e <;> try (cases e)
  rename_i hq rvs
  split at e
  · rename_i hl
    exact ⟨_, _, rfl, hq, by rw [← rvs.length]; exact hl, m, S, f, _, f', rs, rf, rvs, e, q⟩
  · cases e
theorem s_asg {tg : Expr} {g : ME} {t : M.MG} {js : List Nat} (he : PE X e (tE X.K E g)) (hg : PG X tg (tG X.K t js)) (hs : swapsWithSole [tg] e pos.line X.env = pure false := by rfl) (hw : swappedStores [tg] e X.env = pure none := by rfl)
    (h1 : (assignEach [tg] X.env).map (·.2) = [assign tg X.env] := by rfl) : PS X (.Assign [tg] e pos) (tS X.K E (M.asg g t)) := by
  refine PS.imp (ps_asg he hg hs hw h1) fun D s H q => tM.imp (tS.first (R := RV X.K) q) fun v H1 ⟨m, S, f, w, rs, rf, rv, q⟩ => ?_
  split at q
  · rename_i f' e
    exact ⟨m, S, f, w, f', rs, rf, rv, e, fun s' rf' _ _ => q.next rs rf'⟩
  · exact False.elim q
end
end Wo
set_option maxRecDepth 100000
set_option maxHeartbeats 4000000
namespace Wo
open PySem L2
/-! W7: what is walked; comprehensions; loops. -/
abbrev Get := Store → Nat → Option (Option W)
structure ItR (K : PySem.W.Frag) (m0 : List Addr) (H0 : Hp) (get : Get) (J : It) : Prop where
  stop : ∀ (m : List Addr) (S : Store) (H : Hp) (i : Nat), Pre m0 m → Stay K H0 H → RS K m S H → get S i = some none → J.stop i H
  go : ∀ (m : List Addr) (S : Store) (H : Hp) (i : Nat) (x : W), Pre m0 m → Stay K H0 H → RS K m S H → get S i = some (some x) → J.go i H ∧ ∀ v H', J.yld i H v H' → Stay K H H' ∧ RS K m S H' ∧ RV K m H' x v
abbrev RIt (K : PySem.W.Frag) (m : List Addr) (H : Hp) (p : Nat × Get) (J : It) : Prop := ItR K m H p.2 J
abbrev MIt := Fr → Store → Rs (Nat × Get)
abbrev tI (K : PySem.W.Frag) (E : EX) (g : MIt) : TI := tM K E (RIt K) g
namespace M
def getF (xs : List W) : Get := fun _ i => some xs[i]?
def getR (r : Nat) : Get := fun S i => match S[r]? with
  | some (.lst ys) => some ys[i]?
  | _ => none
def iterW (w : W) (S : Store) : Rs (Nat × Get) := match w with
  | .tup xs => .ok (xs.length, getF xs) S
  | .fl xs => .ok (xs.length, getF xs) S
  | .str z => .ok (z.cps.size, getF (z.cps.toList.map fun c => .str ⟨#[c]⟩)) S
  | .ref r => match S[r]? with
    | some (.lst xs) => .ok (xs.length, getR r) S
    | _ => .no
  | _ => .no
def iter (g : ME) : MIt := fun f S => (g f S).bind iterW
def getN (lo : Int) (n : Nat) : Get := fun _ i => some (if i < n then some (.int (lo + (i : Nat))) else none)
def rng1W (ws : List W) (S : Store) : Rs (Nat × Get) := match ws with
  | [.int j] => if -1000000 ≤ j ∧ j < 1000000 then .ok (j.toNat, getN 0 j.toNat) S else .no
  | _ => .no
def rng2W (ws : List W) (S : Store) : Rs (Nat × Get) := match ws with
  | [.int i, .int j] => if (-1000000 ≤ i ∧ i < 1000000) ∧ (-1000000 ≤ j ∧ j < 1000000) then .ok ((j - i).toNat, getN i (j - i).toNat) S else .no
  | _ => .no
def rng1 (g : MA) : MIt := fun f S => (g f S).bind rng1W
def rng2 (g : MA) : MIt := fun f S => (g f S).bind rng2W
end M
section
variable {K : PySem.W.Frag} {m0 : List Addr} {H0 : Hp}
theorem itr_tup {a : Addr} {xs : List W} {vs : List V} (hq : SqT K H0 a vs) (rv : RVs K m0 H0 xs vs) : ItR K m0 H0 (M.getF xs) (Itt K a) := by
  refine ⟨fun m S H i p st rs e => ?_, fun m S H i x p st rs e => ?_⟩
  · have e' : xs[i]? = none := Option.some.inj e
    exact ⟨vs, st.t _ _ hq, by rw [← rv.length]; exact List.getElem?_eq_none_iff.mp e'⟩
  · have e' : xs[i]? = some x := Option.some.inj e
    obtain ⟨v, h1, h2⟩ := rv.get e'
    refine ⟨⟨vs, v, st.t _ _ hq, h1⟩, fun v' H' y => ?_⟩
    obtain ⟨rfl, y⟩ := y
    have z := y vs (st.t _ _ hq)
    rw [h1] at z
    cases z
    exact ⟨Stay.refl _, rs, h2.mono p st⟩
theorem itr_fl {a : Addr} {xs : List W} {vs : List V} (hq : SqF K H0 a vs) (rv : RVs K m0 H0 xs vs) : ItR K m0 H0 (M.getF xs) (Itl K a) := by
  refine ⟨fun m S H i p st rs e => ?_, fun m S H i x p st rs e => ?_⟩
  · have e' : xs[i]? = none := Option.some.inj e
    exact ⟨vs, (st.f _ _ hq).l, by rw [← rv.length]; exact List.getElem?_eq_none_iff.mp e'⟩
  · have e' : xs[i]? = some x := Option.some.inj e
    obtain ⟨v, h1, h2⟩ := rv.get e'
    refine ⟨⟨vs, v, (st.f _ _ hq).l, h1⟩, fun v' H' y => ?_⟩
    obtain ⟨rfl, y⟩ := y
    have z := y vs (st.f _ _ hq).l
    rw [h1] at z
    cases z
    exact ⟨Stay.refl _, rs, h2.mono p st⟩
theorem itr_str {z : Str} : ItR K m0 H0 (M.getF (z.cps.toList.map fun c => .str ⟨#[c]⟩)) (Its z) := by
  refine ⟨fun m S H i p st rs e => ?_, fun m S H i x p st rs e => ?_⟩
  · have e' : (z.cps.toList.map fun c => W.str ⟨#[c]⟩)[i]? = none := Option.some.inj e
    have := List.getElem?_eq_none_iff.mp e'
    show z.cps.size ≤ i
    simpa using this
  · have e' : (z.cps.toList.map fun c => W.str ⟨#[c]⟩)[i]? = some x := Option.some.inj e
    rw [List.getElem?_map, Option.map_eq_some_iff] at e'
    obtain ⟨c, h1, rfl⟩ := e'
    have h2 : z.cps[i]? = some c := by simpa using h1
    have hi : i < z.cps.size := (Array.getElem?_eq_some_iff.mp h2).1
    refine ⟨hi, fun v' H' y => ?_⟩
    obtain ⟨rfl, c', y1, rfl⟩ := y
    rw [h2] at y1
    cases y1
    exact ⟨Stay.refl _, rs, .str _⟩
theorem itr_ref {r : Nat} {a : Addr} (hr : m0[r]? = some a) : ItR K m0 H0 (M.getR r) (Itl K a) := by
  refine ⟨fun m S H i p st rs e => ?_, fun m S H i x p st rs e => ?_⟩
  · unfold M.getR at e
    split at e
    · rename_i ys ey
      obtain ⟨vs, h1, h2⟩ := rs.ob _ _ _ ey (p.get hr)
      have e' : ys[i]? = none := Option.some.inj e
      exact ⟨vs, SqL.of h1, by rw [← h2.length]; exact List.getElem?_eq_none_iff.mp e'⟩
    · cases e
  · unfold M.getR at e
    split at e
    · rename_i ys ey
      obtain ⟨vs, h1, h2⟩ := rs.ob _ _ _ ey (p.get hr)
      have e' : ys[i]? = some x := Option.some.inj e
      obtain ⟨v, h3, h4⟩ := h2.get e'
      refine ⟨⟨vs, v, SqL.of h1, h3⟩, fun v' H' y => ?_⟩
      obtain ⟨rfl, y⟩ := y
      have z := y vs (SqL.of h1)
      rw [h3] at z
      cases z
      exact ⟨Stay.refl _, rs, h4⟩
    · cases e
theorem itr_rng {lo : Int} {n : Nat} : ItR K m0 H0 (M.getN lo n) (Itr lo n) := by
  refine ⟨fun m S H i p st rs e => ?_, fun m S H i x p st rs e => ?_⟩
  · unfold M.getN at e
    split at e
    · cases e
    · rename_i h
      exact Nat.le_of_not_lt h
  · unfold M.getN at e
    split at e
    · rename_i h
      cases e
      refine ⟨h, fun v' H' y => ?_⟩
      obtain ⟨rfl, rfl⟩ := y
      exact ⟨Stay.refl _, rs, .int _⟩
    · cases e
end
section
variable {X : Cx} {E : EX} {tg l : Expr} {pos p : Pos}
theorem PI.imp {t t' : TI} (h : PI X tg l t) (i : ∀ s H Q, t' s H Q → t s H Q) : PI X tg l t' := ⟨fun pins sh s H Q I q => h.run pins sh s H Q I (i s H Q q)⟩
theorem i_val {g : ME} (he : PE X l (tE X.K E g)) : PI X tg l (tI X.K E (M.iter g)) := by
  refine ⟨fun pins sh s H R I h => ?_⟩
  obtain ⟨m, S, f, rs, rf, q⟩ := h
  unfold M.iter at q
  cases e : g f S with
  | no =>
    rw [e] at q
    exact False.elim q
  | ex x S1 =>
    rw [e] at q
    exact (pi_list he).run pins sh s H R I ⟨m, S, f, rs, rf, by rw [e]; exact q⟩
  | ok w S1 =>
    rw [e] at q
    rw [Rs.bind_ok] at q
    cases w with
    | non => exact False.elim q
    | bl _ => exact False.elim q
    | int _ => exact False.elim q
    | ty _ => exact False.elim q
    | tup xs =>
      refine (pi_tup he).run pins sh s H R I ⟨m, S, f, rs, rf, ?_⟩
      rw [e]
      intro m' H' v p st rs' rv
      cases rv with
      | tup hq rvs => exact ⟨_, rfl, ⟨_, hq⟩, q m' H' _ p st rs' (itr_tup hq rvs)⟩
    | fl xs =>
      refine (pi_list he).run pins sh s H R I ⟨m, S, f, rs, rf, ?_⟩
      rw [e]
      intro m' H' v p st rs' rv
      cases rv with
      | fl hq rvs => exact ⟨_, rfl, ⟨_, hq.l⟩, q m' H' _ p st rs' (itr_fl hq rvs)⟩
    | str z =>
      refine (pi_str he).run pins sh s H R I ⟨m, S, f, rs, rf, ?_⟩
      rw [e]
      intro m' H' v p st rs' rv
      cases rv
      exact ⟨z, rfl, q m' H' _ p st rs' itr_str⟩
    | ref r =>
      simp only [M.iterW] at q
      split at q
      · rename_i xs ex
        refine (pi_list he).run pins sh s H R I ⟨m, S, f, rs, rf, ?_⟩
        rw [e]
        intro m' H' v p st rs' rv
        cases rv with
        | ref hr =>
          obtain ⟨vs, h1, h2⟩ := rs'.ob _ _ _ ex hr
          exact ⟨_, rfl, ⟨vs, SqL.of h1⟩, q m' H' _ p st rs' (itr_ref hr)⟩
      · exact False.elim q
theorem i_rng1 {a : Expr} {g : MA} (hm : X.mg "range" = none) (ha : PA X [a] (tA X.K E g)) (hg : Gl X "range" := by rfl) (hs : starEach [a] X.env = [(false, eval a X.env)] := by rfl) : PI X tg (.Call (.Name "range" p) [a] [] pos) (tI X.K E (M.rng1 g)) := by
  refine PI.imp (pi_range1 hg hm ha hs) fun s H R q => ?_
  refine tM.imp (tM.seq (R := RVs X.K) (g := g) (k := fun _ => M.rng1W) q) fun xs H1 ⟨m, S, f, ws, rs, rf, rv, q⟩ => ?_
  unfold M.rng1W at q
  split at q
  · obtain ⟨v, rfl, r1⟩ := rvs1 rv
    cases r1
    split at q
    · rename_i hb
      exact ⟨_, rfl, by omega, by omega, q m H1 _ (List.prefix_refl _) (Stay.refl _) rs itr_rng⟩
    · exact False.elim q
  · exact False.elim q
theorem i_rng2 {a b : Expr} {g : MA} (hm : X.mg "range" = none) (ha : PA X [a, b] (tA X.K E g)) (hg : Gl X "range" := by rfl) (hs : starEach [a, b] X.env = [(false, eval a X.env), (false, eval b X.env)] := by rfl) (hs2 : starEach [b] X.env = [(false, eval b X.env)] := by rfl) :
    PI X tg (.Call (.Name "range" p) [a, b] [] pos) (tI X.K E (M.rng2 g)) := by
  refine PI.imp (pi_range2 hg hm ha hs hs2) fun s H R q => ?_
  refine tM.imp (tM.seq (R := RVs X.K) (g := g) (k := fun _ => M.rng2W) q) fun xs H1 ⟨m, S, f, ws, rs, rf, rv, q⟩ => ?_
  unfold M.rng2W at q
  split at q
  · obtain ⟨v, z, rfl, r1, r2⟩ := rvs2 rv
    cases r1
    cases r2
    split at q
    · rename_i hb
      exact ⟨_, _, rfl, ⟨by omega, by omega, by omega, by omega⟩, q m H1 _ (List.prefix_refl _) (Stay.refl _) rs itr_rng⟩
    · exact False.elim q
  · exact False.elim q
end

/-! ### comprehensions -/
def Rs.noex {α : Type} : Rs α → Rs α
  | .ex _ _ => .no
  | r => r
def wipeF (f : Fr) : List Nat → Fr
  | [] => f
  | v :: vs => (wipeF f vs).set v none
theorem RF.wipe {K : PySem.W.Frag} {m : List Addr} {H : Hp} {f : Fr} {s : St} (h : RF K m H f s) : ∀ vs : List Nat, RF K m H (wipeF f vs) (L2.wipe s vs)
  | [] => h
  | v :: vs => (RF.wipe h vs).drop v none
theorem wipe_same {s s' : St} (hl : s'.length = s.length) : ∀ {vs : List Nat}, (∀ j, j ∉ vs → s'[j]? = s[j]?) → wipe s' vs = wipe s vs := by
  intro vs h
  have key : ∀ (vs : List Nat) (t : St) (i : Nat), (wipe t vs)[i]? = if i ∈ vs then (if i < t.length then some none else none) else t[i]? := by
    intro vs
    induction vs with
    | nil =>
      intro t i
      simp [wipe]
    | cons v vs ih =>
      intro t i
      unfold wipe
      by_cases hv : v = i
      · subst hv
        rw [if_pos (List.mem_cons_self ..)]
        by_cases hi : v < t.length
        · rw [List.getElem?_set_self (by rw [wipe_length]; exact hi), if_pos hi]
        · rw [List.getElem?_eq_none (by rw [List.length_set, wipe_length]; omega), if_neg hi]
      · rw [List.getElem?_set_ne hv, ih t i]
        by_cases hm : i ∈ vs
        · rw [if_pos hm, if_pos (List.mem_cons_of_mem _ hm)]
        · rw [if_neg hm, if_neg fun z => (List.mem_cons.mp z).elim (fun z => hv z.symm) hm]
  apply List.ext_getElem?
  intro i
  rw [key, key, hl]
  by_cases hm : i ∈ vs
  · rw [if_pos hm, if_pos hm]
  · rw [if_neg hm, if_neg hm, h i hm]
theorem wipe_wipe {s : St} {vs : List Nat} : ∀ (j : Nat), j ∉ vs → (wipe s vs)[j]? = s[j]? := fun j hj => wipe_out hj
theorem Post.bindN {α β γ δ : Type} {K : PySem.W.Frag} {E : XK} {R : List Addr → Hp → α → β → Prop} {R' : List Addr → Hp → γ → δ → Prop} {m : List Addr} {H : Hp} {r : Rs α} {k : α → Store → Rs γ} {Q2 : δ → Hp → Prop}
    (h : Post K E R' m H (r.noex.bind k) Q2) : Post K X0 R m H r (fun b H1 => ∃ m1 S1 a, Pre m m1 ∧ Stay K H H1 ∧ RS K m1 S1 H1 ∧ R m1 H1 a b ∧ Post K E R' m1 H1 (k a S1) Q2) := by
  cases r with
  | ok a S => exact fun m' H' b p s rs rv => ⟨m', S, a, p, s, rs, rv, Post.mono h p s⟩
  | ex e S => exact False.elim h
  | no => exact h
namespace M
def app (r : Nat) (y : W) (S : Store) : Rs Unit := match S[r]? with
  | some (.lst acc) => if acc.length < lim then .ok () (S.set r (.lst (acc ++ [y]))) else .no
  | _ => .no
def lcL (get : Get) (r : Nat) (t : MG) (c : MT) (e : ME) (fw : Fr) : Nat → Nat → Store → Rs Unit
  | 0, i, S => match get S i with
    | some none => .ok () S
    | _ => .no
  | n + 1, i, S => match get S i with
    | none => .no
    | some none => .ok () S
    | some (some x) => match t x fw S with
      | none => .no
      | some f2 => (c f2 S).noex.bind fun b S1 => if b = true then (e f2 S1).noex.bind fun y S2 => (app r y S2).bind fun _ S3 => lcL get r t c e fw n (i + 1) S3 else lcL get r t c e fw n (i + 1) S1
def lc (it : MIt) (vs : List Nat) (t : MG) (c : MT) (e : ME) : ME := fun f S => (it f S).bind fun p S1 => (lcL p.2 S1.length t c e (wipeF f vs) p.1 0 (S1 ++ [.lst []])).bind fun _ S2 => .ok (W.ref S1.length) S2
def yes : MT := fun _ S => .ok true S
end M
section
variable {X : Cx} {E : EX}
theorem PTs.imp {e : List Expr} {t t' : TT} (h : PTs X e t) (i : ∀ s H Q, t' s H Q → t s H Q) : PTs X e t' := ⟨fun pins sh s H Q I q => h.run pins sh s H Q I (i s H Q q)⟩
theorem ts_nil : PTs X [] (tT X.K E M.yes) := PTs.imp pts_nil fun s H Q ⟨m, S, f, rs, rf, q⟩ => q.here rs rfl
theorem ts_one {c : Expr} {g : MT} (h : PT X c (tT X.K E g)) : PTs X [c] (tT X.K E g) := pts_one h
theorem lc_at {K : PySem.W.Frag} {g : MIt} {vs js : List Nat} {t : M.MG} {c : MT} {e : ME} {s : St} {H : Hp} {Q : VK} (hj : ∀ j ∈ js, j ∈ vs) (h : tE K E (M.lc g vs t c e) s H Q) :
    tLc (tI K E g) (tG K t js) (tT K EX0 c) (tE K EX0 e) vs s H Q := by
  refine tM.imp (tM.seq (R := RIt K) (g := g) (k := fun f p S1 => (M.lcL p.2 S1.length t c e (wipeF f vs) p.1 0 (S1 ++ [.lst []])).bind fun _ S2 => .ok (W.ref S1.length) S2) h) fun J H1 ⟨m1, S1, f, p, rs1, rf1, it, q⟩ => ?_
  obtain ⟨n, get⟩ := p
  intro D hD
  obtain ⟨b1, b2, b3, b4⟩ := rs1.newList (ws := []) (vs := []) hD .nil
  have hD' : (m1 ++ [D])[S1.length]? = some D := by
    rw [← rs1.len]
    exact List.getElem?_concat_length
  refine ⟨fun i n H' => ∃ mm S, Pre (m1 ++ [D]) mm ∧ Stay K H1 H' ∧ RS K mm S H' ∧ Post K (E s) (RV K) mm H' ((M.lcL get S1.length t c e (wipeF f vs) n i S).bind fun _ S2 => .ok (W.ref S1.length) S2) Q,
    ⟨n, m1 ++ [D], _, List.prefix_refl _, b2, b3, q.mono b1 b2⟩, ?_⟩
  rintro i n H2 ⟨mm, S, pm, st, rs, q⟩
  have pD : mm[S1.length]? = some D := pm.get hD'
  have p1 : Pre m1 mm := b1.trans pm
  have stop : get S i = some none → Post K (E s) (RV K) mm H2 ((Rs.ok () S).bind fun _ S2 => .ok (W.ref S1.length) S2) Q → (J.stop i H2 ∧ Q (.ref D) H2) := fun e q => ⟨it.stop mm S H2 i p1 st rs e, q.here rs (.ref pD)⟩
  cases n with
  | zero =>
    unfold M.lcL at q
    split at q
    · rename_i eg
      exact Or.inl (stop eg q)
    · exact False.elim q
  | succ n =>
    unfold M.lcL at q
    split at q
    · exact False.elim q
    · rename_i eg
      exact Or.inl (stop eg q)
    · rename_i x eg
      split at q
      · exact False.elim q
      · rename_i f2 ef
        obtain ⟨go, yl⟩ := it.go mm S H2 i x p1 st rs eg
        refine Or.inr ⟨go, _, fun H' z => ⟨n, Nat.lt_succ_self _, z⟩, fun v H3 y => ?_⟩
        obtain ⟨st3, rs3, rv3⟩ := yl v H3 y
        have rfw : RF K mm H3 (wipeF f vs) (L2.wipe s vs) := (rf1.mono p1 (st.trans st3)).wipe vs
        refine ⟨mm, S, wipeF f vs, x, f2, rs3, rfw, rv3, ef, fun s' rf' hl hk => ⟨?_, ?_⟩⟩
        · refine wipe_same ?_ fun j hj' => ?_
          · rw [hl, wipe_length]
          · rw [hk j fun z => hj' (hj j z), wipe_out hj']
        · refine ⟨mm, S, f2, rs3, rf', ?_⟩
          have q3 : Post K (E s) (RV K) mm H3 ((c f2 S).noex.bind fun b S1' => (if b = true then (e f2 S1').noex.bind fun y S2 => (M.app S1.length y S2).bind fun _ S3 => M.lcL get S1.length t c e (wipeF f vs) n (i + 1) S3 else M.lcL get S1.length t c e (wipeF f vs) n (i + 1) S1').bind fun _ S2 => .ok (W.ref S1.length) S2) Q := by
            have q2 := q.mono (List.prefix_refl _) st3
            cases hc : c f2 S with
            | ok b S9 =>
              rw [hc] at q2
              exact q2
            | ex _ _ =>
              rw [hc] at q2
              exact q2
            | no =>
              rw [hc] at q2
              exact q2
          refine q3.bindN.imp fun b H4 ⟨m4, S4, b', p4, st4, rs4, eb, q4⟩ => ?_
          cases eb
          cases b with
          | false =>
            rw [if_neg Bool.false_ne_true] at q4 ⊢
            exact ⟨m4, S4, pm.trans p4, (st.trans st3).trans st4, rs4, q4⟩
          | true =>
            rw [if_pos rfl] at q4 ⊢
            refine ⟨m4, S4, f2, rs4, rf'.mono p4 st4, ?_⟩
            have q5 : Post K (E s) (RV K) m4 H4 ((e f2 S4).noex.bind fun y S2 => ((M.app S1.length y S2).bind fun _ S3 => M.lcL get S1.length t c e (wipeF f vs) n (i + 1) S3).bind fun _ S2 => .ok (W.ref S1.length) S2) Q := by
              cases hc : e f2 S4 with
              | ok b S9 =>
                rw [hc] at q4
                exact q4
              | ex _ _ =>
                rw [hc] at q4
                exact q4
              | no =>
                rw [hc] at q4
                exact q4
            refine q5.bindN.imp fun y H5 ⟨m5, S5, y', p5, st5, rs5, ry, q6⟩ => ?_
            have pD5 : m5[S1.length]? = some D := Pre.get (p4.trans p5) pD
            unfold M.app at q6
            split at q6
            · rename_i acc ea
              split at q6
              · rename_i hl5
                obtain ⟨us, e1, e2⟩ := rs5.ob _ _ _ ea pD5
                have so : Soft (H5 D) := by
                  rw [e1]
                  trivial
                refine ⟨us, e1, by rw [← e2.length]; exact lim_lt hl5, m5, _, pm.trans (p4.trans p5), (((st.trans st3).trans st4).trans st5).trans (Stay.upd so), rs5.put ea pD5 ?_, q6.mono (List.prefix_refl _) (Stay.upd so)⟩
                exact ⟨_, upd_same, (e2.append (.one ry)).mono (List.prefix_refl _) (Stay.upd so)⟩
              · exact False.elim q6
            · exact False.elim q6
theorem e_lc {elt tg iter : Expr} {ifs : List Expr} {scope : Scope} {own : List (Str × Nat)} {pos : Pos} {g : MIt} {t : M.MG} {js : List Nat} {c : MT} {e : ME} (rm : Rm X) (hN : X.N.Nodup) (hi : PI X tg iter (tI X.K E g)) (ok : BlkOk X.N X.env.scope scope own) (hj : ∀ j ∈ js, j ∈ own.map (·.2))
    (hg : ∀ (s : Shared) (H : Hp) (C : Addr) (cl : List (Str × Addr)) (fp : List Addr), PG (X.blk s H scope (compEnvC scope cl C X.env) fp) tg (tG X.K t js)) (ht : ∀ (s : Shared) (H : Hp) (C : Addr) (cl : List (Str × Addr)) (fp : List Addr), PTs (X.blk s H scope (compEnvC scope cl C X.env) fp) ifs (tT X.K EX0 c))
    (he : ∀ (s : Shared) (H : Hp) (C : Addr) (cl : List (Str × Addr)) (fp : List Addr), PE (X.blk s H scope (compEnvC scope cl C X.env) fp) elt (tE X.K EX0 e)) (hs : ∀ x, foldedSetIterable iter X.env x = pure x := by intro _; rfl) :
    PE X (.ListComp elt [⟨tg, iter, ifs, 0⟩] scope pos) (tE X.K E (M.lc g (own.map (·.2)) t c e)) :=
  PE.imp (pe_lc rm.calm hN hi ok hg ht he hs) fun s H Q h => lc_at hj h
theorem s_setLc {i : Nat} {y : Str} {py : Pos} {elt tg iter : Expr} {ifs : List Expr} {scope : Scope} {own : List (Str × Nat)} {pos spos : Pos} {g : MIt} {t : M.MG} {js : List Nat} {c : MT} {e : ME} (rm : Rm X) (hN : X.N.Nodup) (hi : PI X tg iter (tI X.K E g)) (ok : BlkOk X.N X.env.scope scope own) (hj : ∀ j ∈ js, j ∈ own.map (·.2))
    (hg : ∀ (s : Shared) (H : Hp) (C : Addr) (cl : List (Str × Addr)) (fp : List Addr), PG (X.blk s H scope (compEnvC scope cl C X.env) fp) tg (tG X.K t js)) (ht : ∀ (s : Shared) (H : Hp) (C : Addr) (cl : List (Str × Addr)) (fp : List Addr), PTs (X.blk s H scope (compEnvC scope cl C X.env) fp) ifs (tT X.K EX0 c))
    (he : ∀ (s : Shared) (H : Hp) (C : Addr) (cl : List (Str × Addr)) (fp : List Addr), PE (X.blk s H scope (compEnvC scope cl C X.env) fp) elt (tE X.K EX0 e)) (hs : ∀ x, foldedSetIterable iter X.env x = pure x := by intro _; rfl)
    (hy : X.N[i]? = some y := by rfl) (hyl : X.env.scope.names.lookup y = some .local := by rfl) (hsw : swapsWith (.ListComp elt [⟨tg, iter, ifs, 0⟩] scope pos) (some (.Name y py)) spos.line X.env = pure true := by exact sw_true rfl rfl rfl (by decide +kernel)) :
    PS X (.Assign [.Name y py] (.ListComp elt [⟨tg, iter, ifs, 0⟩] scope pos) spos) (tS X.K E (M.asg (M.lc g (own.map (·.2)) t c e) (M.tgN i))) := by
  refine PS.imp (ps_setLc rm.calm hN hy hyl hsw hi ok hg ht he hs) fun D s H q => ?_
  refine lc_at (E := E) hj (tM.imp (tS.first (R := RV X.K) q) fun v H1 ⟨m, S, f, w, rs, rf, rv, q⟩ => ?_)
  exact PostS.next (f := f.set i (some w)) q rs (rf.set rv i)
end
end Wo
set_option maxRecDepth 100000
set_option maxHeartbeats 4000000
namespace Wo
open PySem L2
/-! W8: loops; stores into lists and dicts; methods. -/
namespace M
def forL (get : Get) (t : MG) (body : MS) : Nat → Nat → MS
  | 0, i, f, S => match get S i with
    | some none => .ok (.next f) S
    | _ => .no
  | n + 1, i, f, S => match get S i with
    | none => .no
    | some none => .ok (.next f) S
    | some (some x) => match t x f S with
      | none => .no
      | some f2 => match body f2 S with
        | .ok (.next f3) S3 => forL get t body n (i + 1) f3 S3
        | .ok (.cont f3) S3 => forL get t body n (i + 1) f3 S3
        | .ok (.brk f3) S3 => .ok (.next f3) S3
        | .ok (.ret w) S3 => .ok (.ret w) S3
        | .ex e f3 S3 => .ex e f3 S3
        | .no => .no
def forS (it : MIt) (t : MG) (body : MS) : MS := thenS it fun p f S => forL p.2 t body p.1 0 f S
def whlL (c : MT) (body : MS) : Nat → MS
  | 0, _, _ => .no
  | n + 1, f, S => match c f S with
    | .ok true S1 => (match body f S1 with
      | .ok (.next f3) S3 => whlL c body n f3 S3
      | .ok (.cont f3) S3 => whlL c body n f3 S3
      | .ok (.brk f3) S3 => .ok (.next f3) S3
      | .ok (.ret w) S3 => .ok (.ret w) S3
      | .ex e f3 S3 => .ex e f3 S3
      | .no => .no)
    | .ok false S1 => .ok (.next f) S1
    | .ex e S1 => .ex e f S1
    | .no => .no
def turns : Nat := 1000000
def whl (c : MT) (body : MS) : MS := whlL c body turns
end M
section
variable {X : Cx} {E : EX} {pos : Pos}
theorem s_for {tg iter : Expr} {body : List Stmt} {g : MIt} {t : M.MG} {js : List Nat} {b : MS} (hp : PassesOwn (model X.prog X.w) X.A X.env X.xe) (rm : Rm X) (hi : PI X tg iter (tI X.K E g)) (hg : PG X tg (tG X.K t js)) (hb : PSs X body (tS X.K E b))
    (hs : ∀ x, foldedSetIterable iter X.env x = pure x := by intro _; rfl) : PS X (.For tg iter body [] pos) (tS X.K E (M.forS g t b)) := by
  refine PS.imp (ps_for hp rm.calm hi hg hb hs) fun D s H q => ?_
  refine tM.imp (tS.first (R := RIt X.K) q) fun J H1 ⟨m1, S1, f1, p, rs1, rf1, it, q⟩ => ?_
  obtain ⟨n, get⟩ := p
  refine ⟨fun i n s' H' => ∃ mm S f, Pre m1 mm ∧ Stay X.K H1 H' ∧ RS X.K mm S H' ∧ RF X.K mm H' f s' ∧ PostS X.K E mm H' (M.forL get t b n i f S) D, ⟨n, m1, S1, f1, List.prefix_refl _, Stay.refl _, rs1, rf1, q⟩, ?_⟩
  rintro i n s2 H2 ⟨mm, S, f, pm, st, rs, rf, q⟩
  cases n with
  | zero =>
    unfold M.forL at q
    split at q
    · rename_i eg
      exact Or.inl ⟨it.stop mm S H2 i pm st rs eg, q.next rs rf⟩
    · exact False.elim q
  | succ n =>
    unfold M.forL at q
    split at q
    · exact False.elim q
    · rename_i eg
      exact Or.inl ⟨it.stop mm S H2 i pm st rs eg, q.next rs rf⟩
    · rename_i x eg
      split at q
      · exact False.elim q
      · rename_i f2 ef
        obtain ⟨go, yl⟩ := it.go mm S H2 i x pm st rs eg
        refine Or.inr ⟨go, _, fun s' H' z => ⟨n, Nat.lt_succ_self _, z⟩, fun v H3 y => ?_⟩
        obtain ⟨st3, rs3, rv3⟩ := yl v H3 y
        refine ⟨mm, S, f, x, f2, rs3, rf.mono (List.prefix_refl _) st3, rv3, ef, fun s' rf' hl hk => ?_⟩
        refine ⟨mm, S, f2, rs3, rf', ?_⟩
        have q2 := q.mono (List.prefix_refl _) st3
        cases hc : b f2 S with
        | no =>
          rw [hc] at q2
          exact q2
        | ex e f3 S3 =>
          rw [hc] at q2
          exact q2
        | ok l S3 =>
          rw [hc] at q2
          cases l with
          | ret w => exact q2
          | brk f3 => exact q2
          | next f3 => exact fun m' H' s' p' st' rs' rf' => ⟨m', S3, f3, pm.trans p', (st.trans st3).trans st', rs', rf', q2.mono p' st'⟩
          | cont f3 => exact fun m' H' s' p' st' rs' rf' => ⟨m', S3, f3, pm.trans p', (st.trans st3).trans st', rs', rf', q2.mono p' st'⟩
theorem s_while {c : Expr} {body : List Stmt} {gc : MT} {b : MS} (hp : PassesOwn (model X.prog X.w) X.A X.env X.xe) (hc : PT X c (tT X.K E gc)) (hb : PSs X body (tS X.K E b)) : PS X (.While c body [] pos) (tS X.K E (M.whl gc b)) := by
  refine PS.imp (ps_while hp hc hb) fun D s H q => ?_
  refine ⟨fun n s' H' => ∃ mm S f, RS X.K mm S H' ∧ RF X.K mm H' f s' ∧ PostS X.K E mm H' (M.whlL gc b n f S) D, ⟨M.turns, q⟩, ?_⟩
  rintro n s2 H2 ⟨mm, S, f, rs, rf, q⟩
  cases n with
  | zero => exact False.elim q
  | succ n =>
    refine ⟨mm, S, f, rs, rf, ?_⟩
    unfold M.whlL at q
    cases hcc : gc f S with
    | no =>
      rw [hcc] at q
      exact q
    | ex e S1 =>
      rw [hcc] at q
      exact fun m' H' d p' st' rs' rx => q m' H' s2 d p' st' rs' (rf.mono p' st') rx
    | ok k S1 =>
      rw [hcc] at q
      intro m' H' k' p' st' rs' ek
      cases ek
      cases k with
      | false =>
        rw [if_neg Bool.false_ne_true]
        exact q m' H' s2 p' st' rs' (rf.mono p' st')
      | true =>
        rw [if_pos rfl]
        refine ⟨_, fun s' H' z => ⟨n, Nat.lt_succ_self _, z⟩, m', S1, f, rs', rf.mono p' st', ?_⟩
        have q2 := q.mono p' st'
        dsimp only at q2
        cases hb2 : b f S1 with
        | no =>
          rw [hb2] at q2
          exact q2
        | ex e f3 S3 =>
          rw [hb2] at q2
          exact q2
        | ok l S3 =>
          rw [hb2] at q2
          cases l with
          | ret w => exact q2
          | brk f3 => exact q2
          | next f3 => exact fun m2 H2 s3 p2 st2 rs2 rf2 => ⟨m2, S3, f3, rs2, rf2, q2.mono p2 st2⟩
          | cont f3 => exact fun m2 H2 s3 p2 st2 rs2 rf2 => ⟨m2, S3, f3, rs2, rf2, q2.mono p2 st2⟩
end

/-! ### stores -/
namespace M
def putW (kvs : List (Key × W)) (k : Key) (v : W) : List (Key × W) := if kvs.any (fun kv => decide (kv.1 = k)) then kvs.map (fun kv => if kv.1 = k then (kv.1, v) else kv) else kvs ++ [(k, v)]
/-- o[i] = v -/
def setW (o i v : W) (S : Store) : Option Store := match o with
  | .ref r => match S[r]? with
    | some (.lst xs) => match i with
      | .int k => match ixN xs.length k with
        | some j => some (S.set r (.lst (xs.set j v)))
        | none => none
      | _ => none
    | some (.dK kvs) => match keyOf i with
      | some k => if kvs.length < lim then some (S.set r (.dK (putW kvs k v))) else none
      | none => none
    | none => none
  | _ => none
def setSub (v o i : ME) : MS := fun f S => match v f S with
  | .no => .no
  | .ex e S1 => .ex e f S1
  | .ok x S1 => match o f S1 with
    | .no => .no
    | .ex e S2 => .ex e f S2
    | .ok y S2 => match i f S2 with
      | .no => .no
      | .ex e S3 => .ex e f S3
      | .ok z S3 => match setW y z x S3 with
        | some S4 => .ok (.next f) S4
        | none => .no
end M
end Wo
set_option maxRecDepth 100000
set_option maxHeartbeats 4000000
namespace Wo
open PySem L2
/-! W9: stores into lists and dicts, methods of lists, dicts made. -/
theorem soft_lst {H : Hp} {a : Addr} {vs : List V} (h : H a = some (.lst vs)) : Soft (H a) := by
  rw [h]
  trivial
theorem rkv_put {K : PySem.W.Frag} {m : List Addr} {H : Hp} {k : Key} {w : W} {v : V} (r : RV K m H w v) : ∀ {l : List (Key × W)} {l' : List (Key × V)}, RKV K m H l l' → RKV K m H (M.putW l k w) (putK l' k v) := by
  intro l l' h
  have hany : (l.any fun kv => decide (kv.1 = k)) = (l'.any fun kv => decide (kv.1 = k)) := by
    induction h with
    | nil => rfl
    | cons p t ih =>
      rw [List.any_cons, List.any_cons, ih, p.1]
  have hmap : RKV K m H (l.map fun kv => if kv.1 = k then (kv.1, w) else kv) (l'.map fun kv => if kv.1 = k then (kv.1, v) else kv) := by
    clear hany
    induction h with
    | nil => exact .nil
    | @cons a b _ _ p t ih =>
      refine .cons ?_ ih
      obtain ⟨p1, p2⟩ := p
      by_cases hk : a.1 = k
      · have hk' : b.1 = k := p1 ▸ hk
        dsimp only
        rw [if_pos hk, if_pos hk']
        exact ⟨p1, r⟩
      · have hk' : ¬ b.1 = k := fun z => hk (p1.trans z)
        dsimp only
        rw [if_neg hk, if_neg hk']
        exact ⟨p1, p2⟩
  have happ : RKV K m H (l ++ [(k, w)]) (l' ++ [(k, v)]) := by
    clear hany hmap
    induction h with
    | nil => exact .cons ⟨rfl, r⟩ .nil
    | cons p t ih => exact .cons p ih
  unfold M.putW putK
  rw [hany]
  split
  · exact hmap
  · exact happ
def rSet (K : PySem.W.Frag) : TSet := fun o i v H Q => ∃ m S wo wi wv S', RS K m S H ∧ RV K m H wo o ∧ RV K m H wi i ∧ RV K m H wv v ∧ M.setW wo wi wv S = some S' ∧ ∀ H', Stay K H H' → RS K m S' H' → Q H'
section
variable {X : Cx} {E : EX} {pos : Pos}
theorem set_any (rm : Rm X) : PSet X (rSet X.K) := by
  intro pins s σ H o i v ov iv u Q I ro ri rv h
  obtain ⟨m, S, wo, wi, wv, S', rs, r1, r2, r3, e, q⟩ := h
  cases r1 <;> simp only [M.setW] at e <;> try (cases e)
  rename_i r a hr
  split at e
  · rename_i xs ex
    split at e
    · rename_i k
      cases r2
      split at e
      · rename_i j hj
        cases e
        obtain ⟨vs, h1, h2⟩ := rs.ob _ _ _ ex hr
        have so : Soft (H a) := by rw [h1]; trivial
        refine set_list pins s σ H _ _ v ov iv u Q I ro ri rv ⟨a, vs, k, j, rfl, rfl, h1, by rw [← h2.length]; exact hj, q _ (Stay.upd so) (rs.put ex hr ?_)⟩
        exact ⟨_, upd_same, (h2.set r3 j).mono (List.prefix_refl _) (Stay.upd so)⟩
      · cases e
    · cases e
  · rename_i kvs ex
    split at e
    · rename_i k hk
      split at e
      · rename_i hl
        cases e
        obtain ⟨ls, h1, h2⟩ := rs.ob _ _ _ ex hr
        have so : Soft (H a) := by rw [h1]; trivial
        have ei := keyOf_rel hk r2
        subst ei
        cases ro
        refine d_setItem (A := X.A) (by have := rm.un; omega) I (DPut.k (k := k) h1 (by rw [← rkv_len h2]; exact lim_lt hl)) ri rv fun s' I' => ⟨_, I', q _ (Stay.upd so) (rs.put ex hr ?_)⟩
        exact ⟨_, upd_same, (rkv_put r3 h2).mono (List.prefix_refl _) (Stay.upd so)⟩
      · cases e
    · cases e
  · cases e
theorem s_set {o i e : Expr} {go gi ge : ME} {pos' : Pos} (rm : Rm X) (he : PE X e (tE X.K E ge)) (ho : PE X o (tE X.K E go)) (hi : PE X i (tE X.K E gi))
    (ha : ∀ v, assign (.Subscript o i pos') X.env v = (do
      let ov ← holding [v] (eval o X.env)
      let iv ← holding [v, ov] (eval i X.env)
      standAt pos'
      holding [v, ov, iv] (setItem ov iv v)
      release [v, ov, iv] []) := by intro _; rfl) (hs : swapsWithSole [.Subscript o i pos'] e pos.line X.env = pure false := by rfl) (hw : swappedStores [.Subscript o i pos'] e X.env = pure none := by rfl)
    (h1 : (assignEach [.Subscript o i pos'] X.env).map (·.2) = [assign (.Subscript o i pos') X.env] := by rfl) : PS X (.Assign [.Subscript o i pos'] e pos) (tS X.K E (M.setSub ge go gi)) := by
  refine PS.imp (ps_asg he (pg_sub ho hi (set_any rm) ha) hs hw h1) fun D s H ⟨m, S, f, rs, rf, q⟩ => ?_
  refine ⟨m, S, f, rs, rf, ?_⟩
  unfold M.setSub at q
  cases e1 : ge f S with
  | no =>
    rw [e1] at q
    exact q
  | ex x S1 =>
    rw [e1] at q
    exact fun m' H' d p' st' rs' rx => q m' H' s d p' st' rs' (rf.mono p' st') rx
  | ok x S1 =>
    rw [e1] at q
    intro m1 H1 v1 p1 st1 rs1 rv1
    refine ⟨m1, S1, f, rs1, rf.mono p1 st1, ?_⟩
    have q := q.mono p1 st1
    dsimp only at q
    cases e2 : go f S1 with
    | no =>
      rw [e2] at q
      exact q
    | ex x S2 =>
      rw [e2] at q
      exact fun m' H' d p' st' rs' rx => q m' H' s d p' st' rs' ((rf.mono p1 st1).mono p' st') rx
    | ok y S2 =>
      rw [e2] at q
      intro m2 H2 v2 p2 st2 rs2 rv2
      refine ⟨m2, S2, f, rs2, (rf.mono p1 st1).mono p2 st2, ?_⟩
      have q := q.mono p2 st2
      dsimp only at q
      cases e3 : gi f S2 with
      | no =>
        rw [e3] at q
        exact q
      | ex x S3 =>
        rw [e3] at q
        exact fun m' H' d p' st' rs' rx => q m' H' s d p' st' rs' (((rf.mono p1 st1).mono p2 st2).mono p' st') rx
      | ok z S3 =>
        rw [e3] at q
        intro m3 H3 v3 p3 st3 rs3 rv3
        have q := q.mono p3 st3
        dsimp only at q
        split at q
        · rename_i S4 e4
          refine ⟨m3, S3, y, z, x, S4, rs3, rv2.mono p3 st3, rv3, (rv1.mono p2 st2).mono p3 st3, e4, fun H4 st4 rs4 => ?_⟩
          exact q m3 H4 s (List.prefix_refl _) st4 rs4 ((((rf.mono p1 st1).mono p2 st2).mono p3 st3).mono (List.prefix_refl _) st4)
        · exact False.elim q
end

/-! ### methods of lists -/
namespace M
def isLst (w : W) (S : Store) : Bool := match w with
  | .ref r => match S[r]? with
    | some (.lst _) => true
    | _ => false
  | _ => false
def mth (g : W → List W → Store → Rs W) (o : ME) (as : MA) : ME := fun f S => (o f S).bind fun x S1 => if isLst x S1 = true then (as f S1).bind fun ws S2 => g x ws S2 else .no
def appM : W → List W → Store → Rs W := fun x ws S => match x, ws with
  | .ref r, [y] => match S[r]? with
    | some (.lst xs) => if xs.length < lim then .ok .non (S.set r (.lst (xs ++ [y]))) else .no
    | _ => .no
  | _, _ => .no
def popM : W → List W → Store → Rs W := fun x ws S => match x, ws with
  | .ref r, [] => match S[r]? with
    | some (.lst xs) => match xs[xs.length - 1]? with
      | some y => .ok y (S.set r (.lst xs.dropLast))
      | none => .no
    | _ => .no
  | .ref r, [.int i] => match S[r]? with
    | some (.lst xs) => if 0 ≤ i ∧ i < xs.length ∧ xs.length ≤ lim then (match xs[i.toNat]? with
      | some y => .ok y (S.set r (.lst (xs.eraseIdx i.toNat)))
      | none => .no) else .no
    | _ => .no
  | _, _ => .no
def extM : W → List W → Store → Rs W := fun x ws S => match x, ws with
  | .ref r, [.ref q] => match S[r]?, S[q]? with
    | some (.lst xs), some (.lst ys) => if xs.length + ys.length ≤ lim then .ok .non (S.set r (.lst (xs ++ ys))) else .no
    | _, _ => .no
  | _, _ => .no
end M
theorem isLst_rel {K : PySem.W.Frag} {m : List Addr} {H : Hp} {S : Store} {w : W} {v : V} (rs : RS K m S H) (r : RV K m H w v) (h : M.isLst w S = true) : tyV K "list" v H := by
  cases r <;> simp only [M.isLst] at h <;> try (cases h)
  rename_i r a hr
  split at h
  · rename_i xs e
    obtain ⟨vs, h1, h2⟩ := rs.ob _ _ _ e hr
    exact Or.inl ⟨rfl, vs, SqL.of h1⟩
  · cases h
def rMth (K : PySem.W.Frag) (E : XK) (g : W → List W → Store → Rs W) : V → List V → Hp → VK → Prop := fun x xs H Q => ∃ m S a ws, RS K m S H ∧ RV K m H a x ∧ RVs K m H ws xs ∧ Post K E (RV K) m H (g a ws S) Q
section
variable {X : Cx} {E : EX} {o e : Expr} {es : List Expr} {apos cpos : Pos} {name : Str} {id : String}
theorem mth_at {K : PySem.W.Frag} {go : ME} {gs : MA} {g : W → List W → Store → Rs W} {s : St} {H : Hp} {Q : VK} (h : tE K E (M.mth g go gs) s H Q) : tBM K "list" (rMth K (E s) g) (tE K E go) (tA K E gs) s H Q := by
  refine tM.imp (tM.seq (R := RV K) (g := go) (k := fun f x S1 => if M.isLst x S1 = true then (gs f S1).bind fun ws S2 => g x ws S2 else .no) h) fun x H1 ⟨m, S, f, a, rs, rf, rv, q⟩ => ?_
  split at q
  · rename_i hl
    refine ⟨isLst_rel rs rv hl, m, S, f, rs, rf, q.bind.imp fun xs H2 ⟨m1, S1, ws, p, st, rs1, rb, q1⟩ => ?_⟩
    exact ⟨m1, S1, a, ws, rs1, rv.mono p st, rb, q1⟩
  · exact False.elim q
theorem e_mth {go : ME} {gs : MA} {g : W → List W → Store → Rs W} (hm : ∀ E, MtR X id (rMth X.K E g)) (slot : Slot "list" name id) (hty : typeOf (.builtin id) = pure (.type "method_descriptor")) (ho : PE X o (tE X.K E go)) (ha : PA X (e :: es) (tA X.K E gs))
    (hbase : attributeBase o name X.env (eval o X.env) = eval o X.env := by rfl)
    (hfew : ((backTo cpos (starEach (e :: es) X.env)).all (fun x => !x.1) && (backToKw cpos (keywordEach [] X.env)).all (fun x => x.1.isSome)
      && decide ((e :: es).length + ([] : List Keyword).length + (if ([] : List Keyword).isEmpty then 0 else 1) < 30)) = true := by rfl)
    (hline : (apos.endLine == cpos.line) = true := by rfl) (hs : starEach (e :: es) X.env = (false, eval e X.env) :: starEach es X.env := by rfl) (hplain : (backTo cpos (starEach es X.env)).any (·.1) = false := by rfl) :
    PE X (.Call (.Attribute o name apos) (e :: es) [] cpos) (tE X.K E (M.mth g go gs)) :=
  ⟨fun pins sh s H Q I h => (pe_bm PySem.F.plainAttrs_list slot hty (hm (E s)) ho ha hbase hfew hline hs hplain).run pins sh s H Q I (mth_at h)⟩
theorem e_mth0 {go : ME} {g : W → List W → Store → Rs W} (hm : ∀ E, MtR X id (rMth X.K E g)) (slot : Slot "list" name id) (hty : typeOf (.builtin id) = pure (.type "method_descriptor")) (ho : PE X o (tE X.K E go))
    (hbase : attributeBase o name X.env (eval o X.env) = eval o X.env := by rfl) (hline : (apos.endLine == cpos.line) = true := by rfl) :
    PE X (.Call (.Attribute o name apos) [] [] cpos) (tE X.K E (M.mth g go M.nil)) := by
  refine ⟨fun pins sh s H Q I h => (pe_bm0 PySem.F.plainAttrs_list slot hty (hm (E s)) ho hbase hline).run pins sh s H Q I ?_⟩
  refine tM.imp (tM.seq (R := RV X.K) (g := go) (k := fun f x S1 => if M.isLst x S1 = true then (M.nil f S1).bind fun ws S2 => g x ws S2 else .no) h) fun x H1 ⟨m, S, f, a, rs, rf, rv, q⟩ => ?_
  split at q
  · rename_i hl
    exact ⟨isLst_rel rs rv hl, m, S, a, [], rs, rv, .nil, q⟩
  · exact False.elim q
theorem m_app {E : XK} : MtR X "list.append" (rMth X.K E M.appM) := by
  intro pins s σ H x xs v us Q I rx rxs h
  obtain ⟨m, S, a, ws, rs, ra, rw', q⟩ := h
  unfold M.appM at q
  split at q
  · rename_i r y
    cases ra with
    | ref hr =>
      obtain ⟨z, rfl, rz⟩ := rvs1 rw'
      split at q
      · rename_i ys e
        split at q
        · rename_i hl
          obtain ⟨vs, h1, h2⟩ := rs.ob _ _ _ e hr
          refine mt_append pins s σ H _ _ v us Q I rx rxs ⟨_, vs, z, rfl, rfl, h1, by rw [← h2.length]; exact lim_lt hl, ?_⟩
          have so := soft_lst h1
          exact q m _ _ (List.prefix_refl _) (Stay.upd so) (rs.put e hr ⟨_, upd_same, (h2.append (.one rz)).mono (List.prefix_refl _) (Stay.upd so)⟩) .non
        · exact False.elim q
      · exact False.elim q
  · exact False.elim q
theorem m_pop {E : XK} : MtR X "list.pop" (rMth X.K E M.popM) := by
  intro pins s σ H x xs v us Q I rx rxs h
  obtain ⟨m, S, a, ws, rs, ra, rw', q⟩ := h
  unfold M.popM at q
  split at q
  · rename_i r
    cases ra with
    | ref hr =>
      cases rw'
      split at q
      · rename_i ys e
        split at q
        · rename_i y hy
          obtain ⟨vs, h1, h2⟩ := rs.ob _ _ _ e hr
          obtain ⟨z, hz, rz⟩ := h2.get hy
          have so := soft_lst h1
          refine mt_pop pins s σ H _ _ v us Q I rx rxs ⟨_, vs, z, rfl, rfl, h1, by rw [← h2.length]; exact hz, ?_⟩
          exact q m _ _ (List.prefix_refl _) (Stay.upd so) (rs.put e hr ⟨_, upd_same, h2.dropLast.mono (List.prefix_refl _) (Stay.upd so)⟩) (rz.mono (List.prefix_refl _) (Stay.upd so))
        · exact False.elim q
      · exact False.elim q
  · rename_i r i
    cases ra with
    | ref hr =>
      obtain ⟨z0, rfl, r0⟩ := rvs1 rw'
      cases r0
      split at q
      · rename_i ys e
        split at q
        · rename_i hb
          split at q
          · rename_i y hy
            obtain ⟨vs, h1, h2⟩ := rs.ob _ _ _ e hr
            obtain ⟨z, hz, rz⟩ := h2.get hy
            have so := soft_lst h1
            have hl : M.lim = 100000 := rfl
            have hi : seqIndex? i vs.length = some i.toNat := by
              have hlen := h2.length
              unfold seqIndex?
              have a1 : ¬ i < 0 := by omega
              have a2 : (decide (0 ≤ i) && decide (i < (vs.length : Int))) = true := by
                rw [Bool.and_eq_true]
                exact ⟨decide_eq_true hb.1, decide_eq_true (by omega)⟩
              simp only [a1, if_false, a2, if_true]
            refine mt_popAt pins s σ H _ _ v us Q I rx rxs ⟨_, vs, i, i.toNat, z, rfl, rfl, h1, by omega, by omega, hi, hz, ?_⟩
            have er : RVs X.K m H (ys.eraseIdx i.toNat) (vs.eraseIdx i.toNat) := by
              rw [List.eraseIdx_eq_take_drop_succ, List.eraseIdx_eq_take_drop_succ]
              exact (h2.take _).append (h2.drop _)
            exact q m _ _ (List.prefix_refl _) (Stay.upd so) (rs.put e hr ⟨_, upd_same, er.mono (List.prefix_refl _) (Stay.upd so)⟩) (rz.mono (List.prefix_refl _) (Stay.upd so))
          · exact False.elim q
        · exact False.elim q
      · exact False.elim q
  · exact False.elim q
theorem m_ext {E : XK} : MtR X "list.extend" (rMth X.K E M.extM) := by
  intro pins s σ H x xs v us Q I rx rxs h
  obtain ⟨m, S, a, ws, rs, ra, rw', q⟩ := h
  unfold M.extM at q
  split at q
  · rename_i r y
    cases ra with
    | ref hr =>
      obtain ⟨z, rfl, rz⟩ := rvs1 rw'
      cases rz with
      | ref hz =>
        split at q
        · rename_i ys zs e e'
          split at q
          · rename_i hl
            obtain ⟨vs, h1, h2⟩ := rs.ob _ _ _ e hr
            obtain ⟨us', h3, h4⟩ := rs.ob _ _ _ e' hz
            have so := soft_lst h1
            refine mt_extend pins s σ H _ _ v us Q I rx rxs ⟨_, _, vs, us', rfl, rfl, h1, h3, lim_line (by rw [← h2.length, ← h4.length]; exact hl), ?_⟩
            exact q m _ _ (List.prefix_refl _) (Stay.upd so) (rs.put e hr ⟨_, upd_same, (h2.append h4).mono (List.prefix_refl _) (Stay.upd so)⟩) .non
          · exact False.elim q
        · exact False.elim q
  · exact False.elim q
end

/-! ### dicts -/
namespace M
def dnew : ME := fun _ S => .ok (.ref S.length) (S ++ [.dK []])
def dput (r : Nat) (k v : W) (S : Store) : Rs Unit := match keyOf k with
  | some kk => match S[r]? with
    | some (.dK kvs) => if kvs.length < lim then .ok () (S.set r (.dK (putW kvs kk v))) else .no
    | _ => .no
  | none => .no
def dcL (get : Get) (r : Nat) (t : MG) (c : MT) (k e : ME) (fw : Fr) : Nat → Nat → Store → Rs Unit
  | 0, i, S => match get S i with
    | some none => .ok () S
    | _ => .no
  | n + 1, i, S => match get S i with
    | none => .no
    | some none => .ok () S
    | some (some x) => match t x fw S with
      | none => .no
      | some f2 => (c f2 S).noex.bind fun b S1 => if b = true then (k f2 S1).noex.bind fun y S2 => (e f2 S2).noex.bind fun z S3 => (dput r y z S3).bind fun _ S4 => dcL get r t c k e fw n (i + 1) S4 else dcL get r t c k e fw n (i + 1) S1
def dc (it : MIt) (vs : List Nat) (t : MG) (c : MT) (k e : ME) : ME := fun f S => (it f S).bind fun p S1 => (dcL p.2 S1.length t c k e (wipeF f vs) p.1 0 (S1 ++ [.dK []])).bind fun _ S2 => .ok (W.ref S1.length) S2
end M
theorem RS.newDict {K : PySem.W.Frag} {m : List Addr} {S : Store} {H : Hp} {p : Addr} (rs : RS K m S H) (hp : H p = none) :
    Pre m (m ++ [p]) ∧ Stay K H (upd H p (.dK [])) ∧ RS K (m ++ [p]) (S ++ [.dK []]) (upd H p (.dK [])) ∧ RV K (m ++ [p]) (upd H p (.dK [])) (.ref S.length) (.ref p) := by
  have pr : Pre m (m ++ [p]) := List.prefix_append _ _
  refine ⟨pr, Stay.new hp, rs.push hp ⟨[], upd_same, .nil⟩, .ref ?_⟩
  rw [← rs.len]
  exact List.getElem?_concat_length
section
variable {X : Cx} {E : EX}
theorem e_dnew {pos : Pos} : PE X (.Dict [] [] pos) (tE X.K E M.dnew) := by
  refine PE.imp pe_dnewK fun s H Q ⟨m, S, f, rs, rf, q⟩ p hp => ?_
  obtain ⟨b1, b2, b3, b4⟩ := rs.newDict hp
  exact q _ _ _ b1 b2 b3 b4
theorem noexBind {α β γ : Type} {r : Rs α} {k : α → Store → Rs β} {l : β → Store → Rs γ} : ((r.noex.bind k).bind l) = r.noex.bind fun a S => (k a S).bind l := by
  cases r <;> rfl
theorem dc_at {K : PySem.W.Frag} {g : MIt} {vs js : List Nat} {t : M.MG} {c : MT} {kk e : ME} {s : St} {H : Hp} {Q : VK} (hj : ∀ j ∈ js, j ∈ vs) (h : tE K E (M.dc g vs t c kk e) s H Q) :
    tDc (tI K E g) (tG K t js) (tT K EX0 c) (tE K EX0 kk) (tE K EX0 e) vs s H Q := by
  refine tM.imp (tM.seq (R := RIt K) (g := g) (k := fun f p S1 => (M.dcL p.2 S1.length t c kk e (wipeF f vs) p.1 0 (S1 ++ [.dK []])).bind fun _ S2 => .ok (W.ref S1.length) S2) h) fun J H1 ⟨m1, S1, f, p, rs1, rf1, it, q⟩ => ?_
  obtain ⟨n, get⟩ := p
  intro D hD
  obtain ⟨b1, b2, b3, b4⟩ := rs1.newDict hD
  have hD' : (m1 ++ [D])[S1.length]? = some D := by
    rw [← rs1.len]
    exact List.getElem?_concat_length
  refine ⟨fun i n H' => ∃ mm S, Pre (m1 ++ [D]) mm ∧ Stay K H1 H' ∧ RS K mm S H' ∧ Post K (E s) (RV K) mm H' ((M.dcL get S1.length t c kk e (wipeF f vs) n i S).bind fun _ S2 => .ok (W.ref S1.length) S2) Q,
    ⟨n, m1 ++ [D], _, List.prefix_refl _, b2, b3, q.mono b1 b2⟩, ?_⟩
  rintro i n H2 ⟨mm, S, pm, st, rs, q⟩
  have pD : mm[S1.length]? = some D := pm.get hD'
  have p1 : Pre m1 mm := b1.trans pm
  have stop : get S i = some none → Post K (E s) (RV K) mm H2 ((Rs.ok () S).bind fun _ S2 => .ok (W.ref S1.length) S2) Q → (J.stop i H2 ∧ Q (.ref D) H2) := fun e q => ⟨it.stop mm S H2 i p1 st rs e, q.here rs (.ref pD)⟩
  cases n with
  | zero =>
    unfold M.dcL at q
    split at q
    · rename_i eg
      exact Or.inl (stop eg q)
    · exact False.elim q
  | succ n =>
    unfold M.dcL at q
    split at q
    · exact False.elim q
    · rename_i eg
      exact Or.inl (stop eg q)
    · rename_i x eg
      split at q
      · exact False.elim q
      · rename_i f2 ef
        obtain ⟨go, yl⟩ := it.go mm S H2 i x p1 st rs eg
        refine Or.inr ⟨go, _, fun H' z => ⟨n, Nat.lt_succ_self _, z⟩, fun v H3 y => ?_⟩
        obtain ⟨st3, rs3, rv3⟩ := yl v H3 y
        have rfw : RF K mm H3 (wipeF f vs) (L2.wipe s vs) := (rf1.mono p1 (st.trans st3)).wipe vs
        refine ⟨mm, S, wipeF f vs, x, f2, rs3, rfw, rv3, ef, fun s' rf' hl hk => ⟨?_, ?_⟩⟩
        · refine wipe_same ?_ fun j hj' => ?_
          · rw [hl, wipe_length]
          · rw [hk j fun z => hj' (hj j z), wipe_out hj']
        · refine ⟨mm, S, f2, rs3, rf', ?_⟩
          rw [noexBind] at q
          refine (q.mono (List.prefix_refl _) st3).bindN.imp fun b H4 ⟨m4, S4, b', p4, st4, rs4, eb, q4⟩ => ?_
          cases eb
          cases b with
          | false =>
            rw [if_neg Bool.false_ne_true] at q4 ⊢
            exact ⟨m4, S4, pm.trans p4, (st.trans st3).trans st4, rs4, q4⟩
          | true =>
            rw [if_pos rfl] at q4 ⊢
            rw [noexBind] at q4
            refine ⟨m4, S4, f2, rs4, rf'.mono p4 st4, q4.bindN.imp fun y H5 ⟨m5, S5, y', p5, st5, rs5, ry, q5⟩ => ?_⟩
            rw [noexBind] at q5
            refine ⟨m5, S5, f2, rs5, (rf'.mono p4 st4).mono p5 st5, q5.bindN.imp fun z H6 ⟨m6, S6, z', p6, st6, rs6, rz, q6⟩ => ?_⟩
            have pD6 : m6[S1.length]? = some D := Pre.get (p4.trans (p5.trans p6)) pD
            unfold M.dput at q6
            split at q6
            · rename_i k1 hk1
              split at q6
              · rename_i kvs ea
                split at q6
                · rename_i hl5
                  obtain ⟨us, e1, e2⟩ := rs6.ob _ _ _ ea pD6
                  have so : Soft (H6 D) := by
                    rw [e1]
                    trivial
                  refine ⟨us, k1, keyOf_rel hk1 ry, e1, by rw [← rkv_len e2]; exact lim_lt hl5, m6, _, pm.trans (p4.trans (p5.trans p6)), ((((st.trans st3).trans st4).trans st5).trans st6).trans (Stay.upd so), rs6.put ea pD6 ?_, q6.mono (List.prefix_refl _) (Stay.upd so)⟩
                  exact ⟨_, upd_same, (rkv_put rz e2).mono (List.prefix_refl _) (Stay.upd so)⟩
                · exact False.elim q6
              · exact False.elim q6
            · exact False.elim q6
theorem e_dc {kx vx tg iter : Expr} {ifs : List Expr} {scope : Scope} {own : List (Str × Nat)} {pos : Pos} {g : MIt} {t : M.MG} {js : List Nat} {c : MT} {k e : ME} (rm : Rm X) (hN : X.N.Nodup) (hi : PI X tg iter (tI X.K E g)) (ok : BlkOk X.N X.env.scope scope own) (hj : ∀ j ∈ js, j ∈ own.map (·.2))
    (hg : ∀ (s : Shared) (H : Hp) (C : Addr) (cl : List (Str × Addr)) (fp : List Addr), PG (X.blk s H scope (compEnvC scope cl C X.env) fp) tg (tG X.K t js)) (ht : ∀ (s : Shared) (H : Hp) (C : Addr) (cl : List (Str × Addr)) (fp : List Addr), PTs (X.blk s H scope (compEnvC scope cl C X.env) fp) ifs (tT X.K EX0 c))
    (hk : ∀ (s : Shared) (H : Hp) (C : Addr) (cl : List (Str × Addr)) (fp : List Addr), PE (X.blk s H scope (compEnvC scope cl C X.env) fp) kx (tE X.K EX0 k))
    (he : ∀ (s : Shared) (H : Hp) (C : Addr) (cl : List (Str × Addr)) (fp : List Addr), PE (X.blk s H scope (compEnvC scope cl C X.env) fp) vx (tE X.K EX0 e)) (hs : ∀ x, foldedSetIterable iter X.env x = pure x := by intro _; rfl) :
    PE X (.DictComp kx vx [⟨tg, iter, ifs, 0⟩] scope pos) (tE X.K E (M.dc g (own.map (·.2)) t c k e)) :=
  PE.imp (pe_dc rm.calm hN hi ok hg ht hk he hs) fun s H Q h => dc_at hj h
end
end Wo
set_option maxRecDepth 100000
set_option maxHeartbeats 4000000
namespace Wo
open PySem PySem.Spec PyProof.Rows L2
/-! W10: defs, where it is known that nothing is being shown (guards); their calls; the law's end. -/
structure FnG (P : Program) (w : World) (K : PySem.W.Frag) (mg : Str → Option Value) (base : Heap) (C : CXT) (k : Nat) (f : Addr) (fd : FuncData) (ps : List Str) (sp : Sp) : Prop where
  len : ∀ vs H Q E, sp vs H Q E → vs.length = ps.length
  run : ∀ (A : Around) (outer : List Env) (s : Shared) (H : Hp) (args : Args) (us : List Value) (vs : List V) (Q : VK) (E : XK), Room k A → A.guards = some [] → Env0 P w K mg base A outer s H → BindsTo s fd args (ps.zip us) → Vals vs us → sp vs H Q E →
    codeAny (model P w) A (.call (.ref f) args) (CR C outer P w H s Q E) s
theorem FnG.mono {P : Program} {w : World} {K : PySem.W.Frag} {mg : Str → Option Value} {base : Heap} {C : CXT} {j k : Nat} {f : Addr} {fd : FuncData} {ps : List Str} {sp : Sp} (F : FnG P w K mg base C j f fd ps sp) (h : j ≤ k) : FnG P w K mg base C k f fd ps sp :=
  ⟨F.len, fun A outer s H args us vs Q E hr => F.run A outer s H args us vs Q E (hr.mono h)⟩
section
variable {P : Program} {w : World} {K : PySem.W.Frag} {mg : Str → Option Value} {base : Heap} {C : CXT}
theorem fnG_of {x qual : Str} {st : Stmt} {f : Addr} {fd : FuncData} {N ps : List Str} {k : Nat} {sp : Sp} (F : Fun K x qual st f fd) (S : FnScope N ps (defScope st)) (len : ∀ vs H Q E, sp vs H Q E → vs.length = ps.length)
    (body : ∀ (cdv : Value) (A : Around) (outer : List Env) (s : Shared) (H : Hp) (vs : List V) (Q : VK) (E : XK), Room k (A.deeper (envOfC qual (defScope st) s.heap.objs.size f cdv)) → A.guards = some [] → sp vs H Q E →
      ∃ t, PSs (cxOf C P w K mg base N qual (defScope st) f cdv A outer s H E) (defBody st) t ∧ t { nx := fun _ H' => Q .non H', rt := Q } (start N vs) H) : FnG P w K mg base C (k + 1) f fd ps sp := by
  obtain ⟨oc, od, kV, doc, pm, an, cdv, ct, osl, rfl, lk, hcd⟩ := F.ex
  refine ⟨len, ?_⟩
  intro A outer s H args us vs Q E room guard e0 bind rel promise
  have inS : K.In s.heap := e0.mod.kin.keeps fun b o e => (e0.bs b o e).1
  have noLim : s.heap.NoLimit := e0.mod.nolimit.keeps fun b o e => (e0.bs b o e).1
  have kinds : ∀ y ∈ ps.zip us, (defScope st).names.lookup y.1 = some .local ∨ ((defScope st).names.lookup y.1 = some .cell ∧ ((cellsFrom (s.heap.objs.size + 1) (defScope st).names []).lookup y.1).isSome = true) := by
    rintro ⟨n, v⟩ hy
    exact (S.par n (List.of_mem_zip hy).1).imp id fun q => ⟨q, PySem.W.cellsFrom_some _ _ _ (Or.inl q)⟩
  refine codeAny_call_function room.depth (inS _ _ lk) rfl S.co S.gen rfl (PySem.W.codeRec_of inS hcd) (bind _ _ _ _ ?_)
  refine wpAny_newFunctionEnv_cells S.kind kinds fun env he s1 inc => ?_
  subst he
  refine ⟨noLim.keeps inc.toInCall.keep, codeAny_func ?_⟩
  obtain ⟨t, ht, hq⟩ := body cdv A outer s H vs Q E (room.deeper _) guard promise
  have I := inv_start (CX := C) (E := E) S room.hd e0 (len _ _ _ _ promise) rel inc
  refine wpAny_mono (ht.run [] s1 (start N vs) H _ I hq) (fun fl s' hs => ?_) fun e s' hs => hs
  cases fl with
  | brk => exact False.elim hs.choose_spec.choose_spec.2
  | cont => exact False.elim hs.choose_spec.choose_spec.2
  | ret u =>
    obtain ⟨v, σ', H', J, rv, q⟩ := hs
    exact ⟨v, H', J.os, J.bare, J.base, J.hok, rv, q⟩
  | next =>
    obtain ⟨σ', H', J, q⟩ := hs
    exact ⟨.non, H', J.os, J.bare, J.base, J.hok, rfl, q⟩
end
section
variable {X : Cx} {C : CXT} {k : Nat} {f : Addr} {fd : FuncData} {ps : List Str} {sp : Sp} {E : XK} {x : Str} {p pos : Pos} {e : Expr} {es : List Expr} {t : TA}
theorem run_G {pins : List (Addr × Obj)} {σ : L2.St} {H : Hp} {s : Shared} {Q : VK} {us : List Value} {vs : List V} (F : FnG X.prog X.w X.K X.mg X.base C k f fd ps sp) (hr : Room k X.A) (hG : X.A.guards = some []) (hb : Binds X.K fd ps []) (hx : Passes C X E)
    (I : Inv X pins σ H s) (r : Vals vs us) (h : sp vs H Q E) : wpAny (model X.prog X.w) X.A (call (.ref f) us) (EP X pins σ Q) X.xe s := by
  have hl : us.length = ps.length := r.length.symm.trans (F.len _ _ _ _ h)
  have bd := hb s us I.kIn (by rw [List.append_nil]; exact hl)
  rw [List.append_nil] at bd
  refine wpAny_call (codeAny_mono (F.run X.A X.stack s H ⟨us, []⟩ us vs Q E hr hG I.env0 bd r h) ?_)
  rintro (ex | (_ | _ | _ | u)) s' hq
  · exact hx pins σ H s ex s' I hq
  · exact False.elim hq
  · exact False.elim hq
  · exact False.elim hq
  · exact I.after hq
theorem call_G (F : FnG X.prog X.w X.K X.mg X.base C k f fd ps sp) (hr : Room k X.A) (hG : X.A.guards = some []) (hg : Gl X x) (hm : X.mg x = some (.ref f)) (hk : PySem.W.keepIn X.K (.ref f) = true) (hb : Binds X.K fd ps []) (hx : Passes C X E)
    (ha : PA X (e :: es) t) (hdb : (x == ("__debug__" : Str)) = false) (he : starEach (e :: es) X.env = (false, eval e X.env) :: starEach es X.env) (hpl : (backTo pos (starEach es X.env)).any (·.1) = false) :
    PE X (.Call (.Name x p) (e :: es) [] pos) (fun σ H Q => t σ H fun vs H1 => sp vs H1 Q E) := by
  refine ⟨fun pins s σ H Q I h => wpAny_Call_Name_kw (ld_glob I hg hm ?_ hdb)⟩
  refine PySem.W.callWith_K (h₀ := X.base) I.ok.mod.kin hk (thn (ha.run pos pins s σ H _ I h) ?_) he hpl
  rintro us s1 ⟨vs, H1, I1, r, q⟩
  exact ⟨I1.kIn, run_G F hr hG hb hx I1 r q⟩
theorem call_G0 (F : FnG X.prog X.w X.K X.mg X.base C k f fd ps sp) (hr : Room k X.A) (hG : X.A.guards = some []) (hg : Gl X x) (hm : X.mg x = some (.ref f)) (hk : PySem.W.keepIn X.K (.ref f) = true) (hb : Binds X.K fd ps []) (hx : Passes C X E)
    (hdb : (x == ("__debug__" : Str)) = false) : PE X (.Call (.Name x p) [] [] pos) (fun σ H Q => sp [] H Q E) := by
  refine ⟨fun pins s σ H Q I h => wpAny_Call_Name_kw (ld_glob I hg hm ?_ hdb)⟩
  exact PySem.W.callWith_K0 I.kIn hk (run_G (us := []) F hr hG hb hx I .nil h)
end

/-! ### a def by its run -/
namespace M
def endF : RsS → Rs W
  | .ok (.next _) S1 => .ok .non S1
  | .ok (.ret w) S1 => .ok w S1
  | .ok _ _ => .no
  | .ex e _ S1 => .ex e S1
  | .no => .no
def fn (ar n : Nat) (body : MS) : List W → Store → Rs W := fun ws S => if ws.length = ar then endF (body (ws.map some ++ List.replicate (n - ar) none) S) else .no
end M
theorem fn_len {ar n : Nat} {body : MS} : ∀ ws S, ws.length ≠ ar → M.fn ar n body ws S = .no := fun ws S h => if_neg h
/-- a promise of a def that raises nothing -/
def sp0 (K : PySem.W.Frag) (n : Nat) (g : List W → Store → Rs W) : Sp := fun vs H Q _ => vs.length = n ∧ ∃ m S ws, RS K m S H ∧ RVs K m H ws vs ∧ Post K X0 (RV K) m H (g ws S) Q
theorem RF.start {K : PySem.W.Frag} {m : List Addr} {H : Hp} {ws : List W} {vs : List V} {N : List Str} (r : RVs K m H ws vs) : RF K m H (ws.map some ++ List.replicate (N.length - ws.length) none) (L2.start N vs) := by
  have hl := r.length
  unfold L2.start
  rw [hl]
  refine ⟨by simp [hl], fun i w e => ?_⟩
  by_cases hi : i < ws.length
  · rw [List.getElem?_append_left (by simpa using hi), List.getElem?_map] at e
    rw [List.getElem?_append_left (by simpa [← hl] using hi), List.getElem?_map]
    cases hw : ws[i]? with
    | none =>
      rw [hw] at e
      cases e
    | some u =>
      rw [hw] at e
      cases e
      obtain ⟨v, h1, h2⟩ := r.get hw
      exact ⟨v, by rw [h1]; rfl, h2⟩
  · rw [List.getElem?_append_right (by simpa using hi), List.getElem?_replicate] at e
    split at e <;> cases e
section
variable {P : Program} {w : World} {K : PySem.W.Frag} {mg : Str → Option Value} {base : Heap}
/-- a def that raises nothing, by the walk of its body -/
theorem ok0 {x qual : Str} {st : Stmt} {f : Addr} {fd : FuncData} {N ps : List Str} {k : Nat} {body : MS} (F : Fun K x qual st f fd) (S : FnScope N ps (defScope st))
    (h : ∀ X : Cx, X.K = K → X.mg = mg → X.prog = P → X.w = w → X.base = base → X.N = N → Rm X → Room k X.A → (∃ cdv A outer s H E, X = (cxOf CX0 P w K mg base N qual (defScope st) f cdv A outer s H E).nox) → PSs X (defBody st) (tS K EX0 body)) :
    FnG P w K mg base CX0 (k + 1) f fd ps (sp0 K ps.length (M.fn ps.length N.length body)) := by
  refine fnG_of F S (fun vs H Q E q => q.1) fun cdv A outer s H vs Q E hr hG q => ?_
  obtain ⟨hl, m, S0, ws, rs, rv, q⟩ := q
  have hw : ws.length = ps.length := rv.length.trans hl
  have rf := RF.start (N := N) rv
  rw [hw] at rf
  refine ⟨_, (h (cxOf CX0 P w K mg base N qual (defScope st) f cdv A outer s H E).nox rfl rfl rfl rfl rfl rfl ⟨by have := hr.un; show (A.deeper _).units + 200 < _; omega, hG, rfl⟩ hr ⟨_, _, _, _, _, _, rfl⟩).nox, m, S0, _, rs, rf, ?_⟩
  unfold M.fn at q
  rw [if_pos hw] at q
  cases e : body (ws.map some ++ List.replicate (N.length - ps.length) none) S0 with
  | no =>
    rw [e] at q
    exact q
  | ex x f1 S1 =>
    rw [e] at q
    exact fun m' H' s' d p st rs' rf' rx => q m' H' d p st rs' rx
  | ok l S1 =>
    rw [e] at q
    cases l with
    | next f1 => exact fun m' H' s' p st rs' rf' => q m' H' .non p st rs' .non
    | ret u => exact q
    | brk f1 => exact False.elim q
    | cont f1 => exact False.elim q
end
section
variable {X : Cx} {k : Nat} {f : Addr} {fd : FuncData} {ps : List Str} {x : Str} {p pos : Pos} {e : Expr} {es : List Expr}
theorem sp0_of {K : PySem.W.Frag} {n : Nat} {g : List W → Store → Rs W} (hl : ∀ ws S, ws.length ≠ n → g ws S = .no) {vs : List V} {H : Hp} {Q : VK} {E : XK} (h : rWs K X0 g vs H Q) : sp0 K n g vs H Q E := by
  obtain ⟨m, S, ws, rs, rv, q⟩ := h
  by_cases hw : ws.length = n
  · exact ⟨rv.length.symm.trans hw, m, S, ws, rs, rv, q⟩
  · rw [hl ws S hw] at q
    exact False.elim q
theorem e_call {n : Nat} {g : List W → Store → Rs W} {gs : MA} (F : FnG X.prog X.w X.K X.mg X.base CX0 k f fd ps (sp0 X.K n g)) (hl : ∀ ws S, ws.length ≠ n → g ws S = .no) (rm : Rm X) (hr : Room k X.A) (hm : X.mg x = some (.ref f)) (hk : PySem.W.keepIn X.K (.ref f) = true) (hb : Binds X.K fd ps [])
    (ha : PA X (e :: es) (tA X.K EX0 gs)) (hg : Gl X x := by rfl) (hdb : (x == ("__debug__" : Str)) = false := by decide) (he : starEach (e :: es) X.env = (false, eval e X.env) :: starEach es X.env := by rfl) (hpl : (backTo pos (starEach es X.env)).any (·.1) = false := by rfl) :
    PE X (.Call (.Name x p) (e :: es) [] pos) (tE X.K EX0 (M.ops g gs)) :=
  PE.imp (call_G F hr rm.g hg hm hk hb (pass0 (X := X)) ha hdb he hpl) fun s H Q q => tM.imp (tE.many q) fun vs H1 h => sp0_of hl h
/-- a built-in by its name -/
theorem e_bi {id : String} {g : List W → Store → Rs W} {gs : MA} {E : EX} (hc : ∀ E, CallR X (.builtin id) (rWs X.K E g)) (hm : X.mg x = none) (hv : bootBuiltins x = some (.builtin id)) (ha : PA X (e :: es) (tA X.K E gs)) (hg : Gl X x := by rfl) (hn : x ≠ "__name__" := by decide) (hdb : (x == ("__debug__" : Str)) = false := by decide)
    (he : starEach (e :: es) X.env = (false, eval e X.env) :: starEach es X.env := by rfl) (hpl : (backTo pos (starEach es X.env)).any (·.1) = false := by rfl) : PE X (.Call (.Name x p) (e :: es) [] pos) (tE X.K E (M.ops g gs)) :=
  ⟨fun pins sh s H Q I h => (pe_callB (hc (E s)) hg hm hv ha hn hdb he hpl).run pins sh s H Q I (tE.many h)⟩
theorem e_bt {T : String} {g : List W → Store → Rs W} {gs : MA} {E : EX} (hc : ∀ E, CallR X (.type T) (rWs X.K E g)) (hm : X.mg x = none) (hv : bootBuiltins x = some (.type T)) (ha : PA X (e :: es) (tA X.K E gs)) (hg : Gl X x := by rfl) (hn : x ≠ "__name__" := by decide) (hdb : (x == ("__debug__" : Str)) = false := by decide)
    (he : starEach (e :: es) X.env = (false, eval e X.env) :: starEach es X.env := by rfl) (hpl : (backTo pos (starEach es X.env)).any (·.1) = false := by rfl) : PE X (.Call (.Name x p) (e :: es) [] pos) (tE X.K E (M.ops g gs)) :=
  ⟨fun pins sh s H Q I h => (pe_callTy (hc (E s)) hg hm hv ha hn hdb he hpl).run pins sh s H Q I (tE.many h)⟩
theorem e_ty {T : String} {E : EX} (hm : X.mg x = none) (hv : bootBuiltins x = some (.type T)) (hg : Gl X x := by rfl) (hn : x ≠ "__name__" := by decide) (hdb : (x == ("__debug__" : Str)) = false := by decide) : PE X (.Name x p) (tE X.K E (M.cst (.ty T))) :=
  e_cst (pe_bltn hg hm hv (v := .ty T) rfl hn hdb) fun _ _ => .ty T
end

/-! ### the law's end -/
/-- the script as our semantics has it -/
def scriptW (ns : List Int) : W := .fl (ns.map .int)
def spLaw (g : List W → Store → Rs W) : PySem.W.Frag → Sp := fun K => sp0 K 1 g
theorem only_sqf {K : PySem.W.Frag} {H : Hp} {a : Addr} {vs : List V} (o : Only H) (h : SqL K H a vs) : SqF K H a vs := by
  rcases h with (h | ⟨ob, h⟩) | h
  · rcases o a with z | ⟨ob, xs, z⟩
    · rw [h] at z
      cases z
    · rw [h] at z
      cases z
  · exact Or.inl ⟨ob, h⟩
  · exact Or.inr fun H' => Or.inr h
theorem law_sp {K : PySem.W.Frag} {g : List W → Store → Rs W} {H : Hp} {a : Addr} {ns : List Int} (o : Only H) (h : SqL K H a (ns.map V.int)) (hg : ∃ S, g [scriptW ns] [] = .ok (.bl true) S) {E : XK} : spLaw g K [.ref a] H (fun v _ => v = .bl true) E := by
  obtain ⟨S, e⟩ := hg
  refine ⟨rfl, [], [], [scriptW ns], ⟨rfl, List.nodup_nil, fun r o a h => by simp at h⟩, .one (.fl (only_sqf o h) (rvs_ints ns)), ?_⟩
  rw [e]
  intro m' H' v p st rs rv
  cases rv
  rfl
end Wo
set_option maxRecDepth 100000
set_option maxHeartbeats 4000000
namespace Wo
open PySem PySem.Spec PyProof.Rows L2
/-! W11: the law's def called by the claim. -/
/-- a heap in which the script alone is tracked, or nothing -/
structure Alone (K : PySem.W.Frag) (P : Program) (w : World) (h : Heap) (a : Addr) (ns : List Int) (H : Hp) : Prop where
  only : Only H
  sq : SqL K H a (ns.map V.int)
  ok : HOk P w H h
  one : ∀ b, H b ≠ none → b = a
  free : H a ≠ none → K.lookup a = none
theorem alone_some {K : PySem.W.Frag} {P : Program} {w : World} {h : Heap} {a : Addr} {vs : List Value} {ns : List Int} (KX : K.In h) (ha : h.get? a = some { cls := .type "list", data := .seq vs.toArray }) (hi : IntsAre vs ns) (hl : ns.length ≤ sizeLine) :
    ∃ H, Alone K P w h a ns H := by
  have rel := vals_ints hi
  by_cases hk : K.lookup a = none
  · have at_a : ∀ b, (if b = a then some (HO.frz { cls := .type "list", data := .seq vs.toArray } (.lst (ns.map V.int))) else none) ≠ none → b = a := fun b z => Classical.byContradiction fun n => z (if_neg n)
    refine ⟨fun b => if b = a then some (.frz { cls := .type "list", data := .seq vs.toArray } (.lst (ns.map V.int))) else none, fun b => ?_, Or.inl (Or.inr ⟨_, if_pos rfl⟩), fun b u z => ?_, at_a, fun _ => hk⟩
    · by_cases e : b = a
      · exact Or.inr ⟨_, _, if_pos e⟩
      · exact Or.inl (if_neg e)
    · have e : b = a := at_a b (by rw [z]; simp)
      subst e
      rw [if_pos rfl] at z
      cases z
      exact ⟨ha, by rw [List.length_map]; exact hl, vs, _, rel, ha⟩
  · obtain ⟨o, ho⟩ := Option.ne_none_iff_exists'.mp hk
    have e := KX a o ho
    rw [ha] at e
    cases e
    refine ⟨fun _ => none, fun _ => Or.inl rfl, Or.inr ⟨_, vs.toArray, _, ho, rfl, rfl, rfl, ?_, ?_⟩, fun b u z => ?_, fun b z => absurd rfl z, fun z => absurd rfl z⟩
    · rw [List.size_toArray, hi.length]
      exact hl
    · rw [List.toList_toArray]
      exact rel
    · cases z
theorem law_G {P : Program} {w : World} {K : PySem.W.Frag} {mg mb : Str → Option Value} {k : Nat} {fa a : Addr} {fd : FuncData} {x : Str} {sp : Sp} {s₁ : Shared} {vs : List Value} {ns : List Int}
    (KX : K.In s₁.heap) (hns : s₁.heap.Ns mainGlobals mg) (hb : s₁.heap.Ns builtinsNs mb) (hbb : ∀ x : Str, x ≠ "__name__" → mb x = bootBuiltins x) (hlim : s₁.heap.NoLimit) (hg : s₁.gens = #[])
    (ha : s₁.heap.get? a = some { cls := .type "list", data := .seq vs.toArray }) (hi : IntsAre vs ns) (hl : ns.length ≤ sizeLine) (hr : Room k callerA)
    (F : ∀ base : Heap, K.In base → base.Ns mainGlobals mg → FnG P w K mg base CX0 k fa fd [x] sp) (bind : ∀ (s : Shared) (u : Value), BindsTo s fd ⟨[u], []⟩ [(x, u)])
    (hsp : ∀ H : Hp, Only H → SqL K H a (ns.map V.int) → sp [.ref a] H (fun v _ => v = .bl true) fun _ _ _ => False) :
    codeAny (model P w) callerA (.call (.ref fa) ⟨[.ref a], []⟩) (fun r s' => r = .ok (.ret (.bool true)) ∧ OldK s₁.heap s'.heap ∧ s'.os = s₁.os ∧ AllBare s'.gens) s₁ := by
  obtain ⟨H, L⟩ := alone_some (P := P) (w := w) KX ha hi hl
  have dict_free : ∀ {b : Addr} {o : Obj} {es : Array DictEntry} {ep : Nat}, s₁.heap.get? b = some o → o.data = .dict es ep → H b = none := by
    intro b o es ep e d
    refine Classical.byContradiction fun n => ?_
    have eb := L.one b n
    subst eb
    rw [ha] at e
    cases e
    cases (show Data.seq vs.toArray _ = Data.dict es ep from d)
  have ns_kept : ∀ {b : Addr} {m : Str → Option Value}, s₁.heap.Ns b m → (hidT s₁.heap H).Ns b m := by
    rintro b m ⟨o, es, ep, e, d, r⟩
    exact ⟨o, es, ep, hidT_get e (dict_free e d), d, r⟩
  have k_kept : K.In (hidT s₁.heap H) := by
    intro b o e
    refine hidT_get (KX b o e) (Classical.byContradiction fun n => ?_)
    have eb := L.one b n
    subst eb
    rw [L.free n] at e
    cases e
  have md : Mod K mg (hidT s₁.heap H) := by
    obtain ⟨mc, l1, l2⟩ := hlim
    exact ⟨k_kept, ns_kept hns, ⟨mb, ns_kept hb, hbb⟩, ⟨mc, ns_kept l1, l2⟩⟩
  have e0 : Env0 P w K mg (hidT s₁.heap H) callerA [] s₁ H := by
    refine ⟨rfl, md, fun b o e => of_hidT e, Nat.le_of_eq (hidT_size _ _), trivial, fun b z => ?_, L.ok, .of_eq hg⟩
    exact absurd (show b ∈ ([] : List Addr) from z) (by simp)
  have go := (F _ k_kept (ns_kept hns)).run callerA [] s₁ H ⟨[.ref a], []⟩ [.ref a] [.ref a] _ _ hr rfl e0 (bind s₁ (.ref a)) (.cons rfl .nil) (hsp H L.only L.sq)
  refine codeAny_mono go ?_
  rintro (ex | (_ | _ | _ | u)) s' h
  · exact False.elim h
  · exact False.elim h
  · exact False.elim h
  · exact False.elim h
  · obtain ⟨v, H', os, bare, un, hok', rv, q⟩ := h
    cases (show v = .bl true from q)
    cases (show u = Value.bool true from rv)
    refine ⟨rfl, OldK.of_keep fun b o e => ?_, os, bare⟩
    rcases L.only b with z | ⟨ob, xs, z⟩
    · exact un.keep b o e z (fun y => absurd (show b ∈ ([] : List Addr) from y) (by simp)) (by simp)
    · have z1 := (L.ok b _ z).1
      have z2 := (hok' b _ (un.frzs b ob _ z)).1
      rw [e] at z1
      cases z1
      exact z2
/-- the goal that k_head leaves -/
theorem walk_G {l : PySem.W.OpenLaw} {k : Nat} {q : Program} {loose : List Str} {XP : (Str → Option Value) → Heap → Prop} {YP : World → Heap → Prop} {d : DefRec} {K : Params → PySem.W.Frag} {x : Str} {g : List W → Store → Rs W}
    (hn : l.most = some 63) (hdf : d.params.defaults = []) (hr : Room k callerA) (hY : ∀ (w : World) (h : Heap), YP w h → (K w.params).In h)
    (F : ∀ (w : World) (mg : Str → Option Value) (fa : Addr) (h : Heap), (K w.params).In h → h.Ns mainGlobals mg → mg d.name = some (.ref fa) →
      ∃ fd : FuncData, (∀ (s : Shared) (u : Value), BindsTo s fd ⟨[u], []⟩ [(x, u)]) ∧ ∀ base : Heap, (K w.params).In base → base.Ns mainGlobals mg → FnG l.prog w (K w.params) mg base CX0 k fa fd [x] (spLaw g (K w.params)))
    (law : ∀ ns : List Int, ns.length ≤ 63 → ∃ S, g [scriptW ns] [] = .ok (.bl true) S) : PySem.W.WalkO q loose XP YP l.row.toRowW d [] (fun f vs => PySem.call f vs) := by
  refine Att.attach_call hn hdf fun w s₀ s₁ mg mb fa o pm cd doc a vs ns G Y ho hd hcd hmg hobj hints hlen hg => ?_
  have KX := hY w _ Y
  obtain ⟨fd, hb, hF⟩ := F w mg fa _ KX G.T.g hmg
  exact law_G KX G.T.g G.T.b G.T.builtins G.T.nolimit hg hobj hints (Nat.le_trans hlen (by decide)) hr hF hb fun H hO hS => law_sp hO hS (law ns hlen)
end Wo
set_option maxRecDepth 100000
set_option maxHeartbeats 4000000
namespace Wo
open PySem L2
/-! W12: what is known of a def that was walked. -/
namespace M
def negW : W → Store → Rs W := fun w S => match w with
  | .int i => .ok (.int (-i)) S
  | _ => .no
end M
theorem e_neg {X : Cx} {E : EX} {a : Expr} {pos : Pos} {g : ME} (h : PE X a (tE X.K E g)) : PE X (.UnaryOp .USub a pos) (tE X.K E (M.op1 M.negW g)) := by
  refine PE.imp (pe_un un_neg h) fun s H Q q => tM.imp (tE.one q) fun x H1 ⟨m, S, a, rs, ra, q⟩ => ?_
  cases ra <;> try exact False.elim q
  exact ⟨_, rfl, q.here rs (.int _)⟩
theorem Rm.blk {X : Cx} (rm : Rm X) {s : Shared} {H : Hp} {scope : Scope} {e : Env} {fp : List Addr} : Rm (X.blk s H scope e fp) := ⟨rm.un, rm.g, rm.calm⟩
structure Dn (P : Program) (w : World) (K : PySem.W.Frag) (mg : Str → Option Value) (base : Heap) (k : Nat) (x : Str) (ps : List Str) (g : List W → Store → Rs W) (f : Addr) (fd : FuncData) : Prop where
  ok : FnG P w K mg base CX0 k f fd ps (sp0 K ps.length g)
  at_ : mg x = some (.ref f)
  kp : PySem.W.keepIn K (.ref f) = true
  bd : Binds K fd ps []
theorem e_fn {X : Cx} {k : Nat} {f : Addr} {fd : FuncData} {ps : List Str} {x : Str} {p pos : Pos} {e : Expr} {es : List Expr} {g : List W → Store → Rs W} {gs : MA} (D : Dn X.prog X.w X.K X.mg X.base k x ps g f fd) (hl : ∀ ws S, ws.length ≠ ps.length → g ws S = .no) (rm : Rm X) (hr : Room k X.A)
    (ha : PA X (e :: es) (tA X.K EX0 gs)) (hg : Gl X x := by rfl) (hdb : (x == ("__debug__" : Str)) = false := by decide) (he : starEach (e :: es) X.env = (false, eval e X.env) :: starEach es X.env := by rfl) (hpl : (backTo pos (starEach es X.env)).any (·.1) = false := by rfl) :
    PE X (.Call (.Name x p) (e :: es) [] pos) (tE X.K EX0 (M.ops g gs)) := e_call D.ok hl rm hr D.at_ D.kp D.bd ha hg hdb he hpl
theorem dn_mk {P : Program} {w : World} {K : PySem.W.Frag} {mg : Str → Option Value} {base : Heap} {x qual : Str} {st : Stmt} {f : Addr} {fd : FuncData} {N ps : List Str} {k : Nat} {body : MS} (F : Fun K x qual st f fd) (S : FnScope N ps (defScope st)) (hat : mg x = some (.ref f)) (bd : Binds K fd ps [])
    (h : ∀ (cdv : Value) (A : Around) (outer : List Env) (s : Shared) (H : Hp) (E : XK), Rm (cxOf CX0 P w K mg base N qual (defScope st) f cdv A outer s H E).nox → Room k (cxOf CX0 P w K mg base N qual (defScope st) f cdv A outer s H E).nox.A → PSs (cxOf CX0 P w K mg base N qual (defScope st) f cdv A outer s H E).nox (defBody st) (tS K EX0 body)) :
    Dn P w K mg base (k + 1) x ps (M.fn ps.length N.length body) f fd := by
  refine ⟨ok0 F S ?_, hat, F.kp, bd⟩
  rintro X _ _ _ _ _ _ rm hr ⟨cdv, A, outer, s, H, E, rfl⟩
  exact h cdv A outer s H E rm hr
end Wo
set_option maxRecDepth 100000
set_option maxHeartbeats 4000000
namespace Wo
open PySem L2
/-! W13: how runs are reckoned: rules for the loops, stores that grow. -/
theorem lim0 : (0 ≤ M.lim) = True := eq_true (by decide)
theorem lim1 : (1 ≤ M.lim) = True := eq_true (by decide)
theorem lim2 : (2 ≤ M.lim) = True := eq_true (by decide)
theorem lim3 : (3 ≤ M.lim) = True := eq_true (by decide)
theorem lim4 : (4 ≤ M.lim) = True := eq_true (by decide)
theorem lim5 : (5 ≤ M.lim) = True := eq_true (by decide)
theorem lcL_rule {get : Get} {r : Nat} {t : M.MG} {c : MT} {e : ME} {fw : Fr} (n0 : Nat) (I : Nat → List W → Store → Prop) (hstop : ∀ acc S, I n0 acc S → get S n0 = some none)
    (hstep : ∀ i acc S, i < n0 → I i acc S → ∃ x f2, get S i = some (some x) ∧ t x fw S = some f2 ∧ ∃ b S1, c f2 S = .ok b S1 ∧ (if b = true then ∃ y S2, e f2 S1 = .ok y S2 ∧ S2[r]? = some (.lst acc) ∧ acc.length < M.lim ∧ I (i + 1) (acc ++ [y]) (S2.set r (.lst (acc ++ [y]))) else I (i + 1) acc S1)) :
    ∀ (n i : Nat) (acc : List W) (S : Store), i + n = n0 → I i acc S → ∃ acc' S', M.lcL get r t c e fw n i S = .ok () S' ∧ I n0 acc' S' := by
  intro n
  induction n with
  | zero =>
    intro i acc S hi h
    have ei : i = n0 := by omega
    subst ei
    refine ⟨acc, S, ?_, h⟩
    unfold M.lcL
    rw [hstop acc S h]
  | succ n ih =>
    intro i acc S hi h
    obtain ⟨x, f2, h1, h2, b, S1, h3, h4⟩ := hstep i acc S (by omega) h
    unfold M.lcL
    rw [h1]
    dsimp only
    rw [h2]
    dsimp only
    rw [h3]
    cases b with
    | false =>
      rw [if_neg Bool.false_ne_true] at h4
      obtain ⟨acc', S', h5, h6⟩ := ih (i + 1) acc S1 (by omega) h4
      exact ⟨acc', S', h5, h6⟩
    | true =>
      rw [if_pos rfl] at h4
      obtain ⟨y, S2, h5, h6, h7, h8⟩ := h4
      obtain ⟨acc', S', h9, h10⟩ := ih (i + 1) (acc ++ [y]) _ (by omega) h8
      refine ⟨acc', S', ?_, h10⟩
      rw [← h9]
      show ((e f2 S1).noex.bind fun y S2 => (M.app r y S2).bind fun _ S3 => M.lcL get r t c e fw n (i + 1) S3) = _
      rw [h5]
      show ((M.app r y S2).bind fun _ S3 => M.lcL get r t c e fw n (i + 1) S3) = _
      unfold M.app
      rw [h6]
      dsimp only
      rw [if_pos h7]
      rfl
theorem dcL_rule {get : Get} {r : Nat} {t : M.MG} {c : MT} {k e : ME} {fw : Fr} (n0 : Nat) (I : Nat → List (Key × W) → Store → Prop) (hstop : ∀ acc S, I n0 acc S → get S n0 = some none)
    (hstep : ∀ i acc S, i < n0 → I i acc S → ∃ x f2, get S i = some (some x) ∧ t x fw S = some f2 ∧ ∃ b S1, c f2 S = .ok b S1 ∧ (if b = true then ∃ u v kk S2 S3, k f2 S1 = .ok u S2 ∧ e f2 S2 = .ok v S3 ∧ M.keyOf u = some kk ∧ S3[r]? = some (.dK acc) ∧ acc.length < M.lim ∧ I (i + 1) (M.putW acc kk v) (S3.set r (.dK (M.putW acc kk v))) else I (i + 1) acc S1)) :
    ∀ (n i : Nat) (acc : List (Key × W)) (S : Store), i + n = n0 → I i acc S → ∃ acc' S', M.dcL get r t c k e fw n i S = .ok () S' ∧ I n0 acc' S' := by
  intro n
  induction n with
  | zero =>
    intro i acc S hi h
    have ei : i = n0 := by omega
    subst ei
    refine ⟨acc, S, ?_, h⟩
    unfold M.dcL
    rw [hstop acc S h]
  | succ n ih =>
    intro i acc S hi h
    obtain ⟨x, f2, h1, h2, b, S1, h3, h4⟩ := hstep i acc S (by omega) h
    unfold M.dcL
    rw [h1]
    dsimp only
    rw [h2]
    dsimp only
    rw [h3]
    cases b with
    | false =>
      rw [if_neg Bool.false_ne_true] at h4
      obtain ⟨acc', S', h5, h6⟩ := ih (i + 1) acc S1 (by omega) h4
      exact ⟨acc', S', h5, h6⟩
    | true =>
      rw [if_pos rfl] at h4
      obtain ⟨u, v, kk, S2, S3, h5, h5', hk, h6, h7, h8⟩ := h4
      obtain ⟨acc', S', h9, h10⟩ := ih (i + 1) _ _ (by omega) h8
      refine ⟨acc', S', ?_, h10⟩
      rw [← h9]
      show ((k f2 S1).noex.bind fun y S2 => (e f2 S2).noex.bind fun z S3 => (M.dput r y z S3).bind fun _ S4 => M.dcL get r t c k e fw n (i + 1) S4) = _
      rw [h5]
      show ((e f2 S2).noex.bind fun z S3 => (M.dput r u z S3).bind fun _ S4 => M.dcL get r t c k e fw n (i + 1) S4) = _
      rw [h5']
      show ((M.dput r u v S3).bind fun _ S4 => M.dcL get r t c k e fw n (i + 1) S4) = _
      unfold M.dput
      rw [hk]
      dsimp only
      rw [h6]
      dsimp only
      rw [if_pos h7]
      rfl
/-- a loop whose turns all go on -/
theorem forL_rule {get : Get} {t : M.MG} {body : MS} (n0 : Nat) (I : Nat → Fr → Store → Prop) (hstop : ∀ f S, I n0 f S → get S n0 = some none)
    (hstep : ∀ i f S, i < n0 → I i f S → ∃ x f2, get S i = some (some x) ∧ t x f S = some f2 ∧ ∃ f3 S3, (body f2 S = .ok (.next f3) S3 ∨ body f2 S = .ok (.cont f3) S3) ∧ I (i + 1) f3 S3) :
    ∀ (n i : Nat) (f : Fr) (S : Store), i + n = n0 → I i f S → ∃ f' S', M.forL get t body n i f S = .ok (.next f') S' ∧ I n0 f' S' := by
  intro n
  induction n with
  | zero =>
    intro i f S hi h
    have ei : i = n0 := by omega
    subst ei
    refine ⟨f, S, ?_, h⟩
    unfold M.forL
    rw [hstop f S h]
  | succ n ih =>
    intro i f S hi h
    obtain ⟨x, f2, h1, h2, f3, S3, h3, h4⟩ := hstep i f S (by omega) h
    obtain ⟨f', S', h5, h6⟩ := ih (i + 1) f3 S3 (by omega) h4
    refine ⟨f', S', ?_, h6⟩
    unfold M.forL
    rw [h1]
    dsimp only
    rw [h2]
    dsimp only
    rcases h3 with h3 | h3
    · rw [h3]
      exact h5
    · rw [h3]
      exact h5
/-- .. or one of them hands back -/
theorem forL_rule2 {get : Get} {t : M.MG} {body : MS} (n0 : Nat) (I : Nat → Fr → Store → Prop) (Z : W → Store → Prop) (hstop : ∀ f S, I n0 f S → get S n0 = some none)
    (hstep : ∀ i f S, i < n0 → I i f S → ∃ x f2, get S i = some (some x) ∧ t x f S = some f2 ∧ ((∃ f3 S3, (body f2 S = .ok (.next f3) S3 ∨ body f2 S = .ok (.cont f3) S3) ∧ I (i + 1) f3 S3) ∨ ∃ w S3, body f2 S = .ok (.ret w) S3 ∧ Z w S3)) :
    ∀ (n i : Nat) (f : Fr) (S : Store), i + n = n0 → I i f S → (∃ f' S', M.forL get t body n i f S = .ok (.next f') S' ∧ I n0 f' S') ∨ ∃ w S', M.forL get t body n i f S = .ok (.ret w) S' ∧ Z w S' := by
  intro n
  induction n with
  | zero =>
    intro i f S hi h
    have ei : i = n0 := by omega
    subst ei
    refine Or.inl ⟨f, S, ?_, h⟩
    unfold M.forL
    rw [hstop f S h]
  | succ n ih =>
    intro i f S hi h
    obtain ⟨x, f2, h1, h2, h⟩ := hstep i f S (by omega) h
    unfold M.forL
    rw [h1]
    dsimp only
    rw [h2]
    dsimp only
    rcases h with ⟨f3, S3, h3, h4⟩ | ⟨w, S3, h3, h4⟩
    · have h5 := ih (i + 1) f3 S3 (by omega) h4
      rcases h3 with h3 | h3
      · rw [h3]
        exact h5
      · rw [h3]
        exact h5
    · rw [h3]
      exact Or.inr ⟨w, S3, rfl, h4⟩
/-! ### stores that grow -/
theorem pre_get {S S' : Store} (p : S <+: S') {r : Nat} {o : Ob} (h : S[r]? = some o) : S'[r]? = some o := by
  obtain ⟨t, rfl⟩ := p
  rw [List.getElem?_append_left (List.getElem?_eq_some_iff.mp h).1]
  exact h
theorem pre_len {S S' : Store} (p : S <+: S') : S.length ≤ S'.length := p.length_le
theorem pre_push {S S' : Store} (p : S <+: S') (o : Ob) : S <+: S' ++ [o] := p.trans (List.prefix_append _ _)
theorem get_new (S : Store) (o : Ob) : (S ++ [o])[S.length]? = some o := List.getElem?_concat_length
/-- a place behind what stood is written -/
theorem pre_set {S S' : Store} (p : S <+: S') {r : Nat} (hr : S.length ≤ r) (o : Ob) : S <+: S'.set r o := by
  obtain ⟨t, rfl⟩ := p
  rw [List.set_append_right _ _ hr]
  exact List.prefix_append _ _
/-- what stood stands, but for one place -/
def But (p : Nat) (S S' : Store) : Prop := S.length ≤ S'.length ∧ ∀ i, i < S.length → i ≠ p → S'[i]? = S[i]?
theorem But.refl (p : Nat) (S : Store) : But p S S := ⟨Nat.le_refl _, fun _ _ _ => rfl⟩
theorem But.trans {p : Nat} {S S1 S2 : Store} (a : But p S S1) (b : But p S1 S2) : But p S S2 := ⟨Nat.le_trans a.1 b.1, fun i hi hp => (b.2 i (Nat.lt_of_lt_of_le hi a.1) hp).trans (a.2 i hi hp)⟩
theorem But.pre {p : Nat} {S S' : Store} (h : S <+: S') : But p S S' := ⟨h.length_le, fun i hi _ => by
  obtain ⟨t, rfl⟩ := h
  rw [List.getElem?_append_left hi]⟩
theorem But.set {p : Nat} {S S' : Store} (h : But p S S') (o : Ob) : But p S (S'.set p o) := ⟨by rw [List.length_set]; exact h.1, fun i hi hp => by rw [List.getElem?_set_ne (Ne.symm hp)]; exact h.2 i hi hp⟩
theorem But.set2 {p : Nat} {S S' : Store} (h : But p S S') {r : Nat} (hr : S.length ≤ r) (o : Ob) : But p S (S'.set r o) := ⟨by rw [List.length_set]; exact h.1, fun i hi hp => by rw [List.getElem?_set_ne (by omega)]; exact h.2 i hi hp⟩
theorem But.push {p : Nat} {S S' : Store} (h : But p S S') (o : Ob) : But p S (S' ++ [o]) := h.trans (But.pre (List.prefix_append _ _))
theorem But.get {p : Nat} {S S' : Store} (h : But p S S') {r : Nat} {o : Ob} (e : S[r]? = some o) (hp : r ≠ p) : S'[r]? = some o := (h.2 r (List.getElem?_eq_some_iff.mp e).1 hp).trans e
end Wo
set_option maxRecDepth 100000
set_option maxHeartbeats 4000000
namespace Wo
open PySem L2
/-! W14: comprehensions whose turns leave what stood. -/
theorem flatMap_take {α β : Type} (y : α → List β) {xs : List α} {i : Nat} {x : α} (h : xs[i]? = some x) : (xs.take (i + 1)).flatMap y = (xs.take i).flatMap y ++ y x := by
  rw [List.take_add_one, h]
  simp
theorem lc_pure {g : MIt} {vs : List Nat} {t : M.MG} {c : MT} {e : ME} {f : Fr} {S S1 : Store} {get : Get} {xs : List W} (y : W → List W) (hg : g f S = .ok (xs.length, get) S1) (hget : ∀ S', S1 <+: S' → ∀ i, get S' i = some xs[i]?)
    (h : ∀ x ∈ xs, ∀ S', S1 <+: S' → ∃ f2 b S2, t x (wipeF f vs) S' = some f2 ∧ c f2 S' = .ok b S2 ∧ S' <+: S2 ∧ (if b = true then ∃ v S3, e f2 S2 = .ok v S3 ∧ S2 <+: S3 ∧ y x = [v] else y x = [])) (hl : xs.length ≤ 1000) :
    ∃ S', M.lc g vs t c e f S = .ok (.ref S1.length) S' ∧ S1 <+: S' ∧ S'[S1.length]? = some (.lst (xs.flatMap y)) := by
  have hy : ∀ x ∈ xs, (y x).length ≤ 1 := fun x hx => by
    obtain ⟨f2, b, S2, _, _, _, h4⟩ := h x hx S1 (List.prefix_refl _)
    cases b with
    | false =>
      rw [if_neg Bool.false_ne_true] at h4
      rw [h4]
      exact Nat.zero_le _
    | true =>
      rw [if_pos rfl] at h4
      obtain ⟨v, S3, _, _, h5⟩ := h4
      rw [h5]
      exact Nat.le_refl _
  have hlen : ∀ zs : List W, (∀ x ∈ zs, (y x).length ≤ 1) → (zs.flatMap y).length ≤ zs.length := by
    intro zs
    induction zs with
    | nil => intro _; exact Nat.le_refl _
    | cons z zs ih =>
      intro hz
      rw [List.flatMap_cons, List.length_append, List.length_cons]
      have a1 := hz z (List.mem_cons_self ..)
      have a2 := ih fun x hx => hz x (List.mem_cons_of_mem _ hx)
      omega
  obtain ⟨acc', S', h1, h2⟩ := lcL_rule (get := get) (r := S1.length) (t := t) (c := c) (e := e) (fw := wipeF f vs) xs.length (fun i acc S' => S1 <+: S' ∧ S'[S1.length]? = some (.lst acc) ∧ acc = (xs.take i).flatMap y)
    (fun acc S' ⟨p, _, _⟩ => by rw [hget S' p, List.getElem?_eq_none (Nat.le_refl _)]) (fun i acc S' hi ⟨p, ha, ea⟩ => by
      have hx : xs[i]? = some xs[i] := List.getElem?_eq_getElem hi
      obtain ⟨f2, b, S2, h1, h2, h3, h4⟩ := h xs[i] (List.getElem_mem hi) S' p
      refine ⟨xs[i], f2, by rw [hget S' p, hx], h1, b, S2, h2, ?_⟩
      cases b with
      | false =>
        rw [if_neg Bool.false_ne_true] at h4 ⊢
        refine ⟨p.trans h3, pre_get h3 ha, ?_⟩
        rw [flatMap_take y hx, h4, List.append_nil]
        exact ea
      | true =>
        rw [if_pos rfl] at h4 ⊢
        obtain ⟨v, S3, h5, h6, h7⟩ := h4
        have ha3 := pre_get (h3.trans h6) ha
        have lacc : acc.length ≤ i := by
          rw [ea]
          refine Nat.le_trans (hlen _ fun x hx => hy x (List.mem_of_mem_take hx)) ?_
          rw [List.length_take]
          omega
        have hlim : M.lim = 100000 := rfl
        refine ⟨v, S3, h5, ha3, by omega, pre_set (p.trans (h3.trans h6)) (Nat.le_refl _) _, ?_, ?_⟩
        · exact List.getElem?_set_self (List.getElem?_eq_some_iff.mp ha3).1
        · rw [flatMap_take y hx, h7, ea])
    xs.length 0 [] (S1 ++ [.lst []]) (Nat.zero_add _) ⟨List.prefix_append _ _, get_new _ _, by simp⟩
  obtain ⟨p, ha, ea⟩ := h2
  refine ⟨S', ?_, p, ?_⟩
  · unfold M.lc
    rw [hg, Rs.bind_ok]
    dsimp only
    rw [h1, Rs.bind_ok]
  · rw [ha, ea, List.take_length]
/-- items of a kind of their own -/
theorem lc_kind {γ : Type} {ds : List γ} {en : γ → W} {g : MIt} {vs : List Nat} {t : M.MG} {c : MT} {e : ME} {f : Fr} {S S1 : Store} {get : Get} (y : γ → List W) (hg : g f S = .ok (ds.length, get) S1) (hget : ∀ S', S1 <+: S' → ∀ i, get S' i = some (ds.map en)[i]?)
    (h : ∀ d ∈ ds, ∀ S', S1 <+: S' → ∃ f2 b S2, t (en d) (wipeF f vs) S' = some f2 ∧ c f2 S' = .ok b S2 ∧ S' <+: S2 ∧ (if b = true then ∃ v S3, e f2 S2 = .ok v S3 ∧ S2 <+: S3 ∧ y d = [v] else y d = [])) (hl : ds.length ≤ 1000) :
    ∃ S', M.lc g vs t c e f S = .ok (.ref S1.length) S' ∧ S1 <+: S' ∧ S'[S1.length]? = some (.lst (ds.flatMap y)) := by
  have hy : ∀ x ∈ ds, (y x).length ≤ 1 := fun x hx => by
    obtain ⟨f2, b, S2, _, _, _, h4⟩ := h x hx S1 (List.prefix_refl _)
    cases b with
    | false =>
      rw [if_neg Bool.false_ne_true] at h4
      rw [h4]
      exact Nat.zero_le _
    | true =>
      rw [if_pos rfl] at h4
      obtain ⟨v, S3, _, _, h5⟩ := h4
      rw [h5]
      exact Nat.le_refl _
  have hlen : ∀ zs : List γ, (∀ x ∈ zs, (y x).length ≤ 1) → (zs.flatMap y).length ≤ zs.length := by
    intro zs
    induction zs with
    | nil => intro _; exact Nat.le_refl _
    | cons z zs ih =>
      intro hz
      rw [List.flatMap_cons, List.length_append, List.length_cons]
      have a1 := hz z (List.mem_cons_self ..)
      have a2 := ih fun x hx => hz x (List.mem_cons_of_mem _ hx)
      omega
  obtain ⟨acc', S', h1, h2⟩ := lcL_rule (get := get) (r := S1.length) (t := t) (c := c) (e := e) (fw := wipeF f vs) ds.length (fun i acc S' => S1 <+: S' ∧ S'[S1.length]? = some (.lst acc) ∧ acc = (ds.take i).flatMap y)
    (fun acc S' ⟨p, _, _⟩ => by rw [hget S' p, List.getElem?_eq_none (by rw [List.length_map]; exact Nat.le_refl _)]) (fun i acc S' hi ⟨p, ha, ea⟩ => by
      have hx : ds[i]? = some ds[i] := List.getElem?_eq_getElem hi
      obtain ⟨f2, b, S2, h1, h2, h3, h4⟩ := h ds[i] (List.getElem_mem hi) S' p
      refine ⟨en ds[i], f2, by rw [hget S' p, List.getElem?_map, hx]; rfl, h1, b, S2, h2, ?_⟩
      cases b with
      | false =>
        rw [if_neg Bool.false_ne_true] at h4 ⊢
        refine ⟨p.trans h3, pre_get h3 ha, ?_⟩
        rw [flatMap_take y hx, h4, List.append_nil]
        exact ea
      | true =>
        rw [if_pos rfl] at h4 ⊢
        obtain ⟨v, S3, h5, h6, h7⟩ := h4
        have ha3 := pre_get (h3.trans h6) ha
        have lacc : acc.length ≤ i := by
          rw [ea]
          refine Nat.le_trans (hlen _ fun x hx => hy x (List.mem_of_mem_take hx)) ?_
          rw [List.length_take]
          omega
        have hlim : M.lim = 100000 := rfl
        refine ⟨v, S3, h5, ha3, by omega, pre_set (p.trans (h3.trans h6)) (Nat.le_refl _) _, ?_, ?_⟩
        · exact List.getElem?_set_self (List.getElem?_eq_some_iff.mp ha3).1
        · rw [flatMap_take y hx, h7, ea])
    ds.length 0 [] (S1 ++ [.lst []]) (Nat.zero_add _) ⟨List.prefix_append _ _, get_new _ _, by simp⟩
  obtain ⟨p, ha, ea⟩ := h2
  refine ⟨S', ?_, p, ?_⟩
  · unfold M.lc
    rw [hg, Rs.bind_ok]
    dsimp only
    rw [h1, Rs.bind_ok]
  · rw [ha, ea, List.take_length]
/-- over a fixed row of items -/
theorem lc_row {γ : Type} {ds : List γ} {en : γ → W} {g : MIt} {vs : List Nat} {t : M.MG} {c : MT} {e : ME} {f : Fr} {S S1 : Store} (y : γ → List W) (hg : g f S = .ok (ds.length, M.getF (ds.map en)) S1)
    (h : ∀ d ∈ ds, ∀ S', S1 <+: S' → ∃ f2 b S2, t (en d) (wipeF f vs) S' = some f2 ∧ c f2 S' = .ok b S2 ∧ S' <+: S2 ∧ (if b = true then ∃ v S3, e f2 S2 = .ok v S3 ∧ S2 <+: S3 ∧ y d = [v] else y d = [])) (hl : ds.length ≤ 1000) :
    ∃ S', M.lc g vs t c e f S = .ok (.ref S1.length) S' ∧ S1 <+: S' ∧ S'[S1.length]? = some (.lst (ds.flatMap y)) := lc_kind y hg (fun _ _ _ => rfl) h hl
/-- over a list of the store -/
theorem lc_ref {γ : Type} {ds : List γ} {en : γ → W} {g : MIt} {vs : List Nat} {t : M.MG} {c : MT} {e : ME} {f : Fr} {S S1 : Store} {r : Nat} (y : γ → List W) (hg : g f S = .ok (ds.length, M.getR r) S1) (hr : S1[r]? = some (.lst (ds.map en)))
    (h : ∀ d ∈ ds, ∀ S', S1 <+: S' → ∃ f2 b S2, t (en d) (wipeF f vs) S' = some f2 ∧ c f2 S' = .ok b S2 ∧ S' <+: S2 ∧ (if b = true then ∃ v S3, e f2 S2 = .ok v S3 ∧ S2 <+: S3 ∧ y d = [v] else y d = [])) (hl : ds.length ≤ 1000) :
    ∃ S', M.lc g vs t c e f S = .ok (.ref S1.length) S' ∧ S1 <+: S' ∧ S'[S1.length]? = some (.lst (ds.flatMap y)) :=
  lc_kind y hg (fun S' p i => by unfold M.getR; rw [pre_get p hr]) h hl
theorem flatMap_one {α β : Type} (f : α → β) : ∀ xs : List α, xs.flatMap (fun x => [f x]) = xs.map f
  | [] => rfl
  | x :: xs => by rw [List.flatMap_cons, flatMap_one f xs]; rfl
theorem flatMap_if {α β : Type} (p : α → Bool) (f : α → β) : ∀ xs : List α, xs.flatMap (fun x => if p x = true then [f x] else []) = (xs.filter p).map f
  | [] => rfl
  | x :: xs => by
    rw [List.flatMap_cons, flatMap_if p f xs, List.filter_cons]
    cases p x <;> simp
/-! ### runs put together -/
theorem r_ops1 {h : List W → Store → Rs W} {g : ME} {f : Fr} {S S1 : Store} {w : W} (e : g f S = .ok w S1) : M.ops h (M.cons g M.nil) f S = h [w] S1 := by
  unfold M.ops M.cons M.nil
  rw [e]
  rfl
theorem r_ops2 {h : List W → Store → Rs W} {g g' : ME} {f : Fr} {S S1 S2 : Store} {w w' : W} (e : g f S = .ok w S1) (e' : g' f S1 = .ok w' S2) : M.ops h (M.cons g (M.cons g' M.nil)) f S = h [w, w'] S2 := by
  unfold M.ops M.cons M.nil
  rw [e, Rs.bind_ok, e']
  rfl
theorem r_op2 {h : G2} {a b : ME} {f : Fr} {S S1 S2 : Store} {x y : W} (e : a f S = .ok x S1) (e' : b f S1 = .ok y S2) : M.op2 h a b f S = h x y S2 := by
  unfold M.op2
  rw [e, Rs.bind_ok, e']
  rfl
theorem r_asg {g : ME} {t : M.MG} {f f' : Fr} {S S1 : Store} {w : W} (e : g f S = .ok w S1) (e' : t w f S1 = some f') : M.asg g t f S = .ok (.next f') S1 := by
  unfold M.asg M.thenS
  rw [e]
  dsimp only
  rw [e']
theorem r_seq {a b : MS} {f f1 : Fr} {S S1 : Store} (e : a f S = .ok (.next f1) S1) : M.seq a b f S = b f1 S1 := by
  unfold M.seq
  rw [e]
theorem r_ret {g : ME} {f : Fr} {S S1 : Store} {w : W} (e : g f S = .ok w S1) : M.ret g f S = .ok (.ret w) S1 := by
  unfold M.ret M.thenS
  rw [e]
theorem r_drop {g : ME} {f : Fr} {S S1 : Store} {w : W} (e : g f S = .ok w S1) : M.drop g f S = .ok (.next f) S1 := by
  unfold M.drop M.thenS
  rw [e]
theorem r_ifT {c : MT} {a b : MS} {f : Fr} {S S1 : Store} (e : c f S = .ok true S1) : M.ifS c a b f S = a f S1 := by
  unfold M.ifS M.thenS
  rw [e]
  rfl
theorem r_ifF {c : MT} {a b : MS} {f : Fr} {S S1 : Store} (e : c f S = .ok false S1) : M.ifS c a b f S = b f S1 := by
  unfold M.ifS M.thenS
  rw [e]
  rfl
theorem r_tst {g : ME} {f : Fr} {S S1 : Store} {b : Bool} (e : g f S = .ok (.bl b) S1) : M.tst g f S = .ok b S1 := by
  unfold M.tst
  rw [e]
  rfl
theorem r_tru {g : ME} {f : Fr} {S S1 : Store} {b : Bool} (e : g f S = .ok (.bl b) S1) : M.tru g f S = .ok b S1 := by
  unfold M.tru
  rw [e]
  rfl
theorem r_not {c : MT} {f : Fr} {S S1 : Store} {b : Bool} (e : c f S = .ok b S1) : M.notT c f S = .ok (!b) S1 := by
  unfold M.notT
  rw [e]
  rfl
theorem r_and {c d : MT} {f : Fr} {S S1 S2 : Store} {a b : Bool} (e : c f S = .ok a S1) (e' : a = true → d f S1 = .ok b S2) (e2 : a = false → b = false ∧ S2 = S1) : M.andT c d f S = .ok (a && b) S2 := by
  unfold M.andT
  rw [e, Rs.bind_ok]
  cases a with
  | true =>
    rw [if_pos rfl, e' rfl]
    rfl
  | false =>
    obtain ⟨rfl, rfl⟩ := e2 rfl
    rfl
theorem r_for {g : MIt} {t : M.MG} {b : MS} {f : Fr} {S S1 : Store} {n : Nat} {get : Get} (e : g f S = .ok (n, get) S1) : M.forS g t b f S = M.forL get t b n 0 f S1 := by
  unfold M.forS M.thenS
  rw [e]
theorem r_fn {ar n : Nat} {b : MS} {ws : List W} {S S1 : Store} {w : W} (hl : ws.length = ar) (e : b (ws.map some ++ List.replicate (n - ar) none) S = .ok (.ret w) S1) : M.fn ar n b ws S = .ok w S1 := by
  unfold M.fn
  rw [if_pos hl, e]
  rfl
end Wo
set_option maxRecDepth 100000
set_option maxHeartbeats 4000000
namespace Wo
open PySem L2
/-! W15: data of whole numbers: equality, being in, how it is shown. -/
theorem toD_i (S : Store) (n : Nat) (i : Int) : toD S (n + 1) (.int i) = some (.int i) := rfl
theorem mapM_some {α β γ : Type} {f : α → Option β} {g : γ → α} {h : γ → β} (e : ∀ c, f (g c) = some (h c)) : ∀ cs : List γ, (cs.map g).mapM f = some (cs.map h)
  | [] => rfl
  | c :: cs => by
    rw [List.map_cons, List.mapM_cons, e c, mapM_some e cs]
    rfl
theorem mapM_some' {α β γ : Type} {f : α → Option β} {g : γ → α} {h : γ → β} : ∀ {cs : List γ}, (∀ c ∈ cs, f (g c) = some (h c)) → (cs.map g).mapM f = some (cs.map h)
  | [], _ => rfl
  | c :: cs, e => by
    rw [List.map_cons, List.mapM_cons, e c (List.mem_cons_self ..), mapM_some' fun c hc => e c (List.mem_cons_of_mem _ hc)]
    rfl
theorem toD_ints (S : Store) (n : Nat) (ns : List Int) : (ns.map W.int).mapM (toD S (n + 1)) = some (ns.map PyData.int) := mapM_some (fun c => toD_i S n c) ns
theorem toD_ref {S : Store} {r : Nat} {xs : List W} {ds : List PyData} {n : Nat} (h : S[r]? = some (.lst xs)) (e : xs.mapM (toD S n) = some ds) : toD S (n + 1) (.ref r) = some (.list ds) := by
  simp only [toD, h, e, Option.map_some]
theorem toD_tup {S : Store} {xs : List W} {ds : List PyData} {n : Nat} (e : xs.mapM (toD S n) = some ds) : toD S (n + 1) (.tup xs) = some (.tuple ds) := by
  simp only [toD, e, Option.map_some]
theorem eqW_int (i j : Int) (S : Store) : M.eqW (.int i) (.int j) S = .ok (.bl (decide (i = j))) S := by
  have e : M.isEq (.int i) (.int j) S = some (i == j) := by
    show (match toD S 20 (.int i), toD S 20 (.int j) with | some d, some e => some (PyData.eqv d e) | _, _ => none) = _
    rw [toD_i, toD_i]
    simp [PyData.eqv]
  have e2 : (i == j) = decide (i = j) := by by_cases h : i = j <;> simp [h]
  unfold M.eqW
  rw [e, e2]
theorem eqvAll_ints : ∀ ns ms : List Int, PyData.eqvAll (ns.map .int) (ms.map .int) = decide (ns = ms)
  | [], [] => by simp [PyData.eqvAll]
  | [], _ :: _ => by simp [PyData.eqvAll]
  | _ :: _, [] => by simp [PyData.eqvAll]
  | n :: ns, m :: ms => by
    rw [List.map_cons, List.map_cons, PyData.eqvAll, eqvAll_ints ns ms, PyData.eqv]
    by_cases h : n = m
    · subst h
      simp
    · have h' : (n == m) = false := beq_eq_false_iff_ne.mpr h
      rw [h', Bool.false_and, decide_eq_false (by simp [h])]
theorem isEq_lists {S : Store} {r q : Nat} {ns ms : List Int} (h1 : S[r]? = some (.lst (ns.map .int))) (h2 : S[q]? = some (.lst (ms.map .int))) : M.isEq (.ref r) (.ref q) S = some (decide (ns = ms)) := by
  show (match toD S 20 (.ref r), toD S 20 (.ref q) with | some d, some e => some (PyData.eqv d e) | _, _ => none) = _
  rw [toD_ref h1 (toD_ints S 18 ns), toD_ref h2 (toD_ints S 18 ms)]
  simp only [PyData.eqv, eqvAll_ints]
theorem any_ints (i : Int) : ∀ ns : List Int, ((ns.map PyData.int).any fun z => PyData.eqv z (.int i)) = decide (i ∈ ns)
  | [] => by simp
  | n :: ns => by
    rw [List.map_cons, List.any_cons, any_ints i ns, PyData.eqv]
    by_cases h : n = i
    · subst h
      simp
    · have h' : (n == i) = false := beq_eq_false_iff_ne.mpr h
      rw [h', Bool.false_or]
      by_cases h2 : i ∈ ns
      · rw [decide_eq_true h2, decide_eq_true (List.mem_cons_of_mem _ h2)]
      · rw [decide_eq_false h2, decide_eq_false fun z => (List.mem_cons.mp z).elim (fun z => h z.symm) h2]
theorem isIn_ints {S : Store} {r : Nat} {ns : List Int} (i : Int) (h : S[r]? = some (.lst (ns.map .int))) : M.isIn (.int i) (.ref r) S = some (decide (i ∈ ns)) := by
  unfold M.isIn
  dsimp only
  rw [h]
  show (match toD S 20 (.int i), toD S 20 (.ref r) with | some d, some (.list ds) => some (ds.any fun z => PyData.eqv z d) | _, _ => none) = _
  rw [toD_i, toD_ref h (toD_ints S 18 ns)]
  dsimp only
  rw [any_ints]
theorem isIn_dict {S : Store} {r : Nat} {kvs : List (Key × W)} (i : Int) (h : S[r]? = some (.dK kvs)) : M.isIn (.int i) (.ref r) S = some (M.valW kvs (Sum.inl i)).isSome := by
  unfold M.isIn
  dsimp only
  rw [h]
  rfl
theorem inW_of {x c : W} {S : Store} {b : Bool} (h : M.isIn x c S = some b) : M.inW x c S = .ok (.bl b) S := by
  unfold M.inW
  rw [h]
theorem ninW_of {x c : W} {S : Store} {b : Bool} (h : M.isIn x c S = some b) : M.ninW x c S = .ok (.bl (!b)) S := by
  unfold M.ninW
  rw [h]
theorem eqW_of {x c : W} {S : Store} {b : Bool} (h : M.isEq x c S = some b) : M.eqW x c S = .ok (.bl b) S := by
  unfold M.eqW
  rw [h]
theorem neW_of {x c : W} {S : Store} {b : Bool} (h : M.isEq x c S = some b) : M.neW x c S = .ok (.bl (!b)) S := by
  unfold M.neW
  rw [h]
theorem boolsW_map : ∀ bs : List Bool, M.boolsW (bs.map .bl) = some bs
  | [] => rfl
  | b :: bs => by
    show (M.boolsW (bs.map .bl)).map (b :: ·) = _
    rw [boolsW_map bs]
    rfl
theorem intsW_map : ∀ ns : List Int, M.intsW (ns.map .int) = some ns
  | [] => rfl
  | b :: bs => by
    show (M.intsW (bs.map .int)).map (b :: ·) = _
    rw [intsW_map bs]
    rfl
theorem anyW_run {S : Store} {r : Nat} {bs : List Bool} (h : S[r]? = some (.lst (bs.map .bl))) : M.anyW [.ref r] S = .ok (.bl (bs.any id)) S := by
  unfold M.anyW
  dsimp only
  rw [h]
  dsimp only
  rw [boolsW_map]
theorem allW_run {S : Store} {r : Nat} {bs : List Bool} (h : S[r]? = some (.lst (bs.map .bl))) : M.allW [.ref r] S = .ok (.bl (bs.all id)) S := by
  unfold M.allW
  dsimp only
  rw [h]
  dsimp only
  rw [boolsW_map]
/-! ### how long what is shown is -/
mutual
def cost : PyData → Nat
  | .int i => i.natAbs + 2
  | .bool _ => 5
  | .none => 4
  | .str x => 10 * x.length + 2
  | .list xs => costs xs + 2
  | .tuple xs => costs xs + 3
  | .dict _ => 0
def costs : List PyData → Nat
  | [] => 0
  | x :: xs => cost x + 2 + costs xs
end
theorem textFrom_le : ∀ (ts : List Str) (k : Nat) (acc : Str), (textFrom k acc ts).length ≤ acc.length + piled ts
  | [], k, acc => by
    rw [textFrom, piled_nil]
    omega
  | t :: ts, k, acc => by
    rw [textFrom, piled_cons]
    have h := textFrom_le ts (k + 1) (acc ++ (if k > 0 then ", " else "" : String) ++ t)
    rw [strLen_append, strLen_append] at h
    have h2 : (Str.ofString (if k > 0 then ", " else "" : String)).length ≤ 2 := by
      split <;> decide
    omega
theorem piled_costs : ∀ ds : List PyData, (∀ d ∈ ds, (PyData.shown d).length ≤ cost d) → piled (PyData.shownAll ds) ≤ costs ds
  | [], _ => by
    rw [PyData.shownAll, piled_nil]
    exact Nat.zero_le _
  | d :: ds, h => by
    rw [PyData.shownAll, piled_cons, costs]
    have a := h d (List.mem_cons_self ..)
    have b := piled_costs ds fun x hx => h x (List.mem_cons_of_mem _ hx)
    omega
theorem list_cost {ds : List PyData} (h : ∀ d ∈ ds, (PyData.shown d).length ≤ cost d) : (PyData.shown (.list ds)).length ≤ cost (.list ds) := by
  rw [PyData.shown, cost, listText, strLen_append]
  have a := textFrom_le (PyData.shownAll ds) 0 "["
  have b := piled_costs ds h
  have c : (Str.ofString "[").length = 1 := by decide
  have d : (Str.ofString "]").length = 1 := by decide
  omega
theorem join_le : ∀ ts : List Str, (Str.join ", " ts).length ≤ piled ts := fun ts => by
  by_cases h : ts = []
  · subst h
    decide
  · have := join_length_add ts h
    omega
theorem tuple_cost {ds : List PyData} (h : ∀ d ∈ ds, (PyData.shown d).length ≤ cost d) : (PyData.shown (.tuple ds)).length ≤ cost (.tuple ds) := by
  rw [PyData.shown, cost, tupleText, strLen_append, strLen_append]
  have a := join_le (PyData.shownAll ds)
  have b := piled_costs ds h
  have c : (Str.ofString "(").length = 1 := by decide
  have d : (Str.ofString (if (PyData.shownAll ds).length == 1 then ",)" else ")" : String)).length ≤ 2 := by
    split <;> decide
  omega
theorem int_cost (i : Int) : (PyData.shown (.int i)).length ≤ cost (.int i) := by
  rw [PyData.shown, cost]
  have h := PyProof.Rows.len_str_of_int i
  have h2 : (Str.ofString (toString i)).length ≤ i.natAbs + 2 := by omega
  exact h2
theorem bool_cost (b : Bool) : (PyData.shown (.bool b)).length ≤ cost (.bool b) := by
  cases b <;> decide
theorem none_cost : (PyData.shown .none).length ≤ cost .none := by decide
end Wo
set_option maxRecDepth 100000
set_option maxHeartbeats 4000000
namespace Wo
open PySem L2
/-! W16: runs reckoned by rewriting; every rule wants its term in full. -/
theorem via {α : Type} {a b : α} (h : a = b) : a = b := h
theorem x_bind {α β : Type} (a : α) (S : Store) (k : α → Store → Rs β) : (Rs.ok a S).bind k = k a S := via rfl
def gv (o : Option (Option W)) (S : Store) : Rs W := match o with
  | some (some w) => .ok w S
  | _ => .no
theorem x_var (i : Nat) (f : Fr) (S : Store) : M.var i f S = gv f[i]? S := by
  exact via rfl
theorem gv_some (w : W) (S : Store) : gv (some (some w)) S = .ok w S := via rfl
theorem x_cst (w : W) (f : Fr) (S : Store) : M.cst w f S = .ok w S := via rfl
def o2 (h : G2) (b : ME) (f : Fr) (r : Rs W) : Rs W := r.bind fun x S1 => (b f S1).bind fun y S2 => h x y S2
def o2b (h : G2) (x : W) (r : Rs W) : Rs W := r.bind fun y S2 => h x y S2
theorem x_op2 (h : G2) (a b : ME) (f : Fr) (S : Store) : M.op2 h a b f S = o2 h b f (a f S) := via rfl
theorem o2_ok (h : G2) (b : ME) (f : Fr) (x : W) (S : Store) : o2 h b f (.ok x S) = o2b h x (b f S) := via rfl
theorem o2b_ok (h : G2) (x y : W) (S : Store) : o2b h x (.ok y S) = h x y S := via rfl
theorem x_op1 (h : W → Store → Rs W) (a : ME) (f : Fr) (S : Store) : M.op1 h a f S = (a f S).bind h := via rfl
theorem x_ops (h : List W → Store → Rs W) (a : MA) (f : Fr) (S : Store) : M.ops h a f S = (a f S).bind h := via rfl
theorem x_nil (f : Fr) (S : Store) : M.nil f S = .ok [] S := via rfl
def c1 (r : MA) (f : Fr) (z : Rs W) : Rs (List W) := z.bind fun x S1 => (r f S1).bind fun xs S2 => .ok (x :: xs) S2
def c2 (x : W) (z : Rs (List W)) : Rs (List W) := z.bind fun xs S2 => .ok (x :: xs) S2
theorem x_cons (a : ME) (r : MA) (f : Fr) (S : Store) : M.cons a r f S = c1 r f (a f S) := via rfl
theorem c1_ok (r : MA) (f : Fr) (x : W) (S : Store) : c1 r f (.ok x S) = c2 x (r f S) := via rfl
theorem c2_ok (x : W) (xs : List W) (S : Store) : c2 x (.ok xs S) = .ok (x :: xs) S := via rfl
theorem x_tst (g : ME) (f : Fr) (S : Store) : M.tst g f S = (g f S).bind M.ofBl := via rfl
theorem x_tru (g : ME) (f : Fr) (S : Store) : M.tru g f S = (g f S).bind M.ofTru := via rfl
theorem x_ofBl (b : Bool) (S : Store) : M.ofBl (.bl b) S = .ok b S := via rfl
theorem x_truB (b : Bool) (S : Store) : M.ofTru (.bl b) S = .ok b S := via rfl
theorem x_truI (i : Int) (S : Store) : M.ofTru (.int i) S = .ok (i != 0) S := via rfl
theorem x_truN (S : Store) : M.ofTru .non S = .ok false S := via rfl
theorem x_truT (xs : List W) (S : Store) : M.ofTru (.tup xs) S = .ok (!xs.isEmpty) S := via rfl
theorem x_truL {r : Nat} {xs : List W} {S : Store} (h : S[r]? = some (.lst xs)) : M.ofTru (.ref r) S = .ok (!xs.isEmpty) S := by
  unfold M.ofTru M.truW
  dsimp only
  rw [h]
theorem x_truD {r : Nat} {xs : List (Key × W)} {S : Store} (h : S[r]? = some (.dK xs)) : M.ofTru (.ref r) S = .ok (!xs.isEmpty) S := by
  unfold M.ofTru M.truW
  dsimp only
  rw [h]
def kA (b : MT) (f : Fr) (r : Rs Bool) : Rs Bool := r.bind fun c S1 => if c = true then b f S1 else .ok false S1
theorem x_andT (a b : MT) (f : Fr) (S : Store) : M.andT a b f S = kA b f (a f S) := via rfl
theorem kA_t (b : MT) (f : Fr) (S : Store) : kA b f (.ok true S) = b f S := via rfl
theorem kA_f (b : MT) (f : Fr) (S : Store) : kA b f (.ok false S) = .ok false S := via rfl
def kO (b : MT) (f : Fr) (r : Rs Bool) : Rs Bool := r.bind fun c S1 => if c = true then .ok true S1 else b f S1
theorem x_orT (a b : MT) (f : Fr) (S : Store) : M.orT a b f S = kO b f (a f S) := via rfl
theorem kO_t (b : MT) (f : Fr) (S : Store) : kO b f (.ok true S) = .ok true S := via rfl
theorem kO_f (b : MT) (f : Fr) (S : Store) : kO b f (.ok false S) = b f S := via rfl
def kN (r : Rs Bool) : Rs Bool := r.bind fun c S1 => .ok (!c) S1
theorem x_notT (a : MT) (f : Fr) (S : Store) : M.notT a f S = kN (a f S) := via rfl
theorem kN_ok (b : Bool) (S : Store) : kN (.ok b S) = .ok (!b) S := via rfl
def vA (b : ME) (f : Fr) (r : Rs W) : Rs W := r.bind fun x S1 => (M.ofTru x S1).bind fun c S2 => if c = true then b f S2 else .ok x S2
def vA2 (b : ME) (f : Fr) (x : W) (r : Rs Bool) : Rs W := r.bind fun c S2 => if c = true then b f S2 else .ok x S2
theorem x_andV (a b : ME) (f : Fr) (S : Store) : M.andV a b f S = vA b f (a f S) := via rfl
theorem vA_ok (b : ME) (f : Fr) (x : W) (S : Store) : vA b f (.ok x S) = vA2 b f x (M.ofTru x S) := via rfl
theorem vA_t (b : ME) (f : Fr) (x : W) (S : Store) : vA2 b f x (.ok true S) = b f S := via rfl
theorem vA_f (b : ME) (f : Fr) (x : W) (S : Store) : vA2 b f x (.ok false S) = .ok x S := via rfl
def vO (b : ME) (f : Fr) (r : Rs W) : Rs W := r.bind fun x S1 => (M.ofTru x S1).bind fun c S2 => if c = true then .ok x S2 else b f S2
def vO2 (b : ME) (f : Fr) (x : W) (r : Rs Bool) : Rs W := r.bind fun c S2 => if c = true then .ok x S2 else b f S2
theorem x_orV (a b : ME) (f : Fr) (S : Store) : M.orV a b f S = vO b f (a f S) := via rfl
theorem vO_ok (b : ME) (f : Fr) (x : W) (S : Store) : vO b f (.ok x S) = vO2 b f x (M.ofTru x S) := via rfl
theorem vO_t (b : ME) (f : Fr) (x : W) (S : Store) : vO2 b f x (.ok true S) = .ok x S := via rfl
theorem vO_f (b : ME) (f : Fr) (x : W) (S : Store) : vO2 b f x (.ok false S) = b f S := via rfl
def vN (r : Rs Bool) : Rs W := r.bind fun c S2 => .ok (.bl (!c)) S2
theorem x_notV (a : ME) (f : Fr) (S : Store) : M.notV a f S = vN ((a f S).bind M.ofTru) := by
  unfold M.notV vN
  cases a f S <;> rfl
theorem vN_ok (b : Bool) (S : Store) : vN (.ok b S) = .ok (.bl (!b)) S := via rfl
def vI (a b : ME) (f : Fr) (r : Rs Bool) : Rs W := r.bind fun k S1 => if k = true then a f S1 else b f S1
theorem x_ifE (c : MT) (a b : ME) (f : Fr) (S : Store) : M.ifE c a b f S = vI a b f (c f S) := via rfl
theorem vI_t (a b : ME) (f : Fr) (S : Store) : vI a b f (.ok true S) = a f S := via rfl
theorem vI_f (a b : ME) (f : Fr) (S : Store) : vI a b f (.ok false S) = b f S := via rfl
theorem x_yes (f : Fr) (S : Store) : M.yes f S = .ok true S := via rfl
/-! operators -/
theorem x_add (i j : Int) (S : Store) : M.addW (.int i) (.int j) S = .ok (.int (i + j)) S := via rfl
theorem x_addT {xs ys : List W} (S : Store) (h : xs.length + ys.length ≤ 1000) : M.addW (.tup xs) (.tup ys) S = .ok (.tup (xs ++ ys)) S := by
  have hlim : M.lim = 100000 := via rfl
  unfold M.addW
  dsimp only
  rw [if_pos (by omega)]
theorem x_addL {S : Store} {r q : Nat} {xs ys : List W} (h1 : S[r]? = some (.lst xs)) (h2 : S[q]? = some (.lst ys)) (h : xs.length + ys.length ≤ 1000) : M.addW (.ref r) (.ref q) S = .ok (.ref S.length) (S ++ [.lst (xs ++ ys)]) := by
  have hlim : M.lim = 100000 := via rfl
  unfold M.addW
  dsimp only
  rw [h1, h2]
  dsimp only
  rw [if_pos (by omega)]
theorem x_sub (i j : Int) (S : Store) : M.subW (.int i) (.int j) S = .ok (.int (i - j)) S := via rfl
theorem x_neg (i : Int) (S : Store) : M.negW (.int i) S = .ok (.int (-i)) S := via rfl
theorem x_mul {i j : Int} (S : Store) (h : (-18446744073709551616 < i ∧ i < 18446744073709551616) ∨ (-18446744073709551616 < j ∧ j < 18446744073709551616)) : M.mulW (.int i) (.int j) S = .ok (.int (i * j)) S := by
  unfold M.mulW
  dsimp only
  rw [if_pos h]
theorem rep_one {α : Type} (x : α) : ∀ k : Nat, (List.replicate k [x]).flatten = List.replicate k x
  | 0 => rfl
  | k + 1 => by
    rw [List.replicate_succ, List.flatten_cons, rep_one x k]
    rfl
theorem x_mulT {x : W} {k : Int} (S : Store) (h0 : 0 ≤ k) (h : k ≤ 1000) : M.mulW (.tup [x]) (.int k) S = .ok (.tup (List.replicate k.toNat x)) S := by
  unfold M.mulW
  dsimp only
  rw [if_pos ⟨rfl, h0, h⟩, rep_one]
theorem x_fdiv {i j : Int} (S : Store) (h0 : 0 < j) (h1 : j < 1073741824) : M.fdivW (.int i) (.int j) S = .ok (.int (i / j)) S := by
  unfold M.fdivW
  dsimp only
  rw [if_pos ⟨h0, h1⟩]
theorem x_mod {i j : Int} (S : Store) (h0 : 0 < j) : M.modW (.int i) (.int j) S = .ok (.int (i % j)) S := by
  unfold M.modW
  dsimp only
  rw [if_pos h0]
theorem x_pow {i j : Int} (S : Store) (h0 : 0 ≤ j) (h1 : j ≤ 1000) (h2 : i.natAbs < 18446744073709551616) : M.powW (.int i) (.int j) S = .ok (.int (i ^ j.toNat)) S := by
  unfold M.powW
  dsimp only
  rw [if_pos ⟨h0, h1, h2⟩]
theorem x_lt (i j : Int) (S : Store) : M.ltW (.int i) (.int j) S = .ok (.bl (decide (i < j))) S := via rfl
theorem x_le (i j : Int) (S : Store) : M.leW (.int i) (.int j) S = .ok (.bl (decide (i ≤ j))) S := via rfl
theorem x_gt (i j : Int) (S : Store) : M.gtW (.int i) (.int j) S = .ok (.bl (decide (j < i))) S := via rfl
theorem x_ge (i j : Int) (S : Store) : M.geW (.int i) (.int j) S = .ok (.bl (decide (j ≤ i))) S := via rfl
theorem x_ne (i j : Int) (S : Store) : M.neW (.int i) (.int j) S = .ok (.bl (!decide (i = j))) S := by
  have h := eqW_int i j S
  unfold M.eqW at h
  unfold M.neW
  cases e : M.isEq (.int i) (.int j) S with
  | none => rw [e] at h; exact nomatch h
  | some k =>
    rw [e] at h
    injection h with h
    injection h with h
    rw [h]
theorem x_max (i j : Int) (S : Store) : M.maxW [.int i, .int j] S = .ok (.int (if j > i then j else i)) S := via rfl
theorem x_min (i j : Int) (S : Store) : M.minW [.int i, .int j] S = .ok (.int (if j < i then j else i)) S := via rfl
theorem x_intI (i : Int) (S : Store) : M.intW [.int i] S = .ok (.int i) S := via rfl
theorem x_intB (b : Bool) (S : Store) : M.intW [.bl b] S = .ok (.int (if b then 1 else 0)) S := via rfl
theorem x_lenT (xs : List W) (S : Store) : M.lenW [.tup xs] S = .ok (.int xs.length) S := via rfl
theorem x_lenF (xs : List W) (S : Store) : M.lenW [.fl xs] S = .ok (.int xs.length) S := via rfl
theorem x_lenL {r : Nat} {xs : List W} {S : Store} (h : S[r]? = some (.lst xs)) : M.lenW [.ref r] S = .ok (.int xs.length) S := by
  unfold M.lenW
  dsimp only
  rw [h]
theorem x_tupT (xs : List W) (S : Store) : M.tupleW [.tup xs] S = .ok (.tup xs) S := via rfl
theorem x_tupL {r : Nat} {xs : List W} {S : Store} (h : S[r]? = some (.lst xs)) : M.tupleW [.ref r] S = .ok (.tup xs) S := by
  unfold M.tupleW
  dsimp only
  rw [h]
theorem x_mkT {ws : List W} (S : Store) (h : ws.length ≤ 1000) : M.mkTup ws S = .ok (.tup ws) S := by
  have hlim : M.lim = 100000 := via rfl
  unfold M.mkTup
  rw [if_pos (by omega)]
theorem x_mkL {ws : List W} (S : Store) (h : ws.length ≤ 1000) : M.mkLst ws S = .ok (.ref S.length) (S ++ [.lst ws]) := by
  have hlim : M.lim = 100000 := via rfl
  unfold M.mkLst
  rw [if_pos (by omega)]
/-! items -/
def gx (o : Option W) (S : Store) : Rs W := match o with
  | some w => .ok w S
  | none => .no
theorem gx_some (w : W) (S : Store) : gx (some w) S = .ok w S := via rfl
theorem x_ixT (xs : List W) (i : Int) (S : Store) : M.ixW (.tup xs) (.int i) S = gx (atI xs i) S := by
  unfold M.ixW gx
  rfl
theorem x_ixF (xs : List W) (i : Int) (S : Store) : M.ixW (.fl xs) (.int i) S = gx (atI xs i) S := by
  unfold M.ixW gx
  rfl
theorem x_ixL {r : Nat} {xs : List W} {S : Store} (h : S[r]? = some (.lst xs)) (i : Int) : M.ixW (.ref r) (.int i) S = gx (atI xs i) S := by
  unfold M.ixW gx M.itemsOf
  dsimp only
  rw [h]
  all_goals rfl
theorem x_at {xs : List W} {i : Int} {w : W} (k : Nat) (e : i = k) (h : xs[k]? = some w) : atI xs i = some w := by
  have hk := (List.getElem?_eq_some_iff.mp h).1
  subst e
  unfold atI ixN
  rw [if_pos (by omega), if_pos (by omega)]
  exact h
theorem x_at0 (x : W) (xs : List W) : atI (x :: xs) 0 = some x := x_at 0 rfl rfl
theorem x_at1 (x y : W) (xs : List W) : atI (x :: y :: xs) 1 = some y := x_at 1 rfl rfl
theorem x_at2 (x y z : W) (xs : List W) : atI (x :: y :: z :: xs) 2 = some z := x_at 2 rfl rfl
theorem x_at3 (x y z v : W) (xs : List W) : atI (x :: y :: z :: v :: xs) 3 = some v := x_at 3 rfl rfl
theorem x_at4 (x y z v u : W) (xs : List W) : atI (x :: y :: z :: v :: u :: xs) 4 = some u := x_at 4 rfl rfl
theorem x_slT (xs : List W) (lo hi : Option Int) (S : Store) : M.slW (.tup xs) lo hi S = .ok (.tup (M.cutW xs lo hi)) S := via rfl
def l1 (lo hi : M.MO) (f : Fr) (r : Rs W) : Rs W := r.bind fun x S1 => (lo f S1).bind fun l S2 => (hi f S2).bind fun u S3 => M.slW x l u S3
def l2 (hi : M.MO) (f : Fr) (x : W) (r : Rs (Option Int)) : Rs W := r.bind fun l S2 => (hi f S2).bind fun u S3 => M.slW x l u S3
def l3 (x : W) (l : Option Int) (r : Rs (Option Int)) : Rs W := r.bind fun u S3 => M.slW x l u S3
theorem x_sl (a : ME) (lo hi : M.MO) (f : Fr) (S : Store) : M.sl a lo hi f S = l1 lo hi f (a f S) := via rfl
theorem l1_ok (lo hi : M.MO) (f : Fr) (x : W) (S : Store) : l1 lo hi f (.ok x S) = l2 hi f x (lo f S) := via rfl
theorem l2_ok (hi : M.MO) (f : Fr) (x : W) (l : Option Int) (S : Store) : l2 hi f x (.ok l S) = l3 x l (hi f S) := via rfl
theorem l3_ok (x : W) (l u : Option Int) (S : Store) : l3 x l (.ok u S) = M.slW x l u S := via rfl
def gp (w : W) (S : Store) : Rs (Option Int) := match w with
  | .int i => .ok (some i) S
  | _ => .no
theorem x_part (g : ME) (f : Fr) (S : Store) : M.part g f S = (g f S).bind gp := via rfl
theorem gp_int (i : Int) (S : Store) : gp (.int i) S = .ok (some i) S := via rfl
theorem x_noPart (f : Fr) (S : Store) : M.noPart f S = .ok none S := via rfl
/-! iterations -/
theorem x_iter (g : ME) (f : Fr) (S : Store) : M.iter g f S = (g f S).bind M.iterW := via rfl
theorem x_itT (xs : List W) (S : Store) : M.iterW (.tup xs) S = .ok (xs.length, M.getF xs) S := via rfl
theorem x_itL {r : Nat} {xs : List W} {S : Store} (h : S[r]? = some (.lst xs)) : M.iterW (.ref r) S = .ok (xs.length, M.getR r) S := by
  unfold M.iterW
  dsimp only
  rw [h]
theorem x_rng1 (g : MA) (f : Fr) (S : Store) : M.rng1 g f S = (g f S).bind M.rng1W := via rfl
theorem x_rng2 (g : MA) (f : Fr) (S : Store) : M.rng2 g f S = (g f S).bind M.rng2W := via rfl
theorem x_rng1W {j : Int} (S : Store) (h : -1000000 ≤ j) (h' : j < 1000000) : M.rng1W [.int j] S = .ok (j.toNat, M.getN 0 j.toNat) S := by
  unfold M.rng1W
  dsimp only
  rw [if_pos ⟨h, h'⟩]
/-! statements -/
def sq (r : RsS) (b : MS) : RsS := match r with
  | .ok (.next f1) S1 => b f1 S1
  | r => r
theorem x_seq (a b : MS) (f : Fr) (S : Store) : M.seq a b f S = sq (a f S) b := by
  unfold M.seq sq
  rfl
theorem sq_next (b : MS) (f : Fr) (S : Store) : sq (.ok (.next f) S) b = b f S := via rfl
theorem sq_ret (b : MS) (w : W) (S : Store) : sq (.ok (.ret w) S) b = .ok (.ret w) S := via rfl
theorem sq_cont (b : MS) (f : Fr) (S : Store) : sq (.ok (.cont f) S) b = .ok (.cont f) S := via rfl
theorem sq_brk (b : MS) (f : Fr) (S : Store) : sq (.ok (.brk f) S) b = .ok (.brk f) S := via rfl
def sn (o : Option Fr) (S : Store) : RsS := match o with
  | some f' => .ok (.next f') S
  | none => .no
theorem sn_some (f : Fr) (S : Store) : sn (some f) S = .ok (.next f) S := via rfl
def sA (t : M.MG) (f : Fr) (r : Rs W) : RsS := match r with
  | .ok w S1 => sn (t w f S1) S1
  | .ex e S1 => .ex e f S1
  | .no => .no
theorem x_asg (g : ME) (t : M.MG) (f : Fr) (S : Store) : M.asg g t f S = sA t f (g f S) := by
  unfold M.asg M.thenS sA sn
  cases g f S <;> rfl
theorem sA_ok (t : M.MG) (f : Fr) (w : W) (S : Store) : sA t f (.ok w S) = sn (t w f S) S := via rfl
def sR (f : Fr) (r : Rs W) : RsS := match r with
  | .ok w S1 => .ok (.ret w) S1
  | .ex e S1 => .ex e f S1
  | .no => .no
theorem x_ret (g : ME) (f : Fr) (S : Store) : M.ret g f S = sR f (g f S) := by
  unfold M.ret M.thenS sR
  cases g f S <;> rfl
theorem sR_ok (f : Fr) (w : W) (S : Store) : sR f (.ok w S) = .ok (.ret w) S := via rfl
theorem x_retN (f : Fr) (S : Store) : M.retN f S = .ok (.ret .non) S := via rfl
def sD (f : Fr) (r : Rs W) : RsS := match r with
  | .ok w S1 => .ok (.next f) S1
  | .ex e S1 => .ex e f S1
  | .no => .no
theorem x_drop (g : ME) (f : Fr) (S : Store) : M.drop g f S = sD f (g f S) := by
  unfold M.drop M.thenS sD
  cases g f S <;> rfl
theorem sD_ok (f : Fr) (w : W) (S : Store) : sD f (.ok w S) = .ok (.next f) S := via rfl
def sI (a b : MS) (f : Fr) (r : Rs Bool) : RsS := match r with
  | .ok k S1 => if k = true then a f S1 else b f S1
  | .ex e S1 => .ex e f S1
  | .no => .no
theorem x_ifS (c : MT) (a b : MS) (f : Fr) (S : Store) : M.ifS c a b f S = sI a b f (c f S) := by
  unfold M.ifS M.thenS sI
  cases c f S <;> rfl
theorem sI_t (a b : MS) (f : Fr) (S : Store) : sI a b f (.ok true S) = a f S := via rfl
theorem sI_f (a b : MS) (f : Fr) (S : Store) : sI a b f (.ok false S) = b f S := via rfl
theorem x_skip (f : Fr) (S : Store) : M.skip f S = .ok (.next f) S := via rfl
theorem x_brk (f : Fr) (S : Store) : M.brk f S = .ok (.brk f) S := via rfl
theorem x_cont (f : Fr) (S : Store) : M.cont f S = .ok (.cont f) S := via rfl
theorem x_tgN (i : Nat) (w : W) (f : Fr) (S : Store) : M.tgN i w f S = some (f.set i (some w)) := via rfl
theorem x_tgT {n : Nat} {ws : List W} (t : M.MGs) (f : Fr) (S : Store) (h : ws.length = n) : M.tgT n t (.tup ws) f S = t ws f S := by
  unfold M.tgT
  dsimp only
  rw [if_pos h]
theorem x_tgC (t : M.MG) (u : M.MGs) (w : W) (r : List W) (f : Fr) (S : Store) : M.tgCons t u (w :: r) f S = (t w f S).bind fun f1 => u r f1 S := via rfl
theorem x_tgO (f : Fr) (S : Store) : M.tgNil [] f S = some f := via rfl
def so (o : Option Store) (f : Fr) : RsS := match o with
  | some S => .ok (.next f) S
  | none => .no
theorem so_some (S : Store) (f : Fr) : so (some S) f = .ok (.next f) S := via rfl
def s1 (o i : ME) (f : Fr) (r : Rs W) : RsS := match r with
  | .no => .no
  | .ex e S1 => .ex e f S1
  | .ok x S1 => match o f S1 with
    | .no => .no
    | .ex e S2 => .ex e f S2
    | .ok y S2 => match i f S2 with
      | .no => .no
      | .ex e S3 => .ex e f S3
      | .ok z S3 => so (M.setW y z x S3) f
def s2 (i : ME) (f : Fr) (x : W) (r : Rs W) : RsS := match r with
    | .no => .no
    | .ex e S2 => .ex e f S2
    | .ok y S2 => match i f S2 with
      | .no => .no
      | .ex e S3 => .ex e f S3
      | .ok z S3 => so (M.setW y z x S3) f
def s3 (f : Fr) (x y : W) (r : Rs W) : RsS := match r with
      | .no => .no
      | .ex e S3 => .ex e f S3
      | .ok z S3 => so (M.setW y z x S3) f
theorem x_set (v o i : ME) (f : Fr) (S : Store) : M.setSub v o i f S = s1 o i f (v f S) := by
  unfold M.setSub s1 so
  rfl
theorem s1_ok (o i : ME) (f : Fr) (x : W) (S : Store) : s1 o i f (.ok x S) = s2 i f x (o f S) := via rfl
theorem s2_ok (i : ME) (f : Fr) (x y : W) (S : Store) : s2 i f x (.ok y S) = s3 f x y (i f S) := via rfl
theorem s3_ok (f : Fr) (x y z : W) (S : Store) : s3 f x y (.ok z S) = so (M.setW y z x S) f := via rfl
theorem x_setL {r : Nat} {xs : List W} {S : Store} (h : S[r]? = some (.lst xs)) (k : Nat) (v : W) (hk : k < xs.length) {i : Int} (e : i = k) : M.setW (.ref r) (.int i) v S = some (S.set r (.lst (xs.set k v))) := by
  subst e
  unfold M.setW
  dsimp only
  rw [h]
  dsimp only
  have e : ixN xs.length (k : Int) = some k := by
    unfold ixN
    rw [if_pos (by omega), if_pos (by omega)]
    rfl
  rw [e]
theorem x_setD {r : Nat} {kvs : List (Key × W)} {S : Store} (h : S[r]? = some (.dK kvs)) (i : Int) (v : W) (hl : kvs.length ≤ 1000) : M.setW (.ref r) (.int i) v S = some (S.set r (.dK (M.putW kvs (Sum.inl i) v))) := by
  have hlim : M.lim = 100000 := via rfl
  unfold M.setW
  dsimp only
  rw [h]
  dsimp only [M.keyOf]
  rw [if_pos (by omega)]
theorem x_app {r : Nat} {xs : List W} {S : Store} (g : ME) (a : ME) (f : Fr) {S1 : Store} {y : W} (h0 : g f S1 = .ok (.ref r) S1) (h1 : a f S1 = .ok y S) (hi : M.isLst (.ref r) S1 = true) (h : S[r]? = some (.lst xs)) (hl : xs.length ≤ 1000) : M.mth M.appM g (M.cons a M.nil) f S1 = .ok .non (S.set r (.lst (xs ++ [y]))) := by
  have hlim : M.lim = 100000 := via rfl
  unfold M.mth
  rw [h0, Rs.bind_ok, if_pos hi]
  unfold M.cons M.nil
  rw [h1]
  show M.appM (.ref r) [y] S = _
  unfold M.appM
  dsimp only
  rw [h]
  dsimp only
  rw [if_pos (by omega)]
theorem isLst_of {r : Nat} {xs : List W} {S : Store} (h : S[r]? = some (.lst xs)) : M.isLst (.ref r) S = true := by
  unfold M.isLst
  dsimp only
  rw [h]
end Wo
set_option maxRecDepth 100000
set_option maxHeartbeats 4000000
namespace Wo
open PySem L2
/-! W17: things that repr shows in few signs. -/
structure OkD (B : Nat) (d : PyData) : Prop where
  sh : d.showable = true
  le : (PyData.shown d).length ≤ cost d
  co : cost d ≤ B
theorem OkD.mono {B B' : Nat} {d : PyData} (h : OkD B d) (e : B ≤ B') : OkD B' d := ⟨h.sh, h.le, Nat.le_trans h.co e⟩
theorem okInt {i : Int} {N : Nat} (h : i.natAbs ≤ N) (hN : N < 1900) : OkD (N + 2) (.int i) := by
  refine ⟨?_, int_cost i, ?_⟩
  · rw [PyData.showable]
    exact decide_eq_true (Nat.lt_of_le_of_lt (Nat.log2_le_self _) (by omega))
  · rw [cost]
    omega
theorem showAll : ∀ ds : List PyData, (∀ d ∈ ds, d.showable = true) → PyData.showableAll ds = true
  | [], _ => by rw [PyData.showableAll]
  | d :: ds, h => by
    rw [PyData.showableAll, h d (List.mem_cons_self ..), showAll ds fun x hx => h x (List.mem_cons_of_mem _ hx)]
    rfl
theorem costs_le {B : Nat} : ∀ ds : List PyData, (∀ d ∈ ds, cost d ≤ B) → costs ds ≤ ds.length * (B + 2)
  | [], _ => by
    rw [costs]
    exact Nat.zero_le _
  | d :: ds, h => by
    rw [costs, List.length_cons, Nat.succ_mul]
    have a := h d (List.mem_cons_self ..)
    have b := costs_le ds fun x hx => h x (List.mem_cons_of_mem _ hx)
    omega
theorem okTup {B n : Nat} {ds : List PyData} (h : ∀ d ∈ ds, OkD B d) (hn : ds.length ≤ n) : OkD (n * (B + 2) + 3) (.tuple ds) := by
  refine ⟨?_, tuple_cost fun d hd => (h d hd).le, ?_⟩
  · rw [PyData.showable]
    exact showAll ds fun d hd => (h d hd).sh
  · rw [cost]
    have a := costs_le ds fun d hd => (h d hd).co
    have b := Nat.mul_le_mul_right (B + 2) hn
    omega
theorem okList {B n : Nat} {ds : List PyData} (h : ∀ d ∈ ds, OkD B d) (hn : ds.length ≤ n) : OkD (n * (B + 2) + 2) (.list ds) := by
  refine ⟨?_, list_cost fun d hd => (h d hd).le, ?_⟩
  · rw [PyData.showable]
    exact showAll ds fun d hd => (h d hd).sh
  · rw [cost]
    have a := costs_le ds fun d hd => (h d hd).co
    have b := Nat.mul_le_mul_right (B + 2) hn
    omega
theorem repr_run {w : W} {S : Store} {d : PyData} {B : Nat} (h : toD S dd w = some d) (o : OkD B d) (hB : B ≤ 100000) : M.reprW [w] S = .ok (.str d.shown) S := by
  have hlim : M.lim = 100000 := rfl
  unfold M.reprW
  dsimp only
  rw [h]
  dsimp only
  rw [if_pos ⟨o.sh, by have := o.le; have := o.co; omega⟩]
theorem isi_list {S : Store} {q : Nat} {xs : List W} (h : S[q]? = some (.lst xs)) : M.isiK [.ref q, .ty "list"] S = .ok (.bl true) S := by
  unfold M.isiK
  dsimp only
  rw [if_pos (by decide)]
  unfold M.tyName
  dsimp only
  rw [h]
  rfl
theorem x_eqS (x y : Str) (S : Store) : M.eqW (.str x) (.str y) S = .ok (.bl (decide (x = y))) S := by exact via rfl
theorem x_neS (x y : Str) (S : Store) : M.neW (.str x) (.str y) S = .ok (.bl (!decide (x = y))) S := by exact via rfl
end Wo
set_option maxRecDepth 100000
set_option maxHeartbeats 4000000
namespace Wo
open PySem L2
/-! W18: what is never come to; the module's own values. -/
namespace M
def bad : MS := fun _ _ => .no
def badE : ME := fun _ _ => .no
end M
section
variable {X : Cx} {E : EX}
theorem s_bad {st : Stmt} : PS X st (tS X.K E M.bad) := ⟨fun _ _ _ _ _ _ h => by
  obtain ⟨_, _, _, _, _, h⟩ := h
  exact h.elim⟩
theorem e_bad {e : Expr} : PE X e (tE X.K E M.badE) := ⟨fun _ _ _ _ _ _ h => by
  obtain ⟨_, _, _, _, _, h⟩ := h
  exact h.elim⟩
theorem e_glob {x : Str} {p : Pos} {v : V} {w : W} (hg : Gl X x) (h : ∃ u, X.mg x = some u ∧ RelV v u) (r : ∀ m H, RV X.K m H w v) (hd : (x == ("__debug__" : Str)) = false := by decide) : PE X (.Name x p) (tE X.K E (M.cst w)) := by
  obtain ⟨u, hm, rr⟩ := h
  exact e_cst (pe_glob hg hm rr hd) r
end
theorem x_chain (g g' : G2) (a b c : ME) (f : Fr) (S : Store) : M.chain g g' a b c f S = (a f S).bind fun x S1 => (b f S1).bind fun y S2 => (g x y S2).bind fun z S3 => (M.ofBl z S3).bind fun k S4 => if k = true then (c f S4).bind fun w S5 => g' y w S5 else .ok (.bl false) S4 := rfl
end Wo
set_option maxRecDepth 100000
set_option maxHeartbeats 4000000
namespace Wo
open PySem L2
/-! W19: slices from the front; a thing is equal to itself. -/
theorem cut_nn (xs : List W) (a b : Nat) : M.cutW xs (some (a : Int)) (some (b : Int)) = (xs.drop a).take (b - a) := by
  unfold M.cutW
  rw [HT.sIx_nat, HT.sIx_nat]
  by_cases h : a ≤ xs.length
  · rw [Nat.min_eq_left h, List.take_eq_take_iff, List.length_drop]
    omega
  · rw [List.drop_eq_nil_of_le (by omega), List.drop_eq_nil_of_le (by omega)]
    simp
theorem cut_0n (xs : List W) (b : Nat) : M.cutW xs none (some (b : Int)) = xs.take b := by
  unfold M.cutW
  rw [HT.sIx_nat]
  have e : HT.sIx xs.length 0 none = 0 := rfl
  rw [e, List.drop_zero, List.take_eq_take_iff]
  omega
theorem cut_n0 (xs : List W) (a : Nat) : M.cutW xs (some (a : Int)) none = xs.drop a := by
  unfold M.cutW
  rw [HT.sIx_nat]
  have e : HT.sIx xs.length xs.length none = xs.length := rfl
  rw [e]
  by_cases h : a ≤ xs.length
  · rw [Nat.min_eq_left h, List.take_of_length_le]
    rw [List.length_drop]
    exact Nat.le_refl _
  · rw [List.drop_eq_nil_of_le (by omega), List.drop_eq_nil_of_le (by omega)]
    simp
theorem lay_all {f : W → Option PyData} (hf : ∀ w d, f w = some d → d.canLay0 = true) : ∀ (xs : List W) (ds : List PyData), xs.mapM f = some ds → PyData.canLayAll0 ds = true
  | [], ds, e => by
    simp at e
    subst e
    rw [PyData.canLayAll0]
  | x :: xs, ds, e => by
    rw [List.mapM_cons] at e
    cases h1 : f x with
    | none => rw [h1] at e; exact nomatch e
    | some d =>
      cases h2 : xs.mapM f with
      | none => rw [h1, h2] at e; exact nomatch e
      | some es =>
        rw [h1, h2] at e
        have e' : ds = d :: es := by
          have : some (d :: es) = some ds := e
          injection this with this
          exact this.symm
        subst e'
        rw [PyData.canLayAll0, hf x d h1, lay_all hf xs es h2]
        rfl
theorem toD_lay (S : Store) : ∀ (n : Nat) (w : W) (d : PyData), toD S n w = some d → d.canLay0 = true
  | 0, _, _, e => nomatch e
  | n + 1, w, d, e => by
    cases w with
    | non => cases e; rw [PyData.canLay0]
    | bl b => cases e; rw [PyData.canLay0]
    | int i => cases e; rw [PyData.canLay0]
    | ty t => exact nomatch e
    | str x =>
      unfold toD at e
      dsimp only at e
      split at e
      · rename_i h
        cases e
        rw [PyData.canLay0]
        exact h
      · exact nomatch e
    | tup xs =>
      unfold toD at e
      dsimp only at e
      cases h : xs.mapM (toD S n) with
      | none => rw [h] at e; exact nomatch e
      | some ds =>
        rw [h] at e
        cases e
        rw [PyData.canLay0]
        exact lay_all (toD_lay S n) xs ds h
    | fl xs =>
      unfold toD at e
      dsimp only at e
      cases h : xs.mapM (toD S n) with
      | none => rw [h] at e; exact nomatch e
      | some ds =>
        rw [h] at e
        cases e
        rw [PyData.canLay0]
        exact lay_all (toD_lay S n) xs ds h
    | ref r =>
      unfold toD at e
      dsimp only at e
      split at e
      · rename_i xs hr
        cases h : xs.mapM (toD S n) with
        | none => rw [h] at e; exact nomatch e
        | some ds =>
          rw [h] at e
          cases e
          rw [PyData.canLay0]
          exact lay_all (toD_lay S n) xs ds h
      · exact nomatch e
theorem isEq_self {w : W} {S : Store} {d : PyData} (h : toD S dd w = some d) : M.isEq w w S = some true := by
  unfold M.isEq
  cases w with
  | str x =>
    dsimp only
    rw [decide_eq_true rfl]
  | _ =>
    dsimp only
    rw [h]
    dsimp only
    rw [PySem.SeqAt.eqv_refl d (toD_lay S dd _ d h)]
end Wo
set_option maxRecDepth 100000
set_option maxHeartbeats 4000000

namespace K07
open PySem L2 Wo
/-! printed by gen.py: each def's run -/
def bis_whole : MS := M.ret (M.andV (M.ops M.isiK (M.cons (M.var 0) (M.cons (M.cst (.ty "int")) (M.nil)))) (M.notV (M.ops M.isiK (M.cons (M.var 0) (M.cons (M.cst (.ty "bool")) (M.nil))))))
def mis_whole : List W → Store → Rs W := M.fn 1 1 bis_whole
def bis_from : MS := M.ret (M.andV (M.ops mis_whole (M.cons (M.var 0) (M.nil))) (M.chain M.leW M.leW (M.var 1) (M.var 0) (M.var 2)))
def mis_from : List W → Store → Rs W := M.fn 3 3 bis_from
def bnode_pages : MS := M.ret (M.op2 M.fdivW (M.op2 M.subW (M.op2 M.addW (M.ops M.lenW (M.cons (M.op2 M.ixW (M.var 0) (M.cst (.int 1))) (M.nil))) (M.cst (.int 4))) (M.cst (.int 1))) (M.cst (.int 4)))
def mnode_pages : List W → Store → Rs W := M.fn 1 1 bnode_pages
def bdisk_pages : MS := M.ret (M.op2 M.addW (M.op2 M.addW (M.cst (.int 1)) (M.ops mnode_pages (M.cons (M.var 0) (M.nil)))) (M.ops M.lenW (M.cons (M.op2 M.ixW (M.var 0) (M.cst (.int 2))) (M.nil))))
def mdisk_pages : List W → Store → Rs W := M.fn 1 1 bdisk_pages
def blook_at_page : MS := M.ifS (M.notT (M.tru (M.ops mis_from (M.cons (M.var 1) (M.cons (M.cst (.int 0)) (M.cons (M.op2 M.subW (M.ops mdisk_pages (M.cons (M.var 0) (M.nil))) (M.cst (.int 1))) (M.nil))))))) (M.bad) (M.skip)
def mlook_at_page : List W → Store → Rs W := M.fn 2 2 blook_at_page
def bslots_of : MS := M.seq (M.drop (M.ops mlook_at_page (M.cons (M.var 0) (M.cons (M.var 1) (M.nil))))) (M.seq (M.ifS (M.tst (M.op2 M.eqW (M.var 1) (M.cst (.int 0)))) (M.ret (M.op2 M.ixW (M.var 0) (M.cst (.int 0)))) (M.skip)) (M.seq (M.ifS (M.tst (M.op2 M.leW (M.var 1) (M.ops mnode_pages (M.cons (M.var 0) (M.nil))))) (M.ret (M.sl (M.op2 M.ixW (M.var 0) (M.cst (.int 1))) (M.part (M.op2 M.mulW (M.cst (.int 4)) (M.op2 M.subW (M.var 1) (M.cst (.int 1))))) (M.part (M.op2 M.mulW (M.cst (.int 4)) (M.var 1))))) (M.skip)) (M.ret (M.op2 M.ixW (M.op2 M.ixW (M.var 0) (M.cst (.int 2))) (M.op2 M.subW (M.op2 M.subW (M.var 1) (M.cst (.int 1))) (M.ops mnode_pages (M.cons (M.var 0) (M.nil))))))))
def mslots_of : List W → Store → Rs W := M.fn 2 2 bslots_of
def bwith_slots : MS := M.seq (M.drop (M.ops mlook_at_page (M.cons (M.var 0) (M.cons (M.var 1) (M.nil))))) (M.seq (M.asg (M.var 0) (M.tgT 3 (M.tgCons (M.tgN 3) (M.tgCons (M.tgN 4) (M.tgCons (M.tgN 5) (M.tgNil)))))) (M.seq (M.ifS (M.tst (M.op2 M.eqW (M.var 1) (M.cst (.int 0)))) (M.ret (M.ops M.mkTup (M.cons (M.var 2) (M.cons (M.var 4) (M.cons (M.var 5) (M.nil)))))) (M.skip)) (M.seq (M.ifS (M.tst (M.op2 M.leW (M.var 1) (M.ops mnode_pages (M.cons (M.var 0) (M.nil))))) (M.ret (M.ops M.mkTup (M.cons (M.var 3) (M.cons (M.op2 M.addW (M.op2 M.addW (M.sl (M.var 4) (M.noPart) (M.part (M.op2 M.mulW (M.cst (.int 4)) (M.op2 M.subW (M.var 1) (M.cst (.int 1)))))) (M.var 2)) (M.sl (M.var 4) (M.part (M.op2 M.mulW (M.cst (.int 4)) (M.var 1))) (M.noPart))) (M.cons (M.var 5) (M.nil)))))) (M.skip)) (M.seq (M.asg (M.op2 M.subW (M.op2 M.subW (M.var 1) (M.cst (.int 1))) (M.ops mnode_pages (M.cons (M.var 0) (M.nil)))) (M.tgN 6)) (M.ret (M.ops M.mkTup (M.cons (M.var 3) (M.cons (M.var 4) (M.cons (M.op2 M.addW (M.op2 M.addW (M.sl (M.var 5) (M.noPart) (M.part (M.var 6))) (M.ops M.mkTup (M.cons (M.var 2) (M.nil)))) (M.sl (M.var 5) (M.part (M.op2 M.addW (M.var 6) (M.cst (.int 1)))) (M.noPart))) (M.nil))))))))))
def mwith_slots : List W → Store → Rs W := M.fn 3 7 bwith_slots
def bput_on : MS := M.seq (M.forS (M.iter (M.var 1)) (M.tgT 4 (M.tgCons (M.tgN 2) (M.tgCons (M.tgN 3) (M.tgCons (M.tgN 4) (M.tgCons (M.tgN 5) (M.tgNil)))))) (M.seq (M.asg (M.ops M.listW (M.cons (M.ops mslots_of (M.cons (M.var 0) (M.cons (M.var 3) (M.nil)))) (M.nil))) (M.tgN 6)) (M.seq (M.forS (M.iter (M.var 4)) (M.tgT 2 (M.tgCons (M.tgN 7) (M.tgCons (M.tgN 8) (M.tgNil)))) (M.setSub (M.var 8) (M.var 6) (M.var 7))) (M.asg (M.ops mwith_slots (M.cons (M.var 0) (M.cons (M.var 3) (M.cons (M.ops M.tupleW (M.cons (M.var 6) (M.nil))) (M.nil))))) (M.tgN 0))))) (M.ret (M.var 0))
def mput_on : List W → Store → Rs W := M.fn 2 9 bput_on
def b_law_pool : MS := M.seq (M.asg (M.cst (.int 0)) (M.tgN 2)) (M.seq (M.ifS (M.tst (M.op2 M.ltW (M.var 1) (M.ops M.lenW (M.cons (M.var 0) (M.nil))))) (M.asg (M.op2 M.ixW (M.var 0) (M.var 1)) (M.tgN 2)) (M.skip)) (M.seq (M.asg (M.ops M.maxW (M.cons (M.var 2) (M.cons (M.op2 M.subW (M.op1 M.negW (M.cst (.int 1))) (M.var 2)) (M.nil)))) (M.tgN 3)) (M.seq (M.asg (M.op2 M.modW (M.op2 M.mulW (M.op2 M.addW (M.op2 M.addW (M.op2 M.addW (M.op2 M.modW (M.var 3) (M.cst (.int 2147483629))) (M.op2 M.mulW (M.op2 M.mulW (M.cst (.int 7919)) (M.var 1)) (M.var 1))) (M.op2 M.mulW (M.cst (.int 31)) (M.var 1))) (M.cst (.int 17))) (M.cst (.int 48271))) (M.cst (.int 2147483647))) (M.tgN 4)) (M.ret (M.ops M.mkLst (M.cons (M.op2 M.mulW (M.var 3) (M.ops M.intW (M.cons (M.op2 M.geW (M.var 3) (M.op2 M.powW (M.cst (.int 10)) (M.cst (.int 18)))) (M.nil)))) (M.cons (M.var 4) (M.nil))))))))
def m_law_pool : List W → Store → Rs W := M.fn 2 5 b_law_pool
def b_law_draw : MS := M.seq (M.ifS (M.tst (M.op2 M.gtW (M.op2 M.ixW (M.var 0) (M.cst (.int 0))) (M.cst (.int 0)))) (M.seq (M.asg (M.op2 M.modW (M.op2 M.ixW (M.var 0) (M.cst (.int 0))) (M.var 1)) (M.tgN 2)) (M.seq (M.setSub (M.op2 M.fdivW (M.op2 M.ixW (M.var 0) (M.cst (.int 0))) (M.var 1)) (M.var 0) (M.cst (.int 0))) (M.ret (M.var 2)))) (M.skip)) (M.seq (M.setSub (M.op2 M.modW (M.op2 M.addW (M.op2 M.mulW (M.op2 M.ixW (M.var 0) (M.cst (.int 1))) (M.cst (.int 69621))) (M.cst (.int 7))) (M.cst (.int 2147483647))) (M.var 0) (M.cst (.int 1))) (M.ret (M.op2 M.modW (M.op2 M.fdivW (M.op2 M.modW (M.op2 M.mulW (M.op2 M.ixW (M.var 0) (M.cst (.int 1))) (M.op2 M.ixW (M.var 0) (M.cst (.int 1)))) (M.cst (.int 2147483629))) (M.cst (.int 32))) (M.var 1))))
def m_law_draw : List W → Store → Rs W := M.fn 2 3 b_law_draw
def b_law_image : MS := M.seq (M.asg (M.op2 M.addW (M.cst (.int 2)) (M.ops m_law_draw (M.cons (M.var 0) (M.cons (M.cst (.int 3)) (M.nil))))) (M.tgN 1)) (M.seq (M.asg (M.op2 M.addW (M.ops M.mkTup (M.cons (M.ops M.mkTup (M.cons (M.cst (.str "folder")) (M.cons (M.cst (.int 1)) (M.cons (M.ops M.mkTup (M.nil)) (M.nil))))) (M.nil))) (M.op2 M.mulW (M.ops M.mkTup (M.cons (M.cst .non) (M.nil))) (M.op2 M.addW (M.cst (.int 1)) (M.ops m_law_draw (M.cons (M.var 0) (M.cons (M.cst (.int 7)) (M.nil))))))) (M.tgN 2)) (M.ret (M.ops M.mkTup (M.cons (M.op2 M.mulW (M.ops M.mkTup (M.cons (M.cst (.bl false)) (M.nil))) (M.var 1)) (M.cons (M.var 2) (M.cons (M.op2 M.mulW (M.ops M.mkTup (M.cons (M.op2 M.mulW (M.ops M.mkTup (M.cons (M.cst .non) (M.nil))) (M.cst (.int 5))) (M.nil))) (M.var 1)) (M.nil)))))))
def m_law_image : List W → Store → Rs W := M.fn 1 3 b_law_image
def b_law_many : MS := M.ret (M.op2 M.addW (M.op2 M.addW (M.cst (.int 1)) (M.op2 M.fdivW (M.op2 M.addW (M.ops M.lenW (M.cons (M.op2 M.ixW (M.var 0) (M.cst (.int 1))) (M.nil))) (M.cst (.int 3))) (M.cst (.int 4)))) (M.ops M.lenW (M.cons (M.op2 M.ixW (M.var 0) (M.cst (.int 2))) (M.nil))))
def m_law_many : List W → Store → Rs W := M.fn 1 1 b_law_many
def b_law_slots : MS := M.seq (M.ifS (M.tst (M.op2 M.eqW (M.var 1) (M.cst (.int 0)))) (M.ret (M.op2 M.ixW (M.var 0) (M.cst (.int 0)))) (M.skip)) (M.seq (M.ifS (M.tst (M.op2 M.leW (M.var 1) (M.op2 M.fdivW (M.op2 M.addW (M.ops M.lenW (M.cons (M.op2 M.ixW (M.var 0) (M.cst (.int 1))) (M.nil))) (M.cst (.int 3))) (M.cst (.int 4))))) (M.ret (M.sl (M.op2 M.ixW (M.var 0) (M.cst (.int 1))) (M.part (M.op2 M.subW (M.op2 M.mulW (M.cst (.int 4)) (M.var 1)) (M.cst (.int 4)))) (M.part (M.op2 M.mulW (M.cst (.int 4)) (M.var 1))))) (M.skip)) (M.ret (M.op2 M.ixW (M.op2 M.ixW (M.var 0) (M.cst (.int 2))) (M.op2 M.subW (M.op2 M.subW (M.var 1) (M.cst (.int 1))) (M.op2 M.fdivW (M.op2 M.addW (M.ops M.lenW (M.cons (M.op2 M.ixW (M.var 0) (M.cst (.int 1))) (M.nil))) (M.cst (.int 3))) (M.cst (.int 4)))))))
def m_law_slots : List W → Store → Rs W := M.fn 2 2 b_law_slots
def b_law_changes : MS := M.seq (M.asg (M.ops M.mkLst (M.nil)) (M.tgN 2)) (M.seq (M.asg (M.op1 M.negW (M.cst (.int 1))) (M.tgN 3)) (M.seq (M.forS (M.rng1 (M.cons (M.op2 M.addW (M.cst (.int 2)) (M.ops m_law_draw (M.cons (M.var 0) (M.cons (M.cst (.int 12)) (M.nil))))) (M.nil))) (M.tgN 4) (M.seq (M.asg (M.op2 M.addW (M.op2 M.addW (M.var 3) (M.cst (.int 1))) (M.op2 M.fdivW (M.ops m_law_draw (M.cons (M.var 0) (M.cons (M.cst (.int 3)) (M.nil)))) (M.cst (.int 2)))) (M.tgN 3)) (M.seq (M.asg (M.ops m_law_draw (M.cons (M.var 0) (M.cons (M.ops m_law_many (M.cons (M.var 1) (M.nil))) (M.nil)))) (M.tgN 5)) (M.seq (M.asg (M.ops M.lenW (M.cons (M.ops m_law_slots (M.cons (M.var 1) (M.cons (M.var 5) (M.nil)))) (M.nil))) (M.tgN 6)) (M.seq (M.asg (M.orV (M.lc (M.rng1 (M.cons (M.var 6) (M.nil))) [10] (M.tgN 10) (M.tst (M.op2 M.eqW (M.ops m_law_draw (M.cons (M.var 0) (M.cons (M.cst (.int 3)) (M.nil)))) (M.cst (.int 0)))) (M.var 10)) (M.ops M.mkLst (M.cons (M.cst (.int 0)) (M.nil)))) (M.tgN 7)) (M.seq (M.asg (M.ops M.tupleW (M.cons (M.lc (M.iter (M.var 7)) [10] (M.tgN 10) (M.yes) (M.ops M.mkTup (M.cons (M.var 10) (M.cons (M.op2 M.addW (M.op2 M.mulW (M.var 3) (M.cst (.int 10))) (M.var 10)) (M.nil))))) (M.nil))) (M.tgN 8)) (M.seq (M.asg (M.ops M.tupleW (M.cons (M.lc (M.rng1 (M.cons (M.var 3) (M.nil))) [11] (M.tgN 11) (M.tst (M.op2 M.eqW (M.ops m_law_draw (M.cons (M.var 0) (M.cons (M.cst (.int 6)) (M.nil)))) (M.cst (.int 0)))) (M.var 11)) (M.nil))) (M.tgN 9)) (M.drop (M.mth M.appM (M.var 2) (M.cons (M.ops M.mkTup (M.cons (M.var 3) (M.cons (M.var 5) (M.cons (M.var 8) (M.cons (M.var 9) (M.nil)))))) (M.nil))))))))))) (M.ret (M.var 2))))
def m_law_changes : List W → Store → Rs W := M.fn 2 12 b_law_changes
def b_law_due : MS := M.seq (M.asg (M.ops M.mkLst (M.nil)) (M.tgN 2)) (M.seq (M.forS (M.rng1 (M.cons (M.ops m_law_many (M.cons (M.var 0) (M.nil))) (M.nil))) (M.tgN 3) (M.seq (M.asg (M.ops M.listW (M.cons (M.ops m_law_slots (M.cons (M.var 0) (M.cons (M.var 3) (M.nil)))) (M.nil))) (M.tgN 4)) (M.seq (M.forS (M.iter (M.var 1)) (M.tgT 4 (M.tgCons (M.tgN 5) (M.tgCons (M.tgN 6) (M.tgCons (M.tgN 7) (M.tgCons (M.tgN 8) (M.tgNil)))))) (M.forS (M.iter (M.var 7)) (M.tgT 2 (M.tgCons (M.tgN 9) (M.tgCons (M.tgN 10) (M.tgNil)))) (M.ifS (M.tst (M.op2 M.eqW (M.var 6) (M.var 3))) (M.setSub (M.var 10) (M.var 4) (M.var 9)) (M.skip)))) (M.drop (M.mth M.appM (M.var 2) (M.cons (M.ops M.tupleW (M.cons (M.var 4) (M.nil))) (M.nil))))))) (M.seq (M.asg (M.op2 M.fdivW (M.op2 M.addW (M.ops M.lenW (M.cons (M.op2 M.ixW (M.var 0) (M.cst (.int 1))) (M.nil))) (M.cst (.int 3))) (M.cst (.int 4))) (M.tgN 11)) (M.seq (M.asg (M.ops M.mkTup (M.nil)) (M.tgN 12)) (M.seq (M.forS (M.iter (M.sl (M.var 2) (M.part (M.cst (.int 1))) (M.part (M.op2 M.addW (M.cst (.int 1)) (M.var 11))))) (M.tgN 4) (M.asg (M.op2 M.addW (M.var 12) (M.var 4)) (M.tgN 12))) (M.ret (M.ops M.mkTup (M.cons (M.op2 M.ixW (M.var 2) (M.cst (.int 0))) (M.cons (M.var 12) (M.cons (M.ops M.tupleW (M.cons (M.sl (M.var 2) (M.part (M.op2 M.addW (M.cst (.int 1)) (M.var 11))) (M.noPart)) (M.nil))) (M.nil))))))))))
def m_law_due : List W → Store → Rs W := M.fn 2 13 b_law_due
def blaw : MS := M.seq (M.forS (M.rng1 (M.cons (M.ops M.maxW (M.cons (M.cst (.int 1)) (M.cons (M.ops M.minW (M.cons (M.cst (.int 20)) (M.cons (M.ops M.lenW (M.cons (M.var 0) (M.nil))) (M.nil)))) (M.nil)))) (M.nil))) (M.tgN 1) (M.seq (M.asg (M.ops m_law_pool (M.cons (M.var 0) (M.cons (M.var 1) (M.nil)))) (M.tgN 2)) (M.seq (M.asg (M.ops m_law_image (M.cons (M.var 2) (M.nil))) (M.tgN 3)) (M.seq (M.asg (M.ops m_law_changes (M.cons (M.var 2) (M.cons (M.var 3) (M.nil)))) (M.tgN 4)) (M.seq (M.asg (M.ops M.reprW (M.cons (M.ops M.mkLst (M.cons (M.var 3) (M.cons (M.var 4) (M.nil)))) (M.nil))) (M.tgN 5)) (M.seq (M.asg (M.ops m_law_due (M.cons (M.var 3) (M.cons (M.var 4) (M.nil)))) (M.tgN 6)) (M.seq (M.asg (M.ops m_law_draw (M.cons (M.var 2) (M.cons (M.op2 M.addW (M.ops M.lenW (M.cons (M.var 4) (M.nil))) (M.cst (.int 1))) (M.nil)))) (M.tgN 7)) (M.seq (M.ifS (M.orT (M.tst (M.op2 M.neW (M.ops mput_on (M.cons (M.var 3) (M.cons (M.var 4) (M.nil)))) (M.var 6))) (M.tst (M.op2 M.neW (M.ops mput_on (M.cons (M.ops mput_on (M.cons (M.var 3) (M.cons (M.sl (M.var 4) (M.noPart) (M.part (M.var 7))) (M.nil)))) (M.cons (M.sl (M.var 4) (M.part (M.var 7)) (M.noPart)) (M.nil)))) (M.var 6)))) (M.ret (M.cst (.bl false))) (M.skip)) (M.ifS (M.orT (M.tst (M.op2 M.neW (M.ops mput_on (M.cons (M.var 3) (M.cons (M.ops M.mkLst (M.nil)) (M.nil)))) (M.var 3))) (M.tst (M.op2 M.neW (M.ops M.reprW (M.cons (M.ops M.mkLst (M.cons (M.var 3) (M.cons (M.var 4) (M.nil)))) (M.nil))) (M.var 5)))) (M.ret (M.cst (.bl false))) (M.skip)))))))))) (M.ret (M.cst (.bl true)))
def mlaw : List W → Store → Rs W := M.fn 1 8 blaw
end K07
set_option maxRecDepth 100000
set_option maxHeartbeats 4000000

namespace K07
open PySem L2 Wo
/-! printed by gen.py: the walk of each def -/
def topS (i : Nat) : Stmt := PySem.Challenge.pw_writeorders_k07_changes_put_on.main.body.getD i (.Pass ⟨0, 0, 0, 0⟩)
structure Blt (mg : Str → Option Value) : Prop where
  int_ : mg "int" = none
  isinstance_ : mg "isinstance" = none
  bool_ : mg "bool" = none
  len_ : mg "len" = none
  tuple_ : mg "tuple" = none
  list_ : mg "list" = none
  max_ : mg "max" = none
  range_ : mg "range" = none
  min_ : mg "min" = none
  repr_ : mg "repr" = none
  c_IN_ONE : ∃ u, mg "IN_ONE" = some u ∧ RelV (.int 4) u
section
variable {P : Program} {w : World} {K : PySem.W.Frag} {mg : Str → Option Value} {base : Heap}
abbrev sis_whole : Stmt := topS 4
theorem scis_whole : FnScope ["thing"] ["thing"] (defScope sis_whole) := ⟨rfl, rfl, rfl, by decide +kernel, rfl, by decide +kernel, by decide +kernel⟩
theorem okis_whole (B : Blt mg) {f : Addr} {fd : FuncData} (F : Fun K "is_whole" "is_whole" sis_whole f fd) (hat : mg "is_whole" = some (.ref f)) (bd : Binds K fd ["thing"] []) : Dn P w K mg base 1 "is_whole" ["thing"] mis_whole f fd := by
  refine dn_mk (k := 0) (N := ["thing"]) (ps := ["thing"]) (body := bis_whole) F scis_whole hat bd fun cdv A outer s H E rm hr => ?_
  have nd := scis_whole.nd
  exact s_one (s_ret (e_and (e_bi (fun _ => c_isi) B.isinstance_ (by decide +kernel) (e_cons (e_var 0) (e_cons (e_ty B.int_ (by decide +kernel)) (e_nil)))) (e_one (e_not (e_bi (fun _ => c_isi) B.isinstance_ (by decide +kernel) (e_cons (e_var 0) (e_cons (e_ty B.bool_ (by decide +kernel)) (e_nil))))))))
abbrev sis_from : Stmt := topS 5
theorem scis_from : FnScope ["thing", "least", "most"] ["thing", "least", "most"] (defScope sis_from) := ⟨rfl, rfl, rfl, by decide +kernel, rfl, by decide +kernel, by decide +kernel⟩
theorem okis_from (B : Blt mg) {fis_whole : Addr} {fdis_whole : FuncData} (Dis_whole : Dn P w K mg base 1 "is_whole" ["thing"] mis_whole fis_whole fdis_whole) {f : Addr} {fd : FuncData} (F : Fun K "is_from" "is_from" sis_from f fd) (hat : mg "is_from" = some (.ref f)) (bd : Binds K fd ["thing", "least", "most"] []) : Dn P w K mg base 2 "is_from" ["thing", "least", "most"] mis_from f fd := by
  refine dn_mk (k := 1) (N := ["thing", "least", "most"]) (ps := ["thing", "least", "most"]) (body := bis_from) F scis_from hat bd fun cdv A outer s H E rm hr => ?_
  have nd := scis_from.nd
  exact s_one (s_ret (e_and (e_fn Dis_whole fn_len rm (hr.mono (by decide)) (e_cons (e_var 0) (e_nil))) (e_one (e_chain (fun _ => o_le) (fun _ => o_le) (e_var 1) (e_var 0) (e_var 2)))))
abbrev snode_pages : Stmt := topS 6
theorem scnode_pages : FnScope ["image"] ["image"] (defScope snode_pages) := ⟨rfl, rfl, rfl, by decide +kernel, rfl, by decide +kernel, by decide +kernel⟩
theorem oknode_pages (B : Blt mg) {f : Addr} {fd : FuncData} (F : Fun K "node_pages" "node_pages" snode_pages f fd) (hat : mg "node_pages" = some (.ref f)) (bd : Binds K fd ["image"] []) : Dn P w K mg base 1 "node_pages" ["image"] mnode_pages f fd := by
  refine dn_mk (k := 0) (N := ["image"]) (ps := ["image"]) (body := bnode_pages) F scnode_pages hat bd fun cdv A outer s H E rm hr => ?_
  have nd := scnode_pages.nd
  exact s_one (s_ret (e_op (fun _ => o_fdiv) (e_op (fun _ => o_sub) (e_op (fun _ => o_add) (e_bi (fun _ => c_len) B.len_ (by decide +kernel) (e_cons (e_ix (e_var 0) (e_int)) (e_nil))) (e_glob (by rfl) B.c_IN_ONE (fun _ _ => .int _))) (e_int)) (e_glob (by rfl) B.c_IN_ONE (fun _ _ => .int _))))
abbrev sdisk_pages : Stmt := topS 7
theorem scdisk_pages : FnScope ["image"] ["image"] (defScope sdisk_pages) := ⟨rfl, rfl, rfl, by decide +kernel, rfl, by decide +kernel, by decide +kernel⟩
theorem okdisk_pages (B : Blt mg) {fnode_pages : Addr} {fdnode_pages : FuncData} (Dnode_pages : Dn P w K mg base 1 "node_pages" ["image"] mnode_pages fnode_pages fdnode_pages) {f : Addr} {fd : FuncData} (F : Fun K "disk_pages" "disk_pages" sdisk_pages f fd) (hat : mg "disk_pages" = some (.ref f)) (bd : Binds K fd ["image"] []) : Dn P w K mg base 2 "disk_pages" ["image"] mdisk_pages f fd := by
  refine dn_mk (k := 1) (N := ["image"]) (ps := ["image"]) (body := bdisk_pages) F scdisk_pages hat bd fun cdv A outer s H E rm hr => ?_
  have nd := scdisk_pages.nd
  exact s_one (s_ret (e_op (fun _ => o_add) (e_op (fun _ => o_add) (e_int) (e_fn Dnode_pages fn_len rm (hr.mono (by decide)) (e_cons (e_var 0) (e_nil)))) (e_bi (fun _ => c_len) B.len_ (by decide +kernel) (e_cons (e_ix (e_var 0) (e_int)) (e_nil)))))
abbrev slook_at_page : Stmt := topS 8
theorem sclook_at_page : FnScope ["image", "page"] ["image", "page"] (defScope slook_at_page) := ⟨rfl, rfl, rfl, by decide +kernel, rfl, by decide +kernel, by decide +kernel⟩
theorem oklook_at_page (B : Blt mg) {fdisk_pages : Addr} {fddisk_pages : FuncData} (Ddisk_pages : Dn P w K mg base 2 "disk_pages" ["image"] mdisk_pages fdisk_pages fddisk_pages) {fis_from : Addr} {fdis_from : FuncData} (Dis_from : Dn P w K mg base 2 "is_from" ["thing", "least", "most"] mis_from fis_from fdis_from) {f : Addr} {fd : FuncData} (F : Fun K "look_at_page" "look_at_page" slook_at_page f fd) (hat : mg "look_at_page" = some (.ref f)) (bd : Binds K fd ["image", "page"] []) : Dn P w K mg base 3 "look_at_page" ["image", "page"] mlook_at_page f fd := by
  refine dn_mk (k := 2) (N := ["image", "page"]) (ps := ["image", "page"]) (body := blook_at_page) F sclook_at_page hat bd fun cdv A outer s H E rm hr => ?_
  have nd := sclook_at_page.nd
  exact s_one (s_if (t_not (t_val (e_fn Dis_from fn_len rm (hr.mono (by decide)) (e_cons (e_var 1) (e_cons (e_int) (e_cons (e_op (fun _ => o_sub) (e_fn Ddisk_pages fn_len rm (hr.mono (by decide)) (e_cons (e_var 0) (e_nil))) (e_int)) (e_nil))))))) (s_one (s_bad)) (s_nil))
abbrev sslots_of : Stmt := topS 9
theorem scslots_of : FnScope ["image", "page"] ["image", "page"] (defScope sslots_of) := ⟨rfl, rfl, rfl, by decide +kernel, rfl, by decide +kernel, by decide +kernel⟩
theorem okslots_of (B : Blt mg) {fnode_pages : Addr} {fdnode_pages : FuncData} (Dnode_pages : Dn P w K mg base 1 "node_pages" ["image"] mnode_pages fnode_pages fdnode_pages) {flook_at_page : Addr} {fdlook_at_page : FuncData} (Dlook_at_page : Dn P w K mg base 3 "look_at_page" ["image", "page"] mlook_at_page flook_at_page fdlook_at_page) {f : Addr} {fd : FuncData} (F : Fun K "slots_of" "slots_of" sslots_of f fd) (hat : mg "slots_of" = some (.ref f)) (bd : Binds K fd ["image", "page"] []) : Dn P w K mg base 4 "slots_of" ["image", "page"] mslots_of f fd := by
  refine dn_mk (k := 3) (N := ["image", "page"]) (ps := ["image", "page"]) (body := bslots_of) F scslots_of hat bd fun cdv A outer s H E rm hr => ?_
  have nd := scslots_of.nd
  exact s_seq (s_expr (e_fn Dlook_at_page fn_len rm (hr.mono (by decide)) (e_cons (e_var 0) (e_cons (e_var 1) (e_nil))))) (s_seq (s_if (t_cmp (fun _ => o_eq rm) (e_var 1) (e_int) (nomark _)) (s_one (s_ret (e_ix (e_var 0) (e_int)))) (s_nil)) (s_seq (s_if (t_cmp (fun _ => o_le) (e_var 1) (e_fn Dnode_pages fn_len rm (hr.mono (by decide)) (e_cons (e_var 0) (e_nil))) (nomark _)) (s_one (s_ret (e_sl (e_ix (e_var 0) (e_int)) (e_part (e_op (fun _ => o_mul) (e_glob (by rfl) B.c_IN_ONE (fun _ _ => .int _)) (e_op (fun _ => o_sub) (e_var 1) (e_int)))) (e_part (e_op (fun _ => o_mul) (e_glob (by rfl) B.c_IN_ONE (fun _ _ => .int _)) (e_var 1)))))) (s_nil)) (s_one (s_ret (e_ix (e_ix (e_var 0) (e_int)) (e_op (fun _ => o_sub) (e_op (fun _ => o_sub) (e_var 1) (e_int)) (e_fn Dnode_pages fn_len rm (hr.mono (by decide)) (e_cons (e_var 0) (e_nil)))))))))
abbrev swith_slots : Stmt := topS 10
theorem scwith_slots : FnScope ["image", "page", "slots", "taken", "nodes", "data", "at"] ["image", "page", "slots"] (defScope swith_slots) := ⟨rfl, rfl, rfl, by decide +kernel, rfl, by decide +kernel, by decide +kernel⟩
theorem okwith_slots (B : Blt mg) {fnode_pages : Addr} {fdnode_pages : FuncData} (Dnode_pages : Dn P w K mg base 1 "node_pages" ["image"] mnode_pages fnode_pages fdnode_pages) {flook_at_page : Addr} {fdlook_at_page : FuncData} (Dlook_at_page : Dn P w K mg base 3 "look_at_page" ["image", "page"] mlook_at_page flook_at_page fdlook_at_page) {f : Addr} {fd : FuncData} (F : Fun K "with_slots" "with_slots" swith_slots f fd) (hat : mg "with_slots" = some (.ref f)) (bd : Binds K fd ["image", "page", "slots"] []) : Dn P w K mg base 4 "with_slots" ["image", "page", "slots"] mwith_slots f fd := by
  refine dn_mk (k := 3) (N := ["image", "page", "slots", "taken", "nodes", "data", "at"]) (ps := ["image", "page", "slots"]) (body := bwith_slots) F scwith_slots hat bd fun cdv A outer s H E rm hr => ?_
  have nd := scwith_slots.nd
  exact s_seq (s_expr (e_fn Dlook_at_page fn_len rm (hr.mono (by decide)) (e_cons (e_var 0) (e_cons (e_var 1) (e_nil))))) (s_seq (s_asg (e_var 0) (g_tup rm (gs_cons (g_name (i := 3) nd) (gs_cons (g_name (i := 4) nd) (gs_cons (g_name (i := 5) nd) (gs_nil)))))) (s_seq (s_if (t_cmp (fun _ => o_eq rm) (e_var 1) (e_int) (nomark _)) (s_one (s_ret (e_tup (e_cons (e_var 2) (e_cons (e_var 4) (e_cons (e_var 5) (e_nil))))))) (s_nil)) (s_seq (s_if (t_cmp (fun _ => o_le) (e_var 1) (e_fn Dnode_pages fn_len rm (hr.mono (by decide)) (e_cons (e_var 0) (e_nil))) (nomark _)) (s_one (s_ret (e_tup (e_cons (e_var 3) (e_cons (e_op (fun _ => o_add) (e_op (fun _ => o_add) (e_sl (e_var 4) (e_noPart) (e_part (e_op (fun _ => o_mul) (e_glob (by rfl) B.c_IN_ONE (fun _ _ => .int _)) (e_op (fun _ => o_sub) (e_var 1) (e_int))))) (e_var 2)) (e_sl (e_var 4) (e_part (e_op (fun _ => o_mul) (e_glob (by rfl) B.c_IN_ONE (fun _ _ => .int _)) (e_var 1))) (e_noPart))) (e_cons (e_var 5) (e_nil))))))) (s_nil)) (s_seq (s_asg (e_op (fun _ => o_sub) (e_op (fun _ => o_sub) (e_var 1) (e_int)) (e_fn Dnode_pages fn_len rm (hr.mono (by decide)) (e_cons (e_var 0) (e_nil)))) (g_name (i := 6) nd)) (s_one (s_ret (e_tup (e_cons (e_var 3) (e_cons (e_var 4) (e_cons (e_op (fun _ => o_add) (e_op (fun _ => o_add) (e_sl (e_var 5) (e_noPart) (e_part (e_var 6))) (e_tup (e_cons (e_var 2) (e_nil)))) (e_sl (e_var 5) (e_part (e_op (fun _ => o_add) (e_var 6) (e_int))) (e_noPart))) (e_nil)))))))))))
abbrev sput_on : Stmt := topS 12
theorem scput_on : FnScope ["image", "changes", "number", "page", "puts", "leans", "slots", "slot", "worth"] ["image", "changes"] (defScope sput_on) := ⟨rfl, rfl, rfl, by decide +kernel, rfl, by decide +kernel, by decide +kernel⟩
theorem okput_on (B : Blt mg) {fwith_slots : Addr} {fdwith_slots : FuncData} (Dwith_slots : Dn P w K mg base 4 "with_slots" ["image", "page", "slots"] mwith_slots fwith_slots fdwith_slots) {fslots_of : Addr} {fdslots_of : FuncData} (Dslots_of : Dn P w K mg base 4 "slots_of" ["image", "page"] mslots_of fslots_of fdslots_of) {f : Addr} {fd : FuncData} (F : Fun K "put_on" "put_on" sput_on f fd) (hat : mg "put_on" = some (.ref f)) (bd : Binds K fd ["image", "changes"] []) : Dn P w K mg base 5 "put_on" ["image", "changes"] mput_on f fd := by
  refine dn_mk (k := 4) (N := ["image", "changes", "number", "page", "puts", "leans", "slots", "slot", "worth"]) (ps := ["image", "changes"]) (body := bput_on) F scput_on hat bd fun cdv A outer s H E rm hr => ?_
  have nd := scput_on.nd
  exact s_seq (s_for PassesOwn.never rm (i_val (e_var 1)) (g_tup rm (gs_cons (g_name (i := 2) nd) (gs_cons (g_name (i := 3) nd) (gs_cons (g_name (i := 4) nd) (gs_cons (g_name (i := 5) nd) (gs_nil)))))) (s_seq (s_asg (e_bt (fun _ => c_list rm) B.list_ (by decide +kernel) (e_cons (e_fn Dslots_of fn_len rm (hr.mono (by decide)) (e_cons (e_var 0) (e_cons (e_var 3) (e_nil)))) (e_nil))) (g_name (i := 6) nd)) (s_seq (s_for PassesOwn.never rm (i_val (e_var 4)) (g_tup rm (gs_cons (g_name (i := 7) nd) (gs_cons (g_name (i := 8) nd) (gs_nil)))) (s_one (s_set rm (e_var 8) (e_var 6) (e_var 7)))) (s_one (s_asg (e_fn Dwith_slots fn_len rm (hr.mono (by decide)) (e_cons (e_var 0) (e_cons (e_var 3) (e_cons (e_bt (fun _ => c_tuple) B.tuple_ (by decide +kernel) (e_cons (e_var 6) (e_nil))) (e_nil))))) (g_name (i := 0) nd)))))) (s_one (s_ret (e_var 0)))
abbrev s_law_pool : Stmt := topS 14
theorem sc_law_pool : FnScope ["_law_script", "_law_k", "_law_cell", "_law_size", "_law_mixed"] ["_law_script", "_law_k"] (defScope s_law_pool) := ⟨rfl, rfl, rfl, by decide +kernel, rfl, by decide +kernel, by decide +kernel⟩
theorem ok_law_pool (B : Blt mg) {f : Addr} {fd : FuncData} (F : Fun K "_law_pool" "_law_pool" s_law_pool f fd) (hat : mg "_law_pool" = some (.ref f)) (bd : Binds K fd ["_law_script", "_law_k"] []) : Dn P w K mg base 1 "_law_pool" ["_law_script", "_law_k"] m_law_pool f fd := by
  refine dn_mk (k := 0) (N := ["_law_script", "_law_k", "_law_cell", "_law_size", "_law_mixed"]) (ps := ["_law_script", "_law_k"]) (body := b_law_pool) F sc_law_pool hat bd fun cdv A outer s H E rm hr => ?_
  have nd := sc_law_pool.nd
  exact s_seq (s_asg (e_int) (g_name (i := 2) nd)) (s_seq (s_if (t_cmp (fun _ => o_lt) (e_var 1) (e_bi (fun _ => c_len) B.len_ (by decide +kernel) (e_cons (e_var 0) (e_nil))) (nomark _)) (s_one (s_asg (e_ix (e_var 0) (e_var 1)) (g_name (i := 2) nd))) (s_nil)) (s_seq (s_asg (e_bi (fun _ => c_max rm) B.max_ (by decide +kernel) (e_cons (e_var 2) (e_cons (e_op (fun _ => o_sub) (e_neg (e_int)) (e_var 2)) (e_nil)))) (g_name (i := 3) nd)) (s_seq (s_asg (e_op (fun _ => o_mod) (e_op (fun _ => o_mul) (e_op (fun _ => o_add) (e_op (fun _ => o_add) (e_op (fun _ => o_add) (e_op (fun _ => o_mod) (e_var 3) (e_int)) (e_op (fun _ => o_mul) (e_op (fun _ => o_mul) (e_int) (e_var 1)) (e_var 1))) (e_op (fun _ => o_mul) (e_int) (e_var 1))) (e_int)) (e_int)) (e_int)) (g_name (i := 4) nd)) (s_one (s_ret (e_lst (e_cons (e_op (fun _ => o_mul) (e_var 3) (e_bt (fun _ => c_int) B.int_ (by decide +kernel) (e_cons (e_cmp (fun _ => o_ge) (e_var 3) (e_op (fun _ => o_pow) (e_int) (e_int)) (nomark _)) (e_nil)))) (e_cons (e_var 4) (e_nil)))))))))
abbrev s_law_draw : Stmt := topS 15
theorem sc_law_draw : FnScope ["_law_pool_here", "_law_many_here", "_law_found"] ["_law_pool_here", "_law_many_here"] (defScope s_law_draw) := ⟨rfl, rfl, rfl, by decide +kernel, rfl, by decide +kernel, by decide +kernel⟩
theorem ok_law_draw (B : Blt mg) {f : Addr} {fd : FuncData} (F : Fun K "_law_draw" "_law_draw" s_law_draw f fd) (hat : mg "_law_draw" = some (.ref f)) (bd : Binds K fd ["_law_pool_here", "_law_many_here"] []) : Dn P w K mg base 1 "_law_draw" ["_law_pool_here", "_law_many_here"] m_law_draw f fd := by
  refine dn_mk (k := 0) (N := ["_law_pool_here", "_law_many_here", "_law_found"]) (ps := ["_law_pool_here", "_law_many_here"]) (body := b_law_draw) F sc_law_draw hat bd fun cdv A outer s H E rm hr => ?_
  have nd := sc_law_draw.nd
  exact s_seq (s_if (t_cmp (fun _ => o_gt) (e_ix (e_var 0) (e_int)) (e_int) (nomark _)) (s_seq (s_asg (e_op (fun _ => o_mod) (e_ix (e_var 0) (e_int)) (e_var 1)) (g_name (i := 2) nd)) (s_seq (s_set rm (e_op (fun _ => o_fdiv) (e_ix (e_var 0) (e_int)) (e_var 1)) (e_var 0) (e_int)) (s_one (s_ret (e_var 2))))) (s_nil)) (s_seq (s_set rm (e_op (fun _ => o_mod) (e_op (fun _ => o_add) (e_op (fun _ => o_mul) (e_ix (e_var 0) (e_int)) (e_int)) (e_int)) (e_int)) (e_var 0) (e_int)) (s_one (s_ret (e_op (fun _ => o_mod) (e_op (fun _ => o_fdiv) (e_op (fun _ => o_mod) (e_op (fun _ => o_mul) (e_ix (e_var 0) (e_int)) (e_ix (e_var 0) (e_int))) (e_int)) (e_int)) (e_var 1)))))
abbrev s_law_image : Stmt := topS 16
theorem sc_law_image : FnScope ["_law_pool_here", "_law_pages", "_law_own"] ["_law_pool_here"] (defScope s_law_image) := ⟨rfl, rfl, rfl, by decide +kernel, rfl, by decide +kernel, by decide +kernel⟩
theorem ok_law_image (B : Blt mg) {f_law_draw : Addr} {fd_law_draw : FuncData} (D_law_draw : Dn P w K mg base 1 "_law_draw" ["_law_pool_here", "_law_many_here"] m_law_draw f_law_draw fd_law_draw) {f : Addr} {fd : FuncData} (F : Fun K "_law_image" "_law_image" s_law_image f fd) (hat : mg "_law_image" = some (.ref f)) (bd : Binds K fd ["_law_pool_here"] []) : Dn P w K mg base 2 "_law_image" ["_law_pool_here"] m_law_image f fd := by
  refine dn_mk (k := 1) (N := ["_law_pool_here", "_law_pages", "_law_own"]) (ps := ["_law_pool_here"]) (body := b_law_image) F sc_law_image hat bd fun cdv A outer s H E rm hr => ?_
  have nd := sc_law_image.nd
  exact s_seq (s_asg (e_op (fun _ => o_add) (e_int) (e_fn D_law_draw fn_len rm (hr.mono (by decide)) (e_cons (e_var 0) (e_cons (e_int) (e_nil))))) (g_name (i := 1) nd)) (s_seq (s_asg (e_op (fun _ => o_add) (e_tup (e_cons (e_tup (e_cons (e_str) (e_cons (e_int) (e_cons (e_tup (e_nil)) (e_nil))))) (e_nil))) (e_op (fun _ => o_mul) (e_tup (e_cons (e_non) (e_nil))) (e_op (fun _ => o_add) (e_int) (e_fn D_law_draw fn_len rm (hr.mono (by decide)) (e_cons (e_var 0) (e_cons (e_int) (e_nil))))))) (g_name (i := 2) nd)) (s_one (s_ret (e_tup (e_cons (e_op (fun _ => o_mul) (e_tup (e_cons (e_bl) (e_nil))) (e_var 1)) (e_cons (e_var 2) (e_cons (e_op (fun _ => o_mul) (e_tup (e_cons (e_op (fun _ => o_mul) (e_tup (e_cons (e_non) (e_nil))) (e_int)) (e_nil))) (e_var 1)) (e_nil))))))))
abbrev s_law_many : Stmt := topS 17
theorem sc_law_many : FnScope ["_law_image_here"] ["_law_image_here"] (defScope s_law_many) := ⟨rfl, rfl, rfl, by decide +kernel, rfl, by decide +kernel, by decide +kernel⟩
theorem ok_law_many (B : Blt mg) {f : Addr} {fd : FuncData} (F : Fun K "_law_many" "_law_many" s_law_many f fd) (hat : mg "_law_many" = some (.ref f)) (bd : Binds K fd ["_law_image_here"] []) : Dn P w K mg base 1 "_law_many" ["_law_image_here"] m_law_many f fd := by
  refine dn_mk (k := 0) (N := ["_law_image_here"]) (ps := ["_law_image_here"]) (body := b_law_many) F sc_law_many hat bd fun cdv A outer s H E rm hr => ?_
  have nd := sc_law_many.nd
  exact s_one (s_ret (e_op (fun _ => o_add) (e_op (fun _ => o_add) (e_int) (e_op (fun _ => o_fdiv) (e_op (fun _ => o_add) (e_bi (fun _ => c_len) B.len_ (by decide +kernel) (e_cons (e_ix (e_var 0) (e_int)) (e_nil))) (e_int)) (e_int))) (e_bi (fun _ => c_len) B.len_ (by decide +kernel) (e_cons (e_ix (e_var 0) (e_int)) (e_nil)))))
abbrev s_law_slots : Stmt := topS 18
theorem sc_law_slots : FnScope ["_law_image_here", "_law_at"] ["_law_image_here", "_law_at"] (defScope s_law_slots) := ⟨rfl, rfl, rfl, by decide +kernel, rfl, by decide +kernel, by decide +kernel⟩
theorem ok_law_slots (B : Blt mg) {f : Addr} {fd : FuncData} (F : Fun K "_law_slots" "_law_slots" s_law_slots f fd) (hat : mg "_law_slots" = some (.ref f)) (bd : Binds K fd ["_law_image_here", "_law_at"] []) : Dn P w K mg base 1 "_law_slots" ["_law_image_here", "_law_at"] m_law_slots f fd := by
  refine dn_mk (k := 0) (N := ["_law_image_here", "_law_at"]) (ps := ["_law_image_here", "_law_at"]) (body := b_law_slots) F sc_law_slots hat bd fun cdv A outer s H E rm hr => ?_
  have nd := sc_law_slots.nd
  exact s_seq (s_if (t_cmp (fun _ => o_eq rm) (e_var 1) (e_int) (nomark _)) (s_one (s_ret (e_ix (e_var 0) (e_int)))) (s_nil)) (s_seq (s_if (t_cmp (fun _ => o_le) (e_var 1) (e_op (fun _ => o_fdiv) (e_op (fun _ => o_add) (e_bi (fun _ => c_len) B.len_ (by decide +kernel) (e_cons (e_ix (e_var 0) (e_int)) (e_nil))) (e_int)) (e_int)) (nomark _)) (s_one (s_ret (e_sl (e_ix (e_var 0) (e_int)) (e_part (e_op (fun _ => o_sub) (e_op (fun _ => o_mul) (e_int) (e_var 1)) (e_int))) (e_part (e_op (fun _ => o_mul) (e_int) (e_var 1)))))) (s_nil)) (s_one (s_ret (e_ix (e_ix (e_var 0) (e_int)) (e_op (fun _ => o_sub) (e_op (fun _ => o_sub) (e_var 1) (e_int)) (e_op (fun _ => o_fdiv) (e_op (fun _ => o_add) (e_bi (fun _ => c_len) B.len_ (by decide +kernel) (e_cons (e_ix (e_var 0) (e_int)) (e_nil))) (e_int)) (e_int)))))))
abbrev s_law_changes : Stmt := topS 19
theorem sc_law_changes : FnScope ["_law_pool_here", "_law_image_here", "_law_found", "_law_number", "_law_turn", "_law_at", "_law_many_here", "_law_spots_here", "_law_puts", "_law_leans", "_law_spot", "_law_lean"] ["_law_pool_here", "_law_image_here"] (defScope s_law_changes) := ⟨rfl, rfl, rfl, by decide +kernel, rfl, by decide +kernel, by decide +kernel⟩
theorem ok_law_changes (B : Blt mg) {f_law_draw : Addr} {fd_law_draw : FuncData} (D_law_draw : Dn P w K mg base 1 "_law_draw" ["_law_pool_here", "_law_many_here"] m_law_draw f_law_draw fd_law_draw) {f_law_slots : Addr} {fd_law_slots : FuncData} (D_law_slots : Dn P w K mg base 1 "_law_slots" ["_law_image_here", "_law_at"] m_law_slots f_law_slots fd_law_slots) {f_law_many : Addr} {fd_law_many : FuncData} (D_law_many : Dn P w K mg base 1 "_law_many" ["_law_image_here"] m_law_many f_law_many fd_law_many) {f : Addr} {fd : FuncData} (F : Fun K "_law_changes" "_law_changes" s_law_changes f fd) (hat : mg "_law_changes" = some (.ref f)) (bd : Binds K fd ["_law_pool_here", "_law_image_here"] []) : Dn P w K mg base 2 "_law_changes" ["_law_pool_here", "_law_image_here"] m_law_changes f fd := by
  refine dn_mk (k := 1) (N := ["_law_pool_here", "_law_image_here", "_law_found", "_law_number", "_law_turn", "_law_at", "_law_many_here", "_law_spots_here", "_law_puts", "_law_leans", "_law_spot", "_law_lean"]) (ps := ["_law_pool_here", "_law_image_here"]) (body := b_law_changes) F sc_law_changes hat bd fun cdv A outer s H E rm hr => ?_
  have nd := sc_law_changes.nd
  exact s_seq (s_asg (e_lst (e_nil)) (g_name (i := 2) nd)) (s_seq (s_asg (e_neg (e_int)) (g_name (i := 3) nd)) (s_seq (s_for PassesOwn.never rm (i_rng1 B.range_ (e_cons (e_op (fun _ => o_add) (e_int) (e_fn D_law_draw fn_len rm (hr.mono (by decide)) (e_cons (e_var 0) (e_cons (e_int) (e_nil))))) (e_nil))) (g_name (i := 4) nd) (s_seq (s_asg (e_op (fun _ => o_add) (e_op (fun _ => o_add) (e_var 3) (e_int)) (e_op (fun _ => o_fdiv) (e_fn D_law_draw fn_len rm (hr.mono (by decide)) (e_cons (e_var 0) (e_cons (e_int) (e_nil)))) (e_int))) (g_name (i := 3) nd)) (s_seq (s_asg (e_fn D_law_draw fn_len rm (hr.mono (by decide)) (e_cons (e_var 0) (e_cons (e_fn D_law_many fn_len rm (hr.mono (by decide)) (e_cons (e_var 1) (e_nil))) (e_nil)))) (g_name (i := 5) nd)) (s_seq (s_asg (e_bi (fun _ => c_len) B.len_ (by decide +kernel) (e_cons (e_fn D_law_slots fn_len rm (hr.mono (by decide)) (e_cons (e_var 1) (e_cons (e_var 5) (e_nil)))) (e_nil))) (g_name (i := 6) nd)) (s_seq (s_asg (e_or (e_lc (own := [("_law_spot", 10)]) rm nd (i_rng1 B.range_ (e_cons (e_var 6) (e_nil))) (blkOk_by (by kernel_rfl)) (by decide) (fun _ _ _ _ _ => g_name (i := 10) nd) (fun _ _ _ _ _ => ts_one (t_cmp (fun _ => o_eq rm.blk) (e_fn D_law_draw fn_len rm.blk (hr.mono (by decide)) (e_cons (e_var 0) (e_cons (e_int) (e_nil)))) (e_int) (nomark _))) (fun _ _ _ _ _ => e_var 10)) (e_one (e_lst (e_cons (e_int) (e_nil))))) (g_name (i := 7) nd)) (s_seq (s_asg (e_bt (fun _ => c_tuple) B.tuple_ (by decide +kernel) (e_cons (e_lc (own := [("_law_spot", 10)]) rm nd (i_val (e_var 7)) (blkOk_by (by kernel_rfl)) (by decide) (fun _ _ _ _ _ => g_name (i := 10) nd) (fun _ _ _ _ _ => ts_nil) (fun _ _ _ _ _ => e_tup (e_cons (e_var 10) (e_cons (e_op (fun _ => o_add) (e_op (fun _ => o_mul) (e_var 3) (e_int)) (e_var 10)) (e_nil))))) (e_nil))) (g_name (i := 8) nd)) (s_seq (s_asg (e_bt (fun _ => c_tuple) B.tuple_ (by decide +kernel) (e_cons (e_lc (own := [("_law_lean", 11)]) rm nd (i_rng1 B.range_ (e_cons (e_var 3) (e_nil))) (blkOk_by (by kernel_rfl)) (by decide) (fun _ _ _ _ _ => g_name (i := 11) nd) (fun _ _ _ _ _ => ts_one (t_cmp (fun _ => o_eq rm.blk) (e_fn D_law_draw fn_len rm.blk (hr.mono (by decide)) (e_cons (e_var 0) (e_cons (e_int) (e_nil)))) (e_int) (nomark _))) (fun _ _ _ _ _ => e_var 11)) (e_nil))) (g_name (i := 9) nd)) (s_one (s_expr (e_mth (fun _ => m_app) PySem.F.slot_list_append PySem.F.type_list_append (e_var 2) (e_cons (e_tup (e_cons (e_var 3) (e_cons (e_var 5) (e_cons (e_var 8) (e_cons (e_var 9) (e_nil)))))) (e_nil)))))))))))) (s_one (s_ret (e_var 2)))))
abbrev s_law_due : Stmt := topS 23
theorem sc_law_due : FnScope ["_law_image_here", "_law_some", "_law_found", "_law_at", "_law_slots_here", "_law_number", "_law_where", "_law_puts", "_law_leans", "_law_spot", "_law_worth", "_law_many_here", "_law_own"] ["_law_image_here", "_law_some"] (defScope s_law_due) := ⟨rfl, rfl, rfl, by decide +kernel, rfl, by decide +kernel, by decide +kernel⟩
theorem ok_law_due (B : Blt mg) {f_law_many : Addr} {fd_law_many : FuncData} (D_law_many : Dn P w K mg base 1 "_law_many" ["_law_image_here"] m_law_many f_law_many fd_law_many) {f_law_slots : Addr} {fd_law_slots : FuncData} (D_law_slots : Dn P w K mg base 1 "_law_slots" ["_law_image_here", "_law_at"] m_law_slots f_law_slots fd_law_slots) {f : Addr} {fd : FuncData} (F : Fun K "_law_due" "_law_due" s_law_due f fd) (hat : mg "_law_due" = some (.ref f)) (bd : Binds K fd ["_law_image_here", "_law_some"] []) : Dn P w K mg base 2 "_law_due" ["_law_image_here", "_law_some"] m_law_due f fd := by
  refine dn_mk (k := 1) (N := ["_law_image_here", "_law_some", "_law_found", "_law_at", "_law_slots_here", "_law_number", "_law_where", "_law_puts", "_law_leans", "_law_spot", "_law_worth", "_law_many_here", "_law_own"]) (ps := ["_law_image_here", "_law_some"]) (body := b_law_due) F sc_law_due hat bd fun cdv A outer s H E rm hr => ?_
  have nd := sc_law_due.nd
  exact s_seq (s_asg (e_lst (e_nil)) (g_name (i := 2) nd)) (s_seq (s_for PassesOwn.never rm (i_rng1 B.range_ (e_cons (e_fn D_law_many fn_len rm (hr.mono (by decide)) (e_cons (e_var 0) (e_nil))) (e_nil))) (g_name (i := 3) nd) (s_seq (s_asg (e_bt (fun _ => c_list rm) B.list_ (by decide +kernel) (e_cons (e_fn D_law_slots fn_len rm (hr.mono (by decide)) (e_cons (e_var 0) (e_cons (e_var 3) (e_nil)))) (e_nil))) (g_name (i := 4) nd)) (s_seq (s_for PassesOwn.never rm (i_val (e_var 1)) (g_tup rm (gs_cons (g_name (i := 5) nd) (gs_cons (g_name (i := 6) nd) (gs_cons (g_name (i := 7) nd) (gs_cons (g_name (i := 8) nd) (gs_nil)))))) (s_one (s_for PassesOwn.never rm (i_val (e_var 7)) (g_tup rm (gs_cons (g_name (i := 9) nd) (gs_cons (g_name (i := 10) nd) (gs_nil)))) (s_one (s_if (t_cmp (fun _ => o_eq rm) (e_var 6) (e_var 3) (nomark _)) (s_one (s_set rm (e_var 10) (e_var 4) (e_var 9))) (s_nil)))))) (s_one (s_expr (e_mth (fun _ => m_app) PySem.F.slot_list_append PySem.F.type_list_append (e_var 2) (e_cons (e_bt (fun _ => c_tuple) B.tuple_ (by decide +kernel) (e_cons (e_var 4) (e_nil))) (e_nil)))))))) (s_seq (s_asg (e_op (fun _ => o_fdiv) (e_op (fun _ => o_add) (e_bi (fun _ => c_len) B.len_ (by decide +kernel) (e_cons (e_ix (e_var 0) (e_int)) (e_nil))) (e_int)) (e_int)) (g_name (i := 11) nd)) (s_seq (s_asg (e_tup (e_nil)) (g_name (i := 12) nd)) (s_seq (s_for PassesOwn.never rm (i_val (e_sl (e_var 2) (e_part (e_int)) (e_part (e_op (fun _ => o_add) (e_int) (e_var 11))))) (g_name (i := 4) nd) (s_one (s_asg (e_op (fun _ => o_add) (e_var 12) (e_var 4)) (g_name (i := 12) nd)))) (s_one (s_ret (e_tup (e_cons (e_ix (e_var 2) (e_int)) (e_cons (e_var 12) (e_cons (e_bt (fun _ => c_tuple) B.tuple_ (by decide +kernel) (e_cons (e_sl (e_var 2) (e_part (e_op (fun _ => o_add) (e_int) (e_var 11))) (e_noPart)) (e_nil))) (e_nil)))))))))))
abbrev slaw : Stmt := topS 24
theorem sclaw : FnScope ["_law_script", "_law_k", "_law_pool_here", "_law_image_here", "_law_some", "_law_kept", "_law_due_here", "_law_cut"] ["_law_script"] (defScope slaw) := ⟨rfl, rfl, rfl, by decide +kernel, rfl, by decide +kernel, by decide +kernel⟩
theorem oklaw (B : Blt mg) {fput_on : Addr} {fdput_on : FuncData} (Dput_on : Dn P w K mg base 5 "put_on" ["image", "changes"] mput_on fput_on fdput_on) {f_law_draw : Addr} {fd_law_draw : FuncData} (D_law_draw : Dn P w K mg base 1 "_law_draw" ["_law_pool_here", "_law_many_here"] m_law_draw f_law_draw fd_law_draw) {f_law_due : Addr} {fd_law_due : FuncData} (D_law_due : Dn P w K mg base 2 "_law_due" ["_law_image_here", "_law_some"] m_law_due f_law_due fd_law_due) {f_law_changes : Addr} {fd_law_changes : FuncData} (D_law_changes : Dn P w K mg base 2 "_law_changes" ["_law_pool_here", "_law_image_here"] m_law_changes f_law_changes fd_law_changes) {f_law_image : Addr} {fd_law_image : FuncData} (D_law_image : Dn P w K mg base 2 "_law_image" ["_law_pool_here"] m_law_image f_law_image fd_law_image) {f_law_pool : Addr} {fd_law_pool : FuncData} (D_law_pool : Dn P w K mg base 1 "_law_pool" ["_law_script", "_law_k"] m_law_pool f_law_pool fd_law_pool) {f : Addr} {fd : FuncData} (F : Fun K "law" "law" slaw f fd) (hat : mg "law" = some (.ref f)) (bd : Binds K fd ["_law_script"] []) : Dn P w K mg base 6 "law" ["_law_script"] mlaw f fd := by
  refine dn_mk (k := 5) (N := ["_law_script", "_law_k", "_law_pool_here", "_law_image_here", "_law_some", "_law_kept", "_law_due_here", "_law_cut"]) (ps := ["_law_script"]) (body := blaw) F sclaw hat bd fun cdv A outer s H E rm hr => ?_
  have nd := sclaw.nd
  exact s_seq (s_for PassesOwn.never rm (i_rng1 B.range_ (e_cons (e_bi (fun _ => c_max rm) B.max_ (by decide +kernel) (e_cons (e_int) (e_cons (e_bi (fun _ => c_min rm) B.min_ (by decide +kernel) (e_cons (e_int) (e_cons (e_bi (fun _ => c_len) B.len_ (by decide +kernel) (e_cons (e_var 0) (e_nil))) (e_nil)))) (e_nil)))) (e_nil))) (g_name (i := 1) nd) (s_seq (s_asg (e_fn D_law_pool fn_len rm (hr.mono (by decide)) (e_cons (e_var 0) (e_cons (e_var 1) (e_nil)))) (g_name (i := 2) nd)) (s_seq (s_asg (e_fn D_law_image fn_len rm (hr.mono (by decide)) (e_cons (e_var 2) (e_nil))) (g_name (i := 3) nd)) (s_seq (s_asg (e_fn D_law_changes fn_len rm (hr.mono (by decide)) (e_cons (e_var 2) (e_cons (e_var 3) (e_nil)))) (g_name (i := 4) nd)) (s_seq (s_asg (e_bi (fun _ => c_repr rm) B.repr_ (by decide +kernel) (e_cons (e_lst (e_cons (e_var 3) (e_cons (e_var 4) (e_nil)))) (e_nil))) (g_name (i := 5) nd)) (s_seq (s_asg (e_fn D_law_due fn_len rm (hr.mono (by decide)) (e_cons (e_var 3) (e_cons (e_var 4) (e_nil)))) (g_name (i := 6) nd)) (s_seq (s_asg (e_fn D_law_draw fn_len rm (hr.mono (by decide)) (e_cons (e_var 2) (e_cons (e_op (fun _ => o_add) (e_bi (fun _ => c_len) B.len_ (by decide +kernel) (e_cons (e_var 4) (e_nil))) (e_int)) (e_nil)))) (g_name (i := 7) nd)) (s_seq (s_if ((w_or (t_cmp (fun _ => o_ne rm) (e_fn Dput_on fn_len rm (hr.mono (by decide)) (e_cons (e_var 3) (e_cons (e_var 4) (e_nil)))) (e_var 6) (nomark _)) (w_or1 (t_cmp (fun _ => o_ne rm) (e_fn Dput_on fn_len rm (hr.mono (by decide)) (e_cons (e_fn Dput_on fn_len rm (hr.mono (by decide)) (e_cons (e_var 3) (e_cons (e_sl (e_var 4) (e_noPart) (e_part (e_var 7))) (e_nil)))) (e_cons (e_sl (e_var 4) (e_part (e_var 7)) (e_noPart)) (e_nil)))) (e_var 6) (nomark _)))).pt) (s_one (s_ret (e_bl))) (s_nil)) (s_one (s_if ((w_or (t_cmp (fun _ => o_ne rm) (e_fn Dput_on fn_len rm (hr.mono (by decide)) (e_cons (e_var 3) (e_cons (e_lst (e_nil)) (e_nil)))) (e_var 3) (nomark _)) (w_or1 (t_cmp (fun _ => o_ne rm) (e_bi (fun _ => c_repr rm) B.repr_ (by decide +kernel) (e_cons (e_lst (e_cons (e_var 3) (e_cons (e_var 4) (e_nil)))) (e_nil))) (e_var 5) (nomark _)))).pt) (s_one (s_ret (e_bl))) (s_nil))))))))))) (s_one (s_ret (e_bl)))
end
end K07
set_option maxRecDepth 100000
set_option maxHeartbeats 4000000
namespace K07
open PySem L2 Wo
theorem pool_1 (ns : List Int) (k : Nat) (S : Store) : ∃ c : Int, (M.ifS (M.tst (M.op2 M.ltW (M.var 1) (M.ops M.lenW (M.cons (M.var 0) (M.nil))))) (M.asg (M.op2 M.ixW (M.var 0) (M.var 1)) (M.tgN 2)) (M.skip)) [some (.fl (ns.map .int)), some (.int k), some (.int 0), none, none] S = .ok (.next [some (.fl (ns.map .int)), some (.int k), some (.int c), none, none]) S := by
  by_cases h : k < ns.length
  · have hx : (ns.map W.int)[k]? = some (W.int ns[k]) := by rw [List.getElem?_map, List.getElem?_eq_getElem h]; rfl
    have e1 : ((k : Int) < ((ns.map W.int).length : Int)) = True := eq_true (by rw [List.length_map]; exact_mod_cast h)
    exact ⟨ns[k], by simp only [x_var, gv_some, x_cst, x_op2, o2_ok, o2b_ok, x_op1, x_ops, x_nil, x_cons, c1_ok, c2_ok, x_bind, x_tst, x_tru, x_ofBl, x_truB, x_truI, x_truN, x_truT, x_andT, kA_t, kA_f, x_orT, kO_t, kO_f, x_notT, kN_ok, x_andV, vA_ok, vA_t, vA_f, x_orV, vO_ok, vO_t, vO_f, x_notV, vN_ok, x_ifE, vI_t, vI_f, x_yes,
    x_add, x_sub, x_neg, x_lt, x_le, x_gt, x_ge, x_ne, eqW_int, x_max, x_min, x_intI, x_intB, x_lenT, x_lenF, x_tupT, gx_some, x_ixT, x_ixF, x_at0, x_at1, x_at2, x_at3, x_at4, x_slT, x_sl, l1_ok, l2_ok, l3_ok, x_part, gp_int, x_noPart, x_iter, x_itT, x_rng1, x_rng2,
    x_seq, sq_next, sq_ret, sq_cont, sq_brk, sn_some, x_asg, sA_ok, x_ret, sR_ok, x_retN, x_drop, sD_ok, x_ifS, sI_t, sI_f, x_skip, x_brk, x_cont, x_tgN, x_tgC, x_tgO, Option.bind_some, so_some, x_set, s1_ok, s2_ok, s3_ok,
    List.getElem?_cons_zero, List.getElem?_cons_succ, List.set_cons_zero, List.set_cons_succ, decide_true, decide_false, Bool.not_true, Bool.not_false, e1, x_at k rfl hx]⟩
  · have e1 : ((k : Int) < ((ns.map W.int).length : Int)) = False := eq_false (by rw [List.length_map]; exact_mod_cast h)
    exact ⟨0, by simp only [x_var, gv_some, x_cst, x_op2, o2_ok, o2b_ok, x_op1, x_ops, x_nil, x_cons, c1_ok, c2_ok, x_bind, x_tst, x_tru, x_ofBl, x_truB, x_truI, x_truN, x_truT, x_andT, kA_t, kA_f, x_orT, kO_t, kO_f, x_notT, kN_ok, x_andV, vA_ok, vA_t, vA_f, x_orV, vO_ok, vO_t, vO_f, x_notV, vN_ok, x_ifE, vI_t, vI_f, x_yes,
    x_add, x_sub, x_neg, x_lt, x_le, x_gt, x_ge, x_ne, eqW_int, x_max, x_min, x_intI, x_intB, x_lenT, x_lenF, x_tupT, gx_some, x_ixT, x_ixF, x_at0, x_at1, x_at2, x_at3, x_at4, x_slT, x_sl, l1_ok, l2_ok, l3_ok, x_part, gp_int, x_noPart, x_iter, x_itT, x_rng1, x_rng2,
    x_seq, sq_next, sq_ret, sq_cont, sq_brk, sn_some, x_asg, sA_ok, x_ret, sR_ok, x_retN, x_drop, sD_ok, x_ifS, sI_t, sI_f, x_skip, x_brk, x_cont, x_tgN, x_tgC, x_tgO, Option.bind_some, so_some, x_set, s1_ok, s2_ok, s3_ok,
    List.getElem?_cons_zero, List.getElem?_cons_succ, List.set_cons_zero, List.set_cons_succ, decide_true, decide_false, Bool.not_true, Bool.not_false, e1]⟩
theorem pool_2 (x : W) (k c : Int) (S : Store) : ∃ z : Int, 0 ≤ z ∧ (M.asg (M.ops M.maxW (M.cons (M.var 2) (M.cons (M.op2 M.subW (M.op1 M.negW (M.cst (.int 1))) (M.var 2)) (M.nil)))) (M.tgN 3)) [some x, some (.int k), some (.int c), none, none] S = .ok (.next [some x, some (.int k), some (.int c), some (.int z), none]) S := by
  refine ⟨_, ?_, by simp only [x_var, gv_some, x_cst, x_op2, o2_ok, o2b_ok, x_op1, x_ops, x_nil, x_cons, c1_ok, c2_ok, x_bind, x_tst, x_tru, x_ofBl, x_truB, x_truI, x_truN, x_truT, x_andT, kA_t, kA_f, x_orT, kO_t, kO_f, x_notT, kN_ok, x_andV, vA_ok, vA_t, vA_f, x_orV, vO_ok, vO_t, vO_f, x_notV, vN_ok, x_ifE, vI_t, vI_f, x_yes,
    x_add, x_sub, x_neg, x_lt, x_le, x_gt, x_ge, x_ne, eqW_int, x_max, x_min, x_intI, x_intB, x_lenT, x_lenF, x_tupT, gx_some, x_ixT, x_ixF, x_at0, x_at1, x_at2, x_at3, x_at4, x_slT, x_sl, l1_ok, l2_ok, l3_ok, x_part, gp_int, x_noPart, x_iter, x_itT, x_rng1, x_rng2,
    x_seq, sq_next, sq_ret, sq_cont, sq_brk, sn_some, x_asg, sA_ok, x_ret, sR_ok, x_retN, x_drop, sD_ok, x_ifS, sI_t, sI_f, x_skip, x_brk, x_cont, x_tgN, x_tgC, x_tgO, Option.bind_some, so_some, x_set, s1_ok, s2_ok, s3_ok,
    List.getElem?_cons_zero, List.getElem?_cons_succ, List.set_cons_zero, List.set_cons_succ, decide_true, decide_false, Bool.not_true, Bool.not_false]; rfl⟩
  split <;> omega
theorem inR {i : Int} (h : -1000000 ≤ i) (h' : i ≤ 1000000) : (-18446744073709551616 < i ∧ i < 18446744073709551616) := ⟨by omega, by omega⟩
theorem pool_3 (x : W) (k c z : Int) (S : Store) (h0 : 0 ≤ k) (h1 : k ≤ 1000) : ∃ y : Int, (0 ≤ y ∧ y < 2147483647) ∧ (M.asg (M.op2 M.modW (M.op2 M.mulW (M.op2 M.addW (M.op2 M.addW (M.op2 M.addW (M.op2 M.modW (M.var 3) (M.cst (.int 2147483629))) (M.op2 M.mulW (M.op2 M.mulW (M.cst (.int 7919)) (M.var 1)) (M.var 1))) (M.op2 M.mulW (M.cst (.int 31)) (M.var 1))) (M.cst (.int 17))) (M.cst (.int 48271))) (M.cst (.int 2147483647))) (M.tgN 4)) [some x, some (.int k), some (.int c), some (.int z), none] S = .ok (.next [some x, some (.int k), some (.int c), some (.int z), some (.int y)]) S := by
  have b1 : (-18446744073709551616 < k ∧ k < 18446744073709551616) := inR (by omega) (by omega)
  have d3 : (-18446744073709551616 < (48271 : Int) ∧ (48271 : Int) < 18446744073709551616) := inR (by omega) (by omega)
  have d4 : (0 : Int) < 2147483629 := by omega
  have d5 : (0 : Int) < 2147483647 := by omega
  refine ⟨(z % 2147483629 + 7919 * k * k + 31 * k + 17) * 48271 % 2147483647, ⟨Int.emod_nonneg _ (by omega), Int.emod_lt_of_pos _ d5⟩, ?_⟩
  simp only [x_var, gv_some, x_cst, x_op2, o2_ok, o2b_ok, x_op1, x_ops, x_nil, x_cons, c1_ok, c2_ok, x_bind, x_tst, x_tru, x_ofBl, x_truB, x_truI, x_truN, x_truT, x_andT, kA_t, kA_f, x_orT, kO_t, kO_f, x_notT, kN_ok, x_andV, vA_ok, vA_t, vA_f, x_orV, vO_ok, vO_t, vO_f, x_notV, vN_ok, x_ifE, vI_t, vI_f, x_yes,
    x_add, x_sub, x_neg, x_lt, x_le, x_gt, x_ge, x_ne, eqW_int, x_max, x_min, x_intI, x_intB, x_lenT, x_lenF, x_tupT, gx_some, x_ixT, x_ixF, x_at0, x_at1, x_at2, x_at3, x_at4, x_slT, x_sl, l1_ok, l2_ok, l3_ok, x_part, gp_int, x_noPart, x_iter, x_itT, x_rng1, x_rng2,
    x_seq, sq_next, sq_ret, sq_cont, sq_brk, sn_some, x_asg, sA_ok, x_ret, sR_ok, x_retN, x_drop, sD_ok, x_ifS, sI_t, sI_f, x_skip, x_brk, x_cont, x_tgN, x_tgC, x_tgO, Option.bind_some, so_some, x_set, s1_ok, s2_ok, s3_ok,
    List.getElem?_cons_zero, List.getElem?_cons_succ, List.set_cons_zero, List.set_cons_succ, decide_true, decide_false, Bool.not_true, Bool.not_false, x_mod _ d4, x_mod _ d5, x_mul _ (Or.inr b1), x_mul _ (Or.inr d3)]
theorem pool_4 (x : W) (k c z y : Int) (S : Store) (hz : 0 ≤ z) : ∃ a : Int, 0 ≤ a ∧ (M.op2 M.mulW (M.var 3) (M.ops M.intW (M.cons (M.op2 M.geW (M.var 3) (M.op2 M.powW (M.cst (.int 10)) (M.cst (.int 18)))) (M.nil)))) [some x, some (.int k), some (.int c), some (.int z), some (.int y)] S = .ok (.int a) S := by
  obtain ⟨w, hw⟩ : ∃ w : Int, M.powW (.int 10) (.int 18) S = .ok (.int w) S := ⟨_, x_pow S (by decide) (by decide) (by decide)⟩
  have e7 : (-18446744073709551616 < (if decide (w ≤ z) = true then (1 : Int) else 0) ∧ (if decide (w ≤ z) = true then (1 : Int) else 0) < 18446744073709551616) := by split <;> exact inR (by omega) (by omega)
  refine ⟨_, ?_, by simp only [x_var, gv_some, x_cst, x_op2, o2_ok, o2b_ok, x_op1, x_ops, x_nil, x_cons, c1_ok, c2_ok, x_bind, x_tst, x_tru, x_ofBl, x_truB, x_truI, x_truN, x_truT, x_andT, kA_t, kA_f, x_orT, kO_t, kO_f, x_notT, kN_ok, x_andV, vA_ok, vA_t, vA_f, x_orV, vO_ok, vO_t, vO_f, x_notV, vN_ok, x_ifE, vI_t, vI_f, x_yes,
    x_add, x_sub, x_neg, x_lt, x_le, x_gt, x_ge, x_ne, eqW_int, x_max, x_min, x_intI, x_intB, x_lenT, x_lenF, x_tupT, gx_some, x_ixT, x_ixF, x_at0, x_at1, x_at2, x_at3, x_at4, x_slT, x_sl, l1_ok, l2_ok, l3_ok, x_part, gp_int, x_noPart, x_iter, x_itT, x_rng1, x_rng2,
    x_seq, sq_next, sq_ret, sq_cont, sq_brk, sn_some, x_asg, sA_ok, x_ret, sR_ok, x_retN, x_drop, sD_ok, x_ifS, sI_t, sI_f, x_skip, x_brk, x_cont, x_tgN, x_tgC, x_tgO, Option.bind_some, so_some, x_set, s1_ok, s2_ok, s3_ok,
    List.getElem?_cons_zero, List.getElem?_cons_succ, List.set_cons_zero, List.set_cons_succ, decide_true, decide_false, Bool.not_true, Bool.not_false, hw, x_mul _ (Or.inr e7)]; rfl⟩
  split
  · rw [Int.mul_one]; exact hz
  · rw [Int.mul_zero]; exact Int.le_refl _
theorem pool_run (ns : List Int) (k : Nat) (hk : k < 1000) (S : Store) : ∃ a b : Int, m_law_pool [.fl (ns.map .int), .int k] S = .ok (.ref S.length) (S ++ [.lst [.int a, .int b]]) ∧ 0 ≤ a ∧ 0 ≤ b ∧ b < 2147483647 := by
  obtain ⟨c, hc⟩ := pool_1 ns k S
  obtain ⟨z, hz, e3⟩ := pool_2 (.fl (ns.map .int)) k c S
  obtain ⟨y, ⟨hy, hy2⟩, e4⟩ := pool_3 (.fl (ns.map .int)) k c z S (by omega) (by omega)
  obtain ⟨a, ha, e5⟩ := pool_4 (.fl (ns.map .int)) k c z y S hz
  refine ⟨a, y, r_fn rfl ?_, ha, hy, hy2⟩
  show b_law_pool [some (.fl (ns.map .int)), some (.int k), none, none, none] S = _
  unfold b_law_pool
  rw [r_seq (r_asg (t := M.tgN 2) (f' := [some (.fl (ns.map .int)), some (.int k), some (.int 0), none, none]) (w := .int 0) rfl rfl), r_seq hc, r_seq e3, r_seq e4]
  refine r_ret ?_
  rw [r_ops2 e5 (w' := .int y) (S2 := S) rfl]
  exact x_mkL S (Nat.le_of_ble_eq_true rfl)
def PlOk (S : Store) (p : Nat) : Prop := ∃ a b : Int, S[p]? = some (.lst [.int a, .int b]) ∧ 0 ≤ a ∧ 0 ≤ b ∧ b < 2147483647
theorem PlOk.lt {S : Store} {p : Nat} (h : PlOk S p) : p < S.length := by
  obtain ⟨a, b, h, _⟩ := h
  exact (List.getElem?_eq_some_iff.mp h).1
theorem PlOk.pre {S S' : Store} {p : Nat} (h : PlOk S p) (e : S <+: S') : PlOk S' p := by
  obtain ⟨a, b, h, r⟩ := h
  exact ⟨a, b, pre_get e h, r⟩
theorem PlOk.set {S : Store} {p q : Nat} (h : PlOk S p) (e : q ≠ p) (o : Ob) : PlOk (S.set q o) p := by
  obtain ⟨a, b, h, r⟩ := h
  exact ⟨a, b, (List.getElem?_set_ne e).trans h, r⟩
theorem draw_run {S : Store} {p : Nat} (n : Int) (h0 : 0 < n) (h1 : n < 1073741824) (h : PlOk S p) : ∃ v S', m_law_draw [.ref p, .int n] S = .ok (.int v) S' ∧ 0 ≤ v ∧ v < n ∧ PlOk S' p ∧ But p S S' ∧ S'.length = S.length := by
  obtain ⟨a, b, hp, ha, hb, hb2⟩ := h
  have hpl : p < S.length := (List.getElem?_eq_some_iff.mp hp).1
  by_cases hz : 0 < a
  · refine ⟨a % n, S.set p (.lst [.int (a / n), .int b]), r_fn rfl ?_, Int.emod_nonneg _ (by omega), Int.emod_lt_of_pos _ h0, ⟨a / n, b, List.getElem?_set_self hpl, Int.ediv_nonneg ha (by omega), hb, hb2⟩, (But.refl p S).set _, by rw [List.length_set]⟩
    show b_law_draw [some (.ref p), some (.int n), none] S = _
    unfold b_law_draw
    have z1 : (0 < a) = True := eq_true hz
    simp only [x_var, gv_some, x_cst, x_op2, o2_ok, o2b_ok, x_op1, x_ops, x_nil, x_cons, c1_ok, c2_ok, x_bind, x_tst, x_tru, x_ofBl, x_truB, x_truI, x_truN, x_truT, x_andT, kA_t, kA_f, x_orT, kO_t, kO_f, x_notT, kN_ok, x_andV, vA_ok, vA_t, vA_f, x_orV, vO_ok, vO_t, vO_f, x_notV, vN_ok, x_ifE, vI_t, vI_f, x_yes,
    x_add, x_sub, x_neg, x_lt, x_le, x_gt, x_ge, x_ne, eqW_int, x_max, x_min, x_intI, x_intB, x_lenT, x_lenF, x_tupT, gx_some, x_ixT, x_ixF, x_at0, x_at1, x_at2, x_at3, x_at4, x_slT, x_sl, l1_ok, l2_ok, l3_ok, x_part, gp_int, x_noPart, x_iter, x_itT, x_rng1, x_rng2,
    x_seq, sq_next, sq_ret, sq_cont, sq_brk, sn_some, x_asg, sA_ok, x_ret, sR_ok, x_retN, x_drop, sD_ok, x_ifS, sI_t, sI_f, x_skip, x_brk, x_cont, x_tgN, x_tgC, x_tgO, Option.bind_some, so_some, x_set, s1_ok, s2_ok, s3_ok,
    List.getElem?_cons_zero, List.getElem?_cons_succ, List.set_cons_zero, List.set_cons_succ, decide_true, decide_false, Bool.not_true, Bool.not_false, x_ixL hp, z1, x_mod _ h0, x_fdiv _ h0 h1, x_setL hp 0 _ (Nat.zero_lt_succ _) (i := 0) rfl]
  · have c1 := Int.emod_nonneg (b * 69621 + 7) (b := 2147483647) (by decide)
    have c2 := Int.emod_lt_of_pos (b * 69621 + 7) (b := 2147483647) (by decide)
    refine ⟨((b * 69621 + 7) % 2147483647) * ((b * 69621 + 7) % 2147483647) % 2147483629 / 32 % n, S.set p (.lst [.int a, .int ((b * 69621 + 7) % 2147483647)]), r_fn rfl ?_, Int.emod_nonneg _ (by omega), Int.emod_lt_of_pos _ h0, ⟨a, _, List.getElem?_set_self hpl, ha, c1, c2⟩, (But.refl p S).set _, by rw [List.length_set]⟩
    show b_law_draw [some (.ref p), some (.int n), none] S = _
    have c3 : (-18446744073709551616 < ((b * 69621 + 7) % 2147483647) ∧ ((b * 69621 + 7) % 2147483647) < 18446744073709551616) := by omega
    generalize hy : ((b * 69621 + 7) % 2147483647) = y at *
    unfold b_law_draw
    have z1 : (0 < a) = False := eq_false hz
    have hp' : (S.set p (.lst [.int a, .int y]))[p]? = some (.lst [.int a, .int y]) := List.getElem?_set_self hpl
    have d3 : (-18446744073709551616 < (69621 : Int) ∧ (69621 : Int) < 18446744073709551616) := by decide
    have d4 : (0 : Int) < 2147483629 := by decide
    have d5 : (0 : Int) < 2147483647 := by decide
    have d6 : (0 : Int) < 32 := by decide
    have d7 : (32 : Int) < 1073741824 := by decide
    simp only [x_var, gv_some, x_cst, x_op2, o2_ok, o2b_ok, x_op1, x_ops, x_nil, x_cons, c1_ok, c2_ok, x_bind, x_tst, x_tru, x_ofBl, x_truB, x_truI, x_truN, x_truT, x_andT, kA_t, kA_f, x_orT, kO_t, kO_f, x_notT, kN_ok, x_andV, vA_ok, vA_t, vA_f, x_orV, vO_ok, vO_t, vO_f, x_notV, vN_ok, x_ifE, vI_t, vI_f, x_yes,
    x_add, x_sub, x_neg, x_lt, x_le, x_gt, x_ge, x_ne, eqW_int, x_max, x_min, x_intI, x_intB, x_lenT, x_lenF, x_tupT, gx_some, x_ixT, x_ixF, x_at0, x_at1, x_at2, x_at3, x_at4, x_slT, x_sl, l1_ok, l2_ok, l3_ok, x_part, gp_int, x_noPart, x_iter, x_itT, x_rng1, x_rng2,
    x_seq, sq_next, sq_ret, sq_cont, sq_brk, sn_some, x_asg, sA_ok, x_ret, sR_ok, x_retN, x_drop, sD_ok, x_ifS, sI_t, sI_f, x_skip, x_brk, x_cont, x_tgN, x_tgC, x_tgO, Option.bind_some, so_some, x_set, s1_ok, s2_ok, s3_ok,
    List.getElem?_cons_zero, List.getElem?_cons_succ, List.set_cons_zero, List.set_cons_succ, decide_true, decide_false, Bool.not_true, Bool.not_false, x_ixL hp, z1, x_mul _ (Or.inr d3), x_mod _ d5, hy, x_setL hp 1 _ (Nat.succ_lt_succ (Nat.zero_lt_succ _)) (i := 1) rfl, x_ixL hp', x_mul _ (Or.inr c3), x_mod _ d4, x_mod _ h0, x_fdiv _ d6 d7]
end K07
set_option maxRecDepth 100000
set_option maxHeartbeats 4000000
namespace K07
open PySem L2 Wo
structure Ch where
  n : Int
  at_ : Nat
  puts : List (Nat × Int)
  leans : List Int
def pW (p : Nat × Int) : W := .tup [.int p.1, .int p.2]
def enc (c : Ch) : W := .tup [.int c.n, .int c.at_, .tup (c.puts.map pW), .tup (c.leans.map .int)]
/-! images as pages -/
structure Im where
  t : List W
  L : List (List W)
  d : List (List W)
def encI (im : Im) : W := .tup [.tup im.t, .tup im.L.flatten, .tup (im.d.map .tup)]
def Chk : List (List W) → Prop
  | [] => True
  | [x] => 1 ≤ x.length ∧ x.length ≤ 4
  | x :: y :: r => x.length = 4 ∧ Chk (y :: r)
theorem chk_pages : ∀ L : List (List W), Chk L → (L.flatten.length + 3) / 4 = L.length
  | [], _ => rfl
  | [x], h => by
    obtain ⟨h1, h2⟩ := h
    simp
    omega
  | x :: y :: r, h => by
    obtain ⟨h1, h2⟩ := h
    have ih := chk_pages (y :: r) h2
    rw [List.flatten_cons, List.length_append, h1, List.length_cons (as := y :: r), ← ih]
    omega
theorem chk_get : ∀ (L : List (List W)) (j : Nat), Chk L → j < L.length → L[j]? = some ((L.flatten.drop (4 * j)).take 4)
  | [], j, _, hj => nomatch hj
  | [x], j, h, hj => by
    obtain ⟨h1, h2⟩ := h
    have e : j = 0 := by simpa using hj
    subst e
    rw [Nat.mul_zero, List.drop_zero]
    simp only [List.flatten_cons, List.flatten_nil, List.append_nil, List.getElem?_cons_zero]
    rw [List.take_of_length_le h2]
  | x :: y :: r, 0, h, hj => by
    obtain ⟨h1, h2⟩ := h
    rw [Nat.mul_zero, List.drop_zero, List.flatten_cons, List.take_left' h1]
    rfl
  | x :: y :: r, j + 1, h, hj => by
    obtain ⟨h1, h2⟩ := h
    have ih := chk_get (y :: r) j h2 (by simpa using hj)
    have ef : (x :: y :: r).flatten = x ++ (y :: r).flatten := rfl
    rw [List.getElem?_cons_succ, ih, ef, List.drop_append, h1, List.drop_eq_nil_of_le (show x.length ≤ 4 * (j + 1) by omega), List.nil_append, show 4 * (j + 1) - 4 = 4 * j by omega]
theorem chk_set : ∀ (L : List (List W)) (j : Nat) (x s : List W), Chk L → L[j]? = some x → s.length = x.length → L.flatten.take (4 * j) ++ s ++ L.flatten.drop (4 * (j + 1)) = (L.set j s).flatten ∧ Chk (L.set j s)
  | [], j, x, s, _, hj, _ => by simp at hj
  | [y], 0, x, s, h, hj, hs => by
    obtain ⟨h1, h2⟩ := h
    have e : y = x := by simpa using hj
    subst e
    constructor
    · simp only [List.flatten_cons, List.flatten_nil, List.append_nil, List.set_cons_zero, Nat.mul_zero, List.take_zero, List.nil_append]
      rw [List.drop_eq_nil_of_le (by omega), List.append_nil]
    · exact ⟨by omega, by omega⟩
  | [y], j + 1, x, s, h, hj, hs => by simp at hj
  | y :: z :: r, 0, x, s, h, hj, hs => by
    obtain ⟨h1, h2⟩ := h
    have e : y = x := by simpa using hj
    subst e
    constructor
    · have ef : (y :: z :: r).flatten = y ++ (z :: r).flatten := rfl
      have eg : ((y :: z :: r).set 0 s).flatten = s ++ (z :: r).flatten := rfl
      rw [Nat.mul_zero, List.take_zero, List.nil_append, ef, eg, List.drop_left' (by omega)]
    · exact ⟨by omega, h2⟩
  | y :: z :: r, j + 1, x, s, h, hj, hs => by
    obtain ⟨h1, h2⟩ := h
    obtain ⟨i1, i2⟩ := chk_set (z :: r) j x s h2 (by simpa using hj) hs
    constructor
    · have ef : (y :: z :: r).flatten = y ++ (z :: r).flatten := rfl
      have eg : ((y :: z :: r).set (j + 1) s).flatten = y ++ ((z :: r).set j s).flatten := rfl
      rw [ef, eg, ← i1, List.take_append, List.drop_append, h1, List.take_of_length_le (by omega), List.drop_eq_nil_of_le (by omega), List.nil_append, show 4 * (j + 1) - 4 = 4 * j by omega, show 4 * (j + 1 + 1) - 4 = 4 * (j + 1) by omega]
      simp only [List.append_assoc]
    · cases j with
      | zero => exact ⟨h1, i2⟩
      | succ j => exact ⟨h1, i2⟩
structure ImOk (im : Im) : Prop where
  ck : Chk im.L
  ll : im.L.length ≤ 10
  dl : im.d.length ≤ 10
  tl : im.t.length ≤ 10
  dd : ∀ x ∈ im.d, x.length ≤ 10
def Im.many (im : Im) : Nat := 1 + im.L.length + im.d.length
def Im.get (im : Im) (i : Nat) : List W := if i = 0 then im.t else if i ≤ im.L.length then im.L.getD (i - 1) [] else im.d.getD (i - 1 - im.L.length) []
def Im.put (im : Im) (i : Nat) (s : List W) : Im := if i = 0 then ⟨s, im.L, im.d⟩ else if i ≤ im.L.length then ⟨im.t, im.L.set (i - 1) s, im.d⟩ else ⟨im.t, im.L, im.d.set (i - 1 - im.L.length) s⟩
theorem flat_len : ∀ L : List (List W), Chk L → L.flatten.length ≤ 4 * L.length
  | [], _ => Nat.le_refl _
  | [x], h => by
    obtain ⟨h1, h2⟩ := h
    simp
    omega
  | x :: y :: r, h => by
    obtain ⟨h1, h2⟩ := h
    have ih := flat_len (y :: r) h2
    rw [List.flatten_cons, List.length_append, h1, List.length_cons (as := y :: r)]
    omega
theorem getD_some {α : Type} {l : List α} {i : Nat} {d x : α} (h : l[i]? = some x) : l.getD i d = x := by
  rw [List.getD_eq_getElem?_getD, h]
  rfl
theorem many_run {im : Im} (o : ImOk im) (S : Store) : m_law_many [encI im] S = .ok (.int im.many) S := by
  have hp := chk_pages im.L o.ck
  refine r_fn rfl ?_
  show b_law_many [some (encI im)] S = _
  unfold b_law_many encI
  have f0 : (0 : Int) < 4 := by omega
  have f1 : (4 : Int) < 1073741824 := by omega
  simp only [x_var, gv_some, x_cst, x_op2, o2_ok, o2b_ok, x_op1, x_ops, x_nil, x_cons, c1_ok, c2_ok, x_bind, x_tst, x_tru, x_ofBl, x_truB, x_truI, x_truN, x_truT, x_andT, kA_t, kA_f, x_orT, kO_t, kO_f, x_notT, kN_ok, x_andV, vA_ok, vA_t, vA_f, x_orV, vO_ok, vO_t, vO_f, x_notV, vN_ok, x_ifE, vI_t, vI_f, x_yes,
    x_add, x_sub, x_neg, x_lt, x_le, x_gt, x_ge, x_ne, eqW_int, x_max, x_min, x_intI, x_intB, x_lenT, x_lenF, x_tupT, gx_some, x_ixT, x_ixF, x_at0, x_at1, x_at2, x_at3, x_at4, x_slT, x_sl, l1_ok, l2_ok, l3_ok, x_part, gp_int, x_noPart, x_iter, x_itT, x_rng1, x_rng2,
    x_seq, sq_next, sq_ret, sq_cont, sq_brk, sn_some, x_asg, sA_ok, x_ret, sR_ok, x_retN, x_drop, sD_ok, x_ifS, sI_t, sI_f, x_skip, x_brk, x_cont, x_tgN, x_tgC, x_tgO, Option.bind_some, so_some, x_set, s1_ok, s2_ok, s3_ok,
    List.getElem?_cons_zero, List.getElem?_cons_succ, List.set_cons_zero, List.set_cons_succ, decide_true, decide_false, Bool.not_true, Bool.not_false, x_fdiv _ f0 f1, List.length_map]
  unfold Im.many
  rw [show ((im.L.flatten.length : Int) + 3) / 4 = (im.L.length : Int) by omega]
  rw [show (1 + (im.L.length : Int) + (im.d.length : Int)) = ((1 + im.L.length + im.d.length : Nat) : Int) by omega]
theorem slots_run {im : Im} (o : ImOk im) (S : Store) (i : Nat) (hi : i < im.many) : m_law_slots [encI im, .int i] S = .ok (.tup (im.get i)) S := by
  have hp := chk_pages im.L o.ck
  have f0 : (0 : Int) < 4 := by omega
  have f1 : (4 : Int) < 1073741824 := by omega
  have b1 : (-18446744073709551616 < (4 : Int) ∧ (4 : Int) < 18446744073709551616) := inR (by omega) (by omega)
  have e1 : ((im.L.flatten.length : Int) + 3) / 4 = (im.L.length : Int) := by omega
  unfold Im.many at hi
  refine r_fn rfl ?_
  show b_law_slots [some (encI im), some (.int i)] S = _
  unfold b_law_slots encI Im.get
  by_cases a0 : i = 0
  · have z : ((i : Int) = 0) = True := eq_true (by omega)
    simp only [x_var, gv_some, x_cst, x_op2, o2_ok, o2b_ok, x_op1, x_ops, x_nil, x_cons, c1_ok, c2_ok, x_bind, x_tst, x_tru, x_ofBl, x_truB, x_truI, x_truN, x_truT, x_andT, kA_t, kA_f, x_orT, kO_t, kO_f, x_notT, kN_ok, x_andV, vA_ok, vA_t, vA_f, x_orV, vO_ok, vO_t, vO_f, x_notV, vN_ok, x_ifE, vI_t, vI_f, x_yes,
    x_add, x_sub, x_neg, x_lt, x_le, x_gt, x_ge, x_ne, eqW_int, x_max, x_min, x_intI, x_intB, x_lenT, x_lenF, x_tupT, gx_some, x_ixT, x_ixF, x_at0, x_at1, x_at2, x_at3, x_at4, x_slT, x_sl, l1_ok, l2_ok, l3_ok, x_part, gp_int, x_noPart, x_iter, x_itT, x_rng1, x_rng2,
    x_seq, sq_next, sq_ret, sq_cont, sq_brk, sn_some, x_asg, sA_ok, x_ret, sR_ok, x_retN, x_drop, sD_ok, x_ifS, sI_t, sI_f, x_skip, x_brk, x_cont, x_tgN, x_tgC, x_tgO, Option.bind_some, so_some, x_set, s1_ok, s2_ok, s3_ok,
    List.getElem?_cons_zero, List.getElem?_cons_succ, List.set_cons_zero, List.set_cons_succ, decide_true, decide_false, Bool.not_true, Bool.not_false, z]
    rw [if_pos a0]
  · have z : ((i : Int) = 0) = False := eq_false (by omega)
    rw [if_neg a0]
    by_cases a1 : i ≤ im.L.length
    · have z1 : ((i : Int) ≤ (im.L.length : Int)) = True := eq_true (by omega)
      have e2 : (4 * (i : Int) - 4) = ((4 * (i - 1) : Nat) : Int) := by omega
      have e3 : (4 * (i : Int)) = ((4 * i : Nat) : Int) := by omega
      have hg := chk_get im.L (i - 1) o.ck (by omega)
      rw [if_pos a1, getD_some hg]
      simp only [x_var, gv_some, x_cst, x_op2, o2_ok, o2b_ok, x_op1, x_ops, x_nil, x_cons, c1_ok, c2_ok, x_bind, x_tst, x_tru, x_ofBl, x_truB, x_truI, x_truN, x_truT, x_andT, kA_t, kA_f, x_orT, kO_t, kO_f, x_notT, kN_ok, x_andV, vA_ok, vA_t, vA_f, x_orV, vO_ok, vO_t, vO_f, x_notV, vN_ok, x_ifE, vI_t, vI_f, x_yes,
    x_add, x_sub, x_neg, x_lt, x_le, x_gt, x_ge, x_ne, eqW_int, x_max, x_min, x_intI, x_intB, x_lenT, x_lenF, x_tupT, gx_some, x_ixT, x_ixF, x_at0, x_at1, x_at2, x_at3, x_at4, x_slT, x_sl, l1_ok, l2_ok, l3_ok, x_part, gp_int, x_noPart, x_iter, x_itT, x_rng1, x_rng2,
    x_seq, sq_next, sq_ret, sq_cont, sq_brk, sn_some, x_asg, sA_ok, x_ret, sR_ok, x_retN, x_drop, sD_ok, x_ifS, sI_t, sI_f, x_skip, x_brk, x_cont, x_tgN, x_tgC, x_tgO, Option.bind_some, so_some, x_set, s1_ok, s2_ok, s3_ok,
    List.getElem?_cons_zero, List.getElem?_cons_succ, List.set_cons_zero, List.set_cons_succ, decide_true, decide_false, Bool.not_true, Bool.not_false, z, x_fdiv _ f0 f1, e1, z1, x_mul _ (Or.inl b1), e2]
      rw [e3, cut_nn, show 4 * i - 4 * (i - 1) = 4 by omega]
    · have z1 : ((i : Int) ≤ (im.L.length : Int)) = False := eq_false (by omega)
      have hd : i - 1 - im.L.length < im.d.length := by omega
      have hx : im.d[i - 1 - im.L.length]? = some im.d[i - 1 - im.L.length] := List.getElem?_eq_getElem hd
      have hx2 : (im.d.map W.tup)[i - 1 - im.L.length]? = some (.tup im.d[i - 1 - im.L.length]) := by rw [List.getElem?_map, hx]; rfl
      have e2 : (i : Int) - 1 - (im.L.length : Int) = ((i - 1 - im.L.length : Nat) : Int) := by omega
      rw [if_neg a1, getD_some hx]
      simp only [x_var, gv_some, x_cst, x_op2, o2_ok, o2b_ok, x_op1, x_ops, x_nil, x_cons, c1_ok, c2_ok, x_bind, x_tst, x_tru, x_ofBl, x_truB, x_truI, x_truN, x_truT, x_andT, kA_t, kA_f, x_orT, kO_t, kO_f, x_notT, kN_ok, x_andV, vA_ok, vA_t, vA_f, x_orV, vO_ok, vO_t, vO_f, x_notV, vN_ok, x_ifE, vI_t, vI_f, x_yes,
    x_add, x_sub, x_neg, x_lt, x_le, x_gt, x_ge, x_ne, eqW_int, x_max, x_min, x_intI, x_intB, x_lenT, x_lenF, x_tupT, gx_some, x_ixT, x_ixF, x_at0, x_at1, x_at2, x_at3, x_at4, x_slT, x_sl, l1_ok, l2_ok, l3_ok, x_part, gp_int, x_noPart, x_iter, x_itT, x_rng1, x_rng2,
    x_seq, sq_next, sq_ret, sq_cont, sq_brk, sn_some, x_asg, sA_ok, x_ret, sR_ok, x_retN, x_drop, sD_ok, x_ifS, sI_t, sI_f, x_skip, x_brk, x_cont, x_tgN, x_tgC, x_tgO, Option.bind_some, so_some, x_set, s1_ok, s2_ok, s3_ok,
    List.getElem?_cons_zero, List.getElem?_cons_succ, List.set_cons_zero, List.set_cons_succ, decide_true, decide_false, Bool.not_true, Bool.not_false, z, x_fdiv _ f0 f1, e1, z1, x_at _ e2 hx2]
/-- a comprehension over a range whose turns draw -/
theorem lc_draw {f : Fr} {S : Store} {p j v : Nat} {n m : Int} (h : PlOk S p) (hf : f[0]? = some (some (.ref p))) (hj : f[j]? = some (some (.int n))) (hv : v < f.length) (hv0 : v ≠ 0) (n0 : -1000000 ≤ n) (n1 : n ≤ 1000) (m0 : 0 < m) (m1 : m < 1000) :
    ∃ (is : List Int) (S' : Store), M.lc (M.rng1 (M.cons (M.var j) (M.nil))) [v] (M.tgN v) (M.tst (M.op2 M.eqW (M.ops m_law_draw (M.cons (M.var 0) (M.cons (M.cst (.int m)) (M.nil)))) (M.cst (.int 0)))) (M.var v) f S = .ok (.ref S.length) S' ∧ S'[S.length]? = some (.lst (is.map W.int)) ∧ is.length ≤ n.toNat ∧ (∀ i ∈ is, 0 ≤ i ∧ i < n) ∧ PlOk S' p ∧ But p S S' := by
  have hg : (M.rng1 (M.cons (M.var j) (M.nil))) f S = .ok (n.toNat, M.getN 0 n.toNat) S := by
    simp only [x_var, gv_some, x_cst, x_op2, o2_ok, o2b_ok, x_op1, x_ops, x_nil, x_cons, c1_ok, c2_ok, x_bind, x_tst, x_tru, x_ofBl, x_truB, x_truI, x_truN, x_truT, x_andT, kA_t, kA_f, x_orT, kO_t, kO_f, x_notT, kN_ok, x_andV, vA_ok, vA_t, vA_f, x_orV, vO_ok, vO_t, vO_f, x_notV, vN_ok, x_ifE, vI_t, vI_f, x_yes,
    x_add, x_sub, x_neg, x_lt, x_le, x_gt, x_ge, x_ne, eqW_int, x_max, x_min, x_intI, x_intB, x_lenT, x_lenF, x_tupT, gx_some, x_ixT, x_ixF, x_at0, x_at1, x_at2, x_at3, x_at4, x_slT, x_sl, l1_ok, l2_ok, l3_ok, x_part, gp_int, x_noPart, x_iter, x_itT, x_rng1, x_rng2,
    x_seq, sq_next, sq_ret, sq_cont, sq_brk, sn_some, x_asg, sA_ok, x_ret, sR_ok, x_retN, x_drop, sD_ok, x_ifS, sI_t, sI_f, x_skip, x_brk, x_cont, x_tgN, x_tgC, x_tgO, Option.bind_some, so_some, x_set, s1_ok, s2_ok, s3_ok,
    List.getElem?_cons_zero, List.getElem?_cons_succ, List.set_cons_zero, List.set_cons_succ, decide_true, decide_false, Bool.not_true, Bool.not_false, hj, x_rng1W _ n0 (show n < 1000000 by omega)]
  have hp := h.lt
  obtain ⟨acc', S', h1, h2⟩ := lcL_rule (get := M.getN 0 n.toNat) (r := S.length) (t := M.tgN v) (c := (M.tst (M.op2 M.eqW (M.ops m_law_draw (M.cons (M.var 0) (M.cons (M.cst (.int m)) (M.nil)))) (M.cst (.int 0))))) (e := M.var v) (fw := wipeF f [v]) n.toNat
    (fun i acc S' => But p S S' ∧ PlOk S' p ∧ S'[S.length]? = some (.lst acc) ∧ ∃ is : List Int, acc = is.map W.int ∧ is.length ≤ i ∧ ∀ x ∈ is, 0 ≤ x ∧ x < n)
    (fun acc S' _ => by unfold M.getN; rw [if_neg (Nat.lt_irrefl _)]) (fun i acc S' hi ⟨bu, ok, ha, is, ea, el, eb⟩ => by
      have w0 : ((wipeF f [v]).set v (some (.int (0 + (i : Nat)))))[0]? = some (some (.ref p)) := by
        unfold wipeF wipeF
        rw [List.getElem?_set_ne hv0, List.getElem?_set_ne hv0]
        exact hf
      have w1 : ((wipeF f [v]).set v (some (.int (0 + (i : Nat)))))[v]? = some (some (.int (0 + (i : Nat)))) := by
        unfold wipeF wipeF
        rw [List.getElem?_set_self (by rw [List.length_set]; exact hv)]
      obtain ⟨d, S2, e1, d0, d1, ok2, b2, l2⟩ := draw_run m m0 (by omega) ok
      refine ⟨.int (0 + (i : Nat)), (wipeF f [v]).set v (some (.int (0 + (i : Nat)))), by unfold M.getN; rw [if_pos hi], rfl, decide (d = 0), S2, by simp only [x_var, gv_some, x_cst, x_op2, o2_ok, o2b_ok, x_op1, x_ops, x_nil, x_cons, c1_ok, c2_ok, x_bind, x_tst, x_tru, x_ofBl, x_truB, x_truI, x_truN, x_truT, x_andT, kA_t, kA_f, x_orT, kO_t, kO_f, x_notT, kN_ok, x_andV, vA_ok, vA_t, vA_f, x_orV, vO_ok, vO_t, vO_f, x_notV, vN_ok, x_ifE, vI_t, vI_f, x_yes,
    x_add, x_sub, x_neg, x_lt, x_le, x_gt, x_ge, x_ne, eqW_int, x_max, x_min, x_intI, x_intB, x_lenT, x_lenF, x_tupT, gx_some, x_ixT, x_ixF, x_at0, x_at1, x_at2, x_at3, x_at4, x_slT, x_sl, l1_ok, l2_ok, l3_ok, x_part, gp_int, x_noPart, x_iter, x_itT, x_rng1, x_rng2,
    x_seq, sq_next, sq_ret, sq_cont, sq_brk, sn_some, x_asg, sA_ok, x_ret, sR_ok, x_retN, x_drop, sD_ok, x_ifS, sI_t, sI_f, x_skip, x_brk, x_cont, x_tgN, x_tgC, x_tgO, Option.bind_some, so_some, x_set, s1_ok, s2_ok, s3_ok,
    List.getElem?_cons_zero, List.getElem?_cons_succ, List.set_cons_zero, List.set_cons_succ, decide_true, decide_false, Bool.not_true, Bool.not_false, w0, e1], ?_⟩
      have ha2 : S2[S.length]? = some (.lst acc) := b2.get ha (by omega)
      have bl : S.length ≤ S2.length := (bu.trans b2).1
      by_cases hd : d = 0
      · rw [if_pos (decide_eq_true hd)]
        have hlim : M.lim = 100000 := rfl
        have la : acc.length ≤ i := by rw [ea, List.length_map]; exact el
        refine ⟨.int (0 + (i : Nat)), S2, by simp only [x_var, gv_some, x_cst, x_op2, o2_ok, o2b_ok, x_op1, x_ops, x_nil, x_cons, c1_ok, c2_ok, x_bind, x_tst, x_tru, x_ofBl, x_truB, x_truI, x_truN, x_truT, x_andT, kA_t, kA_f, x_orT, kO_t, kO_f, x_notT, kN_ok, x_andV, vA_ok, vA_t, vA_f, x_orV, vO_ok, vO_t, vO_f, x_notV, vN_ok, x_ifE, vI_t, vI_f, x_yes,
    x_add, x_sub, x_neg, x_lt, x_le, x_gt, x_ge, x_ne, eqW_int, x_max, x_min, x_intI, x_intB, x_lenT, x_lenF, x_tupT, gx_some, x_ixT, x_ixF, x_at0, x_at1, x_at2, x_at3, x_at4, x_slT, x_sl, l1_ok, l2_ok, l3_ok, x_part, gp_int, x_noPart, x_iter, x_itT, x_rng1, x_rng2,
    x_seq, sq_next, sq_ret, sq_cont, sq_brk, sn_some, x_asg, sA_ok, x_ret, sR_ok, x_retN, x_drop, sD_ok, x_ifS, sI_t, sI_f, x_skip, x_brk, x_cont, x_tgN, x_tgC, x_tgO, Option.bind_some, so_some, x_set, s1_ok, s2_ok, s3_ok,
    List.getElem?_cons_zero, List.getElem?_cons_succ, List.set_cons_zero, List.set_cons_succ, decide_true, decide_false, Bool.not_true, Bool.not_false, w1], ha2, by omega, (bu.trans b2).set2 (Nat.le_refl _) _, ok2.set (by omega) _, List.getElem?_set_self (List.getElem?_eq_some_iff.mp ha2).1, is ++ [0 + (i : Int)], ?_, ?_, ?_⟩
        · rw [ea, List.map_append]
          rfl
        · rw [List.length_append]
          exact Nat.succ_le_succ el
        · intro x hx
          rcases List.mem_append.mp hx with hx | hx
          · exact eb x hx
          · have : x = 0 + (i : Int) := by simpa using hx
            omega
      · rw [if_neg (by simp [hd])]
        exact ⟨bu.trans b2, ok2, ha2, is, ea, by omega, eb⟩) n.toNat 0 [] (S ++ [.lst []]) (Nat.zero_add _) ⟨But.pre (List.prefix_append _ _), h.pre (List.prefix_append _ _), get_new _ _, [], rfl, Nat.le_refl _, fun _ hx => absurd hx List.not_mem_nil⟩
  obtain ⟨bu, ok, ha, is, ea, el, eb⟩ := h2
  refine ⟨is, S', ?_, ea ▸ ha, el, eb, ok, bu⟩
  unfold M.lc
  rw [hg, Rs.bind_ok]
  show (M.lcL (M.getN 0 n.toNat) S.length _ _ _ (wipeF f [v]) n.toNat 0 (S ++ [.lst []])).bind _ = _
  rw [h1]
  rfl


end K07
set_option maxRecDepth 100000
set_option maxHeartbeats 4000000
namespace K07
open PySem L2 Wo
theorem isi_int_int (i : Int) (S : Store) : M.isiK [.int i, .ty "int"] S = .ok (.bl true) S := by
  unfold M.isiK
  dsimp only
  rw [if_pos (by decide)]
  rfl
theorem isi_int_bool (i : Int) (S : Store) : M.isiK [.int i, .ty "bool"] S = .ok (.bl false) S := by
  unfold M.isiK
  dsimp only
  rw [if_pos (by decide)]
  rfl
theorem whole_run (i : Int) (S : Store) : mis_whole [.int i] S = .ok (.bl true) S := by
  refine r_fn rfl ?_
  show bis_whole [some (.int i)] S = _
  unfold bis_whole
  simp only [x_var, gv_some, x_cst, x_op2, o2_ok, o2b_ok, x_op1, x_ops, x_nil, x_cons, c1_ok, c2_ok, x_bind, x_tst, x_tru, x_ofBl, x_truB, x_truI, x_truN, x_truT, x_andT, kA_t, kA_f, x_orT, kO_t, kO_f, x_notT, kN_ok, x_andV, vA_ok, vA_t, vA_f, x_orV, vO_ok, vO_t, vO_f, x_notV, vN_ok, x_ifE, vI_t, vI_f, x_yes,
    x_add, x_sub, x_neg, x_lt, x_le, x_gt, x_ge, x_ne, eqW_int, x_max, x_min, x_intI, x_intB, x_lenT, x_lenF, x_tupT, gx_some, x_ixT, x_ixF, x_at0, x_at1, x_at2, x_at3, x_at4, x_slT, x_sl, l1_ok, l2_ok, l3_ok, x_part, gp_int, x_noPart, x_iter, x_itT, x_rng1, x_rng2,
    x_seq, sq_next, sq_ret, sq_cont, sq_brk, sn_some, x_asg, sA_ok, x_ret, sR_ok, x_retN, x_drop, sD_ok, x_ifS, sI_t, sI_f, x_skip, x_brk, x_cont, x_tgN, x_tgC, x_tgO, Option.bind_some, so_some, x_set, s1_ok, s2_ok, s3_ok,
    List.getElem?_cons_zero, List.getElem?_cons_succ, List.set_cons_zero, List.set_cons_succ, decide_true, decide_false, Bool.not_true, Bool.not_false, isi_int_int, isi_int_bool]
theorem from_run {i a b : Int} (h1 : a ≤ i) (h2 : i ≤ b) (S : Store) : mis_from [.int i, .int a, .int b] S = .ok (.bl true) S := by
  refine r_fn rfl ?_
  show bis_from [some (.int i), some (.int a), some (.int b)] S = _
  unfold bis_from
  have z1 : (a ≤ i) = True := eq_true h1
  have z2 : (i ≤ b) = True := eq_true h2
  simp only [x_var, gv_some, x_cst, x_op2, o2_ok, o2b_ok, x_op1, x_ops, x_nil, x_cons, c1_ok, c2_ok, x_bind, x_tst, x_tru, x_ofBl, x_truB, x_truI, x_truN, x_truT, x_andT, kA_t, kA_f, x_orT, kO_t, kO_f, x_notT, kN_ok, x_andV, vA_ok, vA_t, vA_f, x_orV, vO_ok, vO_t, vO_f, x_notV, vN_ok, x_ifE, vI_t, vI_f, x_yes,
    x_add, x_sub, x_neg, x_lt, x_le, x_gt, x_ge, x_ne, eqW_int, x_max, x_min, x_intI, x_intB, x_lenT, x_lenF, x_tupT, gx_some, x_ixT, x_ixF, x_at0, x_at1, x_at2, x_at3, x_at4, x_slT, x_sl, l1_ok, l2_ok, l3_ok, x_part, gp_int, x_noPart, x_iter, x_itT, x_rng1, x_rng2,
    x_seq, sq_next, sq_ret, sq_cont, sq_brk, sn_some, x_asg, sA_ok, x_ret, sR_ok, x_retN, x_drop, sD_ok, x_ifS, sI_t, sI_f, x_skip, x_brk, x_cont, x_tgN, x_tgC, x_tgO, Option.bind_some, so_some, x_set, s1_ok, s2_ok, s3_ok,
    List.getElem?_cons_zero, List.getElem?_cons_succ, List.set_cons_zero, List.set_cons_succ, decide_true, decide_false, Bool.not_true, Bool.not_false, whole_run, x_chain, z1, z2, if_true]
theorem np_run {im : Im} (o : ImOk im) (S : Store) : mnode_pages [encI im] S = .ok (.int im.L.length) S := by
  have hp := chk_pages im.L o.ck
  refine r_fn rfl ?_
  show bnode_pages [some (encI im)] S = _
  unfold bnode_pages encI
  have f0 : (0 : Int) < 4 := by omega
  have f1 : (4 : Int) < 1073741824 := by omega
  simp only [x_var, gv_some, x_cst, x_op2, o2_ok, o2b_ok, x_op1, x_ops, x_nil, x_cons, c1_ok, c2_ok, x_bind, x_tst, x_tru, x_ofBl, x_truB, x_truI, x_truN, x_truT, x_andT, kA_t, kA_f, x_orT, kO_t, kO_f, x_notT, kN_ok, x_andV, vA_ok, vA_t, vA_f, x_orV, vO_ok, vO_t, vO_f, x_notV, vN_ok, x_ifE, vI_t, vI_f, x_yes,
    x_add, x_sub, x_neg, x_lt, x_le, x_gt, x_ge, x_ne, eqW_int, x_max, x_min, x_intI, x_intB, x_lenT, x_lenF, x_tupT, gx_some, x_ixT, x_ixF, x_at0, x_at1, x_at2, x_at3, x_at4, x_slT, x_sl, l1_ok, l2_ok, l3_ok, x_part, gp_int, x_noPart, x_iter, x_itT, x_rng1, x_rng2,
    x_seq, sq_next, sq_ret, sq_cont, sq_brk, sn_some, x_asg, sA_ok, x_ret, sR_ok, x_retN, x_drop, sD_ok, x_ifS, sI_t, sI_f, x_skip, x_brk, x_cont, x_tgN, x_tgC, x_tgO, Option.bind_some, so_some, x_set, s1_ok, s2_ok, s3_ok,
    List.getElem?_cons_zero, List.getElem?_cons_succ, List.set_cons_zero, List.set_cons_succ, decide_true, decide_false, Bool.not_true, Bool.not_false, x_fdiv _ f0 f1]
  rw [show ((im.L.flatten.length : Int) + 4 - 1) / 4 = (im.L.length : Int) by omega]
theorem dp_run {im : Im} (o : ImOk im) (S : Store) : mdisk_pages [encI im] S = .ok (.int im.many) S := by
  refine r_fn rfl ?_
  show bdisk_pages [some (encI im)] S = _
  unfold bdisk_pages
  simp only [x_var, gv_some, x_cst, x_op2, o2_ok, o2b_ok, x_op1, x_ops, x_nil, x_cons, c1_ok, c2_ok, x_bind, x_tst, x_tru, x_ofBl, x_truB, x_truI, x_truN, x_truT, x_andT, kA_t, kA_f, x_orT, kO_t, kO_f, x_notT, kN_ok, x_andV, vA_ok, vA_t, vA_f, x_orV, vO_ok, vO_t, vO_f, x_notV, vN_ok, x_ifE, vI_t, vI_f, x_yes,
    x_add, x_sub, x_neg, x_lt, x_le, x_gt, x_ge, x_ne, eqW_int, x_max, x_min, x_intI, x_intB, x_lenT, x_lenF, x_tupT, gx_some, x_ixT, x_ixF, x_at0, x_at1, x_at2, x_at3, x_at4, x_slT, x_sl, l1_ok, l2_ok, l3_ok, x_part, gp_int, x_noPart, x_iter, x_itT, x_rng1, x_rng2,
    x_seq, sq_next, sq_ret, sq_cont, sq_brk, sn_some, x_asg, sA_ok, x_ret, sR_ok, x_retN, x_drop, sD_ok, x_ifS, sI_t, sI_f, x_skip, x_brk, x_cont, x_tgN, x_tgC, x_tgO, Option.bind_some, so_some, x_set, s1_ok, s2_ok, s3_ok,
    List.getElem?_cons_zero, List.getElem?_cons_succ, List.set_cons_zero, List.set_cons_succ, decide_true, decide_false, Bool.not_true, Bool.not_false, np_run o]
  unfold encI
  simp only [x_var, gv_some, x_cst, x_op2, o2_ok, o2b_ok, x_op1, x_ops, x_nil, x_cons, c1_ok, c2_ok, x_bind, x_tst, x_tru, x_ofBl, x_truB, x_truI, x_truN, x_truT, x_andT, kA_t, kA_f, x_orT, kO_t, kO_f, x_notT, kN_ok, x_andV, vA_ok, vA_t, vA_f, x_orV, vO_ok, vO_t, vO_f, x_notV, vN_ok, x_ifE, vI_t, vI_f, x_yes,
    x_add, x_sub, x_neg, x_lt, x_le, x_gt, x_ge, x_ne, eqW_int, x_max, x_min, x_intI, x_intB, x_lenT, x_lenF, x_tupT, gx_some, x_ixT, x_ixF, x_at0, x_at1, x_at2, x_at3, x_at4, x_slT, x_sl, l1_ok, l2_ok, l3_ok, x_part, gp_int, x_noPart, x_iter, x_itT, x_rng1, x_rng2,
    x_seq, sq_next, sq_ret, sq_cont, sq_brk, sn_some, x_asg, sA_ok, x_ret, sR_ok, x_retN, x_drop, sD_ok, x_ifS, sI_t, sI_f, x_skip, x_brk, x_cont, x_tgN, x_tgC, x_tgO, Option.bind_some, so_some, x_set, s1_ok, s2_ok, s3_ok,
    List.getElem?_cons_zero, List.getElem?_cons_succ, List.set_cons_zero, List.set_cons_succ, decide_true, decide_false, Bool.not_true, Bool.not_false, List.length_map]
  unfold Im.many
  rw [show (1 + (im.L.length : Int) + (im.d.length : Int)) = ((1 + im.L.length + im.d.length : Nat) : Int) by omega]
theorem look_run {im : Im} (o : ImOk im) (S : Store) (i : Nat) (hi : i < im.many) : mlook_at_page [encI im, .int i] S = .ok .non S := by
  unfold mlook_at_page M.fn
  rw [if_pos (show [encI im, W.int (i : Int)].length = 2 from rfl)]
  show M.endF (blook_at_page [some (encI im), some (.int i)] S) = _
  unfold blook_at_page
  simp only [x_var, gv_some, x_cst, x_op2, o2_ok, o2b_ok, x_op1, x_ops, x_nil, x_cons, c1_ok, c2_ok, x_bind, x_tst, x_tru, x_ofBl, x_truB, x_truI, x_truN, x_truT, x_andT, kA_t, kA_f, x_orT, kO_t, kO_f, x_notT, kN_ok, x_andV, vA_ok, vA_t, vA_f, x_orV, vO_ok, vO_t, vO_f, x_notV, vN_ok, x_ifE, vI_t, vI_f, x_yes,
    x_add, x_sub, x_neg, x_lt, x_le, x_gt, x_ge, x_ne, eqW_int, x_max, x_min, x_intI, x_intB, x_lenT, x_lenF, x_tupT, gx_some, x_ixT, x_ixF, x_at0, x_at1, x_at2, x_at3, x_at4, x_slT, x_sl, l1_ok, l2_ok, l3_ok, x_part, gp_int, x_noPart, x_iter, x_itT, x_rng1, x_rng2,
    x_seq, sq_next, sq_ret, sq_cont, sq_brk, sn_some, x_asg, sA_ok, x_ret, sR_ok, x_retN, x_drop, sD_ok, x_ifS, sI_t, sI_f, x_skip, x_brk, x_cont, x_tgN, x_tgC, x_tgO, Option.bind_some, so_some, x_set, s1_ok, s2_ok, s3_ok,
    List.getElem?_cons_zero, List.getElem?_cons_succ, List.set_cons_zero, List.set_cons_succ, decide_true, decide_false, Bool.not_true, Bool.not_false, dp_run o, from_run (show (0 : Int) ≤ (i : Int) by omega) (show (i : Int) ≤ (im.many : Int) - 1 by omega)]
  rfl
theorem slots_of_run {im : Im} (o : ImOk im) (S : Store) (i : Nat) (hi : i < im.many) : mslots_of [encI im, .int i] S = .ok (.tup (im.get i)) S := by
  have hl := look_run o S i hi
  have hn := np_run o S
  have b1 : (-18446744073709551616 < (4 : Int) ∧ (4 : Int) < 18446744073709551616) := inR (by omega) (by omega)
  unfold Im.many at hi
  refine r_fn rfl ?_
  show bslots_of [some (encI im), some (.int i)] S = _
  unfold bslots_of
  have s1 : (M.drop (M.ops mlook_at_page (M.cons (M.var 0) (M.cons (M.var 1) (M.nil))))) [some (encI im), some (.int i)] S = .ok (.next [some (encI im), some (.int i)]) S := by
    simp only [x_var, gv_some, x_cst, x_op2, o2_ok, o2b_ok, x_op1, x_ops, x_nil, x_cons, c1_ok, c2_ok, x_bind, x_tst, x_tru, x_ofBl, x_truB, x_truI, x_truN, x_truT, x_andT, kA_t, kA_f, x_orT, kO_t, kO_f, x_notT, kN_ok, x_andV, vA_ok, vA_t, vA_f, x_orV, vO_ok, vO_t, vO_f, x_notV, vN_ok, x_ifE, vI_t, vI_f, x_yes,
    x_add, x_sub, x_neg, x_lt, x_le, x_gt, x_ge, x_ne, eqW_int, x_max, x_min, x_intI, x_intB, x_lenT, x_lenF, x_tupT, gx_some, x_ixT, x_ixF, x_at0, x_at1, x_at2, x_at3, x_at4, x_slT, x_sl, l1_ok, l2_ok, l3_ok, x_part, gp_int, x_noPart, x_iter, x_itT, x_rng1, x_rng2,
    x_seq, sq_next, sq_ret, sq_cont, sq_brk, sn_some, x_asg, sA_ok, x_ret, sR_ok, x_retN, x_drop, sD_ok, x_ifS, sI_t, sI_f, x_skip, x_brk, x_cont, x_tgN, x_tgC, x_tgO, Option.bind_some, so_some, x_set, s1_ok, s2_ok, s3_ok,
    List.getElem?_cons_zero, List.getElem?_cons_succ, List.set_cons_zero, List.set_cons_succ, decide_true, decide_false, Bool.not_true, Bool.not_false, hl]
  rw [r_seq s1]
  unfold Im.get
  by_cases a0 : i = 0
  · have z : ((i : Int) = 0) = True := eq_true (by omega)
    unfold encI
    simp only [x_var, gv_some, x_cst, x_op2, o2_ok, o2b_ok, x_op1, x_ops, x_nil, x_cons, c1_ok, c2_ok, x_bind, x_tst, x_tru, x_ofBl, x_truB, x_truI, x_truN, x_truT, x_andT, kA_t, kA_f, x_orT, kO_t, kO_f, x_notT, kN_ok, x_andV, vA_ok, vA_t, vA_f, x_orV, vO_ok, vO_t, vO_f, x_notV, vN_ok, x_ifE, vI_t, vI_f, x_yes,
    x_add, x_sub, x_neg, x_lt, x_le, x_gt, x_ge, x_ne, eqW_int, x_max, x_min, x_intI, x_intB, x_lenT, x_lenF, x_tupT, gx_some, x_ixT, x_ixF, x_at0, x_at1, x_at2, x_at3, x_at4, x_slT, x_sl, l1_ok, l2_ok, l3_ok, x_part, gp_int, x_noPart, x_iter, x_itT, x_rng1, x_rng2,
    x_seq, sq_next, sq_ret, sq_cont, sq_brk, sn_some, x_asg, sA_ok, x_ret, sR_ok, x_retN, x_drop, sD_ok, x_ifS, sI_t, sI_f, x_skip, x_brk, x_cont, x_tgN, x_tgC, x_tgO, Option.bind_some, so_some, x_set, s1_ok, s2_ok, s3_ok,
    List.getElem?_cons_zero, List.getElem?_cons_succ, List.set_cons_zero, List.set_cons_succ, decide_true, decide_false, Bool.not_true, Bool.not_false, z]
    rw [if_pos a0]
  · have z : ((i : Int) = 0) = False := eq_false (by omega)
    rw [if_neg a0]
    by_cases a1 : i ≤ im.L.length
    · have z1 : ((i : Int) ≤ (im.L.length : Int)) = True := eq_true (by omega)
      have e2 : (4 * ((i : Int) - 1)) = ((4 * (i - 1) : Nat) : Int) := by omega
      have e3 : (4 * (i : Int)) = ((4 * i : Nat) : Int) := by omega
      have hg := chk_get im.L (i - 1) o.ck (by omega)
      rw [if_pos a1, getD_some hg]
      unfold encI at hn ⊢
      simp only [x_var, gv_some, x_cst, x_op2, o2_ok, o2b_ok, x_op1, x_ops, x_nil, x_cons, c1_ok, c2_ok, x_bind, x_tst, x_tru, x_ofBl, x_truB, x_truI, x_truN, x_truT, x_andT, kA_t, kA_f, x_orT, kO_t, kO_f, x_notT, kN_ok, x_andV, vA_ok, vA_t, vA_f, x_orV, vO_ok, vO_t, vO_f, x_notV, vN_ok, x_ifE, vI_t, vI_f, x_yes,
    x_add, x_sub, x_neg, x_lt, x_le, x_gt, x_ge, x_ne, eqW_int, x_max, x_min, x_intI, x_intB, x_lenT, x_lenF, x_tupT, gx_some, x_ixT, x_ixF, x_at0, x_at1, x_at2, x_at3, x_at4, x_slT, x_sl, l1_ok, l2_ok, l3_ok, x_part, gp_int, x_noPart, x_iter, x_itT, x_rng1, x_rng2,
    x_seq, sq_next, sq_ret, sq_cont, sq_brk, sn_some, x_asg, sA_ok, x_ret, sR_ok, x_retN, x_drop, sD_ok, x_ifS, sI_t, sI_f, x_skip, x_brk, x_cont, x_tgN, x_tgC, x_tgO, Option.bind_some, so_some, x_set, s1_ok, s2_ok, s3_ok,
    List.getElem?_cons_zero, List.getElem?_cons_succ, List.set_cons_zero, List.set_cons_succ, decide_true, decide_false, Bool.not_true, Bool.not_false, z, hn, z1, x_mul _ (Or.inl b1), e2]
      rw [e3, cut_nn, show 4 * i - 4 * (i - 1) = 4 by omega]
    · have z1 : ((i : Int) ≤ (im.L.length : Int)) = False := eq_false (by omega)
      have hd : i - 1 - im.L.length < im.d.length := by omega
      have hx : im.d[i - 1 - im.L.length]? = some im.d[i - 1 - im.L.length] := List.getElem?_eq_getElem hd
      have hx2 : (im.d.map W.tup)[i - 1 - im.L.length]? = some (.tup im.d[i - 1 - im.L.length]) := by rw [List.getElem?_map, hx]; rfl
      have e2 : (i : Int) - 1 - (im.L.length : Int) = ((i - 1 - im.L.length : Nat) : Int) := by omega
      rw [if_neg a1, getD_some hx]
      unfold encI at hn ⊢
      simp only [x_var, gv_some, x_cst, x_op2, o2_ok, o2b_ok, x_op1, x_ops, x_nil, x_cons, c1_ok, c2_ok, x_bind, x_tst, x_tru, x_ofBl, x_truB, x_truI, x_truN, x_truT, x_andT, kA_t, kA_f, x_orT, kO_t, kO_f, x_notT, kN_ok, x_andV, vA_ok, vA_t, vA_f, x_orV, vO_ok, vO_t, vO_f, x_notV, vN_ok, x_ifE, vI_t, vI_f, x_yes,
    x_add, x_sub, x_neg, x_lt, x_le, x_gt, x_ge, x_ne, eqW_int, x_max, x_min, x_intI, x_intB, x_lenT, x_lenF, x_tupT, gx_some, x_ixT, x_ixF, x_at0, x_at1, x_at2, x_at3, x_at4, x_slT, x_sl, l1_ok, l2_ok, l3_ok, x_part, gp_int, x_noPart, x_iter, x_itT, x_rng1, x_rng2,
    x_seq, sq_next, sq_ret, sq_cont, sq_brk, sn_some, x_asg, sA_ok, x_ret, sR_ok, x_retN, x_drop, sD_ok, x_ifS, sI_t, sI_f, x_skip, x_brk, x_cont, x_tgN, x_tgC, x_tgO, Option.bind_some, so_some, x_set, s1_ok, s2_ok, s3_ok,
    List.getElem?_cons_zero, List.getElem?_cons_succ, List.set_cons_zero, List.set_cons_succ, decide_true, decide_false, Bool.not_true, Bool.not_false, z, hn, z1, x_at _ e2 hx2]
theorem set_mid {α : Type} : ∀ (l : List α) (j : Nat) (x : α), j < l.length → l.take j ++ [x] ++ l.drop (j + 1) = l.set j x
  | [], j, x, h => nomatch h
  | a :: l, 0, x, _ => by simp
  | a :: l, j + 1, x, h => by
    have ih := set_mid l j x (by simpa using h)
    simp only [List.take_succ_cons, List.drop_succ_cons, List.set_cons_succ, List.cons_append]
    rw [ih]
theorem with_run {im : Im} (o : ImOk im) (S : Store) (i : Nat) (hi : i < im.many) (s : List W) (hs : s.length = (im.get i).length) : mwith_slots [encI im, .int i, .tup s] S = .ok (encI (im.put i s)) S := by
  have hl := look_run o S i hi
  have hn := np_run o S
  have b1 : (-18446744073709551616 < (4 : Int) ∧ (4 : Int) < 18446744073709551616) := inR (by omega) (by omega)
  unfold Im.many at hi
  have fl := flat_len im.L o.ck
  have oll := o.ll
  have odl := o.dl
  refine r_fn rfl ?_
  show bwith_slots [some (encI im), some (.int i), some (.tup s), none, none, none, none] S = _
  unfold bwith_slots
  have s1 : (M.drop (M.ops mlook_at_page (M.cons (M.var 0) (M.cons (M.var 1) (M.nil))))) [some (encI im), some (.int i), some (.tup s), none, none, none, none] S = .ok (.next [some (encI im), some (.int i), some (.tup s), none, none, none, none]) S := by
    simp only [x_var, gv_some, x_cst, x_op2, o2_ok, o2b_ok, x_op1, x_ops, x_nil, x_cons, c1_ok, c2_ok, x_bind, x_tst, x_tru, x_ofBl, x_truB, x_truI, x_truN, x_truT, x_andT, kA_t, kA_f, x_orT, kO_t, kO_f, x_notT, kN_ok, x_andV, vA_ok, vA_t, vA_f, x_orV, vO_ok, vO_t, vO_f, x_notV, vN_ok, x_ifE, vI_t, vI_f, x_yes,
    x_add, x_sub, x_neg, x_lt, x_le, x_gt, x_ge, x_ne, eqW_int, x_max, x_min, x_intI, x_intB, x_lenT, x_lenF, x_tupT, gx_some, x_ixT, x_ixF, x_at0, x_at1, x_at2, x_at3, x_at4, x_slT, x_sl, l1_ok, l2_ok, l3_ok, x_part, gp_int, x_noPart, x_iter, x_itT, x_rng1, x_rng2,
    x_seq, sq_next, sq_ret, sq_cont, sq_brk, sn_some, x_asg, sA_ok, x_ret, sR_ok, x_retN, x_drop, sD_ok, x_ifS, sI_t, sI_f, x_skip, x_brk, x_cont, x_tgN, x_tgC, x_tgO, Option.bind_some, so_some, x_set, s1_ok, s2_ok, s3_ok,
    List.getElem?_cons_zero, List.getElem?_cons_succ, List.set_cons_zero, List.set_cons_succ, decide_true, decide_false, Bool.not_true, Bool.not_false, hl]
  have s2 : (M.asg (M.var 0) (M.tgT 3 (M.tgCons (M.tgN 3) (M.tgCons (M.tgN 4) (M.tgCons (M.tgN 5) (M.tgNil)))))) [some (encI im), some (.int i), some (.tup s), none, none, none, none] S = .ok (.next [some (encI im), some (.int i), some (.tup s), some (.tup im.t), some (.tup im.L.flatten), some (.tup (im.d.map .tup)), none]) S := by
    unfold encI
    rfl
  rw [r_seq s1, r_seq s2]
  have hm : ∀ x y z : W, M.mkTup [x, y, z] S = .ok (.tup [x, y, z]) S := fun x y z => x_mkT S (Nat.le_of_ble_eq_true rfl)
  have hm1 : ∀ x : W, M.mkTup [x] S = .ok (.tup [x]) S := fun x => x_mkT S (Nat.le_of_ble_eq_true rfl)
  unfold Im.put
  unfold Im.get at hs
  by_cases a0 : i = 0
  · have z : ((i : Int) = 0) = True := eq_true (by omega)
    simp only [x_var, gv_some, x_cst, x_op2, o2_ok, o2b_ok, x_op1, x_ops, x_nil, x_cons, c1_ok, c2_ok, x_bind, x_tst, x_tru, x_ofBl, x_truB, x_truI, x_truN, x_truT, x_andT, kA_t, kA_f, x_orT, kO_t, kO_f, x_notT, kN_ok, x_andV, vA_ok, vA_t, vA_f, x_orV, vO_ok, vO_t, vO_f, x_notV, vN_ok, x_ifE, vI_t, vI_f, x_yes,
    x_add, x_sub, x_neg, x_lt, x_le, x_gt, x_ge, x_ne, eqW_int, x_max, x_min, x_intI, x_intB, x_lenT, x_lenF, x_tupT, gx_some, x_ixT, x_ixF, x_at0, x_at1, x_at2, x_at3, x_at4, x_slT, x_sl, l1_ok, l2_ok, l3_ok, x_part, gp_int, x_noPart, x_iter, x_itT, x_rng1, x_rng2,
    x_seq, sq_next, sq_ret, sq_cont, sq_brk, sn_some, x_asg, sA_ok, x_ret, sR_ok, x_retN, x_drop, sD_ok, x_ifS, sI_t, sI_f, x_skip, x_brk, x_cont, x_tgN, x_tgC, x_tgO, Option.bind_some, so_some, x_set, s1_ok, s2_ok, s3_ok,
    List.getElem?_cons_zero, List.getElem?_cons_succ, List.set_cons_zero, List.set_cons_succ, decide_true, decide_false, Bool.not_true, Bool.not_false, z, hm]
    rw [if_pos a0]
    rfl
  · have z : ((i : Int) = 0) = False := eq_false (by omega)
    rw [if_neg a0] at hs ⊢
    by_cases a1 : i ≤ im.L.length
    · have z1 : ((i : Int) ≤ (im.L.length : Int)) = True := eq_true (by omega)
      have e2 : (4 * ((i : Int) - 1)) = ((4 * (i - 1) : Nat) : Int) := by omega
      have e3 : (4 * (i : Int)) = ((4 * i : Nat) : Int) := by omega
      have hg := chk_get im.L (i - 1) o.ck (by omega)
      rw [if_pos a1, getD_some hg] at hs
      rw [if_pos a1]
      have hset := (chk_set im.L (i - 1) _ s o.ck hg hs).1
      rw [show i - 1 + 1 = i by omega] at hset
      have lt : s.length ≤ 4 := by
        rw [hs, List.length_take]
        omega
      have ea : M.addW (.tup (im.L.flatten.take (4 * (i - 1)))) (.tup s) S = .ok (.tup (im.L.flatten.take (4 * (i - 1)) ++ s)) S := x_addT S (by rw [List.length_take]; omega)
      have eb : M.addW (.tup (im.L.flatten.take (4 * (i - 1)) ++ s)) (.tup (im.L.flatten.drop (4 * i))) S = .ok (.tup ((im.L.set (i - 1) s).flatten)) S := by
        rw [x_addT S (by rw [List.length_append, List.length_take, List.length_drop]; omega), hset]
      simp only [x_var, gv_some, x_cst, x_op2, o2_ok, o2b_ok, x_op1, x_ops, x_nil, x_cons, c1_ok, c2_ok, x_bind, x_tst, x_tru, x_ofBl, x_truB, x_truI, x_truN, x_truT, x_andT, kA_t, kA_f, x_orT, kO_t, kO_f, x_notT, kN_ok, x_andV, vA_ok, vA_t, vA_f, x_orV, vO_ok, vO_t, vO_f, x_notV, vN_ok, x_ifE, vI_t, vI_f, x_yes,
    x_add, x_sub, x_neg, x_lt, x_le, x_gt, x_ge, x_ne, eqW_int, x_max, x_min, x_intI, x_intB, x_lenT, x_lenF, x_tupT, gx_some, x_ixT, x_ixF, x_at0, x_at1, x_at2, x_at3, x_at4, x_slT, x_sl, l1_ok, l2_ok, l3_ok, x_part, gp_int, x_noPart, x_iter, x_itT, x_rng1, x_rng2,
    x_seq, sq_next, sq_ret, sq_cont, sq_brk, sn_some, x_asg, sA_ok, x_ret, sR_ok, x_retN, x_drop, sD_ok, x_ifS, sI_t, sI_f, x_skip, x_brk, x_cont, x_tgN, x_tgC, x_tgO, Option.bind_some, so_some, x_set, s1_ok, s2_ok, s3_ok,
    List.getElem?_cons_zero, List.getElem?_cons_succ, List.set_cons_zero, List.set_cons_succ, decide_true, decide_false, Bool.not_true, Bool.not_false, z, hn, z1, x_mul _ (Or.inl b1), e2, e3, cut_0n, cut_n0, ea, eb, hm]
      rfl
    · have z1 : ((i : Int) ≤ (im.L.length : Int)) = False := eq_false (by omega)
      have hd : i - 1 - im.L.length < im.d.length := by omega
      have e2 : (i : Int) - 1 - (im.L.length : Int) = ((i - 1 - im.L.length : Nat) : Int) := by omega
      have e3 : ((i - 1 - im.L.length : Nat) : Int) + 1 = ((i - 1 - im.L.length + 1 : Nat) : Int) := by omega
      rw [if_neg a1]
      have hdm : (im.d.map W.tup).length = im.d.length := List.length_map _
      have ea : M.addW (.tup ((im.d.map W.tup).take (i - 1 - im.L.length))) (.tup [.tup s]) S = .ok (.tup ((im.d.map W.tup).take (i - 1 - im.L.length) ++ [.tup s])) S := x_addT S (by rw [List.length_take]; show _ + 1 ≤ 1000; omega)
      have eb : M.addW (.tup ((im.d.map W.tup).take (i - 1 - im.L.length) ++ [.tup s])) (.tup ((im.d.map W.tup).drop (i - 1 - im.L.length + 1))) S = .ok (.tup ((im.d.set (i - 1 - im.L.length) s).map W.tup)) S := by
        rw [x_addT S (by rw [List.length_append, List.length_take, List.length_drop]; show _ + 1 + _ ≤ 1000; omega), set_mid _ _ _ (by rw [hdm]; exact hd), List.map_set]
      simp only [x_var, gv_some, x_cst, x_op2, o2_ok, o2b_ok, x_op1, x_ops, x_nil, x_cons, c1_ok, c2_ok, x_bind, x_tst, x_tru, x_ofBl, x_truB, x_truI, x_truN, x_truT, x_andT, kA_t, kA_f, x_orT, kO_t, kO_f, x_notT, kN_ok, x_andV, vA_ok, vA_t, vA_f, x_orV, vO_ok, vO_t, vO_f, x_notV, vN_ok, x_ifE, vI_t, vI_f, x_yes,
    x_add, x_sub, x_neg, x_lt, x_le, x_gt, x_ge, x_ne, eqW_int, x_max, x_min, x_intI, x_intB, x_lenT, x_lenF, x_tupT, gx_some, x_ixT, x_ixF, x_at0, x_at1, x_at2, x_at3, x_at4, x_slT, x_sl, l1_ok, l2_ok, l3_ok, x_part, gp_int, x_noPart, x_iter, x_itT, x_rng1, x_rng2,
    x_seq, sq_next, sq_ret, sq_cont, sq_brk, sn_some, x_asg, sA_ok, x_ret, sR_ok, x_retN, x_drop, sD_ok, x_ifS, sI_t, sI_f, x_skip, x_brk, x_cont, x_tgN, x_tgC, x_tgO, Option.bind_some, so_some, x_set, s1_ok, s2_ok, s3_ok,
    List.getElem?_cons_zero, List.getElem?_cons_succ, List.set_cons_zero, List.set_cons_succ, decide_true, decide_false, Bool.not_true, Bool.not_false, z, hn, z1, e2, cut_0n, hm1, e3, cut_n0, ea, eb, hm]
      rfl
end K07
set_option maxRecDepth 100000
set_option maxHeartbeats 4000000
namespace K07
open PySem L2 Wo
/-! pages taken and put -/
structure Shp (im im' : Im) : Prop where
  l : im'.L.length = im.L.length
  d : im'.d.length = im.d.length
  g : ∀ i, (im'.get i).length = (im.get i).length
theorem Shp.refl (im : Im) : Shp im im := ⟨rfl, rfl, fun _ => rfl⟩
theorem Shp.trans {a b c : Im} (h : Shp a b) (k : Shp b c) : Shp a c := ⟨k.l.trans h.l, k.d.trans h.d, fun i => (k.g i).trans (h.g i)⟩
theorem Shp.many {a b : Im} (h : Shp a b) : b.many = a.many := by
  unfold Im.many
  rw [h.l, h.d]
theorem getD_set {α : Type} (l : List α) (i j : Nat) (x d : α) (h : i < l.length) : (l.set i x).getD j d = if j = i then x else l.getD j d := by
  rw [List.getD_eq_getElem?_getD, List.getD_eq_getElem?_getD]
  by_cases e : j = i
  · subst e
    rw [if_pos rfl, List.getElem?_set_self h]
    rfl
  · rw [if_neg e, List.getElem?_set_ne (Ne.symm e)]
theorem get_put (im : Im) (i j : Nat) (s : List W) (hi : i < im.many) : (im.put i s).get j = if j = i then s else im.get j := by
  unfold Im.many at hi
  unfold Im.put
  by_cases a0 : i = 0
  · rw [if_pos a0]
    unfold Im.get
    subst a0
    by_cases e : j = 0
    · rw [if_pos e, if_pos e]
    · rw [if_neg e, if_neg e, if_neg e]
  · rw [if_neg a0]
    by_cases a1 : i ≤ im.L.length
    · rw [if_pos a1]
      unfold Im.get
      dsimp only
      rw [List.length_set]
      by_cases e : j = 0
      · rw [if_pos e, if_pos e, if_neg (by omega)]
      · rw [if_neg e, if_neg e]
        by_cases a2 : j ≤ im.L.length
        · rw [if_pos a2, if_pos a2, getD_set _ _ _ _ _ (by omega)]
          by_cases e2 : j = i
          · rw [if_pos (by omega), if_pos e2]
          · rw [if_neg (by omega), if_neg e2]
        · rw [if_neg a2, if_neg a2, if_neg (by omega)]
    · rw [if_neg a1]
      unfold Im.get
      dsimp only
      by_cases e : j = 0
      · rw [if_pos e, if_pos e, if_neg (by omega)]
      · rw [if_neg e, if_neg e]
        by_cases a2 : j ≤ im.L.length
        · rw [if_pos a2, if_pos a2, if_neg (by omega)]
        · rw [if_neg a2, if_neg a2, getD_set _ _ _ _ _ (by omega)]
          by_cases e2 : j = i
          · rw [if_pos (by omega), if_pos e2]
          · rw [if_neg (by omega), if_neg e2]
theorem shp_put {im : Im} {i : Nat} {s : List W} (hi : i < im.many) (hs : s.length = (im.get i).length) : Shp im (im.put i s) := by
  refine ⟨?_, ?_, fun j => ?_⟩
  · unfold Im.put
    split
    · rfl
    · split
      · exact List.length_set
      · rfl
  · unfold Im.put
    split
    · rfl
    · split
      · rfl
      · exact List.length_set
  · rw [get_put im i j s hi]
    by_cases e : j = i
    · rw [if_pos e, e, hs]
    · rw [if_neg e]
theorem ok_put {im : Im} (o : ImOk im) {i : Nat} {s : List W} (hi : i < im.many) (hs : s.length = (im.get i).length) : ImOk (im.put i s) := by
  have hsh := shp_put hi hs
  have h1 := hsh.l
  have h2 := hsh.d
  have h3 := hsh.g 0
  refine ⟨?_, by rw [h1]; exact o.ll, by rw [h2]; exact o.dl, ?_, ?_⟩
  · unfold Im.put
    by_cases a0 : i = 0
    · rw [if_pos a0]
      exact o.ck
    · rw [if_neg a0]
      by_cases a1 : i ≤ im.L.length
      · rw [if_pos a1]
        have hg := chk_get im.L (i - 1) o.ck (by omega)
        refine (chk_set im.L (i - 1) _ s o.ck hg ?_).2
        unfold Im.get at hs
        rw [if_neg a0, if_pos a1, getD_some hg] at hs
        exact hs
      · rw [if_neg a1]
        exact o.ck
  · have e : (im.put i s).get 0 = (im.put i s).t := rfl
    have e' : im.get 0 = im.t := rfl
    rw [e, e'] at h3
    rw [h3]
    exact o.tl
  · intro x hx
    unfold Im.put at hx
    by_cases a0 : i = 0
    · rw [if_pos a0] at hx
      exact o.dd x hx
    · rw [if_neg a0] at hx
      by_cases a1 : i ≤ im.L.length
      · rw [if_pos a1] at hx
        exact o.dd x hx
      · rw [if_neg a1] at hx
        rcases List.mem_or_eq_of_mem_set hx with hx | hx
        · exact o.dd x hx
        · subst hx
          rw [hs]
          unfold Im.many at hi
          unfold Im.get
          have hd : i - 1 - im.L.length < im.d.length := by omega
          rw [if_neg a0, if_neg a1, getD_some (List.getElem?_eq_getElem hd)]
          exact o.dd _ (List.getElem_mem hd)
theorem foldl_take {α β : Type} (f : β → α → β) {l : List α} {i : Nat} {x : α} (h : l[i]? = some x) (b : β) : (l.take (i + 1)).foldl f b = f ((l.take i).foldl f b) x := by
  rw [List.take_add_one, h, List.foldl_append]
  rfl
/-! changes put on -/
def putsB (s : List W) (puts : List (Nat × Int)) : List W := puts.foldl (fun s q => s.set q.1 (.int q.2)) s
theorem putsB_len : ∀ (puts : List (Nat × Int)) (s : List W), (putsB s puts).length = s.length
  | [], _ => rfl
  | q :: r, s => by
    show (putsB (s.set q.1 (.int q.2)) r).length = s.length
    rw [putsB_len r, List.length_set]
def stepI (im : Im) (c : Ch) : Im := im.put c.at_ (putsB (im.get c.at_) c.puts)
/-- a change that goes on an image of this shape -/
structure Fit (im : Im) (c : Ch) : Prop where
  a : c.at_ < im.many
  p : ∀ q ∈ c.puts, q.1 < (im.get c.at_).length
theorem Fit.shp {im im' : Im} {c : Ch} (h : Fit im c) (s : Shp im im') : Fit im' c := ⟨by rw [s.many]; exact h.a, fun q hq => by rw [s.g]; exact h.p q hq⟩
theorem step_shp {im : Im} {c : Ch} (h : Fit im c) : Shp im (stepI im c) := shp_put h.a (putsB_len _ _)
theorem step_ok {im : Im} (o : ImOk im) {c : Ch} (h : Fit im c) : ImOk (stepI im c) := ok_put o h.a (putsB_len _ _)
def allI (im : Im) (cs : List Ch) : Im := cs.foldl stepI im
theorem all_shp : ∀ (cs : List Ch) (im : Im), ImOk im → (∀ c ∈ cs, Fit im c) → Shp im (allI im cs) ∧ ImOk (allI im cs)
  | [], im, o, _ => ⟨Shp.refl im, o⟩
  | c :: cs, im, o, h => by
    have h1 := h c (List.mem_cons_self ..)
    have s1 := step_shp h1
    obtain ⟨i1, i2⟩ := all_shp cs (stepI im c) (step_ok o h1) fun e he => (h e (List.mem_cons_of_mem _ he)).shp s1
    exact ⟨s1.trans i1, i2⟩
/-- each page by itself -/
theorem all_get : ∀ (cs : List Ch) (im : Im) (j : Nat), (∀ c ∈ cs, Fit im c) → (allI im cs).get j = cs.foldl (fun s c => if c.at_ = j then putsB s c.puts else s) (im.get j)
  | [], im, j, _ => rfl
  | c :: cs, im, j, h => by
    have h1 := h c (List.mem_cons_self ..)
    have ih := all_get cs (stepI im c) j fun e he => (h e (List.mem_cons_of_mem _ he)).shp (step_shp h1)
    show (allI (stepI im c) cs).get j = cs.foldl _ (if c.at_ = j then putsB (im.get j) c.puts else im.get j)
    rw [ih]
    unfold stepI
    rw [get_put im c.at_ j _ h1.a]
    by_cases e : c.at_ = j
    · rw [if_pos e, if_pos e.symm, e]
    · rw [if_neg e, if_neg (Ne.symm e)]
/-- the puts of one change, put into a list of the store -/
theorem puts_loop {f : Fr} {S0 S : Store} {r : Nat} {s : List W} (puts : List (Nat × Int)) (x0 x1 x2 x3 x5 x7 x8 : Option W) (hr : S[r]? = some (.lst s)) (hp : ∀ q ∈ puts, q.1 < s.length) (hpre : S0 <+: S) (h0 : S0.length ≤ r) :
    ∃ S' y7 y8, M.forS (M.iter (M.var 4)) (M.tgT 2 (M.tgCons (M.tgN 7) (M.tgCons (M.tgN 8) (M.tgNil)))) (M.setSub (M.var 8) (M.var 6) (M.var 7)) [x0, x1, x2, x3, some (.tup (puts.map pW)), x5, some (.ref r), x7, x8] S = .ok (.next [x0, x1, x2, x3, some (.tup (puts.map pW)), x5, some (.ref r), y7, y8]) S' ∧ S0 <+: S' ∧ S'[r]? = some (.lst (putsB s puts)) := by
  have hg : (M.iter (M.var 4)) [x0, x1, x2, x3, some (.tup (puts.map pW)), x5, some (.ref r), x7, x8] S = .ok (puts.length, M.getF (puts.map pW)) S := by
    simp only [x_var, gv_some, x_cst, x_op2, o2_ok, o2b_ok, x_op1, x_ops, x_nil, x_cons, c1_ok, c2_ok, x_bind, x_tst, x_tru, x_ofBl, x_truB, x_truI, x_truN, x_truT, x_andT, kA_t, kA_f, x_orT, kO_t, kO_f, x_notT, kN_ok, x_andV, vA_ok, vA_t, vA_f, x_orV, vO_ok, vO_t, vO_f, x_notV, vN_ok, x_ifE, vI_t, vI_f, x_yes,
    x_add, x_sub, x_neg, x_lt, x_le, x_gt, x_ge, x_ne, eqW_int, x_max, x_min, x_intI, x_intB, x_lenT, x_lenF, x_tupT, gx_some, x_ixT, x_ixF, x_at0, x_at1, x_at2, x_at3, x_at4, x_slT, x_sl, l1_ok, l2_ok, l3_ok, x_part, gp_int, x_noPart, x_iter, x_itT, x_rng1, x_rng2,
    x_seq, sq_next, sq_ret, sq_cont, sq_brk, sn_some, x_asg, sA_ok, x_ret, sR_ok, x_retN, x_drop, sD_ok, x_ifS, sI_t, sI_f, x_skip, x_brk, x_cont, x_tgN, x_tgC, x_tgO, Option.bind_some, so_some, x_set, s1_ok, s2_ok, s3_ok,
    List.getElem?_cons_zero, List.getElem?_cons_succ, List.set_cons_zero, List.set_cons_succ, decide_true, decide_false, Bool.not_true, Bool.not_false, List.length_map]
  obtain ⟨f', S', h1, h2⟩ := forL_rule (get := M.getF (puts.map pW)) (t := (M.tgT 2 (M.tgCons (M.tgN 7) (M.tgCons (M.tgN 8) (M.tgNil))))) (body := (M.setSub (M.var 8) (M.var 6) (M.var 7))) puts.length
    (fun i f S' => S0 <+: S' ∧ (∃ y7 y8, f = [x0, x1, x2, x3, some (.tup (puts.map pW)), x5, some (.ref r), y7, y8]) ∧ S'[r]? = some (.lst (putsB s (puts.take i))))
    (fun f S' _ => by unfold M.getF; rw [List.getElem?_eq_none (by rw [List.length_map]; exact Nat.le_refl _)]) (fun i f S' hi ⟨pre, ⟨y7, y8, ef⟩, hs⟩ => by
      subst ef
      have hx : puts[i]? = some puts[i] := List.getElem?_eq_getElem hi
      have hq := hp puts[i] (List.getElem_mem hi)
      have ht : putsB s (puts.take (i + 1)) = (putsB s (puts.take i)).set puts[i].1 (.int puts[i].2) := by
        exact foldl_take _ hx s
      generalize puts[i] = q at *
      have hlen : q.1 < (putsB s (puts.take i)).length := by rw [putsB_len]; exact hq
      refine ⟨pW q, [x0, x1, x2, x3, some (.tup (puts.map pW)), x5, some (.ref r), some (.int q.1), some (.int q.2)], by unfold M.getF; rw [List.getElem?_map, hx]; rfl, rfl, [x0, x1, x2, x3, some (.tup (puts.map pW)), x5, some (.ref r), some (.int q.1), some (.int q.2)], S'.set r (.lst ((putsB s (puts.take i)).set q.1 (.int q.2))), Or.inl ?_, pre_set pre h0 _, ⟨_, _, rfl⟩, ?_⟩
      · simp only [x_var, gv_some, x_cst, x_op2, o2_ok, o2b_ok, x_op1, x_ops, x_nil, x_cons, c1_ok, c2_ok, x_bind, x_tst, x_tru, x_ofBl, x_truB, x_truI, x_truN, x_truT, x_andT, kA_t, kA_f, x_orT, kO_t, kO_f, x_notT, kN_ok, x_andV, vA_ok, vA_t, vA_f, x_orV, vO_ok, vO_t, vO_f, x_notV, vN_ok, x_ifE, vI_t, vI_f, x_yes,
    x_add, x_sub, x_neg, x_lt, x_le, x_gt, x_ge, x_ne, eqW_int, x_max, x_min, x_intI, x_intB, x_lenT, x_lenF, x_tupT, gx_some, x_ixT, x_ixF, x_at0, x_at1, x_at2, x_at3, x_at4, x_slT, x_sl, l1_ok, l2_ok, l3_ok, x_part, gp_int, x_noPart, x_iter, x_itT, x_rng1, x_rng2,
    x_seq, sq_next, sq_ret, sq_cont, sq_brk, sn_some, x_asg, sA_ok, x_ret, sR_ok, x_retN, x_drop, sD_ok, x_ifS, sI_t, sI_f, x_skip, x_brk, x_cont, x_tgN, x_tgC, x_tgO, Option.bind_some, so_some, x_set, s1_ok, s2_ok, s3_ok,
    List.getElem?_cons_zero, List.getElem?_cons_succ, List.set_cons_zero, List.set_cons_succ, decide_true, decide_false, Bool.not_true, Bool.not_false, x_setL hs q.1 _ hlen (i := (q.1 : Int)) rfl]
      · rw [List.getElem?_set_self (List.getElem?_eq_some_iff.mp hs).1, ht])
    puts.length 0 [x0, x1, x2, x3, some (.tup (puts.map pW)), x5, some (.ref r), x7, x8] S (Nat.zero_add _) ⟨hpre, ⟨_, _, rfl⟩, hr⟩
  obtain ⟨pre, ⟨y7, y8, rfl⟩, hs⟩ := h2
  rw [List.take_length] at hs
  exact ⟨S', y7, y8, (r_for hg).trans h1, pre, hs⟩
theorem put_on_run {S : Store} {r : Nat} {cs : List Ch} {im : Im} (o : ImOk im) (h : ∀ c ∈ cs, Fit im c) (hr : S[r]? = some (.lst (cs.map enc))) : ∃ S', mput_on [encI im, .ref r] S = .ok (encI (allI im cs)) S' ∧ S <+: S' := by
  have hg : (M.iter (M.var 1)) [some (encI im), some (.ref r), none, none, none, none, none, none, none] S = .ok (cs.length, M.getR r) S := by
    simp only [x_var, gv_some, x_cst, x_op2, o2_ok, o2b_ok, x_op1, x_ops, x_nil, x_cons, c1_ok, c2_ok, x_bind, x_tst, x_tru, x_ofBl, x_truB, x_truI, x_truN, x_truT, x_andT, kA_t, kA_f, x_orT, kO_t, kO_f, x_notT, kN_ok, x_andV, vA_ok, vA_t, vA_f, x_orV, vO_ok, vO_t, vO_f, x_notV, vN_ok, x_ifE, vI_t, vI_f, x_yes,
    x_add, x_sub, x_neg, x_lt, x_le, x_gt, x_ge, x_ne, eqW_int, x_max, x_min, x_intI, x_intB, x_lenT, x_lenF, x_tupT, gx_some, x_ixT, x_ixF, x_at0, x_at1, x_at2, x_at3, x_at4, x_slT, x_sl, l1_ok, l2_ok, l3_ok, x_part, gp_int, x_noPart, x_iter, x_itT, x_rng1, x_rng2,
    x_seq, sq_next, sq_ret, sq_cont, sq_brk, sn_some, x_asg, sA_ok, x_ret, sR_ok, x_retN, x_drop, sD_ok, x_ifS, sI_t, sI_f, x_skip, x_brk, x_cont, x_tgN, x_tgC, x_tgO, Option.bind_some, so_some, x_set, s1_ok, s2_ok, s3_ok,
    List.getElem?_cons_zero, List.getElem?_cons_succ, List.set_cons_zero, List.set_cons_succ, decide_true, decide_false, Bool.not_true, Bool.not_false, x_itL hr, List.length_map]
  obtain ⟨f', S', h1, h2⟩ := forL_rule (get := M.getR r) (t := (M.tgT 4 (M.tgCons (M.tgN 2) (M.tgCons (M.tgN 3) (M.tgCons (M.tgN 4) (M.tgCons (M.tgN 5) (M.tgNil))))))) (body := (M.seq (M.asg (M.ops M.listW (M.cons (M.ops mslots_of (M.cons (M.var 0) (M.cons (M.var 3) (M.nil)))) (M.nil))) (M.tgN 6)) (M.seq (M.forS (M.iter (M.var 4)) (M.tgT 2 (M.tgCons (M.tgN 7) (M.tgCons (M.tgN 8) (M.tgNil)))) (M.setSub (M.var 8) (M.var 6) (M.var 7))) (M.asg (M.ops mwith_slots (M.cons (M.var 0) (M.cons (M.var 3) (M.cons (M.ops M.tupleW (M.cons (M.var 6) (M.nil))) (M.nil))))) (M.tgN 0))))) cs.length
    (fun i f S' => S <+: S' ∧ ∃ x2 x3 x4 x5 x6 x7 x8, f = [some (encI (allI im (cs.take i))), some (.ref r), x2, x3, x4, x5, x6, x7, x8])
    (fun f S' ⟨pre, _⟩ => by
      unfold M.getR
      rw [pre_get pre hr]
      dsimp only
      rw [List.getElem?_eq_none (by rw [List.length_map]; exact Nat.le_refl _)]) (fun i f S' hi ⟨pre, x2, x3, x4, x5, x6, x7, x8, ef⟩ => by
      subst ef
      have hx : cs[i]? = some cs[i] := List.getElem?_eq_getElem hi
      obtain ⟨a1, a2⟩ := all_shp (cs.take i) im o fun c hc => h c (List.mem_of_mem_take hc)
      have hf := (h cs[i] (List.getElem_mem hi)).shp a1
      have ht : allI im (cs.take (i + 1)) = stepI (allI im (cs.take i)) cs[i] := by
        exact foldl_take _ hx im
      generalize cs[i] = c at *
      generalize allI im (cs.take i) = jm at *
      have e1 : (M.asg (M.ops M.listW (M.cons (M.ops mslots_of (M.cons (M.var 0) (M.cons (M.var 3) (M.nil)))) (M.nil))) (M.tgN 6)) [some (encI jm), some (.ref r), some (.int c.n), some (.int c.at_), some (.tup (c.puts.map pW)), some (.tup (c.leans.map .int)), x6, x7, x8] S' = .ok (.next [some (encI jm), some (.ref r), some (.int c.n), some (.int c.at_), some (.tup (c.puts.map pW)), some (.tup (c.leans.map .int)), some (.ref S'.length), x7, x8]) (S' ++ [.lst (jm.get c.at_)]) := by
        have hl : ∀ xs : List W, M.listW [.tup xs] S' = .ok (.ref S'.length) (S' ++ [.lst xs]) := fun xs => rfl
        simp only [x_var, gv_some, x_cst, x_op2, o2_ok, o2b_ok, x_op1, x_ops, x_nil, x_cons, c1_ok, c2_ok, x_bind, x_tst, x_tru, x_ofBl, x_truB, x_truI, x_truN, x_truT, x_andT, kA_t, kA_f, x_orT, kO_t, kO_f, x_notT, kN_ok, x_andV, vA_ok, vA_t, vA_f, x_orV, vO_ok, vO_t, vO_f, x_notV, vN_ok, x_ifE, vI_t, vI_f, x_yes,
    x_add, x_sub, x_neg, x_lt, x_le, x_gt, x_ge, x_ne, eqW_int, x_max, x_min, x_intI, x_intB, x_lenT, x_lenF, x_tupT, gx_some, x_ixT, x_ixF, x_at0, x_at1, x_at2, x_at3, x_at4, x_slT, x_sl, l1_ok, l2_ok, l3_ok, x_part, gp_int, x_noPart, x_iter, x_itT, x_rng1, x_rng2,
    x_seq, sq_next, sq_ret, sq_cont, sq_brk, sn_some, x_asg, sA_ok, x_ret, sR_ok, x_retN, x_drop, sD_ok, x_ifS, sI_t, sI_f, x_skip, x_brk, x_cont, x_tgN, x_tgC, x_tgO, Option.bind_some, so_some, x_set, s1_ok, s2_ok, s3_ok,
    List.getElem?_cons_zero, List.getElem?_cons_succ, List.set_cons_zero, List.set_cons_succ, decide_true, decide_false, Bool.not_true, Bool.not_false, slots_of_run a2 S' c.at_ hf.a, hl]
      obtain ⟨S2, y7, y8, e2, p2, g2⟩ := puts_loop (f := []) (S0 := S') c.puts (some (encI jm)) (some (.ref r)) (some (.int c.n)) (some (.int c.at_)) (some (.tup (c.leans.map .int))) x7 x8 (get_new S' (.lst (jm.get c.at_))) hf.p (List.prefix_append _ _) (Nat.le_refl _)
      have e3 : (M.asg (M.ops mwith_slots (M.cons (M.var 0) (M.cons (M.var 3) (M.cons (M.ops M.tupleW (M.cons (M.var 6) (M.nil))) (M.nil))))) (M.tgN 0)) [some (encI jm), some (.ref r), some (.int c.n), some (.int c.at_), some (.tup (c.puts.map pW)), some (.tup (c.leans.map .int)), some (.ref S'.length), y7, y8] S2 = .ok (.next [some (encI (stepI jm c)), some (.ref r), some (.int c.n), some (.int c.at_), some (.tup (c.puts.map pW)), some (.tup (c.leans.map .int)), some (.ref S'.length), y7, y8]) S2 := by
        simp only [x_var, gv_some, x_cst, x_op2, o2_ok, o2b_ok, x_op1, x_ops, x_nil, x_cons, c1_ok, c2_ok, x_bind, x_tst, x_tru, x_ofBl, x_truB, x_truI, x_truN, x_truT, x_andT, kA_t, kA_f, x_orT, kO_t, kO_f, x_notT, kN_ok, x_andV, vA_ok, vA_t, vA_f, x_orV, vO_ok, vO_t, vO_f, x_notV, vN_ok, x_ifE, vI_t, vI_f, x_yes,
    x_add, x_sub, x_neg, x_lt, x_le, x_gt, x_ge, x_ne, eqW_int, x_max, x_min, x_intI, x_intB, x_lenT, x_lenF, x_tupT, gx_some, x_ixT, x_ixF, x_at0, x_at1, x_at2, x_at3, x_at4, x_slT, x_sl, l1_ok, l2_ok, l3_ok, x_part, gp_int, x_noPart, x_iter, x_itT, x_rng1, x_rng2,
    x_seq, sq_next, sq_ret, sq_cont, sq_brk, sn_some, x_asg, sA_ok, x_ret, sR_ok, x_retN, x_drop, sD_ok, x_ifS, sI_t, sI_f, x_skip, x_brk, x_cont, x_tgN, x_tgC, x_tgO, Option.bind_some, so_some, x_set, s1_ok, s2_ok, s3_ok,
    List.getElem?_cons_zero, List.getElem?_cons_succ, List.set_cons_zero, List.set_cons_succ, decide_true, decide_false, Bool.not_true, Bool.not_false, x_tupL g2, with_run a2 S2 c.at_ hf.a (putsB (jm.get c.at_) c.puts) (putsB_len _ _)]
        rfl
      refine ⟨enc c, [some (encI jm), some (.ref r), some (.int c.n), some (.int c.at_), some (.tup (c.puts.map pW)), some (.tup (c.leans.map .int)), x6, x7, x8], ?_, rfl, [some (encI (stepI jm c)), some (.ref r), some (.int c.n), some (.int c.at_), some (.tup (c.puts.map pW)), some (.tup (c.leans.map .int)), some (.ref S'.length), y7, y8], S2, Or.inl ?_, pre.trans p2, some (.int c.n), some (.int c.at_), some (.tup (c.puts.map pW)), some (.tup (c.leans.map .int)), some (.ref S'.length), y7, y8, by rw [ht]⟩
      · unfold M.getR
        rw [pre_get pre hr]
        dsimp only
        rw [List.getElem?_map, hx]
        rfl
      · rw [r_seq e1, r_seq e2]
        exact e3)
    cs.length 0 [some (encI im), some (.ref r), none, none, none, none, none, none, none] S (Nat.zero_add _) ⟨List.prefix_refl _, _, _, _, _, _, _, _, rfl⟩
  obtain ⟨pre, x2, x3, x4, x5, x6, x7, x8, rfl⟩ := h2
  refine ⟨S', r_fn rfl ?_, pre⟩
  show bput_on [some (encI im), some (.ref r), none, none, none, none, none, none, none] S = _
  unfold bput_on
  rw [r_seq ((r_for hg).trans h1), List.take_length]
  rfl
end K07
set_option maxRecDepth 100000
set_option maxHeartbeats 4000000
namespace K07
open PySem L2 Wo
theorem pages_eq (im : Im) : (List.range im.many).map im.get = im.t :: (im.L ++ im.d) := by
  apply List.ext_getElem?
  intro j
  rw [List.getElem?_map]
  cases j with
  | zero =>
    rw [List.getElem?_range (by unfold Im.many; omega)]
    rfl
  | succ j =>
    rw [List.getElem?_cons_succ]
    by_cases h : j + 1 < im.many
    · rw [List.getElem?_range h]
      unfold Im.many at h
      show some (im.get (j + 1)) = _
      unfold Im.get
      rw [if_neg (by omega)]
      by_cases a1 : j + 1 ≤ im.L.length
      · have hx : im.L[j]? = some im.L[j] := List.getElem?_eq_getElem (by omega)
        rw [if_pos a1, List.getElem?_append_left (by omega), hx, show j + 1 - 1 = j by omega, getD_some hx]
      · have hx : im.d[j - im.L.length]? = some im.d[j - im.L.length] := List.getElem?_eq_getElem (by omega)
        rw [if_neg a1, List.getElem?_append_right (by omega), hx, show j + 1 - 1 - im.L.length = j - im.L.length by omega, getD_some hx]
    · unfold Im.many at h
      rw [List.getElem?_eq_none (by rw [List.length_range]; unfold Im.many; omega), List.getElem?_eq_none (by rw [List.length_append]; omega)]
      rfl
/-- the puts of one change, put in where it belongs there -/
theorem puts_loop2 {S0 S : Store} {r : Nat} {s : List W} (puts : List (Nat × Int)) (wh at_ : Nat) (x0 x1 x2 x5 x8 x9 x10 : Option W) (hr : S[r]? = some (.lst s)) (hp : wh = at_ → ∀ q ∈ puts, q.1 < s.length) (hpre : S0 <+: S) (h0 : S0.length ≤ r) :
    ∃ S' y9 y10, M.forS (M.iter (M.var 7)) (M.tgT 2 (M.tgCons (M.tgN 9) (M.tgCons (M.tgN 10) (M.tgNil)))) (M.ifS (M.tst (M.op2 M.eqW (M.var 6) (M.var 3))) (M.setSub (M.var 10) (M.var 4) (M.var 9)) (M.skip)) [x0, x1, x2, some (.int at_), some (.ref r), x5, some (.int wh), some (.tup (puts.map pW)), x8, x9, x10, none, none] S = .ok (.next [x0, x1, x2, some (.int at_), some (.ref r), x5, some (.int wh), some (.tup (puts.map pW)), x8, y9, y10, none, none]) S' ∧ S0 <+: S' ∧ S'[r]? = some (.lst (if wh = at_ then putsB s puts else s)) := by
  have hg : (M.iter (M.var 7)) [x0, x1, x2, some (.int at_), some (.ref r), x5, some (.int wh), some (.tup (puts.map pW)), x8, x9, x10, none, none] S = .ok (puts.length, M.getF (puts.map pW)) S := by
    simp only [x_var, gv_some, x_cst, x_op2, o2_ok, o2b_ok, x_op1, x_ops, x_nil, x_cons, c1_ok, c2_ok, x_bind, x_tst, x_tru, x_ofBl, x_truB, x_truI, x_truN, x_truT, x_andT, kA_t, kA_f, x_orT, kO_t, kO_f, x_notT, kN_ok, x_andV, vA_ok, vA_t, vA_f, x_orV, vO_ok, vO_t, vO_f, x_notV, vN_ok, x_ifE, vI_t, vI_f, x_yes,
    x_add, x_sub, x_neg, x_lt, x_le, x_gt, x_ge, x_ne, eqW_int, x_max, x_min, x_intI, x_intB, x_lenT, x_lenF, x_tupT, gx_some, x_ixT, x_ixF, x_at0, x_at1, x_at2, x_at3, x_at4, x_slT, x_sl, l1_ok, l2_ok, l3_ok, x_part, gp_int, x_noPart, x_iter, x_itT, x_rng1, x_rng2,
    x_seq, sq_next, sq_ret, sq_cont, sq_brk, sn_some, x_asg, sA_ok, x_ret, sR_ok, x_retN, x_drop, sD_ok, x_ifS, sI_t, sI_f, x_skip, x_brk, x_cont, x_tgN, x_tgC, x_tgO, Option.bind_some, so_some, x_set, s1_ok, s2_ok, s3_ok,
    List.getElem?_cons_zero, List.getElem?_cons_succ, List.set_cons_zero, List.set_cons_succ, decide_true, decide_false, Bool.not_true, Bool.not_false, List.length_map]
  obtain ⟨f', S', h1, h2⟩ := forL_rule (get := M.getF (puts.map pW)) (t := (M.tgT 2 (M.tgCons (M.tgN 9) (M.tgCons (M.tgN 10) (M.tgNil))))) (body := (M.ifS (M.tst (M.op2 M.eqW (M.var 6) (M.var 3))) (M.setSub (M.var 10) (M.var 4) (M.var 9)) (M.skip))) puts.length
    (fun i f S' => S0 <+: S' ∧ (∃ y9 y10, f = [x0, x1, x2, some (.int at_), some (.ref r), x5, some (.int wh), some (.tup (puts.map pW)), x8, y9, y10, none, none]) ∧ S'[r]? = some (.lst (if wh = at_ then putsB s (puts.take i) else s)))
    (fun f S' _ => by unfold M.getF; rw [List.getElem?_eq_none (by rw [List.length_map]; exact Nat.le_refl _)]) (fun i f S' hi ⟨pre, ⟨y7, y8, ef⟩, hs⟩ => by
      subst ef
      have hx : puts[i]? = some puts[i] := List.getElem?_eq_getElem hi
      have hm := List.getElem_mem hi
      have ht : putsB s (puts.take (i + 1)) = (putsB s (puts.take i)).set puts[i].1 (.int puts[i].2) := foldl_take _ hx s
      generalize puts[i] = q at *
      by_cases e : wh = at_
      · rw [if_pos e] at hs
        have hlen : q.1 < (putsB s (puts.take i)).length := by rw [putsB_len]; exact hp e q hm
        have z : ((wh : Int) = (at_ : Int)) = True := eq_true (by omega)
        refine ⟨pW q, [x0, x1, x2, some (.int at_), some (.ref r), x5, some (.int wh), some (.tup (puts.map pW)), x8, some (.int q.1), some (.int q.2), none, none], by unfold M.getF; rw [List.getElem?_map, hx]; rfl, rfl, [x0, x1, x2, some (.int at_), some (.ref r), x5, some (.int wh), some (.tup (puts.map pW)), x8, some (.int q.1), some (.int q.2), none, none], S'.set r (.lst ((putsB s (puts.take i)).set q.1 (.int q.2))), Or.inl ?_, pre_set pre h0 _, ⟨_, _, rfl⟩, ?_⟩
        · simp only [x_var, gv_some, x_cst, x_op2, o2_ok, o2b_ok, x_op1, x_ops, x_nil, x_cons, c1_ok, c2_ok, x_bind, x_tst, x_tru, x_ofBl, x_truB, x_truI, x_truN, x_truT, x_andT, kA_t, kA_f, x_orT, kO_t, kO_f, x_notT, kN_ok, x_andV, vA_ok, vA_t, vA_f, x_orV, vO_ok, vO_t, vO_f, x_notV, vN_ok, x_ifE, vI_t, vI_f, x_yes,
    x_add, x_sub, x_neg, x_lt, x_le, x_gt, x_ge, x_ne, eqW_int, x_max, x_min, x_intI, x_intB, x_lenT, x_lenF, x_tupT, gx_some, x_ixT, x_ixF, x_at0, x_at1, x_at2, x_at3, x_at4, x_slT, x_sl, l1_ok, l2_ok, l3_ok, x_part, gp_int, x_noPart, x_iter, x_itT, x_rng1, x_rng2,
    x_seq, sq_next, sq_ret, sq_cont, sq_brk, sn_some, x_asg, sA_ok, x_ret, sR_ok, x_retN, x_drop, sD_ok, x_ifS, sI_t, sI_f, x_skip, x_brk, x_cont, x_tgN, x_tgC, x_tgO, Option.bind_some, so_some, x_set, s1_ok, s2_ok, s3_ok,
    List.getElem?_cons_zero, List.getElem?_cons_succ, List.set_cons_zero, List.set_cons_succ, decide_true, decide_false, Bool.not_true, Bool.not_false, z, x_setL hs q.1 _ hlen (i := (q.1 : Int)) rfl]
        · rw [List.getElem?_set_self (List.getElem?_eq_some_iff.mp hs).1, if_pos e, ht]
      · rw [if_neg e] at hs
        have z : ((wh : Int) = (at_ : Int)) = False := eq_false (by omega)
        refine ⟨pW q, [x0, x1, x2, some (.int at_), some (.ref r), x5, some (.int wh), some (.tup (puts.map pW)), x8, some (.int q.1), some (.int q.2), none, none], by unfold M.getF; rw [List.getElem?_map, hx]; rfl, rfl, [x0, x1, x2, some (.int at_), some (.ref r), x5, some (.int wh), some (.tup (puts.map pW)), x8, some (.int q.1), some (.int q.2), none, none], S', Or.inl ?_, pre, ⟨_, _, rfl⟩, ?_⟩
        · simp only [x_var, gv_some, x_cst, x_op2, o2_ok, o2b_ok, x_op1, x_ops, x_nil, x_cons, c1_ok, c2_ok, x_bind, x_tst, x_tru, x_ofBl, x_truB, x_truI, x_truN, x_truT, x_andT, kA_t, kA_f, x_orT, kO_t, kO_f, x_notT, kN_ok, x_andV, vA_ok, vA_t, vA_f, x_orV, vO_ok, vO_t, vO_f, x_notV, vN_ok, x_ifE, vI_t, vI_f, x_yes,
    x_add, x_sub, x_neg, x_lt, x_le, x_gt, x_ge, x_ne, eqW_int, x_max, x_min, x_intI, x_intB, x_lenT, x_lenF, x_tupT, gx_some, x_ixT, x_ixF, x_at0, x_at1, x_at2, x_at3, x_at4, x_slT, x_sl, l1_ok, l2_ok, l3_ok, x_part, gp_int, x_noPart, x_iter, x_itT, x_rng1, x_rng2,
    x_seq, sq_next, sq_ret, sq_cont, sq_brk, sn_some, x_asg, sA_ok, x_ret, sR_ok, x_retN, x_drop, sD_ok, x_ifS, sI_t, sI_f, x_skip, x_brk, x_cont, x_tgN, x_tgC, x_tgO, Option.bind_some, so_some, x_set, s1_ok, s2_ok, s3_ok,
    List.getElem?_cons_zero, List.getElem?_cons_succ, List.set_cons_zero, List.set_cons_succ, decide_true, decide_false, Bool.not_true, Bool.not_false, z]
        · rw [if_neg e]
          exact hs)
    puts.length 0 [x0, x1, x2, some (.int at_), some (.ref r), x5, some (.int wh), some (.tup (puts.map pW)), x8, x9, x10, none, none] S (Nat.zero_add _) ⟨hpre, ⟨_, _, rfl⟩, by
      rw [hr]
      by_cases e : wh = at_
      · rw [if_pos e]
        rfl
      · rw [if_neg e]⟩
  obtain ⟨pre, ⟨y7, y8, rfl⟩, hs⟩ := h2
  rw [List.take_length] at hs
  exact ⟨S', y7, y8, (r_for hg).trans h1, pre, hs⟩
def pageB (at_ : Nat) (s : List W) (c : Ch) : List W := if c.at_ = at_ then putsB s c.puts else s
theorem pageB_len (at_ : Nat) : ∀ (cs : List Ch) (s : List W), (cs.foldl (pageB at_) s).length = s.length
  | [], _ => rfl
  | c :: cs, s => by
    show (cs.foldl (pageB at_) (pageB at_ s c)).length = s.length
    rw [pageB_len at_ cs]
    unfold pageB
    split
    · exact putsB_len _ _
    · rfl
/-- all changes, at one page -/
theorem chs_loop {S0 S : Store} {r r4 : Nat} {s : List W} {cs : List Ch} (at_ : Nat) (x0 x2 x5 x6 x7 x8 x9 x10 : Option W) (hr : S0[r]? = some (.lst (cs.map enc))) (h4 : S[r4]? = some (.lst s)) (hp : ∀ c ∈ cs, c.at_ = at_ → ∀ q ∈ c.puts, q.1 < s.length) (hpre : S0 <+: S) (h0 : S0.length ≤ r4) :
    ∃ S' y5 y6 y7 y8 y9 y10, M.forS (M.iter (M.var 1)) (M.tgT 4 (M.tgCons (M.tgN 5) (M.tgCons (M.tgN 6) (M.tgCons (M.tgN 7) (M.tgCons (M.tgN 8) (M.tgNil)))))) (M.forS (M.iter (M.var 7)) (M.tgT 2 (M.tgCons (M.tgN 9) (M.tgCons (M.tgN 10) (M.tgNil)))) (M.ifS (M.tst (M.op2 M.eqW (M.var 6) (M.var 3))) (M.setSub (M.var 10) (M.var 4) (M.var 9)) (M.skip))) [x0, some (.ref r), x2, some (.int at_), some (.ref r4), x5, x6, x7, x8, x9, x10, none, none] S = .ok (.next [x0, some (.ref r), x2, some (.int at_), some (.ref r4), y5, y6, y7, y8, y9, y10, none, none]) S' ∧ S0 <+: S' ∧ S'[r4]? = some (.lst (cs.foldl (pageB at_) s)) := by
  have hg : (M.iter (M.var 1)) [x0, some (.ref r), x2, some (.int at_), some (.ref r4), x5, x6, x7, x8, x9, x10, none, none] S = .ok (cs.length, M.getR r) S := by
    simp only [x_var, gv_some, x_cst, x_op2, o2_ok, o2b_ok, x_op1, x_ops, x_nil, x_cons, c1_ok, c2_ok, x_bind, x_tst, x_tru, x_ofBl, x_truB, x_truI, x_truN, x_truT, x_andT, kA_t, kA_f, x_orT, kO_t, kO_f, x_notT, kN_ok, x_andV, vA_ok, vA_t, vA_f, x_orV, vO_ok, vO_t, vO_f, x_notV, vN_ok, x_ifE, vI_t, vI_f, x_yes,
    x_add, x_sub, x_neg, x_lt, x_le, x_gt, x_ge, x_ne, eqW_int, x_max, x_min, x_intI, x_intB, x_lenT, x_lenF, x_tupT, gx_some, x_ixT, x_ixF, x_at0, x_at1, x_at2, x_at3, x_at4, x_slT, x_sl, l1_ok, l2_ok, l3_ok, x_part, gp_int, x_noPart, x_iter, x_itT, x_rng1, x_rng2,
    x_seq, sq_next, sq_ret, sq_cont, sq_brk, sn_some, x_asg, sA_ok, x_ret, sR_ok, x_retN, x_drop, sD_ok, x_ifS, sI_t, sI_f, x_skip, x_brk, x_cont, x_tgN, x_tgC, x_tgO, Option.bind_some, so_some, x_set, s1_ok, s2_ok, s3_ok,
    List.getElem?_cons_zero, List.getElem?_cons_succ, List.set_cons_zero, List.set_cons_succ, decide_true, decide_false, Bool.not_true, Bool.not_false, x_itL (pre_get hpre hr), List.length_map]
  obtain ⟨f', S', h1, h2⟩ := forL_rule (get := M.getR r) (t := (M.tgT 4 (M.tgCons (M.tgN 5) (M.tgCons (M.tgN 6) (M.tgCons (M.tgN 7) (M.tgCons (M.tgN 8) (M.tgNil))))))) (body := (M.forS (M.iter (M.var 7)) (M.tgT 2 (M.tgCons (M.tgN 9) (M.tgCons (M.tgN 10) (M.tgNil)))) (M.ifS (M.tst (M.op2 M.eqW (M.var 6) (M.var 3))) (M.setSub (M.var 10) (M.var 4) (M.var 9)) (M.skip)))) cs.length
    (fun i f S' => S0 <+: S' ∧ (∃ y5 y6 y7 y8 y9 y10, f = [x0, some (.ref r), x2, some (.int at_), some (.ref r4), y5, y6, y7, y8, y9, y10, none, none]) ∧ S'[r4]? = some (.lst ((cs.take i).foldl (pageB at_) s)))
    (fun f S' ⟨pre, _⟩ => by
      unfold M.getR
      rw [pre_get pre hr]
      dsimp only
      rw [List.getElem?_eq_none (by rw [List.length_map]; exact Nat.le_refl _)]) (fun i f S' hi ⟨pre, ⟨y5, y6, y7, y8, y9, y10, ef⟩, hs⟩ => by
      subst ef
      have hx : cs[i]? = some cs[i] := List.getElem?_eq_getElem hi
      have hm := List.getElem_mem hi
      have ht := foldl_take (pageB at_) hx s
      generalize cs[i] = c at *
      obtain ⟨S2, z9, z10, e1, e2, e3⟩ := puts_loop2 c.puts c.at_ at_ x0 (some (.ref r)) x2 (some (.int c.n)) (some (.tup (c.leans.map .int))) y9 y10 hs (fun e q hq => by rw [pageB_len]; exact hp c hm e q hq) pre h0
      refine ⟨enc c, [x0, some (.ref r), x2, some (.int at_), some (.ref r4), some (.int c.n), some (.int c.at_), some (.tup (c.puts.map pW)), some (.tup (c.leans.map .int)), y9, y10, none, none], ?_, rfl, _, S2, Or.inl e1, e2, ⟨_, _, _, _, _, _, rfl⟩, ?_⟩
      · unfold M.getR
        rw [pre_get pre hr]
        dsimp only
        rw [List.getElem?_map, hx]
        rfl
      · rw [e3, ht]
        rfl)
    cs.length 0 [x0, some (.ref r), x2, some (.int at_), some (.ref r4), x5, x6, x7, x8, x9, x10, none, none] S (Nat.zero_add _) ⟨hpre, ⟨_, _, _, _, _, _, rfl⟩, h4⟩
  obtain ⟨pre, ⟨y5, y6, y7, y8, y9, y10, rfl⟩, hs⟩ := h2
  rw [List.take_length] at hs
  exact ⟨S', y5, y6, y7, y8, y9, y10, (r_for hg).trans h1, pre, hs⟩
/-- all pages -/
theorem pages_loop {S : Store} {r : Nat} {cs : List Ch} {im : Im} (o : ImOk im) (h : ∀ c ∈ cs, Fit im c) (hr : S[r]? = some (.lst (cs.map enc))) :
    ∃ S' y3 y4 y5 y6 y7 y8 y9 y10, M.forL (M.getN 0 im.many) (M.tgN 3) (M.seq (M.asg (M.ops M.listW (M.cons (M.ops m_law_slots (M.cons (M.var 0) (M.cons (M.var 3) (M.nil)))) (M.nil))) (M.tgN 4)) (M.seq (M.forS (M.iter (M.var 1)) (M.tgT 4 (M.tgCons (M.tgN 5) (M.tgCons (M.tgN 6) (M.tgCons (M.tgN 7) (M.tgCons (M.tgN 8) (M.tgNil)))))) (M.forS (M.iter (M.var 7)) (M.tgT 2 (M.tgCons (M.tgN 9) (M.tgCons (M.tgN 10) (M.tgNil)))) (M.ifS (M.tst (M.op2 M.eqW (M.var 6) (M.var 3))) (M.setSub (M.var 10) (M.var 4) (M.var 9)) (M.skip)))) (M.drop (M.mth M.appM (M.var 2) (M.cons (M.ops M.tupleW (M.cons (M.var 4) (M.nil))) (M.nil)))))) im.many 0 [some (encI im), some (.ref r), some (.ref S.length), none, none, none, none, none, none, none, none, none, none] (S ++ [.lst []]) = .ok (.next [some (encI im), some (.ref r), some (.ref S.length), y3, y4, y5, y6, y7, y8, y9, y10, none, none]) S' ∧ S <+: S' ∧ S'[S.length]? = some (.lst (((List.range im.many).map (allI im cs).get).map W.tup)) := by
  have om : im.many ≤ 21 := by
    have := o.ll
    have := o.dl
    unfold Im.many
    omega
  obtain ⟨f', S', h1, h2⟩ := forL_rule (get := M.getN 0 im.many) (t := M.tgN 3) (body := (M.seq (M.asg (M.ops M.listW (M.cons (M.ops m_law_slots (M.cons (M.var 0) (M.cons (M.var 3) (M.nil)))) (M.nil))) (M.tgN 4)) (M.seq (M.forS (M.iter (M.var 1)) (M.tgT 4 (M.tgCons (M.tgN 5) (M.tgCons (M.tgN 6) (M.tgCons (M.tgN 7) (M.tgCons (M.tgN 8) (M.tgNil)))))) (M.forS (M.iter (M.var 7)) (M.tgT 2 (M.tgCons (M.tgN 9) (M.tgCons (M.tgN 10) (M.tgNil)))) (M.ifS (M.tst (M.op2 M.eqW (M.var 6) (M.var 3))) (M.setSub (M.var 10) (M.var 4) (M.var 9)) (M.skip)))) (M.drop (M.mth M.appM (M.var 2) (M.cons (M.ops M.tupleW (M.cons (M.var 4) (M.nil))) (M.nil))))))) im.many
    (fun i f S' => S <+: S' ∧ (∃ y3 y4 y5 y6 y7 y8 y9 y10, f = [some (encI im), some (.ref r), some (.ref S.length), y3, y4, y5, y6, y7, y8, y9, y10, none, none]) ∧ S'[S.length]? = some (.lst (((List.range i).map (allI im cs).get).map W.tup)))
    (fun f S' _ => by unfold M.getN; rw [if_neg (Nat.lt_irrefl _)]) (fun i f S' hi ⟨pre, ⟨y3, y4, y5, y6, y7, y8, y9, y10, ef⟩, hq⟩ => by
      subst ef
      have e0 : (0 + (i : Int)) = (i : Int) := Int.zero_add _
      have hl : ∀ xs : List W, M.listW [.tup xs] S' = .ok (.ref S'.length) (S' ++ [.lst xs]) := fun xs => rfl
      have e1 : (M.asg (M.ops M.listW (M.cons (M.ops m_law_slots (M.cons (M.var 0) (M.cons (M.var 3) (M.nil)))) (M.nil))) (M.tgN 4)) [some (encI im), some (.ref r), some (.ref S.length), some (.int i), y4, y5, y6, y7, y8, y9, y10, none, none] S' = .ok (.next [some (encI im), some (.ref r), some (.ref S.length), some (.int i), some (.ref S'.length), y5, y6, y7, y8, y9, y10, none, none]) (S' ++ [.lst (im.get i)]) := by
        simp only [x_var, gv_some, x_cst, x_op2, o2_ok, o2b_ok, x_op1, x_ops, x_nil, x_cons, c1_ok, c2_ok, x_bind, x_tst, x_tru, x_ofBl, x_truB, x_truI, x_truN, x_truT, x_andT, kA_t, kA_f, x_orT, kO_t, kO_f, x_notT, kN_ok, x_andV, vA_ok, vA_t, vA_f, x_orV, vO_ok, vO_t, vO_f, x_notV, vN_ok, x_ifE, vI_t, vI_f, x_yes,
    x_add, x_sub, x_neg, x_lt, x_le, x_gt, x_ge, x_ne, eqW_int, x_max, x_min, x_intI, x_intB, x_lenT, x_lenF, x_tupT, gx_some, x_ixT, x_ixF, x_at0, x_at1, x_at2, x_at3, x_at4, x_slT, x_sl, l1_ok, l2_ok, l3_ok, x_part, gp_int, x_noPart, x_iter, x_itT, x_rng1, x_rng2,
    x_seq, sq_next, sq_ret, sq_cont, sq_brk, sn_some, x_asg, sA_ok, x_ret, sR_ok, x_retN, x_drop, sD_ok, x_ifS, sI_t, sI_f, x_skip, x_brk, x_cont, x_tgN, x_tgC, x_tgO, Option.bind_some, so_some, x_set, s1_ok, s2_ok, s3_ok,
    List.getElem?_cons_zero, List.getElem?_cons_succ, List.set_cons_zero, List.set_cons_succ, decide_true, decide_false, Bool.not_true, Bool.not_false, slots_run o S' i hi, hl]
      obtain ⟨S2, z5, z6, z7, z8, z9, z10, e2, e3, e4⟩ := chs_loop (S0 := S') i (some (encI im)) (some (.ref S.length)) y5 y6 y7 y8 y9 y10 (pre_get pre hr) (get_new S' (.lst (im.get i))) (fun c hc e q hq => by have := (h c hc).p q hq; rw [e] at this; exact this) (List.prefix_append _ _) (Nat.le_refl _)
      have hq2 := pre_get e3 hq
      have hlen : (((List.range i).map (allI im cs).get).map W.tup).length ≤ 1000 := by
        rw [List.length_map, List.length_map, List.length_range]
        omega
      refine ⟨.int i, [some (encI im), some (.ref r), some (.ref S.length), some (.int i), y4, y5, y6, y7, y8, y9, y10, none, none], by unfold M.getN; rw [if_pos hi, e0], rfl, [some (encI im), some (.ref r), some (.ref S.length), some (.int i), some (.ref S'.length), z5, z6, z7, z8, z9, z10, none, none], S2.set S.length (.lst (((List.range i).map (allI im cs).get).map W.tup ++ [.tup (cs.foldl (pageB i) (im.get i))])), Or.inl ?_, pre_set (pre.trans e3) (Nat.le_refl _) _, ⟨_, _, _, _, _, _, _, _, rfl⟩, ?_⟩
      · rw [r_seq e1, r_seq e2]
        refine r_drop (x_app (y := .tup (cs.foldl (pageB i) (im.get i))) _ _ _ rfl ?_ (isLst_of hq2) hq2 hlen)
        simp only [x_var, gv_some, x_cst, x_op2, o2_ok, o2b_ok, x_op1, x_ops, x_nil, x_cons, c1_ok, c2_ok, x_bind, x_tst, x_tru, x_ofBl, x_truB, x_truI, x_truN, x_truT, x_andT, kA_t, kA_f, x_orT, kO_t, kO_f, x_notT, kN_ok, x_andV, vA_ok, vA_t, vA_f, x_orV, vO_ok, vO_t, vO_f, x_notV, vN_ok, x_ifE, vI_t, vI_f, x_yes,
    x_add, x_sub, x_neg, x_lt, x_le, x_gt, x_ge, x_ne, eqW_int, x_max, x_min, x_intI, x_intB, x_lenT, x_lenF, x_tupT, gx_some, x_ixT, x_ixF, x_at0, x_at1, x_at2, x_at3, x_at4, x_slT, x_sl, l1_ok, l2_ok, l3_ok, x_part, gp_int, x_noPart, x_iter, x_itT, x_rng1, x_rng2,
    x_seq, sq_next, sq_ret, sq_cont, sq_brk, sn_some, x_asg, sA_ok, x_ret, sR_ok, x_retN, x_drop, sD_ok, x_ifS, sI_t, sI_f, x_skip, x_brk, x_cont, x_tgN, x_tgC, x_tgO, Option.bind_some, so_some, x_set, s1_ok, s2_ok, s3_ok,
    List.getElem?_cons_zero, List.getElem?_cons_succ, List.set_cons_zero, List.set_cons_succ, decide_true, decide_false, Bool.not_true, Bool.not_false, x_tupL e4]
      · rw [List.getElem?_set_self (List.getElem?_eq_some_iff.mp hq2).1, List.range_succ, List.map_append, List.map_append]
        have ea := all_get cs im i h
        rw [show cs.foldl (pageB i) (im.get i) = (allI im cs).get i from ea.symm]
        rfl)
    im.many 0 [some (encI im), some (.ref r), some (.ref S.length), none, none, none, none, none, none, none, none, none, none] (S ++ [.lst []]) (Nat.zero_add _) ⟨List.prefix_append _ _, ⟨_, _, _, _, _, _, _, _, rfl⟩, get_new _ _⟩
  obtain ⟨pre, ⟨y3, y4, y5, y6, y7, y8, y9, y10, rfl⟩, hq⟩ := h2
  exact ⟨S', y3, y4, y5, y6, y7, y8, y9, y10, h1, pre, hq⟩
theorem own_loop {S : Store} {q : Nat} {L : List (List W)} (x0 x1 x2 x3 x4 x5 x6 x7 x8 x9 x10 x11 : Option W) (hq : S[q]? = some (.lst (L.map W.tup))) (hl : L.flatten.length ≤ 1000) :
    ∃ y4, M.forL (M.getR q) (M.tgN 4) (M.asg (M.op2 M.addW (M.var 12) (M.var 4)) (M.tgN 12)) L.length 0 [x0, x1, x2, x3, x4, x5, x6, x7, x8, x9, x10, x11, some (.tup [])] S = .ok (.next [x0, x1, x2, x3, y4, x5, x6, x7, x8, x9, x10, x11, some (.tup L.flatten)]) S := by
  obtain ⟨f', S', h1, h2⟩ := forL_rule (get := M.getR q) (t := M.tgN 4) (body := (M.asg (M.op2 M.addW (M.var 12) (M.var 4)) (M.tgN 12))) L.length
    (fun i f S' => S' = S ∧ ∃ y4, f = [x0, x1, x2, x3, y4, x5, x6, x7, x8, x9, x10, x11, some (.tup (L.take i).flatten)])
    (fun f S' ⟨e, _⟩ => by
      subst e
      unfold M.getR
      rw [hq]
      dsimp only
      rw [List.getElem?_eq_none (by rw [List.length_map]; exact Nat.le_refl _)]) (fun i f S' hi ⟨e, y4, ef⟩ => by
      subst e
      subst ef
      have hx : L[i]? = some L[i] := List.getElem?_eq_getElem hi
      have ht : (L.take (i + 1)).flatten = (L.take i).flatten ++ L[i] := by
        rw [List.take_add_one, hx, List.flatten_append]
        simp
      have hs : (L.take (i + 1)).flatten.length ≤ L.flatten.length := by
        have e : L.flatten = (L.take (i + 1)).flatten ++ (L.drop (i + 1)).flatten := by rw [← List.flatten_append, List.take_append_drop]
        rw [e, List.length_append]
        omega
      rw [ht, List.length_append] at hs
      generalize L[i] = x at *
      refine ⟨.tup x, [x0, x1, x2, x3, some (.tup x), x5, x6, x7, x8, x9, x10, x11, some (.tup (L.take i).flatten)], ?_, rfl, [x0, x1, x2, x3, some (.tup x), x5, x6, x7, x8, x9, x10, x11, some (.tup ((L.take i).flatten ++ x))], S', Or.inl ?_, rfl, _, by rw [ht]⟩
      · unfold M.getR
        rw [hq]
        dsimp only
        rw [List.getElem?_map, hx]
        rfl
      · simp only [x_var, gv_some, x_cst, x_op2, o2_ok, o2b_ok, x_op1, x_ops, x_nil, x_cons, c1_ok, c2_ok, x_bind, x_tst, x_tru, x_ofBl, x_truB, x_truI, x_truN, x_truT, x_andT, kA_t, kA_f, x_orT, kO_t, kO_f, x_notT, kN_ok, x_andV, vA_ok, vA_t, vA_f, x_orV, vO_ok, vO_t, vO_f, x_notV, vN_ok, x_ifE, vI_t, vI_f, x_yes,
    x_add, x_sub, x_neg, x_lt, x_le, x_gt, x_ge, x_ne, eqW_int, x_max, x_min, x_intI, x_intB, x_lenT, x_lenF, x_tupT, gx_some, x_ixT, x_ixF, x_at0, x_at1, x_at2, x_at3, x_at4, x_slT, x_sl, l1_ok, l2_ok, l3_ok, x_part, gp_int, x_noPart, x_iter, x_itT, x_rng1, x_rng2,
    x_seq, sq_next, sq_ret, sq_cont, sq_brk, sn_some, x_asg, sA_ok, x_ret, sR_ok, x_retN, x_drop, sD_ok, x_ifS, sI_t, sI_f, x_skip, x_brk, x_cont, x_tgN, x_tgC, x_tgO, Option.bind_some, so_some, x_set, s1_ok, s2_ok, s3_ok,
    List.getElem?_cons_zero, List.getElem?_cons_succ, List.set_cons_zero, List.set_cons_succ, decide_true, decide_false, Bool.not_true, Bool.not_false, x_addT S' (show (L.take i).flatten.length + x.length ≤ 1000 by omega)])
    L.length 0 [x0, x1, x2, x3, x4, x5, x6, x7, x8, x9, x10, x11, some (.tup [])] S (Nat.zero_add _) ⟨rfl, _, rfl⟩
  obtain ⟨rfl, y4, rfl⟩ := h2
  rw [List.take_length] at h1
  exact ⟨y4, h1⟩
theorem due_run {S : Store} {r : Nat} {cs : List Ch} {im : Im} (o : ImOk im) (h : ∀ c ∈ cs, Fit im c) (hr : S[r]? = some (.lst (cs.map enc))) : ∃ S', m_law_due [encI im, .ref r] S = .ok (encI (allI im cs)) S' ∧ S <+: S' := by
  obtain ⟨sh, oF⟩ := all_shp cs im o h
  obtain ⟨S1, y3, y4, y5, y6, y7, y8, y9, y10, e1, p1, g1⟩ := pages_loop o h hr
  rw [← sh.many, pages_eq] at g1
  have om : im.many ≤ 21 := by
    have := o.ll
    have := o.dl
    unfold Im.many
    omega
  have lF := sh.l
  generalize allI im cs = F at *
  have flF := flat_len F.L oF.ck
  have ollF := oF.ll
  have hg : (M.rng1 (M.cons (M.ops m_law_many (M.cons (M.var 0) (M.nil))) (M.nil))) [some (encI im), some (.ref r), some (.ref S.length), none, none, none, none, none, none, none, none, none, none] (S ++ [.lst []]) = .ok (im.many, M.getN 0 im.many) (S ++ [.lst []]) := by
    have z : ((im.many : Int)).toNat = im.many := by omega
    simp only [x_var, gv_some, x_cst, x_op2, o2_ok, o2b_ok, x_op1, x_ops, x_nil, x_cons, c1_ok, c2_ok, x_bind, x_tst, x_tru, x_ofBl, x_truB, x_truI, x_truN, x_truT, x_andT, kA_t, kA_f, x_orT, kO_t, kO_f, x_notT, kN_ok, x_andV, vA_ok, vA_t, vA_f, x_orV, vO_ok, vO_t, vO_f, x_notV, vN_ok, x_ifE, vI_t, vI_f, x_yes,
    x_add, x_sub, x_neg, x_lt, x_le, x_gt, x_ge, x_ne, eqW_int, x_max, x_min, x_intI, x_intB, x_lenT, x_lenF, x_tupT, gx_some, x_ixT, x_ixF, x_at0, x_at1, x_at2, x_at3, x_at4, x_slT, x_sl, l1_ok, l2_ok, l3_ok, x_part, gp_int, x_noPart, x_iter, x_itT, x_rng1, x_rng2,
    x_seq, sq_next, sq_ret, sq_cont, sq_brk, sn_some, x_asg, sA_ok, x_ret, sR_ok, x_retN, x_drop, sD_ok, x_ifS, sI_t, sI_f, x_skip, x_brk, x_cont, x_tgN, x_tgC, x_tgO, Option.bind_some, so_some, x_set, s1_ok, s2_ok, s3_ok,
    List.getElem?_cons_zero, List.getElem?_cons_succ, List.set_cons_zero, List.set_cons_succ, decide_true, decide_false, Bool.not_true, Bool.not_false, many_run o, x_rng1W _ (show (-1000000 : Int) ≤ (im.many : Int) by omega) (show (im.many : Int) < 1000000 by omega), z]
  have f0 : (0 : Int) < 4 := by omega
  have f1 : (4 : Int) < 1073741824 := by omega
  have hp := chk_pages im.L o.ck
  have s0 : (M.asg (M.ops M.mkLst (M.nil)) (M.tgN 2)) [some (encI im), some (.ref r), none, none, none, none, none, none, none, none, none, none, none] S = .ok (.next [some (encI im), some (.ref r), some (.ref S.length), none, none, none, none, none, none, none, none, none, none]) (S ++ [.lst []]) := by
    simp only [x_var, gv_some, x_cst, x_op2, o2_ok, o2b_ok, x_op1, x_ops, x_nil, x_cons, c1_ok, c2_ok, x_bind, x_tst, x_tru, x_ofBl, x_truB, x_truI, x_truN, x_truT, x_andT, kA_t, kA_f, x_orT, kO_t, kO_f, x_notT, kN_ok, x_andV, vA_ok, vA_t, vA_f, x_orV, vO_ok, vO_t, vO_f, x_notV, vN_ok, x_ifE, vI_t, vI_f, x_yes,
    x_add, x_sub, x_neg, x_lt, x_le, x_gt, x_ge, x_ne, eqW_int, x_max, x_min, x_intI, x_intB, x_lenT, x_lenF, x_tupT, gx_some, x_ixT, x_ixF, x_at0, x_at1, x_at2, x_at3, x_at4, x_slT, x_sl, l1_ok, l2_ok, l3_ok, x_part, gp_int, x_noPart, x_iter, x_itT, x_rng1, x_rng2,
    x_seq, sq_next, sq_ret, sq_cont, sq_brk, sn_some, x_asg, sA_ok, x_ret, sR_ok, x_retN, x_drop, sD_ok, x_ifS, sI_t, sI_f, x_skip, x_brk, x_cont, x_tgN, x_tgC, x_tgO, Option.bind_some, so_some, x_set, s1_ok, s2_ok, s3_ok,
    List.getElem?_cons_zero, List.getElem?_cons_succ, List.set_cons_zero, List.set_cons_succ, decide_true, decide_false, Bool.not_true, Bool.not_false, x_mkL _ (show ([] : List W).length ≤ 1000 from Nat.le_of_ble_eq_true rfl)]
  have s2 : (M.asg (M.op2 M.fdivW (M.op2 M.addW (M.ops M.lenW (M.cons (M.op2 M.ixW (M.var 0) (M.cst (.int 1))) (M.nil))) (M.cst (.int 3))) (M.cst (.int 4))) (M.tgN 11)) [some (encI im), some (.ref r), some (.ref S.length), y3, y4, y5, y6, y7, y8, y9, y10, none, none] S1 = .ok (.next [some (encI im), some (.ref r), some (.ref S.length), y3, y4, y5, y6, y7, y8, y9, y10, some (.int F.L.length), none]) S1 := by
    have e : ((im.L.flatten.length : Int) + 3) / 4 = (F.L.length : Int) := by omega
    unfold encI
    simp only [x_var, gv_some, x_cst, x_op2, o2_ok, o2b_ok, x_op1, x_ops, x_nil, x_cons, c1_ok, c2_ok, x_bind, x_tst, x_tru, x_ofBl, x_truB, x_truI, x_truN, x_truT, x_andT, kA_t, kA_f, x_orT, kO_t, kO_f, x_notT, kN_ok, x_andV, vA_ok, vA_t, vA_f, x_orV, vO_ok, vO_t, vO_f, x_notV, vN_ok, x_ifE, vI_t, vI_f, x_yes,
    x_add, x_sub, x_neg, x_lt, x_le, x_gt, x_ge, x_ne, eqW_int, x_max, x_min, x_intI, x_intB, x_lenT, x_lenF, x_tupT, gx_some, x_ixT, x_ixF, x_at0, x_at1, x_at2, x_at3, x_at4, x_slT, x_sl, l1_ok, l2_ok, l3_ok, x_part, gp_int, x_noPart, x_iter, x_itT, x_rng1, x_rng2,
    x_seq, sq_next, sq_ret, sq_cont, sq_brk, sn_some, x_asg, sA_ok, x_ret, sR_ok, x_retN, x_drop, sD_ok, x_ifS, sI_t, sI_f, x_skip, x_brk, x_cont, x_tgN, x_tgC, x_tgO, Option.bind_some, so_some, x_set, s1_ok, s2_ok, s3_ok,
    List.getElem?_cons_zero, List.getElem?_cons_succ, List.set_cons_zero, List.set_cons_succ, decide_true, decide_false, Bool.not_true, Bool.not_false, x_fdiv _ f0 f1, e]
  have s3 : (M.asg (M.ops M.mkTup (M.nil)) (M.tgN 12)) [some (encI im), some (.ref r), some (.ref S.length), y3, y4, y5, y6, y7, y8, y9, y10, some (.int F.L.length), none] S1 = .ok (.next [some (encI im), some (.ref r), some (.ref S.length), y3, y4, y5, y6, y7, y8, y9, y10, some (.int F.L.length), some (.tup [])]) S1 := by
    simp only [x_var, gv_some, x_cst, x_op2, o2_ok, o2b_ok, x_op1, x_ops, x_nil, x_cons, c1_ok, c2_ok, x_bind, x_tst, x_tru, x_ofBl, x_truB, x_truI, x_truN, x_truT, x_andT, kA_t, kA_f, x_orT, kO_t, kO_f, x_notT, kN_ok, x_andV, vA_ok, vA_t, vA_f, x_orV, vO_ok, vO_t, vO_f, x_notV, vN_ok, x_ifE, vI_t, vI_f, x_yes,
    x_add, x_sub, x_neg, x_lt, x_le, x_gt, x_ge, x_ne, eqW_int, x_max, x_min, x_intI, x_intB, x_lenT, x_lenF, x_tupT, gx_some, x_ixT, x_ixF, x_at0, x_at1, x_at2, x_at3, x_at4, x_slT, x_sl, l1_ok, l2_ok, l3_ok, x_part, gp_int, x_noPart, x_iter, x_itT, x_rng1, x_rng2,
    x_seq, sq_next, sq_ret, sq_cont, sq_brk, sn_some, x_asg, sA_ok, x_ret, sR_ok, x_retN, x_drop, sD_ok, x_ifS, sI_t, sI_f, x_skip, x_brk, x_cont, x_tgN, x_tgC, x_tgO, Option.bind_some, so_some, x_set, s1_ok, s2_ok, s3_ok,
    List.getElem?_cons_zero, List.getElem?_cons_succ, List.set_cons_zero, List.set_cons_succ, decide_true, decide_false, Bool.not_true, Bool.not_false, x_mkT _ (show ([] : List W).length ≤ 1000 from Nat.le_of_ble_eq_true rfl)]
  have slW : ∀ (T : Store) (lo hi : Option Int), T[S.length]? = some (.lst ((F.t :: (F.L ++ F.d)).map W.tup)) → M.slW (.ref S.length) lo hi T = .ok (.ref T.length) (T ++ [.lst (M.cutW ((F.t :: (F.L ++ F.d)).map W.tup) lo hi)]) := fun T lo hi hT => by
    unfold M.slW
    dsimp only
    rw [hT]
  have c1 : M.cutW ((F.t :: (F.L ++ F.d)).map W.tup) (some 1) (some (1 + (F.L.length : Int))) = F.L.map W.tup := by
    have e := cut_nn ((F.t :: (F.L ++ F.d)).map W.tup) 1 (1 + F.L.length)
    rw [show ((1 + F.L.length : Nat) : Int) = 1 + (F.L.length : Int) by omega] at e
    refine e.trans ?_
    rw [show 1 + F.L.length - 1 = F.L.length by omega, ← List.map_drop, List.drop_succ_cons, List.drop_zero, ← List.map_take, List.take_left]
  have c2 : M.cutW ((F.t :: (F.L ++ F.d)).map W.tup) (some (1 + (F.L.length : Int))) none = F.d.map W.tup := by
    have e := cut_n0 ((F.t :: (F.L ++ F.d)).map W.tup) (1 + F.L.length)
    rw [show ((1 + F.L.length : Nat) : Int) = 1 + (F.L.length : Int) by omega] at e
    refine e.trans ?_
    rw [← List.map_drop, show 1 + F.L.length = F.L.length + 1 by omega, List.drop_succ_cons, List.drop_left]
  have g2 : (S1 ++ [Ob.lst (F.L.map W.tup)])[S1.length]? = some (.lst (F.L.map W.tup)) := get_new _ _
  have g3 : (S1 ++ [Ob.lst (F.L.map W.tup)])[S.length]? = some (.lst ((F.t :: (F.L ++ F.d)).map W.tup)) := pre_get (List.prefix_append _ _) g1
  have hg2 : (M.iter (M.sl (M.var 2) (M.part (M.cst (.int 1))) (M.part (M.op2 M.addW (M.cst (.int 1)) (M.var 11))))) [some (encI im), some (.ref r), some (.ref S.length), y3, y4, y5, y6, y7, y8, y9, y10, some (.int F.L.length), some (.tup [])] S1 = .ok (F.L.length, M.getR S1.length) (S1 ++ [.lst (F.L.map W.tup)]) := by
    simp only [x_var, gv_some, x_cst, x_op2, o2_ok, o2b_ok, x_op1, x_ops, x_nil, x_cons, c1_ok, c2_ok, x_bind, x_tst, x_tru, x_ofBl, x_truB, x_truI, x_truN, x_truT, x_andT, kA_t, kA_f, x_orT, kO_t, kO_f, x_notT, kN_ok, x_andV, vA_ok, vA_t, vA_f, x_orV, vO_ok, vO_t, vO_f, x_notV, vN_ok, x_ifE, vI_t, vI_f, x_yes,
    x_add, x_sub, x_neg, x_lt, x_le, x_gt, x_ge, x_ne, eqW_int, x_max, x_min, x_intI, x_intB, x_lenT, x_lenF, x_tupT, gx_some, x_ixT, x_ixF, x_at0, x_at1, x_at2, x_at3, x_at4, x_slT, x_sl, l1_ok, l2_ok, l3_ok, x_part, gp_int, x_noPart, x_iter, x_itT, x_rng1, x_rng2,
    x_seq, sq_next, sq_ret, sq_cont, sq_brk, sn_some, x_asg, sA_ok, x_ret, sR_ok, x_retN, x_drop, sD_ok, x_ifS, sI_t, sI_f, x_skip, x_brk, x_cont, x_tgN, x_tgC, x_tgO, Option.bind_some, so_some, x_set, s1_ok, s2_ok, s3_ok,
    List.getElem?_cons_zero, List.getElem?_cons_succ, List.set_cons_zero, List.set_cons_succ, decide_true, decide_false, Bool.not_true, Bool.not_false, slW S1 _ _ g1, c1, x_itL g2, List.length_map]
  obtain ⟨z4, e4⟩ := own_loop (some (encI im)) (some (.ref r)) (some (.ref S.length)) y3 y4 y5 y6 y7 y8 y9 y10 (some (.int F.L.length)) g2 (by omega)
  have g4 : (S1 ++ [Ob.lst (F.L.map W.tup)] ++ [Ob.lst (F.d.map W.tup)])[(S1 ++ [Ob.lst (F.L.map W.tup)]).length]? = some (.lst (F.d.map W.tup)) := get_new _ _
  have e5 : (M.ops M.mkTup (M.cons (M.op2 M.ixW (M.var 2) (M.cst (.int 0))) (M.cons (M.var 12) (M.cons (M.ops M.tupleW (M.cons (M.sl (M.var 2) (M.part (M.op2 M.addW (M.cst (.int 1)) (M.var 11))) (M.noPart)) (M.nil))) (M.nil))))) [some (encI im), some (.ref r), some (.ref S.length), y3, z4, y5, y6, y7, y8, y9, y10, some (.int F.L.length), some (.tup F.L.flatten)] (S1 ++ [.lst (F.L.map W.tup)]) = .ok (encI F) (S1 ++ [.lst (F.L.map W.tup)] ++ [.lst (F.d.map W.tup)]) := by
    simp only [x_var, gv_some, x_cst, x_op2, o2_ok, o2b_ok, x_op1, x_ops, x_nil, x_cons, c1_ok, c2_ok, x_bind, x_tst, x_tru, x_ofBl, x_truB, x_truI, x_truN, x_truT, x_andT, kA_t, kA_f, x_orT, kO_t, kO_f, x_notT, kN_ok, x_andV, vA_ok, vA_t, vA_f, x_orV, vO_ok, vO_t, vO_f, x_notV, vN_ok, x_ifE, vI_t, vI_f, x_yes,
    x_add, x_sub, x_neg, x_lt, x_le, x_gt, x_ge, x_ne, eqW_int, x_max, x_min, x_intI, x_intB, x_lenT, x_lenF, x_tupT, gx_some, x_ixT, x_ixF, x_at0, x_at1, x_at2, x_at3, x_at4, x_slT, x_sl, l1_ok, l2_ok, l3_ok, x_part, gp_int, x_noPart, x_iter, x_itT, x_rng1, x_rng2,
    x_seq, sq_next, sq_ret, sq_cont, sq_brk, sn_some, x_asg, sA_ok, x_ret, sR_ok, x_retN, x_drop, sD_ok, x_ifS, sI_t, sI_f, x_skip, x_brk, x_cont, x_tgN, x_tgC, x_tgO, Option.bind_some, so_some, x_set, s1_ok, s2_ok, s3_ok,
    List.getElem?_cons_zero, List.getElem?_cons_succ, List.set_cons_zero, List.set_cons_succ, decide_true, decide_false, Bool.not_true, Bool.not_false, x_ixL g3, List.map_cons, slW _ _ _ g3]
    rw [← List.map_cons, c2]
    simp only [x_var, gv_some, x_cst, x_op2, o2_ok, o2b_ok, x_op1, x_ops, x_nil, x_cons, c1_ok, c2_ok, x_bind, x_tst, x_tru, x_ofBl, x_truB, x_truI, x_truN, x_truT, x_andT, kA_t, kA_f, x_orT, kO_t, kO_f, x_notT, kN_ok, x_andV, vA_ok, vA_t, vA_f, x_orV, vO_ok, vO_t, vO_f, x_notV, vN_ok, x_ifE, vI_t, vI_f, x_yes,
    x_add, x_sub, x_neg, x_lt, x_le, x_gt, x_ge, x_ne, eqW_int, x_max, x_min, x_intI, x_intB, x_lenT, x_lenF, x_tupT, gx_some, x_ixT, x_ixF, x_at0, x_at1, x_at2, x_at3, x_at4, x_slT, x_sl, l1_ok, l2_ok, l3_ok, x_part, gp_int, x_noPart, x_iter, x_itT, x_rng1, x_rng2,
    x_seq, sq_next, sq_ret, sq_cont, sq_brk, sn_some, x_asg, sA_ok, x_ret, sR_ok, x_retN, x_drop, sD_ok, x_ifS, sI_t, sI_f, x_skip, x_brk, x_cont, x_tgN, x_tgC, x_tgO, Option.bind_some, so_some, x_set, s1_ok, s2_ok, s3_ok,
    List.getElem?_cons_zero, List.getElem?_cons_succ, List.set_cons_zero, List.set_cons_succ, decide_true, decide_false, Bool.not_true, Bool.not_false, x_tupL g4, x_mkT _ (show [W.tup F.t, W.tup F.L.flatten, W.tup (F.d.map W.tup)].length ≤ 1000 from Nat.le_of_ble_eq_true rfl)]
    rfl
  refine ⟨S1 ++ [.lst (F.L.map W.tup)] ++ [.lst (F.d.map W.tup)], r_fn rfl ?_, (p1.trans (List.prefix_append _ _)).trans (List.prefix_append _ _)⟩
  show b_law_due [some (encI im), some (.ref r), none, none, none, none, none, none, none, none, none, none, none] S = _
  unfold b_law_due
  rw [r_seq s0, r_seq ((r_for hg).trans e1), r_seq s2, r_seq s3, r_seq ((r_for hg2).trans e4)]
  exact r_ret e5
end K07
set_option maxRecDepth 100000
set_option maxHeartbeats 4000000
namespace K07
open PySem L2 Wo
def nodeW : W := .tup [.str "folder", .int 1, .tup []]
def chunk (k : Nat) : List (List W) := if k ≤ 3 then [nodeW :: List.replicate k .non] else [nodeW :: List.replicate 3 .non, List.replicate (k - 3) .non]
def im0 (m k : Nat) : Im := ⟨List.replicate m (.bl false), chunk k, List.replicate m (List.replicate 5 .non)⟩
theorem chunk_flat {k : Nat} (h : k ≤ 7) : (chunk k).flatten = nodeW :: List.replicate k .non := by
  unfold chunk
  by_cases e : k ≤ 3
  · rw [if_pos e]
    simp
  · rw [if_neg e]
    have e2 : k = 3 + (k - 3) := by omega
    generalize k - 3 = j at *
    subst e2
    rw [List.flatten_cons, List.flatten_cons, List.flatten_nil, List.append_nil, List.cons_append, List.replicate_append_replicate]
theorem im0_ok {m k : Nat} (hm : 2 ≤ m) (hm4 : m ≤ 4) (h1 : 1 ≤ k) (h : k ≤ 7) : ImOk (im0 m k) := by
  refine ⟨?_, ?_, ?_, ?_, ?_⟩
  · show Chk (chunk k)
    unfold chunk
    by_cases e : k ≤ 3
    · rw [if_pos e]
      refine ⟨?_, ?_⟩
      · rw [List.length_cons]
        omega
      · rw [List.length_cons, List.length_replicate]
        omega
    · rw [if_neg e]
      refine ⟨rfl, ?_, ?_⟩
      · rw [List.length_replicate]
        omega
      · rw [List.length_replicate]
        omega
  · show (chunk k).length ≤ 10
    unfold chunk
    split <;> simp
  · show (List.replicate m _).length ≤ 10
    rw [List.length_replicate]
    omega
  · show (List.replicate m _).length ≤ 10
    rw [List.length_replicate]
    omega
  · intro x hx
    have := List.eq_of_mem_replicate hx
    subst this
    decide
theorem im0_many {m k : Nat} (hm4 : m ≤ 4) : (im0 m k).many ≤ 7 := by
  have : (chunk k).length ≤ 2 := by
    unfold chunk
    split <;> simp
  show 1 + (chunk k).length + (List.replicate m _).length ≤ 7
  rw [List.length_replicate]
  omega
theorem im0_len {m k : Nat} (hm : 2 ≤ m) (hm4 : m ≤ 4) (h1 : 1 ≤ k) (h : k ≤ 7) (i : Nat) (hi : i < (im0 m k).many) : 1 ≤ ((im0 m k).get i).length ∧ ((im0 m k).get i).length ≤ 8 := by
  have hi' : i < 1 + (chunk k).length + (List.replicate m (List.replicate 5 W.non)).length := hi
  rw [List.length_replicate] at hi'
  unfold Im.get
  by_cases a0 : i = 0
  · rw [if_pos a0]
    show 1 ≤ (List.replicate m _).length ∧ (List.replicate m _).length ≤ 8
    rw [List.length_replicate]
    omega
  · rw [if_neg a0]
    by_cases a1 : i ≤ (im0 m k).L.length
    · rw [if_pos a1]
      have a1' : i ≤ (chunk k).length := a1
      show 1 ≤ ((chunk k).getD (i - 1) []).length ∧ ((chunk k).getD (i - 1) []).length ≤ 8
      unfold chunk at a1' ⊢
      by_cases e : k ≤ 3
      · rw [if_pos e] at a1' ⊢
        have : i = 1 := by
          have : i ≤ 1 := a1'
          omega
        subst this
        show 1 ≤ (nodeW :: List.replicate k W.non).length ∧ (nodeW :: List.replicate k W.non).length ≤ 8
        rw [List.length_cons, List.length_replicate]
        omega
      · rw [if_neg e] at a1' ⊢
        have : i = 1 ∨ i = 2 := by
          have : i ≤ 2 := a1'
          omega
        rcases this with rfl | rfl
        · show 1 ≤ (nodeW :: List.replicate 3 W.non).length ∧ (nodeW :: List.replicate 3 W.non).length ≤ 8
          rw [List.length_cons, List.length_replicate]
          omega
        · show 1 ≤ (List.replicate (k - 3) W.non).length ∧ (List.replicate (k - 3) W.non).length ≤ 8
          rw [List.length_replicate]
          omega
    · rw [if_neg a1]
      have hx : (im0 m k).d[i - 1 - (im0 m k).L.length]? = some (List.replicate 5 W.non) := by
        show (List.replicate m (List.replicate 5 W.non))[_]? = _
        have : ¬ i ≤ (chunk k).length := a1
        show (List.replicate m (List.replicate 5 W.non))[i - 1 - (chunk k).length]? = _
        rw [List.getElem?_replicate, if_pos (by omega)]
      rw [getD_some hx]
      decide
theorem image_run {S : Store} {p : Nat} (h : PlOk S p) : ∃ m k S', m_law_image [.ref p] S = .ok (encI (im0 m k)) S' ∧ 2 ≤ m ∧ m ≤ 4 ∧ 1 ≤ k ∧ k ≤ 7 ∧ PlOk S' p ∧ But p S S' ∧ S'.length = S.length := by
  obtain ⟨v, S1, e1, v0, v1, ok1, b1, l1⟩ := draw_run 3 (by omega) (by omega) h
  obtain ⟨u, S2, e2, u0, u1, ok2, b2, l2⟩ := draw_run 7 (by omega) (by omega) ok1
  refine ⟨(2 + v).toNat, (1 + u).toNat, S2, r_fn rfl ?_, by omega, by omega, by omega, by omega, ok2, b1.trans b2, by omega⟩
  show b_law_image [some (.ref p), none, none] S = _
  have hE : encI (im0 (2 + v).toNat (1 + u).toNat) = .tup [.tup (List.replicate (2 + v).toNat (.bl false)), .tup (nodeW :: List.replicate (1 + u).toNat .non), .tup (List.replicate (2 + v).toNat (.tup (List.replicate 5 .non)))] := by
    unfold encI im0
    dsimp only
    rw [chunk_flat (by omega), List.map_replicate]
  rw [hE]
  unfold b_law_image
  have d1 : ([W.str "folder", W.int 1, W.tup []] : List W).length ≤ 1000 := Nat.le_of_ble_eq_true rfl
  have d2 : ([] : List W).length ≤ 1000 := Nat.le_of_ble_eq_true rfl
  have d3 : ∀ x : W, [x].length ≤ 1000 := fun x => Nat.le_of_ble_eq_true rfl
  have d4 : ∀ x y z : W, [x, y, z].length ≤ 1000 := fun x y z => Nat.le_of_ble_eq_true rfl
  have d5 : ([nodeW] : List W).length + (List.replicate (1 + u).toNat W.non).length ≤ 1000 := by
    rw [List.length_replicate]
    show 1 + _ ≤ 1000
    omega
  have d6 : (0 : Int) ≤ 2 + v := by omega
  have d7 : 2 + v ≤ 1000 := by omega
  have d8 : (0 : Int) ≤ 1 + u := by omega
  have d9 : 1 + u ≤ 1000 := by omega
  have f0 : (0 : Int) ≤ 5 := by omega
  have f1 : (5 : Int) ≤ 1000 := by omega
  unfold nodeW at d5
  simp only [x_var, gv_some, x_cst, x_op2, o2_ok, o2b_ok, x_op1, x_ops, x_nil, x_cons, c1_ok, c2_ok, x_bind, x_tst, x_tru, x_ofBl, x_truB, x_truI, x_truN, x_truT, x_andT, kA_t, kA_f, x_orT, kO_t, kO_f, x_notT, kN_ok, x_andV, vA_ok, vA_t, vA_f, x_orV, vO_ok, vO_t, vO_f, x_notV, vN_ok, x_ifE, vI_t, vI_f, x_yes,
    x_add, x_sub, x_neg, x_lt, x_le, x_gt, x_ge, x_ne, eqW_int, x_max, x_min, x_intI, x_intB, x_lenT, x_lenF, x_tupT, gx_some, x_ixT, x_ixF, x_at0, x_at1, x_at2, x_at3, x_at4, x_slT, x_sl, l1_ok, l2_ok, l3_ok, x_part, gp_int, x_noPart, x_iter, x_itT, x_rng1, x_rng2,
    x_seq, sq_next, sq_ret, sq_cont, sq_brk, sn_some, x_asg, sA_ok, x_ret, sR_ok, x_retN, x_drop, sD_ok, x_ifS, sI_t, sI_f, x_skip, x_brk, x_cont, x_tgN, x_tgC, x_tgO, Option.bind_some, so_some, x_set, s1_ok, s2_ok, s3_ok,
    List.getElem?_cons_zero, List.getElem?_cons_succ, List.set_cons_zero, List.set_cons_succ, decide_true, decide_false, Bool.not_true, Bool.not_false, e1, e2, x_mkT _ d2, x_mkT _ (d3 _), x_mkT _ (d4 _ _ _), x_mulT _ d8 d9, x_mulT _ d6 d7, x_mulT _ f0 f1, x_addT _ d5]
  rfl
theorem nats_of (is : List Int) (h : ∀ x ∈ is, 0 ≤ x) : ∃ ks : List Nat, is = ks.map fun (k : Nat) => (k : Int) := by
  refine ⟨is.map Int.toNat, ?_⟩
  rw [List.map_map]
  conv => lhs; rw [← List.map_id is]
  exact List.map_congr_left fun x hx => by
    have := h x hx
    show x = ((x.toNat : Nat) : Int)
    omega
structure Good (c : Ch) : Prop where
  n0 : 0 ≤ c.n
  n1 : c.n ≤ 30
  a1 : c.at_ ≤ 30
  pl : c.puts.length ≤ 8
  pg : ∀ q ∈ c.puts, q.1 ≤ 8 ∧ 0 ≤ q.2 ∧ q.2 ≤ 400
  ll : c.leans.length ≤ 30
  lg : ∀ l ∈ c.leans, 0 ≤ l ∧ l < c.n
structure Goods (im : Im) (cs : List Ch) : Prop where
  len : cs.length ≤ 13
  good : ∀ c ∈ cs, Good c
  fit : ∀ c ∈ cs, Fit im c
structure ChI (p : Nat) (im : Im) (S : Store) (i : Nat) (f : Fr) (S' : Store) : Prop where
  st : ∃ (num : Int) (cs : List Ch) (x4 x5 x6 x7 x8 x9 : Option W), f = [some (.ref p), some (encI im), some (.ref S.length), some (.int num), x4, x5, x6, x7, x8, x9, none, none] ∧ S'[S.length]? = some (.lst (cs.map enc)) ∧ cs.length = i ∧ -1 ≤ num ∧ num ≤ 2 * (i : Int) - 1 ∧ (∀ c ∈ cs, Good c ∧ Fit im c)
  ok : PlOk S' p
  bu : But p S S'
theorem changes_run {S : Store} {p m k : Nat} (h : PlOk S p) (hm : 2 ≤ m) (hm4 : m ≤ 4) (hk1 : 1 ≤ k) (hk : k ≤ 7) : ∃ (cs : List Ch) (S' : Store), m_law_changes [.ref p, encI (im0 m k)] S = .ok (.ref S.length) S' ∧ S'[S.length]? = some (.lst (cs.map enc)) ∧ Goods (im0 m k) cs ∧ PlOk S' p ∧ But p S S' := by
  have hp := h.lt
  have oI := im0_ok hm hm4 hk1 hk
  have oM := im0_many (k := k) hm4
  have oM1 : 1 ≤ (im0 m k).many := by unfold Im.many; omega
  have ok0 : PlOk (S ++ [.lst []]) p := h.pre (List.prefix_append _ _)
  obtain ⟨v, S1, e1, v0, v1, ok1, b1, l1⟩ := draw_run 12 (by omega) (by omega) ok0
  have bu1 : But p S S1 := (But.pre (List.prefix_append _ _)).trans b1
  have hq1 : S1[S.length]? = some (.lst []) := b1.get (get_new _ _) (by omega)
  have g1 : (M.rng1 (M.cons (M.op2 M.addW (M.cst (.int 2)) (M.ops m_law_draw (M.cons (M.var 0) (M.cons (M.cst (.int 12)) (M.nil))))) (M.nil))) [some (.ref p), some (encI (im0 m k)), some (.ref S.length), some (.int (-1)), none, none, none, none, none, none, none, none] (S ++ [.lst []]) = .ok ((2 + v).toNat, M.getN 0 (2 + v).toNat) S1 := by
    simp only [x_var, gv_some, x_cst, x_op2, o2_ok, o2b_ok, x_op1, x_ops, x_nil, x_cons, c1_ok, c2_ok, x_bind, x_tst, x_tru, x_ofBl, x_truB, x_truI, x_truN, x_truT, x_andT, kA_t, kA_f, x_orT, kO_t, kO_f, x_notT, kN_ok, x_andV, vA_ok, vA_t, vA_f, x_orV, vO_ok, vO_t, vO_f, x_notV, vN_ok, x_ifE, vI_t, vI_f, x_yes,
    x_add, x_sub, x_neg, x_lt, x_le, x_gt, x_ge, x_ne, eqW_int, x_max, x_min, x_intI, x_intB, x_lenT, x_lenF, x_tupT, gx_some, x_ixT, x_ixF, x_at0, x_at1, x_at2, x_at3, x_at4, x_slT, x_sl, l1_ok, l2_ok, l3_ok, x_part, gp_int, x_noPart, x_iter, x_itT, x_rng1, x_rng2,
    x_seq, sq_next, sq_ret, sq_cont, sq_brk, sn_some, x_asg, sA_ok, x_ret, sR_ok, x_retN, x_drop, sD_ok, x_ifS, sI_t, sI_f, x_skip, x_brk, x_cont, x_tgN, x_tgC, x_tgO, Option.bind_some, so_some, x_set, s1_ok, s2_ok, s3_ok,
    List.getElem?_cons_zero, List.getElem?_cons_succ, List.set_cons_zero, List.set_cons_succ, decide_true, decide_false, Bool.not_true, Bool.not_false, e1, x_rng1W _ (show -1000000 ≤ 2 + v by omega) (show 2 + v < 1000000 by omega)]
  have hlim : M.lim = 100000 := rfl
  obtain ⟨f', S', h1, h2⟩ := forL_rule (get := M.getN 0 (2 + v).toNat) (t := M.tgN 4) (body := (M.seq (M.asg (M.op2 M.addW (M.op2 M.addW (M.var 3) (M.cst (.int 1))) (M.op2 M.fdivW (M.ops m_law_draw (M.cons (M.var 0) (M.cons (M.cst (.int 3)) (M.nil)))) (M.cst (.int 2)))) (M.tgN 3)) (M.seq (M.asg (M.ops m_law_draw (M.cons (M.var 0) (M.cons (M.ops m_law_many (M.cons (M.var 1) (M.nil))) (M.nil)))) (M.tgN 5)) (M.seq (M.asg (M.ops M.lenW (M.cons (M.ops m_law_slots (M.cons (M.var 1) (M.cons (M.var 5) (M.nil)))) (M.nil))) (M.tgN 6)) (M.seq (M.asg (M.orV (M.lc (M.rng1 (M.cons (M.var 6) (M.nil))) [10] (M.tgN 10) (M.tst (M.op2 M.eqW (M.ops m_law_draw (M.cons (M.var 0) (M.cons (M.cst (.int 3)) (M.nil)))) (M.cst (.int 0)))) (M.var 10)) (M.ops M.mkLst (M.cons (M.cst (.int 0)) (M.nil)))) (M.tgN 7)) (M.seq (M.asg (M.ops M.tupleW (M.cons (M.lc (M.iter (M.var 7)) [10] (M.tgN 10) (M.yes) (M.ops M.mkTup (M.cons (M.var 10) (M.cons (M.op2 M.addW (M.op2 M.mulW (M.var 3) (M.cst (.int 10))) (M.var 10)) (M.nil))))) (M.nil))) (M.tgN 8)) (M.seq (M.asg (M.ops M.tupleW (M.cons (M.lc (M.rng1 (M.cons (M.var 3) (M.nil))) [11] (M.tgN 11) (M.tst (M.op2 M.eqW (M.ops m_law_draw (M.cons (M.var 0) (M.cons (M.cst (.int 6)) (M.nil)))) (M.cst (.int 0)))) (M.var 11)) (M.nil))) (M.tgN 9)) (M.drop (M.mth M.appM (M.var 2) (M.cons (M.ops M.mkTup (M.cons (M.var 3) (M.cons (M.var 5) (M.cons (M.var 8) (M.cons (M.var 9) (M.nil)))))) (M.nil))))))))))) (2 + v).toNat (ChI p (im0 m k) S)
    (fun f S' _ => by unfold M.getN; rw [if_neg (Nat.lt_irrefl _)]) (fun i f S' hi hI => by
      obtain ⟨⟨num, cs, x4, x5, x6, x7, x8, x9, rfl, hq, hcl, hn0, hn1, hgo⟩, ok, bu⟩ := hI
      refine ⟨.int (0 + (i : Nat)), _, by unfold M.getN; rw [if_pos hi], rfl, ?_⟩
      show ∃ f3 S3, (M.seq _ _ [some (.ref p), some (encI (im0 m k)), some (.ref S.length), some (.int num), some (.int (0 + (i : Nat))), x5, x6, x7, x8, x9, none, none] S' = _ ∨ _) ∧ _
      obtain ⟨d, S2, e2, d0, d1, ok2, b2, l2⟩ := draw_run 3 (by omega) (by omega) ok
      have f0 : (0 : Int) < 2 := by omega
      have f1 : (2 : Int) < 1073741824 := by omega
      have s1 : (M.asg (M.op2 M.addW (M.op2 M.addW (M.var 3) (M.cst (.int 1))) (M.op2 M.fdivW (M.ops m_law_draw (M.cons (M.var 0) (M.cons (M.cst (.int 3)) (M.nil)))) (M.cst (.int 2)))) (M.tgN 3)) [some (.ref p), some (encI (im0 m k)), some (.ref S.length), some (.int num), some (.int (0 + (i : Nat))), x5, x6, x7, x8, x9, none, none] S' = .ok (.next [some (.ref p), some (encI (im0 m k)), some (.ref S.length), some (.int (num + 1 + d / 2)), some (.int (0 + (i : Nat))), x5, x6, x7, x8, x9, none, none]) S2 := by
        simp only [x_var, gv_some, x_cst, x_op2, o2_ok, o2b_ok, x_op1, x_ops, x_nil, x_cons, c1_ok, c2_ok, x_bind, x_tst, x_tru, x_ofBl, x_truB, x_truI, x_truN, x_truT, x_andT, kA_t, kA_f, x_orT, kO_t, kO_f, x_notT, kN_ok, x_andV, vA_ok, vA_t, vA_f, x_orV, vO_ok, vO_t, vO_f, x_notV, vN_ok, x_ifE, vI_t, vI_f, x_yes,
    x_add, x_sub, x_neg, x_lt, x_le, x_gt, x_ge, x_ne, eqW_int, x_max, x_min, x_intI, x_intB, x_lenT, x_lenF, x_tupT, gx_some, x_ixT, x_ixF, x_at0, x_at1, x_at2, x_at3, x_at4, x_slT, x_sl, l1_ok, l2_ok, l3_ok, x_part, gp_int, x_noPart, x_iter, x_itT, x_rng1, x_rng2,
    x_seq, sq_next, sq_ret, sq_cont, sq_brk, sn_some, x_asg, sA_ok, x_ret, sR_ok, x_retN, x_drop, sD_ok, x_ifS, sI_t, sI_f, x_skip, x_brk, x_cont, x_tgN, x_tgC, x_tgO, Option.bind_some, so_some, x_set, s1_ok, s2_ok, s3_ok,
    List.getElem?_cons_zero, List.getElem?_cons_succ, List.set_cons_zero, List.set_cons_succ, decide_true, decide_false, Bool.not_true, Bool.not_false, e2, x_fdiv _ f0 f1]
      rw [r_seq s1]
      have hn2 : num + 1 ≤ num + 1 + d / 2 := by omega
      have hn3 : num + 1 + d / 2 ≤ 2 * ((i + 1 : Nat) : Int) - 1 := by omega
      generalize num + 1 + d / 2 = nu at *
      obtain ⟨atI, S3, e3, a0, a1, ok3, b3, l3⟩ := draw_run ((im0 m k).many : Int) (by omega) (by omega) ok2
      obtain ⟨at_, hat⟩ := Int.eq_ofNat_of_zero_le a0
      subst hat
      have a1' : at_ < (im0 m k).many := by omega
      obtain ⟨len1, len8⟩ := im0_len hm hm4 hk1 hk at_ a1'
      have s2 : (M.asg (M.ops m_law_draw (M.cons (M.var 0) (M.cons (M.ops m_law_many (M.cons (M.var 1) (M.nil))) (M.nil)))) (M.tgN 5)) [some (.ref p), some (encI (im0 m k)), some (.ref S.length), some (.int nu), some (.int (0 + (i : Nat))), x5, x6, x7, x8, x9, none, none] S2 = .ok (.next [some (.ref p), some (encI (im0 m k)), some (.ref S.length), some (.int nu), some (.int (0 + (i : Nat))), some (.int at_), x6, x7, x8, x9, none, none]) S3 := by
        simp only [x_var, gv_some, x_cst, x_op2, o2_ok, o2b_ok, x_op1, x_ops, x_nil, x_cons, c1_ok, c2_ok, x_bind, x_tst, x_tru, x_ofBl, x_truB, x_truI, x_truN, x_truT, x_andT, kA_t, kA_f, x_orT, kO_t, kO_f, x_notT, kN_ok, x_andV, vA_ok, vA_t, vA_f, x_orV, vO_ok, vO_t, vO_f, x_notV, vN_ok, x_ifE, vI_t, vI_f, x_yes,
    x_add, x_sub, x_neg, x_lt, x_le, x_gt, x_ge, x_ne, eqW_int, x_max, x_min, x_intI, x_intB, x_lenT, x_lenF, x_tupT, gx_some, x_ixT, x_ixF, x_at0, x_at1, x_at2, x_at3, x_at4, x_slT, x_sl, l1_ok, l2_ok, l3_ok, x_part, gp_int, x_noPart, x_iter, x_itT, x_rng1, x_rng2,
    x_seq, sq_next, sq_ret, sq_cont, sq_brk, sn_some, x_asg, sA_ok, x_ret, sR_ok, x_retN, x_drop, sD_ok, x_ifS, sI_t, sI_f, x_skip, x_brk, x_cont, x_tgN, x_tgC, x_tgO, Option.bind_some, so_some, x_set, s1_ok, s2_ok, s3_ok,
    List.getElem?_cons_zero, List.getElem?_cons_succ, List.set_cons_zero, List.set_cons_succ, decide_true, decide_false, Bool.not_true, Bool.not_false, many_run oI, e3]
      rw [r_seq s2]
      obtain ⟨xs, e4, lx, lx1⟩ : ∃ xs : List W, m_law_slots [encI (im0 m k), .int at_] S3 = .ok (.tup xs) S3 ∧ xs.length = ((im0 m k).get at_).length ∧ 1 ≤ xs.length := ⟨_, slots_run oI S3 at_ a1', rfl, len1⟩
      have s3 : (M.asg (M.ops M.lenW (M.cons (M.ops m_law_slots (M.cons (M.var 1) (M.cons (M.var 5) (M.nil)))) (M.nil))) (M.tgN 6)) [some (.ref p), some (encI (im0 m k)), some (.ref S.length), some (.int nu), some (.int (0 + (i : Nat))), some (.int at_), x6, x7, x8, x9, none, none] S3 = .ok (.next [some (.ref p), some (encI (im0 m k)), some (.ref S.length), some (.int nu), some (.int (0 + (i : Nat))), some (.int at_), some (.int xs.length), x7, x8, x9, none, none]) S3 := by
        simp only [x_var, gv_some, x_cst, x_op2, o2_ok, o2b_ok, x_op1, x_ops, x_nil, x_cons, c1_ok, c2_ok, x_bind, x_tst, x_tru, x_ofBl, x_truB, x_truI, x_truN, x_truT, x_andT, kA_t, kA_f, x_orT, kO_t, kO_f, x_notT, kN_ok, x_andV, vA_ok, vA_t, vA_f, x_orV, vO_ok, vO_t, vO_f, x_notV, vN_ok, x_ifE, vI_t, vI_f, x_yes,
    x_add, x_sub, x_neg, x_lt, x_le, x_gt, x_ge, x_ne, eqW_int, x_max, x_min, x_intI, x_intB, x_lenT, x_lenF, x_tupT, gx_some, x_ixT, x_ixF, x_at0, x_at1, x_at2, x_at3, x_at4, x_slT, x_sl, l1_ok, l2_ok, l3_ok, x_part, gp_int, x_noPart, x_iter, x_itT, x_rng1, x_rng2,
    x_seq, sq_next, sq_ret, sq_cont, sq_brk, sn_some, x_asg, sA_ok, x_ret, sR_ok, x_retN, x_drop, sD_ok, x_ifS, sI_t, sI_f, x_skip, x_brk, x_cont, x_tgN, x_tgC, x_tgO, Option.bind_some, so_some, x_set, s1_ok, s2_ok, s3_ok,
    List.getElem?_cons_zero, List.getElem?_cons_succ, List.set_cons_zero, List.set_cons_succ, decide_true, decide_false, Bool.not_true, Bool.not_false, e4]
      rw [r_seq s3]
      obtain ⟨is, S4, e5, hr4, il, ig, ok4, b4⟩ := lc_draw (f := [some (.ref p), some (encI (im0 m k)), some (.ref S.length), some (.int nu), some (.int (0 + (i : Nat))), some (.int at_), some (.int xs.length), x7, x8, x9, none, none]) (j := 6) (v := 10) (n := (xs.length : Int)) (m := 3) ok3 rfl rfl (Nat.le_of_ble_eq_true rfl) (by decide) (by omega) (by omega) (by omega) (by omega)
      have s4 : ∃ (js : List Int) (r : Nat) (S5 : Store), (M.asg (M.orV (M.lc (M.rng1 (M.cons (M.var 6) (M.nil))) [10] (M.tgN 10) (M.tst (M.op2 M.eqW (M.ops m_law_draw (M.cons (M.var 0) (M.cons (M.cst (.int 3)) (M.nil)))) (M.cst (.int 0)))) (M.var 10)) (M.ops M.mkLst (M.cons (M.cst (.int 0)) (M.nil)))) (M.tgN 7)) [some (.ref p), some (encI (im0 m k)), some (.ref S.length), some (.int nu), some (.int (0 + (i : Nat))), some (.int at_), some (.int xs.length), x7, x8, x9, none, none] S3 = .ok (.next [some (.ref p), some (encI (im0 m k)), some (.ref S.length), some (.int nu), some (.int (0 + (i : Nat))), some (.int at_), some (.int xs.length), some (.ref r), x8, x9, none, none]) S5 ∧ S5[r]? = some (.lst (js.map W.int)) ∧ js.length ≤ 8 ∧ (∀ x ∈ js, 0 ≤ x ∧ x < xs.length) ∧ PlOk S5 p ∧ But p S3 S5 := by
        cases is with
        | nil =>
          refine ⟨[0], S4.length, S4 ++ [.lst [.int 0]], ?_, get_new _ _, by decide, fun x hx => by (have : x = 0 := by simpa using hx); omega, ok4.pre (List.prefix_append _ _), b4.push _⟩
          simp only [x_var, gv_some, x_cst, x_op2, o2_ok, o2b_ok, x_op1, x_ops, x_nil, x_cons, c1_ok, c2_ok, x_bind, x_tst, x_tru, x_ofBl, x_truB, x_truI, x_truN, x_truT, x_andT, kA_t, kA_f, x_orT, kO_t, kO_f, x_notT, kN_ok, x_andV, vA_ok, vA_t, vA_f, x_orV, vO_ok, vO_t, vO_f, x_notV, vN_ok, x_ifE, vI_t, vI_f, x_yes,
    x_add, x_sub, x_neg, x_lt, x_le, x_gt, x_ge, x_ne, eqW_int, x_max, x_min, x_intI, x_intB, x_lenT, x_lenF, x_tupT, gx_some, x_ixT, x_ixF, x_at0, x_at1, x_at2, x_at3, x_at4, x_slT, x_sl, l1_ok, l2_ok, l3_ok, x_part, gp_int, x_noPart, x_iter, x_itT, x_rng1, x_rng2,
    x_seq, sq_next, sq_ret, sq_cont, sq_brk, sn_some, x_asg, sA_ok, x_ret, sR_ok, x_retN, x_drop, sD_ok, x_ifS, sI_t, sI_f, x_skip, x_brk, x_cont, x_tgN, x_tgC, x_tgO, Option.bind_some, so_some, x_set, s1_ok, s2_ok, s3_ok,
    List.getElem?_cons_zero, List.getElem?_cons_succ, List.set_cons_zero, List.set_cons_succ, decide_true, decide_false, Bool.not_true, Bool.not_false, e5, x_truL hr4, List.map_nil, List.isEmpty_nil, x_mkL _ (show [W.int 0].length ≤ 1000 from Nat.le_of_ble_eq_true rfl)]
        | cons a as =>
          refine ⟨a :: as, S3.length, S4, ?_, hr4, by omega, fun x hx => ?_, ok4, b4⟩
          · simp only [x_var, gv_some, x_cst, x_op2, o2_ok, o2b_ok, x_op1, x_ops, x_nil, x_cons, c1_ok, c2_ok, x_bind, x_tst, x_tru, x_ofBl, x_truB, x_truI, x_truN, x_truT, x_andT, kA_t, kA_f, x_orT, kO_t, kO_f, x_notT, kN_ok, x_andV, vA_ok, vA_t, vA_f, x_orV, vO_ok, vO_t, vO_f, x_notV, vN_ok, x_ifE, vI_t, vI_f, x_yes,
    x_add, x_sub, x_neg, x_lt, x_le, x_gt, x_ge, x_ne, eqW_int, x_max, x_min, x_intI, x_intB, x_lenT, x_lenF, x_tupT, gx_some, x_ixT, x_ixF, x_at0, x_at1, x_at2, x_at3, x_at4, x_slT, x_sl, l1_ok, l2_ok, l3_ok, x_part, gp_int, x_noPart, x_iter, x_itT, x_rng1, x_rng2,
    x_seq, sq_next, sq_ret, sq_cont, sq_brk, sn_some, x_asg, sA_ok, x_ret, sR_ok, x_retN, x_drop, sD_ok, x_ifS, sI_t, sI_f, x_skip, x_brk, x_cont, x_tgN, x_tgC, x_tgO, Option.bind_some, so_some, x_set, s1_ok, s2_ok, s3_ok,
    List.getElem?_cons_zero, List.getElem?_cons_succ, List.set_cons_zero, List.set_cons_succ, decide_true, decide_false, Bool.not_true, Bool.not_false, e5, x_truL hr4, List.map_cons, List.isEmpty_cons]
          · have := ig x hx
            omega
      obtain ⟨jsI, r, S5, s4, hr5, jl, jg, ok5, b5⟩ := s4
      obtain ⟨js, hjs⟩ := nats_of jsI fun x hx => (jg x hx).1
      subst hjs
      rw [List.map_map] at hr5
      rw [List.length_map] at jl
      rw [r_seq s4]
      have hg : (M.iter (M.var 7)) [some (.ref p), some (encI (im0 m k)), some (.ref S.length), some (.int nu), some (.int (0 + (i : Nat))), some (.int at_), some (.int xs.length), some (.ref r), x8, x9, none, none] S5 = .ok (js.length, M.getR r) S5 := by
        simp only [x_var, gv_some, x_cst, x_op2, o2_ok, o2b_ok, x_op1, x_ops, x_nil, x_cons, c1_ok, c2_ok, x_bind, x_tst, x_tru, x_ofBl, x_truB, x_truI, x_truN, x_truT, x_andT, kA_t, kA_f, x_orT, kO_t, kO_f, x_notT, kN_ok, x_andV, vA_ok, vA_t, vA_f, x_orV, vO_ok, vO_t, vO_f, x_notV, vN_ok, x_ifE, vI_t, vI_f, x_yes,
    x_add, x_sub, x_neg, x_lt, x_le, x_gt, x_ge, x_ne, eqW_int, x_max, x_min, x_intI, x_intB, x_lenT, x_lenF, x_tupT, gx_some, x_ixT, x_ixF, x_at0, x_at1, x_at2, x_at3, x_at4, x_slT, x_sl, l1_ok, l2_ok, l3_ok, x_part, gp_int, x_noPart, x_iter, x_itT, x_rng1, x_rng2,
    x_seq, sq_next, sq_ret, sq_cont, sq_brk, sn_some, x_asg, sA_ok, x_ret, sR_ok, x_retN, x_drop, sD_ok, x_ifS, sI_t, sI_f, x_skip, x_brk, x_cont, x_tgN, x_tgC, x_tgO, Option.bind_some, so_some, x_set, s1_ok, s2_ok, s3_ok,
    List.getElem?_cons_zero, List.getElem?_cons_succ, List.set_cons_zero, List.set_cons_succ, decide_true, decide_false, Bool.not_true, Bool.not_false, x_itL hr5, List.length_map]
      have c1 : (-18446744073709551616 < (10 : Int) ∧ (10 : Int) < 18446744073709551616) := inR (by omega) (by omega)
      obtain ⟨S6, e6, p6, hr6⟩ := lc_ref (ds := js) (en := fun j => W.int (j : Nat)) (fun j => [pW (j, nu * 10 + (j : Nat))]) (c := M.yes) (e := (M.ops M.mkTup (M.cons (M.var 10) (M.cons (M.op2 M.addW (M.op2 M.mulW (M.var 3) (M.cst (.int 10))) (M.var 10)) (M.nil))))) (t := M.tgN 10) (vs := [10]) hg hr5 (fun j hj T pT => by
        refine ⟨[some (.ref p), some (encI (im0 m k)), some (.ref S.length), some (.int nu), some (.int (0 + (i : Nat))), some (.int at_), some (.int xs.length), some (.ref r), x8, x9, some (.int (j : Nat)), none], true, T, rfl, rfl, List.prefix_refl _, ?_⟩
        rw [if_pos rfl]
        refine ⟨pW (j, nu * 10 + (j : Nat)), T, ?_, List.prefix_refl _, rfl⟩
        simp only [x_var, gv_some, x_cst, x_op2, o2_ok, o2b_ok, x_op1, x_ops, x_nil, x_cons, c1_ok, c2_ok, x_bind, x_tst, x_tru, x_ofBl, x_truB, x_truI, x_truN, x_truT, x_andT, kA_t, kA_f, x_orT, kO_t, kO_f, x_notT, kN_ok, x_andV, vA_ok, vA_t, vA_f, x_orV, vO_ok, vO_t, vO_f, x_notV, vN_ok, x_ifE, vI_t, vI_f, x_yes,
    x_add, x_sub, x_neg, x_lt, x_le, x_gt, x_ge, x_ne, eqW_int, x_max, x_min, x_intI, x_intB, x_lenT, x_lenF, x_tupT, gx_some, x_ixT, x_ixF, x_at0, x_at1, x_at2, x_at3, x_at4, x_slT, x_sl, l1_ok, l2_ok, l3_ok, x_part, gp_int, x_noPart, x_iter, x_itT, x_rng1, x_rng2,
    x_seq, sq_next, sq_ret, sq_cont, sq_brk, sn_some, x_asg, sA_ok, x_ret, sR_ok, x_retN, x_drop, sD_ok, x_ifS, sI_t, sI_f, x_skip, x_brk, x_cont, x_tgN, x_tgC, x_tgO, Option.bind_some, so_some, x_set, s1_ok, s2_ok, s3_ok,
    List.getElem?_cons_zero, List.getElem?_cons_succ, List.set_cons_zero, List.set_cons_succ, decide_true, decide_false, Bool.not_true, Bool.not_false, x_mul _ (Or.inr c1), x_mkT _ (show [W.int (j : Nat), W.int (nu * 10 + (j : Nat))].length ≤ 1000 from Nat.le_of_ble_eq_true rfl)]
        rfl) (by omega)
      have s5 : (M.asg (M.ops M.tupleW (M.cons (M.lc (M.iter (M.var 7)) [10] (M.tgN 10) (M.yes) (M.ops M.mkTup (M.cons (M.var 10) (M.cons (M.op2 M.addW (M.op2 M.mulW (M.var 3) (M.cst (.int 10))) (M.var 10)) (M.nil))))) (M.nil))) (M.tgN 8)) [some (.ref p), some (encI (im0 m k)), some (.ref S.length), some (.int nu), some (.int (0 + (i : Nat))), some (.int at_), some (.int xs.length), some (.ref r), x8, x9, none, none] S5 = .ok (.next [some (.ref p), some (encI (im0 m k)), some (.ref S.length), some (.int nu), some (.int (0 + (i : Nat))), some (.int at_), some (.int xs.length), some (.ref r), some (.tup ((js.map fun (j : Nat) => (j, nu * 10 + (j : Int))).map pW)), x9, none, none]) S6 := by
        rw [flatMap_one] at hr6
        simp only [x_var, gv_some, x_cst, x_op2, o2_ok, o2b_ok, x_op1, x_ops, x_nil, x_cons, c1_ok, c2_ok, x_bind, x_tst, x_tru, x_ofBl, x_truB, x_truI, x_truN, x_truT, x_andT, kA_t, kA_f, x_orT, kO_t, kO_f, x_notT, kN_ok, x_andV, vA_ok, vA_t, vA_f, x_orV, vO_ok, vO_t, vO_f, x_notV, vN_ok, x_ifE, vI_t, vI_f, x_yes,
    x_add, x_sub, x_neg, x_lt, x_le, x_gt, x_ge, x_ne, eqW_int, x_max, x_min, x_intI, x_intB, x_lenT, x_lenF, x_tupT, gx_some, x_ixT, x_ixF, x_at0, x_at1, x_at2, x_at3, x_at4, x_slT, x_sl, l1_ok, l2_ok, l3_ok, x_part, gp_int, x_noPart, x_iter, x_itT, x_rng1, x_rng2,
    x_seq, sq_next, sq_ret, sq_cont, sq_brk, sn_some, x_asg, sA_ok, x_ret, sR_ok, x_retN, x_drop, sD_ok, x_ifS, sI_t, sI_f, x_skip, x_brk, x_cont, x_tgN, x_tgC, x_tgO, Option.bind_some, so_some, x_set, s1_ok, s2_ok, s3_ok,
    List.getElem?_cons_zero, List.getElem?_cons_succ, List.set_cons_zero, List.set_cons_succ, decide_true, decide_false, Bool.not_true, Bool.not_false, e6, x_tupL hr6, List.map_map]
        rfl
      rw [r_seq s5]
      have ok6 := ok5.pre p6
      obtain ⟨ls, S7, e7, hr7, ll, lg, ok7, b7⟩ := lc_draw (f := [some (.ref p), some (encI (im0 m k)), some (.ref S.length), some (.int nu), some (.int (0 + (i : Nat))), some (.int at_), some (.int xs.length), some (.ref r), some (.tup ((js.map fun (j : Nat) => (j, nu * 10 + (j : Int))).map pW)), x9, none, none]) (j := 3) (v := 11) (n := nu) (m := 6) ok6 rfl rfl (Nat.le_of_ble_eq_true rfl) (by decide) (by omega) (by omega) (by omega) (by omega)
      have s6 : (M.asg (M.ops M.tupleW (M.cons (M.lc (M.rng1 (M.cons (M.var 3) (M.nil))) [11] (M.tgN 11) (M.tst (M.op2 M.eqW (M.ops m_law_draw (M.cons (M.var 0) (M.cons (M.cst (.int 6)) (M.nil)))) (M.cst (.int 0)))) (M.var 11)) (M.nil))) (M.tgN 9)) [some (.ref p), some (encI (im0 m k)), some (.ref S.length), some (.int nu), some (.int (0 + (i : Nat))), some (.int at_), some (.int xs.length), some (.ref r), some (.tup ((js.map fun (j : Nat) => (j, nu * 10 + (j : Int))).map pW)), x9, none, none] S6 = .ok (.next [some (.ref p), some (encI (im0 m k)), some (.ref S.length), some (.int nu), some (.int (0 + (i : Nat))), some (.int at_), some (.int xs.length), some (.ref r), some (.tup ((js.map fun (j : Nat) => (j, nu * 10 + (j : Int))).map pW)), some (.tup (ls.map W.int)), none, none]) S7 := by
        simp only [x_var, gv_some, x_cst, x_op2, o2_ok, o2b_ok, x_op1, x_ops, x_nil, x_cons, c1_ok, c2_ok, x_bind, x_tst, x_tru, x_ofBl, x_truB, x_truI, x_truN, x_truT, x_andT, kA_t, kA_f, x_orT, kO_t, kO_f, x_notT, kN_ok, x_andV, vA_ok, vA_t, vA_f, x_orV, vO_ok, vO_t, vO_f, x_notV, vN_ok, x_ifE, vI_t, vI_f, x_yes,
    x_add, x_sub, x_neg, x_lt, x_le, x_gt, x_ge, x_ne, eqW_int, x_max, x_min, x_intI, x_intB, x_lenT, x_lenF, x_tupT, gx_some, x_ixT, x_ixF, x_at0, x_at1, x_at2, x_at3, x_at4, x_slT, x_sl, l1_ok, l2_ok, l3_ok, x_part, gp_int, x_noPart, x_iter, x_itT, x_rng1, x_rng2,
    x_seq, sq_next, sq_ret, sq_cont, sq_brk, sn_some, x_asg, sA_ok, x_ret, sR_ok, x_retN, x_drop, sD_ok, x_ifS, sI_t, sI_f, x_skip, x_brk, x_cont, x_tgN, x_tgC, x_tgO, Option.bind_some, so_some, x_set, s1_ok, s2_ok, s3_ok,
    List.getElem?_cons_zero, List.getElem?_cons_succ, List.set_cons_zero, List.set_cons_succ, decide_true, decide_false, Bool.not_true, Bool.not_false, e7, x_tupL hr7]
      rw [r_seq s6]
      have bb : But p S' S7 := (((b2.trans b3).trans b5).trans (But.pre p6)).trans b7
      have hq7 : S7[S.length]? = some (.lst (cs.map enc)) := bb.get hq (by omega)
      refine ⟨_, _, Or.inl (r_drop (x_app (y := enc ⟨nu, at_, js.map fun (j : Nat) => (j, nu * 10 + (j : Int)), ls⟩) _ _ _ rfl ?_ (isLst_of hq7) hq7 (by rw [List.length_map]; omega))), ?_⟩
      · simp only [x_var, gv_some, x_cst, x_op2, o2_ok, o2b_ok, x_op1, x_ops, x_nil, x_cons, c1_ok, c2_ok, x_bind, x_tst, x_tru, x_ofBl, x_truB, x_truI, x_truN, x_truT, x_andT, kA_t, kA_f, x_orT, kO_t, kO_f, x_notT, kN_ok, x_andV, vA_ok, vA_t, vA_f, x_orV, vO_ok, vO_t, vO_f, x_notV, vN_ok, x_ifE, vI_t, vI_f, x_yes,
    x_add, x_sub, x_neg, x_lt, x_le, x_gt, x_ge, x_ne, eqW_int, x_max, x_min, x_intI, x_intB, x_lenT, x_lenF, x_tupT, gx_some, x_ixT, x_ixF, x_at0, x_at1, x_at2, x_at3, x_at4, x_slT, x_sl, l1_ok, l2_ok, l3_ok, x_part, gp_int, x_noPart, x_iter, x_itT, x_rng1, x_rng2,
    x_seq, sq_next, sq_ret, sq_cont, sq_brk, sn_some, x_asg, sA_ok, x_ret, sR_ok, x_retN, x_drop, sD_ok, x_ifS, sI_t, sI_f, x_skip, x_brk, x_cont, x_tgN, x_tgC, x_tgO, Option.bind_some, so_some, x_set, s1_ok, s2_ok, s3_ok,
    List.getElem?_cons_zero, List.getElem?_cons_succ, List.set_cons_zero, List.set_cons_succ, decide_true, decide_false, Bool.not_true, Bool.not_false, x_mkT _ (show [W.int nu, W.int at_, W.tup ((js.map fun (j : Nat) => (j, nu * 10 + (j : Int))).map pW), W.tup (ls.map W.int)].length ≤ 1000 from Nat.le_of_ble_eq_true rfl)]
        rfl
      · refine ⟨⟨nu, cs ++ [⟨nu, at_, js.map fun (j : Nat) => (j, nu * 10 + (j : Int)), ls⟩], _, _, _, _, _, _, rfl, ?_, ?_, by omega, by omega, ?_⟩, ok7.set (by omega) _, (bu.trans bb).set2 (Nat.le_refl _) _⟩
        · rw [List.getElem?_set_self (List.getElem?_eq_some_iff.mp hq7).1, List.map_append]
          rfl
        · rw [List.length_append, hcl]
          rfl
        · intro c hc
          rcases List.mem_append.mp hc with hc | hc
          · exact hgo c hc
          · have e : c = ⟨nu, at_, js.map fun (j : Nat) => (j, nu * 10 + (j : Int)), ls⟩ := by simpa using hc
            subst e
            have jn : ∀ j ∈ js, j < xs.length := fun j hj => by
              have := (jg (j : Int) (List.mem_map.mpr ⟨j, hj, rfl⟩)).2
              omega
            refine ⟨⟨by show 0 ≤ nu; omega, by show nu ≤ 30; omega, by show at_ ≤ 30; omega, by show (js.map _).length ≤ 8; rw [List.length_map]; exact jl, ?_, by show ls.length ≤ 30; omega, lg⟩, ⟨a1', ?_⟩⟩
            · intro q hq
              obtain ⟨j, hj, rfl⟩ := List.mem_map.mp hq
              have := jn j hj
              refine ⟨?_, ?_, ?_⟩
              · show j ≤ 8
                omega
              · show 0 ≤ nu * 10 + (j : Int)
                omega
              · show nu * 10 + (j : Int) ≤ 400
                omega
            · intro q hq
              obtain ⟨j, hj, rfl⟩ := List.mem_map.mp hq
              have := jn j hj
              show j < ((im0 m k).get at_).length
              omega)
    (2 + v).toNat 0 [some (.ref p), some (encI (im0 m k)), some (.ref S.length), some (.int (-1)), none, none, none, none, none, none, none, none] S1 (Nat.zero_add _) ⟨⟨-1, [], none, none, none, none, none, none, rfl, hq1, rfl, by omega, by omega, fun c hc => absurd hc List.not_mem_nil⟩, ok1, bu1⟩
  obtain ⟨⟨num, cs, x4, x5, x6, x7, x8, x9, rfl, hq, hcl, hn0, hn1, hgo⟩, ok, bu⟩ := h2
  refine ⟨cs, S', r_fn rfl ?_, hq, ⟨by omega, fun c hc => (hgo c hc).1, fun c hc => (hgo c hc).2⟩, ok, bu⟩
  show b_law_changes [some (.ref p), some (encI (im0 m k)), none, none, none, none, none, none, none, none, none, none] S = _
  unfold b_law_changes
  have t1 : (M.asg (M.ops M.mkLst (M.nil)) (M.tgN 2)) [some (.ref p), some (encI (im0 m k)), none, none, none, none, none, none, none, none, none, none] S = .ok (.next [some (.ref p), some (encI (im0 m k)), some (.ref S.length), none, none, none, none, none, none, none, none, none]) (S ++ [.lst []]) := by
    simp only [x_var, gv_some, x_cst, x_op2, o2_ok, o2b_ok, x_op1, x_ops, x_nil, x_cons, c1_ok, c2_ok, x_bind, x_tst, x_tru, x_ofBl, x_truB, x_truI, x_truN, x_truT, x_andT, kA_t, kA_f, x_orT, kO_t, kO_f, x_notT, kN_ok, x_andV, vA_ok, vA_t, vA_f, x_orV, vO_ok, vO_t, vO_f, x_notV, vN_ok, x_ifE, vI_t, vI_f, x_yes,
    x_add, x_sub, x_neg, x_lt, x_le, x_gt, x_ge, x_ne, eqW_int, x_max, x_min, x_intI, x_intB, x_lenT, x_lenF, x_tupT, gx_some, x_ixT, x_ixF, x_at0, x_at1, x_at2, x_at3, x_at4, x_slT, x_sl, l1_ok, l2_ok, l3_ok, x_part, gp_int, x_noPart, x_iter, x_itT, x_rng1, x_rng2,
    x_seq, sq_next, sq_ret, sq_cont, sq_brk, sn_some, x_asg, sA_ok, x_ret, sR_ok, x_retN, x_drop, sD_ok, x_ifS, sI_t, sI_f, x_skip, x_brk, x_cont, x_tgN, x_tgC, x_tgO, Option.bind_some, so_some, x_set, s1_ok, s2_ok, s3_ok,
    List.getElem?_cons_zero, List.getElem?_cons_succ, List.set_cons_zero, List.set_cons_succ, decide_true, decide_false, Bool.not_true, Bool.not_false, x_mkL _ (show ([] : List W).length ≤ 1000 from Nat.le_of_ble_eq_true rfl)]
  have t2 : (M.asg (M.op1 M.negW (M.cst (.int 1))) (M.tgN 3)) [some (.ref p), some (encI (im0 m k)), some (.ref S.length), none, none, none, none, none, none, none, none, none] (S ++ [.lst []]) = .ok (.next [some (.ref p), some (encI (im0 m k)), some (.ref S.length), some (.int (-1)), none, none, none, none, none, none, none, none]) (S ++ [.lst []]) := by
    simp only [x_var, gv_some, x_cst, x_op2, o2_ok, o2b_ok, x_op1, x_ops, x_nil, x_cons, c1_ok, c2_ok, x_bind, x_tst, x_tru, x_ofBl, x_truB, x_truI, x_truN, x_truT, x_andT, kA_t, kA_f, x_orT, kO_t, kO_f, x_notT, kN_ok, x_andV, vA_ok, vA_t, vA_f, x_orV, vO_ok, vO_t, vO_f, x_notV, vN_ok, x_ifE, vI_t, vI_f, x_yes,
    x_add, x_sub, x_neg, x_lt, x_le, x_gt, x_ge, x_ne, eqW_int, x_max, x_min, x_intI, x_intB, x_lenT, x_lenF, x_tupT, gx_some, x_ixT, x_ixF, x_at0, x_at1, x_at2, x_at3, x_at4, x_slT, x_sl, l1_ok, l2_ok, l3_ok, x_part, gp_int, x_noPart, x_iter, x_itT, x_rng1, x_rng2,
    x_seq, sq_next, sq_ret, sq_cont, sq_brk, sn_some, x_asg, sA_ok, x_ret, sR_ok, x_retN, x_drop, sD_ok, x_ifS, sI_t, sI_f, x_skip, x_brk, x_cont, x_tgN, x_tgC, x_tgO, Option.bind_some, so_some, x_set, s1_ok, s2_ok, s3_ok,
    List.getElem?_cons_zero, List.getElem?_cons_succ, List.set_cons_zero, List.set_cons_succ, decide_true, decide_false, Bool.not_true, Bool.not_false]
  rw [r_seq t1, r_seq t2, r_seq ((r_for g1).trans h1)]
  rfl
end K07
set_option maxRecDepth 100000
set_option maxHeartbeats 4000000
namespace K07
open PySem L2 Wo
/-! data -/
def It (w : W) : Prop := ∃ d, ∀ (S : Store) (n : Nat), toD S (n + 3) w = some d
theorem It.int (i : Int) : It (.int i) := ⟨.int i, fun _ _ => rfl⟩
theorem It.non : It .non := ⟨.none, fun _ _ => rfl⟩
theorem It.bl (b : Bool) : It (.bl b) := ⟨.bool b, fun _ _ => rfl⟩
def nodeD : PyData := .tuple [.str "folder", .int 1, .tuple []]
theorem toD_node (S : Store) (n : Nat) : toD S (n + 3) nodeW = some nodeD := by
  unfold nodeW nodeD
  refine toD_tup ?_
  have e1 : toD S (n + 2) (.str "folder") = some (.str "folder") := by
    unfold toD
    dsimp only
    rw [if_pos (by decide +kernel)]
  have e2 : toD S (n + 2) (.tup []) = some (.tuple []) := toD_tup (by rfl)
  rw [List.mapM_cons, List.mapM_cons, List.mapM_cons, List.mapM_nil, toD_i, e1, e2]
  rfl
theorem It.node : It nodeW := ⟨nodeD, toD_node⟩
theorem its : ∀ xs : List W, (∀ w ∈ xs, It w) → ∃ ds, ∀ (S : Store) (n : Nat), xs.mapM (toD S (n + 3)) = some ds
  | [], _ => ⟨[], fun _ _ => rfl⟩
  | x :: xs, h => by
    obtain ⟨d, hd⟩ := h x (List.mem_cons_self ..)
    obtain ⟨ds, hds⟩ := its xs fun w hw => h w (List.mem_cons_of_mem _ hw)
    refine ⟨d :: ds, fun S n => ?_⟩
    rw [List.mapM_cons, hd, hds]
    rfl
theorem itss : ∀ xs : List (List W), (∀ x ∈ xs, ∀ w ∈ x, It w) → ∃ ds, ∀ (S : Store) (n : Nat), (xs.map W.tup).mapM (toD S (n + 4)) = some ds
  | [], _ => ⟨[], fun _ _ => rfl⟩
  | x :: xs, h => by
    obtain ⟨d, hd⟩ := its x (h x (List.mem_cons_self ..))
    obtain ⟨ds, hds⟩ := itss xs fun y hy => h y (List.mem_cons_of_mem _ hy)
    refine ⟨.tuple d :: ds, fun S n => ?_⟩
    rw [List.map_cons, List.mapM_cons, toD_tup (hd S n), hds]
    rfl
structure ImIt (im : Im) : Prop where
  t : ∀ w ∈ im.t, It w
  L : ∀ x ∈ im.L, ∀ w ∈ x, It w
  d : ∀ x ∈ im.d, ∀ w ∈ x, It w
theorem toD_encI {im : Im} (h : ImIt im) (S : Store) : ∃ d, toD S dd (encI im) = some d := by
  obtain ⟨d1, h1⟩ := its im.t h.t
  obtain ⟨d2, h2⟩ := its im.L.flatten fun w hw => by
    obtain ⟨x, hx, hw⟩ := List.mem_flatten.mp hw
    exact h.L x hx w hw
  obtain ⟨d3, h3⟩ := itss im.d h.d
  refine ⟨.tuple [.tuple d1, .tuple d2, .tuple d3], ?_⟩
  show toD S (19 + 1) (encI im) = _
  unfold encI
  refine toD_tup ?_
  have e1 : toD S (18 + 1) (.tup im.t) = some (.tuple d1) := toD_tup (h1 S 15)
  have e2 : toD S (18 + 1) (.tup im.L.flatten) = some (.tuple d2) := toD_tup (h2 S 15)
  have e3 : toD S (18 + 1) (.tup (im.d.map .tup)) = some (.tuple d3) := toD_tup (h3 S 14)
  rw [List.mapM_cons, List.mapM_cons, List.mapM_cons, List.mapM_nil, e1, e2, e3]
  rfl
theorem getD_mem {l : List (List W)} {i : Nat} (h : ∀ x ∈ l, ∀ w ∈ x, It w) : ∀ w ∈ l.getD i [], It w := by
  intro w hw
  rw [List.getD_eq_getElem?_getD] at hw
  cases e : l[i]? with
  | none => rw [e] at hw; exact absurd hw List.not_mem_nil
  | some x =>
    rw [e] at hw
    exact h x (List.mem_of_getElem? e) w hw
theorem ImIt.get {im : Im} (h : ImIt im) (i : Nat) : ∀ w ∈ im.get i, It w := by
  unfold Im.get
  split
  · exact h.t
  · split
    · exact getD_mem h.L
    · exact getD_mem h.d
theorem set_mem {l : List (List W)} {i : Nat} {s : List W} (h : ∀ x ∈ l, ∀ w ∈ x, It w) (hs : ∀ w ∈ s, It w) : ∀ x ∈ l.set i s, ∀ w ∈ x, It w := by
  intro x hx
  rcases List.mem_or_eq_of_mem_set hx with hx | hx
  · exact h x hx
  · subst hx
    exact hs
theorem ImIt.put {im : Im} (h : ImIt im) (i : Nat) {s : List W} (hs : ∀ w ∈ s, It w) : ImIt (im.put i s) := by
  unfold Im.put
  split
  · exact ⟨hs, h.L, h.d⟩
  · split
    · exact ⟨h.t, set_mem h.L hs, h.d⟩
    · exact ⟨h.t, h.L, set_mem h.d hs⟩
theorem putsB_it : ∀ (puts : List (Nat × Int)) (s : List W), (∀ w ∈ s, It w) → ∀ w ∈ putsB s puts, It w
  | [], _, h => h
  | q :: r, s, h => by
    show ∀ w ∈ putsB (s.set q.1 (.int q.2)) r, It w
    refine putsB_it r _ fun w hw => ?_
    rcases List.mem_or_eq_of_mem_set hw with hw | hw
    · exact h w hw
    · subst hw
      exact It.int _
theorem all_it : ∀ (cs : List Ch) (im : Im), ImIt im → ImIt (allI im cs)
  | [], _, h => h
  | c :: cs, im, h => all_it cs (stepI im c) (h.put c.at_ (putsB_it c.puts _ (h.get c.at_)))
theorem im0_it (m k : Nat) : ImIt (im0 m k) := by
  refine ⟨fun w hw => ?_, fun x hx w hw => ?_, fun x hx w hw => ?_⟩
  · rw [List.eq_of_mem_replicate hw]
    exact It.bl _
  · have hx' : x ∈ chunk k := hx
    unfold chunk at hx'
    have : w = nodeW ∨ w = .non := by
      split at hx'
      · have e : x = nodeW :: List.replicate k .non := by simpa using hx'
        subst e
        rcases List.mem_cons.mp hw with hw | hw
        · exact Or.inl hw
        · exact Or.inr (List.eq_of_mem_replicate hw)
      · rcases List.mem_cons.mp hx' with e | e
        · subst e
          rcases List.mem_cons.mp hw with hw | hw
          · exact Or.inl hw
          · exact Or.inr (List.eq_of_mem_replicate hw)
        · have e : x = List.replicate (k - 3) .non := by simpa using e
          subst e
          exact Or.inr (List.eq_of_mem_replicate hw)
    rcases this with rfl | rfl
    · exact It.node
    · exact It.non
  · have e := List.eq_of_mem_replicate hx
    subst e
    rw [List.eq_of_mem_replicate hw]
    exact It.non
/-! what repr shows -/
def pD (p : Nat × Int) : PyData := .tuple [.int p.1, .int p.2]
def dC (c : Ch) : PyData := .tuple [.int c.n, .int c.at_, .tuple (c.puts.map pD), .tuple (c.leans.map .int)]
theorem toD_pW (S : Store) (n : Nat) (p : Nat × Int) : toD S (n + 2) (pW p) = some (pD p) := by
  unfold pW pD
  exact toD_tup (toD_ints S n [(p.1 : Int), p.2])
theorem toD_enc (S : Store) (n : Nat) (c : Ch) : toD S (n + 4) (enc c) = some (dC c) := by
  unfold enc dC
  refine toD_tup ?_
  have e1 : toD S (n + 3) (.tup (c.puts.map pW)) = some (.tuple (c.puts.map pD)) := toD_tup (mapM_some (fun p => toD_pW S n p) c.puts)
  have e2 : toD S (n + 3) (.tup (c.leans.map .int)) = some (.tuple (c.leans.map .int)) := toD_tup (toD_ints S (n + 1) c.leans)
  rw [List.mapM_cons, List.mapM_cons, List.mapM_cons, List.mapM_cons, List.mapM_nil, toD_i, toD_i, e1, e2]
  rfl
theorem okT1 {ds : List PyData} {B : Nat} (h : ∀ d ∈ ds, OkD (cost d) d) (hB : cost (.tuple ds) ≤ B) : OkD B (.tuple ds) := by
  refine ⟨?_, tuple_cost fun d hd => (h d hd).le, hB⟩
  rw [PyData.showable]
  exact showAll ds fun d hd => (h d hd).sh
theorem _root_.Wo.OkD.self {B : Nat} {d : PyData} (h : OkD B d) : OkD (cost d) d := ⟨h.sh, h.le, Nat.le_refl _⟩
theorem ok_pD {p : Nat × Int} (h : p.1 ≤ 8 ∧ 0 ≤ p.2 ∧ p.2 ≤ 400) : OkD 420 (pD p) := by
  have i1 : OkD 10 (.int p.1) := okInt (N := 8) (by omega) (by omega)
  have i2 : OkD 402 (.int p.2) := okInt (N := 400) (by omega) (by omega)
  unfold pD
  refine okT1 ?_ ?_
  · intro d hd
    simp only [List.mem_cons, List.not_mem_nil, or_false] at hd
    rcases hd with rfl | rfl
    · exact i1.self
    · exact i2.self
  · rw [cost, costs, costs, costs]
    have := i1.co
    have := i2.co
    omega
theorem ok_dC {c : Ch} (g : Good c) : OkD 4600 (dC c) := by
  have i1 : OkD 32 (.int c.n) := okInt (N := 30) (by have := g.n0; have := g.n1; omega) (by omega)
  have i2 : OkD 32 (.int c.at_) := okInt (N := 30) (by have := g.a1; omega) (by omega)
  have i3 : OkD (8 * (420 + 2) + 3) (.tuple (c.puts.map pD)) := okTup (fun d hd => by
    obtain ⟨q, hq, rfl⟩ := List.mem_map.mp hd
    exact ok_pD (g.pg q hq)) (by rw [List.length_map]; exact g.pl)
  have i4 : OkD (30 * (32 + 2) + 3) (.tuple (c.leans.map .int)) := okTup (fun d hd => by
    obtain ⟨l, hl, rfl⟩ := List.mem_map.mp hd
    exact okInt (N := 30) (by have := g.lg l hl; have := g.n1; omega) (by omega)) (by rw [List.length_map]; exact g.ll)
  unfold dC
  refine okT1 ?_ ?_
  · intro d hd
    simp only [List.mem_cons, List.not_mem_nil, or_false] at hd
    rcases hd with rfl | rfl | rfl | rfl
    · exact i1.self
    · exact i2.self
    · exact i3.self
    · exact i4.self
  · rw [cost, costs, costs, costs, costs, costs]
    have := i1.co
    have := i2.co
    have := i3.co
    have := i4.co
    omega
def imgD (m k : Nat) : PyData := .tuple [.tuple (List.replicate m (.bool false)), .tuple (nodeD :: List.replicate k .none), .tuple (List.replicate m (.tuple (List.replicate 5 .none)))]
def keptD (m k : Nat) (cs : List Ch) : PyData := .list [imgD m k, .list (cs.map dC)]
theorem rep_mapM {f : W → Option PyData} {w : W} {d : PyData} (h : f w = some d) : ∀ n : Nat, (List.replicate n w).mapM f = some (List.replicate n d)
  | 0 => rfl
  | n + 1 => by
    rw [List.replicate_succ, List.mapM_cons, h, rep_mapM h n]
    rfl
theorem toD_img {m k : Nat} (hk : k ≤ 7) (S : Store) (n : Nat) : toD S (n + 6) (encI (im0 m k)) = some (imgD m k) := by
  have hE : encI (im0 m k) = .tup [.tup (List.replicate m (.bl false)), .tup (nodeW :: List.replicate k .non), .tup (List.replicate m (.tup (List.replicate 5 .non)))] := by
    unfold encI im0
    dsimp only
    rw [chunk_flat hk, List.map_replicate]
  rw [hE]
  unfold imgD
  refine toD_tup ?_
  have e1 : toD S (n + 5) (.tup (List.replicate m (.bl false))) = some (.tuple (List.replicate m (.bool false))) := toD_tup (rep_mapM rfl m)
  have e2 : toD S (n + 5) (.tup (nodeW :: List.replicate k .non)) = some (.tuple (nodeD :: List.replicate k .none)) := toD_tup (by
    rw [List.mapM_cons, toD_node S (n + 1), rep_mapM (f := toD S (n + 4)) (d := .none) rfl k]
    rfl)
  have e3 : toD S (n + 5) (.tup (List.replicate m (.tup (List.replicate 5 .non)))) = some (.tuple (List.replicate m (.tuple (List.replicate 5 .none)))) := toD_tup (rep_mapM (toD_tup (rep_mapM rfl 5)) m)
  rw [List.mapM_cons, List.mapM_cons, List.mapM_cons, List.mapM_nil, e1, e2, e3]
  rfl
theorem ok_none : OkD 4 .none := ⟨by rw [PyData.showable], none_cost, by rw [cost]; omega⟩
theorem ok_bool (b : Bool) : OkD 5 (.bool b) := ⟨by rw [PyData.showable], bool_cost b, by rw [cost]; omega⟩
theorem ok_node : OkD 100 nodeD := by
  refine ⟨?_, ?_, ?_⟩
  · decide +kernel
  · decide +kernel
  · decide +kernel
theorem ok_img {m k : Nat} (hm : m ≤ 4) (hk : k ≤ 7) : OkD 2000 (imgD m k) := by
  have i1 : OkD (4 * (5 + 2) + 3) (.tuple (List.replicate m (.bool false))) := okTup (fun d hd => by rw [List.eq_of_mem_replicate hd]; exact ok_bool _) (by rw [List.length_replicate]; exact hm)
  have i2 : OkD (8 * (100 + 2) + 3) (.tuple (nodeD :: List.replicate k .none)) := okTup (fun d hd => by
    rcases List.mem_cons.mp hd with rfl | hd
    · exact ok_node
    · rw [List.eq_of_mem_replicate hd]
      exact ok_none.mono (by omega)) (by rw [List.length_cons, List.length_replicate]; omega)
  have i5 : OkD (5 * (4 + 2) + 3) (.tuple (List.replicate 5 .none)) := okTup (fun d hd => by rw [List.eq_of_mem_replicate hd]; exact ok_none) (by rw [List.length_replicate]; omega)
  have i3 : OkD (4 * ((5 * (4 + 2) + 3) + 2) + 3) (.tuple (List.replicate m (.tuple (List.replicate 5 .none)))) := okTup (fun d hd => by rw [List.eq_of_mem_replicate hd]; exact i5) (by rw [List.length_replicate]; exact hm)
  unfold imgD
  refine okT1 ?_ ?_
  · intro d hd
    simp only [List.mem_cons, List.not_mem_nil, or_false] at hd
    rcases hd with rfl | rfl | rfl
    · exact i1.self
    · exact i2.self
    · exact i3.self
  · rw [cost, costs, costs, costs, costs]
    have := i1.co
    have := i2.co
    have := i3.co
    omega
theorem kept_run {T : Store} {r q m k : Nat} {cs : List Ch} (hm : m ≤ 4) (hk : k ≤ 7) (g : Goods (im0 m k) cs) (hr : T[r]? = some (.lst (cs.map enc))) (hq : T[q]? = some (.lst [encI (im0 m k), .ref r])) : M.reprW [.ref q] T = .ok (.str (PyData.shown (keptD m k cs))) T := by
  have i2 : OkD (13 * (4600 + 2) + 2) (.list (cs.map dC)) := okList (fun d hd => by
    obtain ⟨c, hc, rfl⟩ := List.mem_map.mp hd
    exact ok_dC (g.good c hc)) (by rw [List.length_map]; exact g.len)
  have i1 := ok_img hm hk
  have e2 : toD T (18 + 1) (.ref r) = some (.list (cs.map dC)) := toD_ref hr (mapM_some (fun c => toD_enc T 14 c) cs)
  have e1 : toD T (18 + 1) (encI (im0 m k)) = some (imgD m k) := toD_img hk T 13
  unfold keptD
  refine repr_run (B := 80000) (toD_ref (n := 19) hq ?_) ⟨?_, list_cost ?_, ?_⟩ (by omega)
  · rw [List.mapM_cons, List.mapM_cons, List.mapM_nil, e1, e2]
    rfl
  · rw [PyData.showable]
    refine showAll _ ?_
    intro d hd
    simp only [List.mem_cons, List.not_mem_nil, or_false] at hd
    rcases hd with rfl | rfl
    · exact i1.sh
    · exact i2.sh
  · intro d hd
    simp only [List.mem_cons, List.not_mem_nil, or_false] at hd
    rcases hd with rfl | rfl
    · exact i1.le
    · exact i2.le
  · rw [cost, costs, costs, costs]
    have := i1.co
    have := i2.co
    omega
end K07
set_option maxRecDepth 100000
set_option maxHeartbeats 4000000
namespace K07
open PySem L2 Wo
theorem ne_self {im : Im} (h : ImIt im) (S : Store) : M.neW (encI im) (encI im) S = .ok (.bl false) S := by
  obtain ⟨d, hd⟩ := toD_encI h S
  rw [neW_of (isEq_self hd)]
  rfl
/-- one number -/
theorem turn_run (ns : List Int) (S : Store) (i : Nat) (hi : i < 1000) (x2 x3 x4 x5 x6 x7 : Option W) :
    ∃ S' y2 y3 y4 y5 y6 y7, (M.seq (M.asg (M.ops m_law_pool (M.cons (M.var 0) (M.cons (M.var 1) (M.nil)))) (M.tgN 2)) (M.seq (M.asg (M.ops m_law_image (M.cons (M.var 2) (M.nil))) (M.tgN 3)) (M.seq (M.asg (M.ops m_law_changes (M.cons (M.var 2) (M.cons (M.var 3) (M.nil)))) (M.tgN 4)) (M.seq (M.asg (M.ops M.reprW (M.cons (M.ops M.mkLst (M.cons (M.var 3) (M.cons (M.var 4) (M.nil)))) (M.nil))) (M.tgN 5)) (M.seq (M.asg (M.ops m_law_due (M.cons (M.var 3) (M.cons (M.var 4) (M.nil)))) (M.tgN 6)) (M.seq (M.asg (M.ops m_law_draw (M.cons (M.var 2) (M.cons (M.op2 M.addW (M.ops M.lenW (M.cons (M.var 4) (M.nil))) (M.cst (.int 1))) (M.nil)))) (M.tgN 7)) (M.seq (M.ifS (M.orT (M.tst (M.op2 M.neW (M.ops mput_on (M.cons (M.var 3) (M.cons (M.var 4) (M.nil)))) (M.var 6))) (M.tst (M.op2 M.neW (M.ops mput_on (M.cons (M.ops mput_on (M.cons (M.var 3) (M.cons (M.sl (M.var 4) (M.noPart) (M.part (M.var 7))) (M.nil)))) (M.cons (M.sl (M.var 4) (M.part (M.var 7)) (M.noPart)) (M.nil)))) (M.var 6)))) (M.ret (M.cst (.bl false))) (M.skip)) (M.ifS (M.orT (M.tst (M.op2 M.neW (M.ops mput_on (M.cons (M.var 3) (M.cons (M.ops M.mkLst (M.nil)) (M.nil)))) (M.var 3))) (M.tst (M.op2 M.neW (M.ops M.reprW (M.cons (M.ops M.mkLst (M.cons (M.var 3) (M.cons (M.var 4) (M.nil)))) (M.nil))) (M.var 5)))) (M.ret (M.cst (.bl false))) (M.skip))))))))) [some (scriptW ns), some (.int i), x2, x3, x4, x5, x6, x7] S = .ok (.next [some (scriptW ns), some (.int i), y2, y3, y4, y5, y6, y7]) S' := by
  obtain ⟨a, b, e1, a0, b0, b1⟩ := pool_run ns i hi S
  have ok1 : PlOk (S ++ [.lst [.int a, .int b]]) S.length := ⟨a, b, get_new _ _, a0, b0, b1⟩
  obtain ⟨m, k, S2, e2, m2, m4, k1, k7, ok2, bu2, l2⟩ := image_run ok1
  obtain ⟨cs, S3, e3, hr, g, ok3, bu3⟩ := changes_run ok2 m2 m4 k1 k7
  have l2' : S2.length = S.length + 1 := by rw [l2, List.length_append]; rfl
  have oI := im0_ok m2 m4 k1 k7
  have itI := im0_it m k
  have s1 : (M.asg (M.ops m_law_pool (M.cons (M.var 0) (M.cons (M.var 1) (M.nil)))) (M.tgN 2)) [some (scriptW ns), some (.int i), x2, x3, x4, x5, x6, x7] S = .ok (.next [some (scriptW ns), some (.int i), some (.ref S.length), x3, x4, x5, x6, x7]) (S ++ [.lst [.int a, .int b]]) := by
    unfold scriptW
    simp only [x_var, gv_some, x_cst, x_op2, o2_ok, o2b_ok, x_op1, x_ops, x_nil, x_cons, c1_ok, c2_ok, x_bind, x_tst, x_tru, x_ofBl, x_truB, x_truI, x_truN, x_truT, x_andT, kA_t, kA_f, x_orT, kO_t, kO_f, x_notT, kN_ok, x_andV, vA_ok, vA_t, vA_f, x_orV, vO_ok, vO_t, vO_f, x_notV, vN_ok, x_ifE, vI_t, vI_f, x_yes,
    x_add, x_sub, x_neg, x_lt, x_le, x_gt, x_ge, x_ne, eqW_int, x_max, x_min, x_intI, x_intB, x_lenT, x_lenF, x_tupT, gx_some, x_ixT, x_ixF, x_at0, x_at1, x_at2, x_at3, x_at4, x_slT, x_sl, l1_ok, l2_ok, l3_ok, x_part, gp_int, x_noPart, x_iter, x_itT, x_rng1, x_rng2,
    x_seq, sq_next, sq_ret, sq_cont, sq_brk, sn_some, x_asg, sA_ok, x_ret, sR_ok, x_retN, x_drop, sD_ok, x_ifS, sI_t, sI_f, x_skip, x_brk, x_cont, x_tgN, x_tgC, x_tgO, Option.bind_some, so_some, x_set, s1_ok, s2_ok, s3_ok,
    List.getElem?_cons_zero, List.getElem?_cons_succ, List.set_cons_zero, List.set_cons_succ, decide_true, decide_false, Bool.not_true, Bool.not_false, e1]
  have s2 : (M.asg (M.ops m_law_image (M.cons (M.var 2) (M.nil))) (M.tgN 3)) [some (scriptW ns), some (.int i), some (.ref S.length), x3, x4, x5, x6, x7] (S ++ [.lst [.int a, .int b]]) = .ok (.next [some (scriptW ns), some (.int i), some (.ref S.length), some (encI (im0 m k)), x4, x5, x6, x7]) S2 := by
    simp only [x_var, gv_some, x_cst, x_op2, o2_ok, o2b_ok, x_op1, x_ops, x_nil, x_cons, c1_ok, c2_ok, x_bind, x_tst, x_tru, x_ofBl, x_truB, x_truI, x_truN, x_truT, x_andT, kA_t, kA_f, x_orT, kO_t, kO_f, x_notT, kN_ok, x_andV, vA_ok, vA_t, vA_f, x_orV, vO_ok, vO_t, vO_f, x_notV, vN_ok, x_ifE, vI_t, vI_f, x_yes,
    x_add, x_sub, x_neg, x_lt, x_le, x_gt, x_ge, x_ne, eqW_int, x_max, x_min, x_intI, x_intB, x_lenT, x_lenF, x_tupT, gx_some, x_ixT, x_ixF, x_at0, x_at1, x_at2, x_at3, x_at4, x_slT, x_sl, l1_ok, l2_ok, l3_ok, x_part, gp_int, x_noPart, x_iter, x_itT, x_rng1, x_rng2,
    x_seq, sq_next, sq_ret, sq_cont, sq_brk, sn_some, x_asg, sA_ok, x_ret, sR_ok, x_retN, x_drop, sD_ok, x_ifS, sI_t, sI_f, x_skip, x_brk, x_cont, x_tgN, x_tgC, x_tgO, Option.bind_some, so_some, x_set, s1_ok, s2_ok, s3_ok,
    List.getElem?_cons_zero, List.getElem?_cons_succ, List.set_cons_zero, List.set_cons_succ, decide_true, decide_false, Bool.not_true, Bool.not_false, e2]
  have s3 : (M.asg (M.ops m_law_changes (M.cons (M.var 2) (M.cons (M.var 3) (M.nil)))) (M.tgN 4)) [some (scriptW ns), some (.int i), some (.ref S.length), some (encI (im0 m k)), x4, x5, x6, x7] S2 = .ok (.next [some (scriptW ns), some (.int i), some (.ref S.length), some (encI (im0 m k)), some (.ref S2.length), x5, x6, x7]) S3 := by
    simp only [x_var, gv_some, x_cst, x_op2, o2_ok, o2b_ok, x_op1, x_ops, x_nil, x_cons, c1_ok, c2_ok, x_bind, x_tst, x_tru, x_ofBl, x_truB, x_truI, x_truN, x_truT, x_andT, kA_t, kA_f, x_orT, kO_t, kO_f, x_notT, kN_ok, x_andV, vA_ok, vA_t, vA_f, x_orV, vO_ok, vO_t, vO_f, x_notV, vN_ok, x_ifE, vI_t, vI_f, x_yes,
    x_add, x_sub, x_neg, x_lt, x_le, x_gt, x_ge, x_ne, eqW_int, x_max, x_min, x_intI, x_intB, x_lenT, x_lenF, x_tupT, gx_some, x_ixT, x_ixF, x_at0, x_at1, x_at2, x_at3, x_at4, x_slT, x_sl, l1_ok, l2_ok, l3_ok, x_part, gp_int, x_noPart, x_iter, x_itT, x_rng1, x_rng2,
    x_seq, sq_next, sq_ret, sq_cont, sq_brk, sn_some, x_asg, sA_ok, x_ret, sR_ok, x_retN, x_drop, sD_ok, x_ifS, sI_t, sI_f, x_skip, x_brk, x_cont, x_tgN, x_tgC, x_tgO, Option.bind_some, so_some, x_set, s1_ok, s2_ok, s3_ok,
    List.getElem?_cons_zero, List.getElem?_cons_succ, List.set_cons_zero, List.set_cons_succ, decide_true, decide_false, Bool.not_true, Bool.not_false, e3]
  have m2l : ∀ x y : W, [x, y].length ≤ 1000 := fun _ _ => Nat.le_of_ble_eq_true rfl
  have hr4 := pre_get (S' := S3 ++ [.lst [encI (im0 m k), .ref S2.length]]) (List.prefix_append _ _) hr
  have s4 : (M.asg (M.ops M.reprW (M.cons (M.ops M.mkLst (M.cons (M.var 3) (M.cons (M.var 4) (M.nil)))) (M.nil))) (M.tgN 5)) [some (scriptW ns), some (.int i), some (.ref S.length), some (encI (im0 m k)), some (.ref S2.length), x5, x6, x7] S3 = .ok (.next [some (scriptW ns), some (.int i), some (.ref S.length), some (encI (im0 m k)), some (.ref S2.length), some (.str (PyData.shown (keptD m k cs))), x6, x7]) (S3 ++ [.lst [encI (im0 m k), .ref S2.length]]) := by
    simp only [x_var, gv_some, x_cst, x_op2, o2_ok, o2b_ok, x_op1, x_ops, x_nil, x_cons, c1_ok, c2_ok, x_bind, x_tst, x_tru, x_ofBl, x_truB, x_truI, x_truN, x_truT, x_andT, kA_t, kA_f, x_orT, kO_t, kO_f, x_notT, kN_ok, x_andV, vA_ok, vA_t, vA_f, x_orV, vO_ok, vO_t, vO_f, x_notV, vN_ok, x_ifE, vI_t, vI_f, x_yes,
    x_add, x_sub, x_neg, x_lt, x_le, x_gt, x_ge, x_ne, eqW_int, x_max, x_min, x_intI, x_intB, x_lenT, x_lenF, x_tupT, gx_some, x_ixT, x_ixF, x_at0, x_at1, x_at2, x_at3, x_at4, x_slT, x_sl, l1_ok, l2_ok, l3_ok, x_part, gp_int, x_noPart, x_iter, x_itT, x_rng1, x_rng2,
    x_seq, sq_next, sq_ret, sq_cont, sq_brk, sn_some, x_asg, sA_ok, x_ret, sR_ok, x_retN, x_drop, sD_ok, x_ifS, sI_t, sI_f, x_skip, x_brk, x_cont, x_tgN, x_tgC, x_tgO, Option.bind_some, so_some, x_set, s1_ok, s2_ok, s3_ok,
    List.getElem?_cons_zero, List.getElem?_cons_succ, List.set_cons_zero, List.set_cons_succ, decide_true, decide_false, Bool.not_true, Bool.not_false, x_mkL _ (m2l _ _), kept_run m4 k7 g hr4 (get_new _ _)]
  obtain ⟨S5, e5, p5⟩ := due_run oI g.fit hr4
  have s5 : (M.asg (M.ops m_law_due (M.cons (M.var 3) (M.cons (M.var 4) (M.nil)))) (M.tgN 6)) [some (scriptW ns), some (.int i), some (.ref S.length), some (encI (im0 m k)), some (.ref S2.length), some (.str (PyData.shown (keptD m k cs))), x6, x7] (S3 ++ [.lst [encI (im0 m k), .ref S2.length]]) = .ok (.next [some (scriptW ns), some (.int i), some (.ref S.length), some (encI (im0 m k)), some (.ref S2.length), some (.str (PyData.shown (keptD m k cs))), some (encI (allI (im0 m k) cs)), x7]) S5 := by
    simp only [x_var, gv_some, x_cst, x_op2, o2_ok, o2b_ok, x_op1, x_ops, x_nil, x_cons, c1_ok, c2_ok, x_bind, x_tst, x_tru, x_ofBl, x_truB, x_truI, x_truN, x_truT, x_andT, kA_t, kA_f, x_orT, kO_t, kO_f, x_notT, kN_ok, x_andV, vA_ok, vA_t, vA_f, x_orV, vO_ok, vO_t, vO_f, x_notV, vN_ok, x_ifE, vI_t, vI_f, x_yes,
    x_add, x_sub, x_neg, x_lt, x_le, x_gt, x_ge, x_ne, eqW_int, x_max, x_min, x_intI, x_intB, x_lenT, x_lenF, x_tupT, gx_some, x_ixT, x_ixF, x_at0, x_at1, x_at2, x_at3, x_at4, x_slT, x_sl, l1_ok, l2_ok, l3_ok, x_part, gp_int, x_noPart, x_iter, x_itT, x_rng1, x_rng2,
    x_seq, sq_next, sq_ret, sq_cont, sq_brk, sn_some, x_asg, sA_ok, x_ret, sR_ok, x_retN, x_drop, sD_ok, x_ifS, sI_t, sI_f, x_skip, x_brk, x_cont, x_tgN, x_tgC, x_tgO, Option.bind_some, so_some, x_set, s1_ok, s2_ok, s3_ok,
    List.getElem?_cons_zero, List.getElem?_cons_succ, List.set_cons_zero, List.set_cons_succ, decide_true, decide_false, Bool.not_true, Bool.not_false, e5]
  have hr5 := pre_get p5 hr4
  have ok5 := (ok3.pre (List.prefix_append S3 [.lst [encI (im0 m k), .ref S2.length]])).pre p5
  have gl := g.len
  obtain ⟨cI, S6, e6, c0, c1, ok6, b6, l6⟩ := draw_run ((cs.length : Int) + 1) (by omega) (by omega) ok5
  obtain ⟨cu, hcu⟩ := Int.eq_ofNat_of_zero_le c0
  subst hcu
  have s6 : (M.asg (M.ops m_law_draw (M.cons (M.var 2) (M.cons (M.op2 M.addW (M.ops M.lenW (M.cons (M.var 4) (M.nil))) (M.cst (.int 1))) (M.nil)))) (M.tgN 7)) [some (scriptW ns), some (.int i), some (.ref S.length), some (encI (im0 m k)), some (.ref S2.length), some (.str (PyData.shown (keptD m k cs))), some (encI (allI (im0 m k) cs)), x7] S5 = .ok (.next [some (scriptW ns), some (.int i), some (.ref S.length), some (encI (im0 m k)), some (.ref S2.length), some (.str (PyData.shown (keptD m k cs))), some (encI (allI (im0 m k) cs)), some (.int (cu : Nat))]) S6 := by
    simp only [x_var, gv_some, x_cst, x_op2, o2_ok, o2b_ok, x_op1, x_ops, x_nil, x_cons, c1_ok, c2_ok, x_bind, x_tst, x_tru, x_ofBl, x_truB, x_truI, x_truN, x_truT, x_andT, kA_t, kA_f, x_orT, kO_t, kO_f, x_notT, kN_ok, x_andV, vA_ok, vA_t, vA_f, x_orV, vO_ok, vO_t, vO_f, x_notV, vN_ok, x_ifE, vI_t, vI_f, x_yes,
    x_add, x_sub, x_neg, x_lt, x_le, x_gt, x_ge, x_ne, eqW_int, x_max, x_min, x_intI, x_intB, x_lenT, x_lenF, x_tupT, gx_some, x_ixT, x_ixF, x_at0, x_at1, x_at2, x_at3, x_at4, x_slT, x_sl, l1_ok, l2_ok, l3_ok, x_part, gp_int, x_noPart, x_iter, x_itT, x_rng1, x_rng2,
    x_seq, sq_next, sq_ret, sq_cont, sq_brk, sn_some, x_asg, sA_ok, x_ret, sR_ok, x_retN, x_drop, sD_ok, x_ifS, sI_t, sI_f, x_skip, x_brk, x_cont, x_tgN, x_tgC, x_tgO, Option.bind_some, so_some, x_set, s1_ok, s2_ok, s3_ok,
    List.getElem?_cons_zero, List.getElem?_cons_succ, List.set_cons_zero, List.set_cons_succ, decide_true, decide_false, Bool.not_true, Bool.not_false, x_lenL hr5, List.length_map, e6]
  have hr6 : S6[S2.length]? = some (.lst (cs.map enc)) := b6.get hr5 (by omega)
  obtain ⟨S7, e7, p7⟩ := put_on_run oI g.fit hr6
  have hr7 := pre_get p7 hr6
  have itF := all_it cs (im0 m k) itI
  have hsl : ∀ (T : Store) (lo hi : Option Int), T[S2.length]? = some (.lst (cs.map enc)) → M.slW (.ref S2.length) lo hi T = .ok (.ref T.length) (T ++ [.lst (M.cutW (cs.map enc) lo hi)]) := fun T lo hi hT => by
    unfold M.slW
    dsimp only
    rw [hT]
  have c1' : M.cutW (cs.map enc) none (some (cu : Int)) = (cs.take cu).map enc := by rw [cut_0n, List.map_take]
  have c2' : M.cutW (cs.map enc) (some (cu : Int)) none = (cs.drop cu).map enc := by rw [cut_n0, List.map_drop]
  have fitT : ∀ c ∈ cs.take cu, Fit (im0 m k) c := fun c hc => g.fit c (List.mem_of_mem_take hc)
  obtain ⟨shT, okT⟩ := all_shp (cs.take cu) (im0 m k) oI fitT
  obtain ⟨S8, e8, p8⟩ := put_on_run (S := S7 ++ [.lst ((cs.take cu).map enc)]) (r := S7.length) oI fitT (get_new _ _)
  have hr8 : S8[S2.length]? = some (.lst (cs.map enc)) := pre_get p8 (pre_get (List.prefix_append _ _) hr7)
  obtain ⟨S9, e9, p9⟩ := put_on_run (S := S8 ++ [.lst ((cs.drop cu).map enc)]) (r := S8.length) okT (fun c hc => (g.fit c (List.mem_of_mem_drop hc)).shp shT) (get_new _ _)
  have eqA : allI (allI (im0 m k) (cs.take cu)) (cs.drop cu) = allI (im0 m k) cs := by
    unfold allI
    rw [← List.foldl_append, List.take_append_drop]
  rw [eqA] at e9
  have s7 : (M.ifS (M.orT (M.tst (M.op2 M.neW (M.ops mput_on (M.cons (M.var 3) (M.cons (M.var 4) (M.nil)))) (M.var 6))) (M.tst (M.op2 M.neW (M.ops mput_on (M.cons (M.ops mput_on (M.cons (M.var 3) (M.cons (M.sl (M.var 4) (M.noPart) (M.part (M.var 7))) (M.nil)))) (M.cons (M.sl (M.var 4) (M.part (M.var 7)) (M.noPart)) (M.nil)))) (M.var 6)))) (M.ret (M.cst (.bl false))) (M.skip)) [some (scriptW ns), some (.int i), some (.ref S.length), some (encI (im0 m k)), some (.ref S2.length), some (.str (PyData.shown (keptD m k cs))), some (encI (allI (im0 m k) cs)), some (.int (cu : Nat))] S6 = .ok (.next [some (scriptW ns), some (.int i), some (.ref S.length), some (encI (im0 m k)), some (.ref S2.length), some (.str (PyData.shown (keptD m k cs))), some (encI (allI (im0 m k) cs)), some (.int (cu : Nat))]) S9 := by
    simp only [x_var, gv_some, x_cst, x_op2, o2_ok, o2b_ok, x_op1, x_ops, x_nil, x_cons, c1_ok, c2_ok, x_bind, x_tst, x_tru, x_ofBl, x_truB, x_truI, x_truN, x_truT, x_andT, kA_t, kA_f, x_orT, kO_t, kO_f, x_notT, kN_ok, x_andV, vA_ok, vA_t, vA_f, x_orV, vO_ok, vO_t, vO_f, x_notV, vN_ok, x_ifE, vI_t, vI_f, x_yes,
    x_add, x_sub, x_neg, x_lt, x_le, x_gt, x_ge, x_ne, eqW_int, x_max, x_min, x_intI, x_intB, x_lenT, x_lenF, x_tupT, gx_some, x_ixT, x_ixF, x_at0, x_at1, x_at2, x_at3, x_at4, x_slT, x_sl, l1_ok, l2_ok, l3_ok, x_part, gp_int, x_noPart, x_iter, x_itT, x_rng1, x_rng2,
    x_seq, sq_next, sq_ret, sq_cont, sq_brk, sn_some, x_asg, sA_ok, x_ret, sR_ok, x_retN, x_drop, sD_ok, x_ifS, sI_t, sI_f, x_skip, x_brk, x_cont, x_tgN, x_tgC, x_tgO, Option.bind_some, so_some, x_set, s1_ok, s2_ok, s3_ok,
    List.getElem?_cons_zero, List.getElem?_cons_succ, List.set_cons_zero, List.set_cons_succ, decide_true, decide_false, Bool.not_true, Bool.not_false, e7, ne_self itF, hsl S7 _ _ hr7, c1', e8, hsl S8 _ _ hr8, c2', e9]
  have hr9 : S9[S2.length]? = some (.lst (cs.map enc)) := pre_get p9 (pre_get (List.prefix_append _ _) hr8)
  have m0l : ([] : List W).length ≤ 1000 := Nat.le_of_ble_eq_true rfl
  obtain ⟨T1, t1, q1⟩ := put_on_run (cs := []) (S := S9 ++ [.lst []]) (r := S9.length) oI (fun c hc => absurd hc List.not_mem_nil) (get_new _ _)
  have hrT : T1[S2.length]? = some (.lst (cs.map enc)) := pre_get q1 (pre_get (List.prefix_append _ _) hr9)
  have hrT2 := pre_get (S' := T1 ++ [.lst [encI (im0 m k), .ref S2.length]]) (List.prefix_append _ _) hrT
  have t1' : mput_on [encI (im0 m k), .ref S9.length] (S9 ++ [.lst []]) = .ok (encI (im0 m k)) T1 := t1
  have s8 : (M.ifS (M.orT (M.tst (M.op2 M.neW (M.ops mput_on (M.cons (M.var 3) (M.cons (M.ops M.mkLst (M.nil)) (M.nil)))) (M.var 3))) (M.tst (M.op2 M.neW (M.ops M.reprW (M.cons (M.ops M.mkLst (M.cons (M.var 3) (M.cons (M.var 4) (M.nil)))) (M.nil))) (M.var 5)))) (M.ret (M.cst (.bl false))) (M.skip)) [some (scriptW ns), some (.int i), some (.ref S.length), some (encI (im0 m k)), some (.ref S2.length), some (.str (PyData.shown (keptD m k cs))), some (encI (allI (im0 m k) cs)), some (.int (cu : Nat))] S9 = .ok (.next [some (scriptW ns), some (.int i), some (.ref S.length), some (encI (im0 m k)), some (.ref S2.length), some (.str (PyData.shown (keptD m k cs))), some (encI (allI (im0 m k) cs)), some (.int (cu : Nat))]) (T1 ++ [.lst [encI (im0 m k), .ref S2.length]]) := by
    simp only [x_var, gv_some, x_cst, x_op2, o2_ok, o2b_ok, x_op1, x_ops, x_nil, x_cons, c1_ok, c2_ok, x_bind, x_tst, x_tru, x_ofBl, x_truB, x_truI, x_truN, x_truT, x_andT, kA_t, kA_f, x_orT, kO_t, kO_f, x_notT, kN_ok, x_andV, vA_ok, vA_t, vA_f, x_orV, vO_ok, vO_t, vO_f, x_notV, vN_ok, x_ifE, vI_t, vI_f, x_yes,
    x_add, x_sub, x_neg, x_lt, x_le, x_gt, x_ge, x_ne, eqW_int, x_max, x_min, x_intI, x_intB, x_lenT, x_lenF, x_tupT, gx_some, x_ixT, x_ixF, x_at0, x_at1, x_at2, x_at3, x_at4, x_slT, x_sl, l1_ok, l2_ok, l3_ok, x_part, gp_int, x_noPart, x_iter, x_itT, x_rng1, x_rng2,
    x_seq, sq_next, sq_ret, sq_cont, sq_brk, sn_some, x_asg, sA_ok, x_ret, sR_ok, x_retN, x_drop, sD_ok, x_ifS, sI_t, sI_f, x_skip, x_brk, x_cont, x_tgN, x_tgC, x_tgO, Option.bind_some, so_some, x_set, s1_ok, s2_ok, s3_ok,
    List.getElem?_cons_zero, List.getElem?_cons_succ, List.set_cons_zero, List.set_cons_succ, decide_true, decide_false, Bool.not_true, Bool.not_false, x_mkL _ m0l, t1', ne_self itI, x_mkL _ (m2l _ _), kept_run m4 k7 g hrT2 (get_new _ _), x_neS]
  refine ⟨T1 ++ [.lst [encI (im0 m k), .ref S2.length]], some (.ref S.length), some (encI (im0 m k)), some (.ref S2.length), some (.str (PyData.shown (keptD m k cs))), some (encI (allI (im0 m k) cs)), some (.int (cu : Nat)), ?_⟩
  rw [r_seq s1, r_seq s2, r_seq s3, r_seq s4, r_seq s5, r_seq s6, r_seq s7, s8]
theorem law_true (ns : List Int) (hn : ns.length ≤ 63) : ∃ S, mlaw [scriptW ns] [] = .ok (.bl true) S := by
  obtain ⟨n, hnn, hg⟩ : ∃ n : Nat, n ≤ 20 ∧ (M.rng1 (M.cons (M.ops M.maxW (M.cons (M.cst (.int 1)) (M.cons (M.ops M.minW (M.cons (M.cst (.int 20)) (M.cons (M.ops M.lenW (M.cons (M.var 0) (M.nil))) (M.nil)))) (M.nil)))) (M.nil))) [some (scriptW ns), none, none, none, none, none, none, none] [] = .ok (n, M.getN 0 n) [] := by
    obtain ⟨z, hz⟩ : ∃ z : Int, z = (if (if (((ns.map W.int).length : Nat) : Int) < 20 then (((ns.map W.int).length : Nat) : Int) else 20) > 1 then (if (((ns.map W.int).length : Nat) : Int) < 20 then (((ns.map W.int).length : Nat) : Int) else 20) else 1) := ⟨_, rfl⟩
    have z0 : 0 ≤ z ∧ z ≤ 20 := by
      rw [hz]
      split <;> split <;> omega
    have z1 : -1000000 ≤ z := by omega
    have z2 : z < 1000000 := by omega
    refine ⟨z.toNat, by omega, ?_⟩
    unfold scriptW
    simp only [x_var, gv_some, x_cst, x_op2, o2_ok, o2b_ok, x_op1, x_ops, x_nil, x_cons, c1_ok, c2_ok, x_bind, x_tst, x_tru, x_ofBl, x_truB, x_truI, x_truN, x_truT, x_andT, kA_t, kA_f, x_orT, kO_t, kO_f, x_notT, kN_ok, x_andV, vA_ok, vA_t, vA_f, x_orV, vO_ok, vO_t, vO_f, x_notV, vN_ok, x_ifE, vI_t, vI_f, x_yes,
    x_add, x_sub, x_neg, x_lt, x_le, x_gt, x_ge, x_ne, eqW_int, x_max, x_min, x_intI, x_intB, x_lenT, x_lenF, x_tupT, gx_some, x_ixT, x_ixF, x_at0, x_at1, x_at2, x_at3, x_at4, x_slT, x_sl, l1_ok, l2_ok, l3_ok, x_part, gp_int, x_noPart, x_iter, x_itT, x_rng1, x_rng2,
    x_seq, sq_next, sq_ret, sq_cont, sq_brk, sn_some, x_asg, sA_ok, x_ret, sR_ok, x_retN, x_drop, sD_ok, x_ifS, sI_t, sI_f, x_skip, x_brk, x_cont, x_tgN, x_tgC, x_tgO, Option.bind_some, so_some, x_set, s1_ok, s2_ok, s3_ok,
    List.getElem?_cons_zero, List.getElem?_cons_succ, List.set_cons_zero, List.set_cons_succ, decide_true, decide_false, Bool.not_true, Bool.not_false, ← hz, x_rng1W _ z1 z2]
  obtain ⟨f', S', h1, h2⟩ := forL_rule (get := M.getN 0 n) (t := M.tgN 1) (body := (M.seq (M.asg (M.ops m_law_pool (M.cons (M.var 0) (M.cons (M.var 1) (M.nil)))) (M.tgN 2)) (M.seq (M.asg (M.ops m_law_image (M.cons (M.var 2) (M.nil))) (M.tgN 3)) (M.seq (M.asg (M.ops m_law_changes (M.cons (M.var 2) (M.cons (M.var 3) (M.nil)))) (M.tgN 4)) (M.seq (M.asg (M.ops M.reprW (M.cons (M.ops M.mkLst (M.cons (M.var 3) (M.cons (M.var 4) (M.nil)))) (M.nil))) (M.tgN 5)) (M.seq (M.asg (M.ops m_law_due (M.cons (M.var 3) (M.cons (M.var 4) (M.nil)))) (M.tgN 6)) (M.seq (M.asg (M.ops m_law_draw (M.cons (M.var 2) (M.cons (M.op2 M.addW (M.ops M.lenW (M.cons (M.var 4) (M.nil))) (M.cst (.int 1))) (M.nil)))) (M.tgN 7)) (M.seq (M.ifS (M.orT (M.tst (M.op2 M.neW (M.ops mput_on (M.cons (M.var 3) (M.cons (M.var 4) (M.nil)))) (M.var 6))) (M.tst (M.op2 M.neW (M.ops mput_on (M.cons (M.ops mput_on (M.cons (M.var 3) (M.cons (M.sl (M.var 4) (M.noPart) (M.part (M.var 7))) (M.nil)))) (M.cons (M.sl (M.var 4) (M.part (M.var 7)) (M.noPart)) (M.nil)))) (M.var 6)))) (M.ret (M.cst (.bl false))) (M.skip)) (M.ifS (M.orT (M.tst (M.op2 M.neW (M.ops mput_on (M.cons (M.var 3) (M.cons (M.ops M.mkLst (M.nil)) (M.nil)))) (M.var 3))) (M.tst (M.op2 M.neW (M.ops M.reprW (M.cons (M.ops M.mkLst (M.cons (M.var 3) (M.cons (M.var 4) (M.nil)))) (M.nil))) (M.var 5)))) (M.ret (M.cst (.bl false))) (M.skip)))))))))) n
    (fun _ f _ => ∃ y1 y2 y3 y4 y5 y6 y7, f = [some (scriptW ns), y1, y2, y3, y4, y5, y6, y7])
    (fun f S' _ => by unfold M.getN; rw [if_neg (Nat.lt_irrefl _)]) (fun i f S' hi ⟨y1, y2, y3, y4, y5, y6, y7, ef⟩ => by
      subst ef
      obtain ⟨S4, w2, w3, w4, w5, w6, w7, p1⟩ := turn_run ns S' i (by omega) y2 y3 y4 y5 y6 y7
      have e0 : (0 + (i : Int)) = (i : Int) := Int.zero_add _
      exact ⟨.int i, [some (scriptW ns), some (.int i), y2, y3, y4, y5, y6, y7], by unfold M.getN; rw [if_pos hi, e0], rfl, _, S4, Or.inl p1, _, _, _, _, _, _, _, rfl⟩)
    n 0 [some (scriptW ns), none, none, none, none, none, none, none] [] (Nat.zero_add _) ⟨_, _, _, _, _, _, _, rfl⟩
  refine ⟨S', r_fn rfl ?_⟩
  show blaw [some (scriptW ns), none, none, none, none, none, none, none] [] = _
  unfold blaw
  rw [r_seq ((r_for hg).trans h1)]
  rfl
end K07
set_option maxRecDepth 100000
set_option maxHeartbeats 4000000

namespace K07
open PySem L2 Wo
/-! printed by gen.py: the end -/
theorem all_mk {l : PySem.W.OpenLaw} {w : World} {K : PySem.W.Frag} {h : Heap} {mg : Str → Option Value} {fa f0 f1 f2 f3 f4 f5 f6 f7 f8 f9 f10 f11 f12 f13 f14 f15 : Addr} (X : K.In h) (G : h.Ns mainGlobals mg) (hfa : mg "law" = some (.ref fa))
    {od0 an0 od1 an1 od2 an2 od3 an3 od4 an4 od5 an5 od6 an6 od7 an7 od8 an8 od9 an9 od10 an10 od11 an11 od12 an12 od13 an13 od14 an14 od15 an15 : Option Addr} {sl0 sl1 sl2 sl3 sl4 sl5 sl6 sl7 sl8 sl9 sl10 sl11 sl12 sl13 sl14 sl15 : Array (Option Value)} {oc0 kV0 dc0 pm0 cd0 ct0 oc1 kV1 dc1 pm1 cd1 ct1 oc2 kV2 dc2 pm2 cd2 ct2 oc3 kV3 dc3 pm3 cd3 ct3 oc4 kV4 dc4 pm4 cd4 ct4 oc5 kV5 dc5 pm5 cd5 ct5 oc6 kV6 dc6 pm6 cd6 ct6 oc7 kV7 dc7 pm7 cd7 ct7 oc8 kV8 dc8 pm8 cd8 ct8 oc9 kV9 dc9 pm9 cd9 ct9 oc10 kV10 dc10 pm10 cd10 ct10 oc11 kV11 dc11 pm11 cd11 ct11 oc12 kV12 dc12 pm12 cd12 ct12 oc13 kV13 dc13 pm13 cd13 ct13 oc14 kV14 dc14 pm14 cd14 ct14 oc15 kV15 dc15 pm15 cd15 ct15 : Value}
    {tIN_ONE : Tok}
    (a0 : PySem.W.nsIn K mainGlobals "is_whole" = some (some (.ref f0)))
    (l0 : K.lookup f0 = some ⟨oc0, od0, .func (PySem.W.fnOf "is_whole" "is_whole" (defArgs sis_whole) (defBody sis_whole) (defScope sis_whole) .none kV0 dc0 pm0 an0 cd0 ct0), sl0⟩) (c0 : PySem.W.codeIn K cd0 "is_whole" = true) (k0 : PySem.W.keepIn K (.ref f0) = true)
    (a1 : PySem.W.nsIn K mainGlobals "is_from" = some (some (.ref f1)))
    (l1 : K.lookup f1 = some ⟨oc1, od1, .func (PySem.W.fnOf "is_from" "is_from" (defArgs sis_from) (defBody sis_from) (defScope sis_from) .none kV1 dc1 pm1 an1 cd1 ct1), sl1⟩) (c1 : PySem.W.codeIn K cd1 "is_from" = true) (k1 : PySem.W.keepIn K (.ref f1) = true)
    (a2 : PySem.W.nsIn K mainGlobals "node_pages" = some (some (.ref f2)))
    (l2 : K.lookup f2 = some ⟨oc2, od2, .func (PySem.W.fnOf "node_pages" "node_pages" (defArgs snode_pages) (defBody snode_pages) (defScope snode_pages) .none kV2 dc2 pm2 an2 cd2 ct2), sl2⟩) (c2 : PySem.W.codeIn K cd2 "node_pages" = true) (k2 : PySem.W.keepIn K (.ref f2) = true)
    (a3 : PySem.W.nsIn K mainGlobals "disk_pages" = some (some (.ref f3)))
    (l3 : K.lookup f3 = some ⟨oc3, od3, .func (PySem.W.fnOf "disk_pages" "disk_pages" (defArgs sdisk_pages) (defBody sdisk_pages) (defScope sdisk_pages) .none kV3 dc3 pm3 an3 cd3 ct3), sl3⟩) (c3 : PySem.W.codeIn K cd3 "disk_pages" = true) (k3 : PySem.W.keepIn K (.ref f3) = true)
    (a4 : PySem.W.nsIn K mainGlobals "look_at_page" = some (some (.ref f4)))
    (l4 : K.lookup f4 = some ⟨oc4, od4, .func (PySem.W.fnOf "look_at_page" "look_at_page" (defArgs slook_at_page) (defBody slook_at_page) (defScope slook_at_page) .none kV4 dc4 pm4 an4 cd4 ct4), sl4⟩) (c4 : PySem.W.codeIn K cd4 "look_at_page" = true) (k4 : PySem.W.keepIn K (.ref f4) = true)
    (a5 : PySem.W.nsIn K mainGlobals "slots_of" = some (some (.ref f5)))
    (l5 : K.lookup f5 = some ⟨oc5, od5, .func (PySem.W.fnOf "slots_of" "slots_of" (defArgs sslots_of) (defBody sslots_of) (defScope sslots_of) .none kV5 dc5 pm5 an5 cd5 ct5), sl5⟩) (c5 : PySem.W.codeIn K cd5 "slots_of" = true) (k5 : PySem.W.keepIn K (.ref f5) = true)
    (a6 : PySem.W.nsIn K mainGlobals "with_slots" = some (some (.ref f6)))
    (l6 : K.lookup f6 = some ⟨oc6, od6, .func (PySem.W.fnOf "with_slots" "with_slots" (defArgs swith_slots) (defBody swith_slots) (defScope swith_slots) .none kV6 dc6 pm6 an6 cd6 ct6), sl6⟩) (c6 : PySem.W.codeIn K cd6 "with_slots" = true) (k6 : PySem.W.keepIn K (.ref f6) = true)
    (a7 : PySem.W.nsIn K mainGlobals "put_on" = some (some (.ref f7)))
    (l7 : K.lookup f7 = some ⟨oc7, od7, .func (PySem.W.fnOf "put_on" "put_on" (defArgs sput_on) (defBody sput_on) (defScope sput_on) .none kV7 dc7 pm7 an7 cd7 ct7), sl7⟩) (c7 : PySem.W.codeIn K cd7 "put_on" = true) (k7 : PySem.W.keepIn K (.ref f7) = true)
    (a8 : PySem.W.nsIn K mainGlobals "_law_pool" = some (some (.ref f8)))
    (l8 : K.lookup f8 = some ⟨oc8, od8, .func (PySem.W.fnOf "_law_pool" "_law_pool" (defArgs s_law_pool) (defBody s_law_pool) (defScope s_law_pool) .none kV8 dc8 pm8 an8 cd8 ct8), sl8⟩) (c8 : PySem.W.codeIn K cd8 "_law_pool" = true) (k8 : PySem.W.keepIn K (.ref f8) = true)
    (a9 : PySem.W.nsIn K mainGlobals "_law_draw" = some (some (.ref f9)))
    (l9 : K.lookup f9 = some ⟨oc9, od9, .func (PySem.W.fnOf "_law_draw" "_law_draw" (defArgs s_law_draw) (defBody s_law_draw) (defScope s_law_draw) .none kV9 dc9 pm9 an9 cd9 ct9), sl9⟩) (c9 : PySem.W.codeIn K cd9 "_law_draw" = true) (k9 : PySem.W.keepIn K (.ref f9) = true)
    (a10 : PySem.W.nsIn K mainGlobals "_law_image" = some (some (.ref f10)))
    (l10 : K.lookup f10 = some ⟨oc10, od10, .func (PySem.W.fnOf "_law_image" "_law_image" (defArgs s_law_image) (defBody s_law_image) (defScope s_law_image) .none kV10 dc10 pm10 an10 cd10 ct10), sl10⟩) (c10 : PySem.W.codeIn K cd10 "_law_image" = true) (k10 : PySem.W.keepIn K (.ref f10) = true)
    (a11 : PySem.W.nsIn K mainGlobals "_law_many" = some (some (.ref f11)))
    (l11 : K.lookup f11 = some ⟨oc11, od11, .func (PySem.W.fnOf "_law_many" "_law_many" (defArgs s_law_many) (defBody s_law_many) (defScope s_law_many) .none kV11 dc11 pm11 an11 cd11 ct11), sl11⟩) (c11 : PySem.W.codeIn K cd11 "_law_many" = true) (k11 : PySem.W.keepIn K (.ref f11) = true)
    (a12 : PySem.W.nsIn K mainGlobals "_law_slots" = some (some (.ref f12)))
    (l12 : K.lookup f12 = some ⟨oc12, od12, .func (PySem.W.fnOf "_law_slots" "_law_slots" (defArgs s_law_slots) (defBody s_law_slots) (defScope s_law_slots) .none kV12 dc12 pm12 an12 cd12 ct12), sl12⟩) (c12 : PySem.W.codeIn K cd12 "_law_slots" = true) (k12 : PySem.W.keepIn K (.ref f12) = true)
    (a13 : PySem.W.nsIn K mainGlobals "_law_changes" = some (some (.ref f13)))
    (l13 : K.lookup f13 = some ⟨oc13, od13, .func (PySem.W.fnOf "_law_changes" "_law_changes" (defArgs s_law_changes) (defBody s_law_changes) (defScope s_law_changes) .none kV13 dc13 pm13 an13 cd13 ct13), sl13⟩) (c13 : PySem.W.codeIn K cd13 "_law_changes" = true) (k13 : PySem.W.keepIn K (.ref f13) = true)
    (a14 : PySem.W.nsIn K mainGlobals "_law_due" = some (some (.ref f14)))
    (l14 : K.lookup f14 = some ⟨oc14, od14, .func (PySem.W.fnOf "_law_due" "_law_due" (defArgs s_law_due) (defBody s_law_due) (defScope s_law_due) .none kV14 dc14 pm14 an14 cd14 ct14), sl14⟩) (c14 : PySem.W.codeIn K cd14 "_law_due" = true) (k14 : PySem.W.keepIn K (.ref f14) = true)
    (a15 : PySem.W.nsIn K mainGlobals "law" = some (some (.ref f15)))
    (l15 : K.lookup f15 = some ⟨oc15, od15, .func (PySem.W.fnOf "law" "law" (defArgs slaw) (defBody slaw) (defScope slaw) .none kV15 dc15 pm15 an15 cd15 ct15), sl15⟩) (c15 : PySem.W.codeIn K cd15 "law" = true) (k15 : PySem.W.keepIn K (.ref f15) = true)
    (zint : PySem.W.nsIn K mainGlobals "int" = some none)
    (zisinstance : PySem.W.nsIn K mainGlobals "isinstance" = some none)
    (zbool : PySem.W.nsIn K mainGlobals "bool" = some none)
    (zlen : PySem.W.nsIn K mainGlobals "len" = some none)
    (ztuple : PySem.W.nsIn K mainGlobals "tuple" = some none)
    (zlist : PySem.W.nsIn K mainGlobals "list" = some none)
    (zmax : PySem.W.nsIn K mainGlobals "max" = some none)
    (zrange : PySem.W.nsIn K mainGlobals "range" = some none)
    (zmin : PySem.W.nsIn K mainGlobals "min" = some none)
    (zrepr : PySem.W.nsIn K mainGlobals "repr" = some none)
    (kIN_ONE : PySem.W.nsIn K mainGlobals "IN_ONE" = some (some (.int 4 tIN_ONE))) :
    ∃ fd : FuncData, (∀ (s : Shared) (v : Value), BindsTo s fd ⟨[v], []⟩ [("_law_script", v)]) ∧ ∀ base : Heap, K.In base → base.Ns mainGlobals mg → FnG l.prog w K mg base CX0 6 fa fd ["_law_script"] (spLaw mlaw K) := by
  have e := hfa.symm.trans (PySem.W.mg_of X G a15)
  cases e
  have B : Blt mg := ⟨PySem.W.mg_none_of X G zint, PySem.W.mg_none_of X G zisinstance, PySem.W.mg_none_of X G zbool, PySem.W.mg_none_of X G zlen, PySem.W.mg_none_of X G ztuple, PySem.W.mg_none_of X G zlist, PySem.W.mg_none_of X G zmax, PySem.W.mg_none_of X G zrange, PySem.W.mg_none_of X G zmin, PySem.W.mg_none_of X G zrepr, ⟨_, PySem.W.mg_of X G kIN_ONE, ⟨_, rfl⟩⟩⟩
  have F0 := fun_mk (st := sis_whole) l0 c0 k0
  have b0 := F0.binds (ps := ["thing"]) fun _ _ _ _ _ _ us hl => match us, hl with | [_], _ => rfl
  have g0 := PySem.W.mg_of X G a0
  have F1 := fun_mk (st := sis_from) l1 c1 k1
  have b1 := F1.binds (ps := ["thing", "least", "most"]) fun _ _ _ _ _ _ us hl => match us, hl with | [_, _, _], _ => rfl
  have g1 := PySem.W.mg_of X G a1
  have F2 := fun_mk (st := snode_pages) l2 c2 k2
  have b2 := F2.binds (ps := ["image"]) fun _ _ _ _ _ _ us hl => match us, hl with | [_], _ => rfl
  have g2 := PySem.W.mg_of X G a2
  have F3 := fun_mk (st := sdisk_pages) l3 c3 k3
  have b3 := F3.binds (ps := ["image"]) fun _ _ _ _ _ _ us hl => match us, hl with | [_], _ => rfl
  have g3 := PySem.W.mg_of X G a3
  have F4 := fun_mk (st := slook_at_page) l4 c4 k4
  have b4 := F4.binds (ps := ["image", "page"]) fun _ _ _ _ _ _ us hl => match us, hl with | [_, _], _ => rfl
  have g4 := PySem.W.mg_of X G a4
  have F5 := fun_mk (st := sslots_of) l5 c5 k5
  have b5 := F5.binds (ps := ["image", "page"]) fun _ _ _ _ _ _ us hl => match us, hl with | [_, _], _ => rfl
  have g5 := PySem.W.mg_of X G a5
  have F6 := fun_mk (st := swith_slots) l6 c6 k6
  have b6 := F6.binds (ps := ["image", "page", "slots"]) fun _ _ _ _ _ _ us hl => match us, hl with | [_, _, _], _ => rfl
  have g6 := PySem.W.mg_of X G a6
  have F7 := fun_mk (st := sput_on) l7 c7 k7
  have b7 := F7.binds (ps := ["image", "changes"]) fun _ _ _ _ _ _ us hl => match us, hl with | [_, _], _ => rfl
  have g7 := PySem.W.mg_of X G a7
  have F8 := fun_mk (st := s_law_pool) l8 c8 k8
  have b8 := F8.binds (ps := ["_law_script", "_law_k"]) fun _ _ _ _ _ _ us hl => match us, hl with | [_, _], _ => rfl
  have g8 := PySem.W.mg_of X G a8
  have F9 := fun_mk (st := s_law_draw) l9 c9 k9
  have b9 := F9.binds (ps := ["_law_pool_here", "_law_many_here"]) fun _ _ _ _ _ _ us hl => match us, hl with | [_, _], _ => rfl
  have g9 := PySem.W.mg_of X G a9
  have F10 := fun_mk (st := s_law_image) l10 c10 k10
  have b10 := F10.binds (ps := ["_law_pool_here"]) fun _ _ _ _ _ _ us hl => match us, hl with | [_], _ => rfl
  have g10 := PySem.W.mg_of X G a10
  have F11 := fun_mk (st := s_law_many) l11 c11 k11
  have b11 := F11.binds (ps := ["_law_image_here"]) fun _ _ _ _ _ _ us hl => match us, hl with | [_], _ => rfl
  have g11 := PySem.W.mg_of X G a11
  have F12 := fun_mk (st := s_law_slots) l12 c12 k12
  have b12 := F12.binds (ps := ["_law_image_here", "_law_at"]) fun _ _ _ _ _ _ us hl => match us, hl with | [_, _], _ => rfl
  have g12 := PySem.W.mg_of X G a12
  have F13 := fun_mk (st := s_law_changes) l13 c13 k13
  have b13 := F13.binds (ps := ["_law_pool_here", "_law_image_here"]) fun _ _ _ _ _ _ us hl => match us, hl with | [_, _], _ => rfl
  have g13 := PySem.W.mg_of X G a13
  have F14 := fun_mk (st := s_law_due) l14 c14 k14
  have b14 := F14.binds (ps := ["_law_image_here", "_law_some"]) fun _ _ _ _ _ _ us hl => match us, hl with | [_, _], _ => rfl
  have g14 := PySem.W.mg_of X G a14
  have F15 := fun_mk (st := slaw) l15 c15 k15
  have b15 := F15.binds (ps := ["_law_script"]) fun _ _ _ _ _ _ us hl => match us, hl with | [_], _ => rfl
  have g15 := PySem.W.mg_of X G a15
  refine ⟨PySem.W.fnOf "law" "law" (defArgs slaw) (defBody slaw) (defScope slaw) .none kV15 dc15 pm15 an15 cd15 ct15, fun s v => .of_eq rfl, fun base _ _ => ?_⟩
  have D0 := okis_whole (P := l.prog) (w := w) (base := base) B F0 g0 b0
  have D1 := okis_from (P := l.prog) (w := w) (base := base) B D0 F1 g1 b1
  have D2 := oknode_pages (P := l.prog) (w := w) (base := base) B F2 g2 b2
  have D3 := okdisk_pages (P := l.prog) (w := w) (base := base) B D2 F3 g3 b3
  have D4 := oklook_at_page (P := l.prog) (w := w) (base := base) B D3 D1 F4 g4 b4
  have D5 := okslots_of (P := l.prog) (w := w) (base := base) B D2 D4 F5 g5 b5
  have D6 := okwith_slots (P := l.prog) (w := w) (base := base) B D2 D4 F6 g6 b6
  have D7 := okput_on (P := l.prog) (w := w) (base := base) B D6 D5 F7 g7 b7
  have D8 := ok_law_pool (P := l.prog) (w := w) (base := base) B F8 g8 b8
  have D9 := ok_law_draw (P := l.prog) (w := w) (base := base) B F9 g9 b9
  have D10 := ok_law_image (P := l.prog) (w := w) (base := base) B D9 F10 g10 b10
  have D11 := ok_law_many (P := l.prog) (w := w) (base := base) B F11 g11 b11
  have D12 := ok_law_slots (P := l.prog) (w := w) (base := base) B F12 g12 b12
  have D13 := ok_law_changes (P := l.prog) (w := w) (base := base) B D9 D12 D11 F13 g13 b13
  have D14 := ok_law_due (P := l.prog) (w := w) (base := base) B D11 D12 F14 g14 b14
  have D15 := oklaw (P := l.prog) (w := w) (base := base) B D7 D9 D14 D13 D10 D8 F15 g15 b15
  exact D15.ok
end K07

open PySem PySem.W PyProof.Rows Wo in
set_option maxRecDepth 100000 in
set_option maxHeartbeats 0 in
theorem PySem.Challenge.cw_writeorders_k07_changes_put_on_holds : PySem.Challenge.rw_writeorders_k07_changes_put_on.Holds := by
  w_on; o_law; k_head; (case hw => w_witness2)
  k_fill
  refine Wo.walk_G (k := 6) (l := PySem.Challenge.rw_writeorders_k07_changes_put_on) (g := K07.mlaw) (x := "_law_script") rfl rfl ⟨rfl, by decide, by decide⟩ (fun w h Y => PySem.W.kIn_of Y) ?F K07.law_true
  case F =>
    intro w mg fa h KX G hmg
    refine' K07.all_mk KX G hmg ?a0 ?l0 ?c0 ?k0 ?a1 ?l1 ?c1 ?k1 ?a2 ?l2 ?c2 ?k2 ?a3 ?l3 ?c3 ?k3 ?a4 ?l4 ?c4 ?k4 ?a5 ?l5 ?c5 ?k5 ?a6 ?l6 ?c6 ?k6 ?a7 ?l7 ?c7 ?k7 ?a8 ?l8 ?c8 ?k8 ?a9 ?l9 ?c9 ?k9 ?a10 ?l10 ?c10 ?k10 ?a11 ?l11 ?c11 ?k11 ?a12 ?l12 ?c12 ?k12 ?a13 ?l13 ?c13 ?k13 ?a14 ?l14 ?c14 ?k14 ?a15 ?l15 ?c15 ?k15 ?zint ?zisinstance ?zbool ?zlen ?ztuple ?zlist ?zmax ?zrange ?zmin ?zrepr ?kIN_ONE
    (case a0 => k_is)
    (case l0 => k_is)
    (case c0 => k_is)
    (case k0 => k_is)
    (case a1 => k_is)
    (case l1 => k_is)
    (case c1 => k_is)
    (case k1 => k_is)
    (case a2 => k_is)
    (case l2 => k_is)
    (case c2 => k_is)
    (case k2 => k_is)
    (case a3 => k_is)
    (case l3 => k_is)
    (case c3 => k_is)
    (case k3 => k_is)
    (case a4 => k_is)
    (case l4 => k_is)
    (case c4 => k_is)
    (case k4 => k_is)
    (case a5 => k_is)
    (case l5 => k_is)
    (case c5 => k_is)
    (case k5 => k_is)
    (case a6 => k_is)
    (case l6 => k_is)
    (case c6 => k_is)
    (case k6 => k_is)
    (case a7 => k_is)
    (case l7 => k_is)
    (case c7 => k_is)
    (case k7 => k_is)
    (case a8 => k_is)
    (case l8 => k_is)
    (case c8 => k_is)
    (case k8 => k_is)
    (case a9 => k_is)
    (case l9 => k_is)
    (case c9 => k_is)
    (case k9 => k_is)
    (case a10 => k_is)
    (case l10 => k_is)
    (case c10 => k_is)
    (case k10 => k_is)
    (case a11 => k_is)
    (case l11 => k_is)
    (case c11 => k_is)
    (case k11 => k_is)
    (case a12 => k_is)
    (case l12 => k_is)
    (case c12 => k_is)
    (case k12 => k_is)
    (case a13 => k_is)
    (case l13 => k_is)
    (case c13 => k_is)
    (case k13 => k_is)
    (case a14 => k_is)
    (case l14 => k_is)
    (case c14 => k_is)
    (case k14 => k_is)
    (case a15 => k_is)
    (case l15 => k_is)
    (case c15 => k_is)
    (case k15 => k_is)
    (case zint => k_is)
    (case zisinstance => k_is)
    (case zbool => k_is)
    (case zlen => k_is)
    (case ztuple => k_is)
    (case zlist => k_is)
    (case zmax => k_is)
    (case zrange => k_is)
    (case zmin => k_is)
    (case zrepr => k_is)
    (case kIN_ONE => k_is)
