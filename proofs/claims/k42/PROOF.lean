import PyProof.Rows.All
import Wide.All
import OpenK.AllK
import Wide.FinOn
import HandS.ForMost
import HandS.Walk
import HandS.Star
import HandS.Conv
import HandS.IsInst
import HandS.Deep
import HandS.Flow
import HandS.Zip
import KE.GoesEnum
import HandS.TupAny
import HandS.TupMul
import PyProof.P3In
import HandS.Codes
import HandS.ClsMeth
import HandS.Property
import HandS.MakeKw
import HandS.OwnEq
import HandS.FStr
import PyProof.InstNe
import HandS.More
import HandS.Style
import HandS.Head0
import HandS.Head1
import HandS.Head2
import HandS.HeadEnd
import HandS.HeadHook1
import HandS.HeadHook2
import HandS.HeadNt
import PySem.Challenge.RW_splitsent_k42_senders_made
set_option Elab.async false
set_option linter.all false
set_option maxRecDepth 100000
set_option maxHeartbeats 20000000
namespace Itp
open PySem L2
/-- values as trees; loc: an object of the store -/
inductive D where
  | non | bl (b : Bool) | int (i : Int) | str (x : Str)
  | lst (xs : List D) | tup (xs : List D)
  | obj (c : Nat) (ns : List Nat) (ds : List D)
  | loc (n : Nat)
  | scr (xs : List Int)
  | cls (c : Nat)
  | dK (ks : List Key) (vs : List D)
  | dT (ks : List (List Key)) (vs : List D)
  deriving Inhabited
/-- what the store holds -/
inductive SO where
  | lst (xs : List D) | ins (c : Nat) (ns : List Nat) (ds : List D) | dead
  | dK (ks : List Key) (vs : List D) | dT (ks : List (List Key)) (vs : List D)
  deriving Inhabited
abbrev Sto := List SO
abbrev Gm := List (Option D)
/-- the end of an expression -/
inductive Out (β : Type) where
  | ok (b : β) (S : Sto) | exc (c : Nat) (ds : List D) (S : Sto) | bad
@[reducible] def Out.bind {β δ : Type} (o : Out β) (k : β → Sto → Out δ) : Out δ := match o with
  | .ok b S => k b S
  | .exc c ds S => .exc c ds S
  | .bad => .bad
/-- texts that may be -/
def okS (x : Str) : Bool := x.cps.all (· < 0x110000) && decide (x.length ≤ 16777216)
/-- where the program's things stand -/
structure Gb where
  nc : Nat
  cA : Nat → Addr
  fA : Nat → Addr
  nm : Nat → Str
  sub : Nat → Nat → Bool
section
variable (K : PySem.W.Frag) (g : Gb) (α : Nat → Option Addr) (F : Hp)
mutual
def Rep : D → V → Prop
  | .non, v => v = .non
  | .bl b, v => v = .bl b
  | .int i, v => v = .int i
  | .str x, v => v = .str x ∧ okS x = true
  | .lst xs, v => ∃ a vs, v = .ref a ∧ F a = some (.lst vs) ∧ Reps xs vs
  | .tup xs, v => ∃ a vs, v = .ref a ∧ F a = some (.tup vs) ∧ Reps xs vs
  | .obj c ns ds, v => ∃ a dx vs, v = .ref a ∧ F a = some (.ins (g.cA c) dx ((ns.map g.nm).zip vs)) ∧ (ns.length = ds.length ∧ c < g.nc) ∧ Reps ds vs
  | .loc n, v => ∃ a, v = .ref a ∧ α n = some a
  | .scr ns, v => ∃ a, v = .ref a ∧ SqL K F a (ns.map V.int)
  | .cls c, v => v = .ref (g.cA c) ∧ c < g.nc
  | .dK ks ds, v => ∃ a vs, v = .ref a ∧ F a = some (.dK (ks.zip vs)) ∧ ks.length = ds.length ∧ Reps ds vs
  | .dT ks ds, v => ∃ a vs, v = .ref a ∧ F a = some (.dT (ks.zip vs)) ∧ ks.length = ds.length ∧ Reps ds vs
def Reps : List D → List V → Prop
  | [], vs => vs = []
  | d :: ds, vs => ∃ v r, vs = v :: r ∧ Rep d v ∧ Reps ds r
end
def SOk (H : Hp) (n : Nat) : SO → Prop
  | .lst xs => ∃ a vs, α n = some a ∧ F a = none ∧ H a = some (.lst vs) ∧ Reps K g α F xs vs
  | .ins c ns ds => ∃ a dx vs, α n = some a ∧ F a = none ∧ H a = some (.ins (g.cA c) dx ((ns.map g.nm).zip vs)) ∧ (ns.length = ds.length ∧ c < g.nc) ∧ Reps K g α F ds vs
  | .dead => True
  | .dK ks ds => ∃ a vs, α n = some a ∧ F a = none ∧ H a = some (.dK (ks.zip vs)) ∧ ks.length = ds.length ∧ Reps K g α F ds vs
  | .dT ks ds => ∃ a vs, α n = some a ∧ F a = none ∧ H a = some (.dT (ks.zip vs)) ∧ ks.length = ds.length ∧ Reps K g α F ds vs
structure World (K : PySem.W.Frag) (g : Gb) (R : Hp) (α : Nat → Option Addr) (F : Hp) (S : Sto) (H : Hp) : Prop where
  fz : ∀ a o, F a = some o → H a = some o
  st : ∀ n o, S[n]? = some o → SOk K g α F H n o
  inj : ∀ n m a, α n = some a → α m = some a → n = m
  occ : ∀ n a, α n = some a → H a ≠ none
  bd : ∀ n, S.length ≤ n → α n = none
  fr : ∀ a o, R a = some o → H a = some o ∧ F a = none ∧ ∀ n, α n ≠ some a
end
structure Ext (α : Nat → Option Addr) (F : Hp) (α' : Nat → Option Addr) (F' : Hp) : Prop where
  al : ∀ n a, α n = some a → α' n = some a
  fr : ∀ a o, F a = some o → F' a = some o
section
variable {K : PySem.W.Frag} {g : Gb} {α α' α'' : Nat → Option Addr} {F F' F'' H H' R : Hp} {S : Sto}
theorem Ext.refl : Ext α F α F := ⟨fun _ _ h => h, fun _ _ h => h⟩
theorem Ext.trans (a : Ext α F α' F') (b : Ext α' F' α'' F'') : Ext α F α'' F'' := ⟨fun n x h => b.al n x (a.al n x h), fun n x h => b.fr n x (a.fr n x h)⟩
theorem Rd.mono {a : Addr} {u : HO} (e : ∀ a o, F a = some o → F' a = some o) (h : Rd F a u) : Rd F' a u := by
  rcases h with h | ⟨o, h⟩
  · exact .inl (e _ _ h)
  · exact .inr ⟨o, e _ _ h⟩
theorem SqL.mono' {a : Addr} {vs : List V} (e : ∀ a o, F a = some o → F' a = some o) (h : SqL K F a vs) : SqL K F' a vs := h.imp (Rd.mono e) id
theorem SqT.mono' {a : Addr} {vs : List V} (e : ∀ a o, F a = some o → F' a = some o) (h : SqT K F a vs) : SqT K F' a vs := h.imp (Rd.mono e) id
mutual
theorem Rep.mono (e : Ext α F α' F') : ∀ (d : D) (v : V), Rep K g α F d v → Rep K g α' F' d v
  | .non, v, h => h
  | .bl b, v, h => h
  | .int i, v, h => h
  | .str x, v, h => h
  | .lst xs, v, h => by
    obtain ⟨a, vs, e1, h1, h2⟩ := h
    exact ⟨a, vs, e1, e.fr _ _ h1, Reps.mono e xs vs h2⟩
  | .tup xs, v, h => by
    obtain ⟨a, vs, e1, h1, h2⟩ := h
    exact ⟨a, vs, e1, e.fr _ _ h1, Reps.mono e xs vs h2⟩
  | .obj c ns ds, v, h => by
    obtain ⟨a, dx, vs, e1, h1, hl, h2⟩ := h
    exact ⟨a, dx, vs, e1, e.fr _ _ h1, hl, Reps.mono e ds vs h2⟩
  | .loc n, v, h => by
    obtain ⟨a, e1, h1⟩ := h
    exact ⟨a, e1, e.al _ _ h1⟩
  | .scr ns, v, h => by
    obtain ⟨a, e1, h1⟩ := h
    exact ⟨a, e1, SqL.mono' e.fr h1⟩
  | .cls c, v, h => h
  | .dK ks ds, v, h => by
    obtain ⟨a, vs, e1, h1, hl, h2⟩ := h
    exact ⟨a, vs, e1, e.fr _ _ h1, hl, Reps.mono e ds vs h2⟩
  | .dT ks ds, v, h => by
    obtain ⟨a, vs, e1, h1, hl, h2⟩ := h
    exact ⟨a, vs, e1, e.fr _ _ h1, hl, Reps.mono e ds vs h2⟩
theorem Reps.mono (e : Ext α F α' F') : ∀ (ds : List D) (vs : List V), Reps K g α F ds vs → Reps K g α' F' ds vs
  | [], vs, h => h
  | d :: ds, vs, h => by
    obtain ⟨v, r, e1, h1, h2⟩ := h
    exact ⟨v, r, e1, Rep.mono e d v h1, Reps.mono e ds r h2⟩
end
theorem Reps.length : ∀ {ds : List D} {vs : List V}, Reps K g α F ds vs → ds.length = vs.length
  | [], vs, h => by cases h; rfl
  | d :: ds, vs, h => by
    obtain ⟨v, r, e1, h1, h2⟩ := h
    subst e1
    simp [Reps.length h2]
theorem Reps.get : ∀ {ds : List D} {vs : List V} {i : Nat} {d : D}, Reps K g α F ds vs → ds[i]? = some d → ∃ v, vs[i]? = some v ∧ Rep K g α F d v
  | [], vs, i, d, h, q => by simp at q
  | d :: ds, vs, 0, d', h, q => by
    obtain ⟨v, r, e1, h1, h2⟩ := h
    subst e1
    simp at q; subst q
    exact ⟨v, rfl, h1⟩
  | d :: ds, vs, i + 1, d', h, q => by
    obtain ⟨v, r, e1, h1, h2⟩ := h
    subst e1
    simp at q
    obtain ⟨w, a, b⟩ := Reps.get h2 q
    exact ⟨w, by simpa using a, b⟩
theorem Reps.app : ∀ {ds es : List D} {vs ws : List V}, Reps K g α F ds vs → Reps K g α F es ws → Reps K g α F (ds ++ es) (vs ++ ws)
  | [], _, _, _, h, h' => by cases h; exact h'
  | d :: ds, es, vs, ws, h, h' => by
    obtain ⟨v, r, e1, h1, h2⟩ := h
    subst e1
    exact ⟨v, r ++ ws, rfl, h1, Reps.app h2 h'⟩
theorem Reps.drop : ∀ {ds : List D} {vs : List V} (n : Nat), Reps K g α F ds vs → Reps K g α F (ds.drop n) (vs.drop n)
  | ds, vs, 0, h => h
  | [], vs, n + 1, h => by cases h; rfl
  | d :: ds, vs, n + 1, h => by
    obtain ⟨v, r, e1, h1, h2⟩ := h
    subst e1
    exact Reps.drop n h2
theorem Reps.take : ∀ {ds : List D} {vs : List V} (n : Nat), Reps K g α F ds vs → Reps K g α F (ds.take n) (vs.take n)
  | ds, vs, 0, h => rfl
  | [], vs, n + 1, h => by cases h; rfl
  | d :: ds, vs, n + 1, h => by
    obtain ⟨v, r, e1, h1, h2⟩ := h
    subst e1
    exact ⟨v, r.take n, rfl, h1, Reps.take n h2⟩
theorem Reps.set : ∀ {ds : List D} {vs : List V} (n : Nat) {d : D} {v : V}, Reps K g α F ds vs → Rep K g α F d v → Reps K g α F (ds.set n d) (vs.set n v)
  | [], vs, n, d, v, h, _ => by cases h; rfl
  | _ :: ds, vs, 0, d, v, h, h' => by
    obtain ⟨w, r, e1, h1, h2⟩ := h
    subst e1
    exact ⟨v, r, rfl, h', h2⟩
  | _ :: ds, vs, n + 1, d, v, h, h' => by
    obtain ⟨w, r, e1, h1, h2⟩ := h
    subst e1
    exact ⟨w, r.set n v, rfl, h1, Reps.set n h2 h'⟩
theorem World.sqL (w : World K g R α F S H) {a : Addr} {vs : List V} (h : SqL K F a vs) : SqL K H a vs := SqL.mono' w.fz h
theorem World.sqT (w : World K g R α F S H) {a : Addr} {vs : List V} (h : SqT K F a vs) : SqT K H a vs := SqT.mono' w.fz h
theorem SOk.mono {n : Nat} {o : SO} (e : Ext α F α' F') (hn : ∀ a, α n = some a → F' a = none ∧ H' a = H a) (h : SOk K g α F H n o) : SOk K g α' F' H' n o := by
  cases o with
  | lst xs =>
    obtain ⟨a, vs, h1, h2, h3, h4⟩ := h
    exact ⟨a, vs, e.al _ _ h1, (hn a h1).1, (hn a h1).2.trans h3, Reps.mono e _ _ h4⟩
  | ins c ns ds =>
    obtain ⟨a, dx, vs, h1, h2, h3, hl, h4⟩ := h
    exact ⟨a, dx, vs, e.al _ _ h1, (hn a h1).1, (hn a h1).2.trans h3, hl, Reps.mono e _ _ h4⟩
  | dead => trivial
  | dK ks ds =>
    obtain ⟨a, vs, h1, h2, h3, hl, h4⟩ := h
    exact ⟨a, vs, e.al _ _ h1, (hn a h1).1, (hn a h1).2.trans h3, hl, Reps.mono e _ _ h4⟩
  | dT ks ds =>
    obtain ⟨a, vs, h1, h2, h3, hl, h4⟩ := h
    exact ⟨a, vs, e.al _ _ h1, (hn a h1).1, (hn a h1).2.trans h3, hl, Reps.mono e _ _ h4⟩
theorem World.fnone (w : World K g R α F S H) {p : Addr} (hp : H p = none) : F p = none := by
  cases q : F p with
  | none => rfl
  | some o => have := w.fz p o q; rw [hp] at this; cases this
/-- a frozen object is laid -/
theorem World.lay (w : World K g R α F S H) {p : Addr} {o : HO} (hp : H p = none) : World K g R α (upd F p o) S (upd H p o) ∧ Ext α F α (upd F p o) := by
  have e : Ext α F α (upd F p o) := ⟨fun _ _ h => h, fun a u h => by rw [upd_ne]; exact h; intro z; subst z; rw [w.fnone hp] at h; cases h⟩
  have np : ∀ n a, α n = some a → a ≠ p := fun n a h z => w.occ n a h (by rw [z]; exact hp)
  refine ⟨⟨fun a u h => ?_, fun n u h => ?_, w.inj, fun n a h => ?_, w.bd, fun a u h => ?_⟩, e⟩
  · by_cases q : a = p
    · subst q; rw [upd_same] at h ⊢; exact h
    · rw [upd_ne q] at h ⊢; exact w.fz a u h
  · have k := w.st n u h
    cases u with
    | lst xs =>
      obtain ⟨a, vs, h1, h2, h3, h4⟩ := k
      exact ⟨a, vs, h1, by rw [upd_ne (np n a h1)]; exact h2, by rw [upd_ne (np n a h1)]; exact h3, Reps.mono e _ _ h4⟩
    | ins c ns ds =>
      obtain ⟨a, dx, vs, h1, h2, h3, hl, h4⟩ := k
      exact ⟨a, dx, vs, h1, by rw [upd_ne (np n a h1)]; exact h2, by rw [upd_ne (np n a h1)]; exact h3, hl, Reps.mono e _ _ h4⟩
    | dead => trivial
    | dK ks ds =>
      obtain ⟨a, vs, h1, h2, h3, hl, h4⟩ := k
      exact ⟨a, vs, h1, by rw [upd_ne (np n a h1)]; exact h2, by rw [upd_ne (np n a h1)]; exact h3, hl, Reps.mono e _ _ h4⟩
    | dT ks ds =>
      obtain ⟨a, vs, h1, h2, h3, hl, h4⟩ := k
      exact ⟨a, vs, h1, by rw [upd_ne (np n a h1)]; exact h2, by rw [upd_ne (np n a h1)]; exact h3, hl, Reps.mono e _ _ h4⟩
  · rw [upd_ne (np n a h)]; exact w.occ n a h
  · obtain ⟨h1, h2, h3⟩ := w.fr a u h
    have z : a ≠ p := fun z => by rw [z, hp] at h1; cases h1
    exact ⟨by rw [upd_ne z]; exact h1, by rw [upd_ne z]; exact h2, h3⟩
/-- an object that nobody looks at is laid -/
theorem World.idle (w : World K g R α F S H) {p : Addr} {o : HO} (hp : H p = none) : World K g R α F S (upd H p o) := by
  have np : ∀ n a, α n = some a → a ≠ p := fun n a h z => w.occ n a h (by rw [z]; exact hp)
  refine ⟨fun a u h => ?_, fun n u h => ?_, w.inj, fun n a h => ?_, w.bd, fun a u h => ?_⟩
  · rw [upd_ne]; exact w.fz a u h; intro z; subst z; rw [w.fnone hp] at h; cases h
  · have k := w.st n u h
    cases u with
    | lst xs =>
      obtain ⟨a, vs, h1, h2, h3, h4⟩ := k
      exact ⟨a, vs, h1, h2, by rw [upd_ne (np n a h1)]; exact h3, h4⟩
    | ins c ns ds =>
      obtain ⟨a, dx, vs, h1, h2, h3, hl, h4⟩ := k
      exact ⟨a, dx, vs, h1, h2, by rw [upd_ne (np n a h1)]; exact h3, hl, h4⟩
    | dead => trivial
    | dK ks ds =>
      obtain ⟨a, vs, h1, h2, h3, hl, h4⟩ := k
      exact ⟨a, vs, h1, h2, by rw [upd_ne (np n a h1)]; exact h3, hl, h4⟩
    | dT ks ds =>
      obtain ⟨a, vs, h1, h2, h3, hl, h4⟩ := k
      exact ⟨a, vs, h1, h2, by rw [upd_ne (np n a h1)]; exact h3, hl, h4⟩
  · rw [upd_ne (np n a h)]; exact w.occ n a h
  · obtain ⟨h1, h2, h3⟩ := w.fr a u h
    have z : a ≠ p := fun z => by rw [z, hp] at h1; cases h1
    exact ⟨by rw [upd_ne z]; exact h1, h2, h3⟩
/-- the address of a new object of the store -/
def pushA (α : Nat → Option Addr) (n : Nat) (p : Addr) : Nat → Option Addr := fun m => if m = n then some p else α m
theorem World.push_ext (w : World K g R α F S H) {p : Addr} : Ext α F (pushA α S.length p) F :=
  ⟨fun n a h => (by
    unfold pushA
    rw [if_neg]; exact h
    intro z; subst z; rw [w.bd _ (Nat.le_refl _)] at h; cases h), fun _ _ h => h⟩
/-- an object of the store is laid -/
theorem World.push (w : World K g R α F S H) {p : Addr} {o : HO} {so : SO} (hp : H p = none) (ho : SOk K g (pushA α S.length p) F (upd H p o) S.length so) :
    World K g R (pushA α S.length p) F (S ++ [so]) (upd H p o) := by
  have np : ∀ n a, α n = some a → a ≠ p := fun n a h z => w.occ n a h (by rw [z]; exact hp)
  have e := w.push_ext (p := p)
  refine ⟨fun a u h => ?_, fun n u h => ?_, fun n m a h h' => ?_, fun n a h => ?_, fun n h => ?_, fun a u h => ?_⟩
  · rw [upd_ne]; exact w.fz a u h; intro z; subst z; rw [w.fnone hp] at h; cases h
  · by_cases q : n < S.length
    · rw [List.getElem?_append_left q] at h
      have k := w.st n u h
      cases u with
      | lst xs =>
        obtain ⟨a, vs, h1, h2, h3, h4⟩ := k
        exact ⟨a, vs, e.al _ _ h1, h2, by rw [upd_ne (np n a h1)]; exact h3, Reps.mono e _ _ h4⟩
      | ins c ns ds =>
        obtain ⟨a, dx, vs, h1, h2, h3, hl, h4⟩ := k
        exact ⟨a, dx, vs, e.al _ _ h1, h2, by rw [upd_ne (np n a h1)]; exact h3, hl, Reps.mono e _ _ h4⟩
      | dead => trivial
      | dK ks ds =>
        obtain ⟨a, vs, h1, h2, h3, hl, h4⟩ := k
        exact ⟨a, vs, e.al _ _ h1, h2, by rw [upd_ne (np n a h1)]; exact h3, hl, Reps.mono e _ _ h4⟩
      | dT ks ds =>
        obtain ⟨a, vs, h1, h2, h3, hl, h4⟩ := k
        exact ⟨a, vs, e.al _ _ h1, h2, by rw [upd_ne (np n a h1)]; exact h3, hl, Reps.mono e _ _ h4⟩
    · have q' : S.length ≤ n := Nat.le_of_not_lt q
      rw [List.getElem?_append_right q'] at h
      have z : n - S.length = 0 := by
        by_cases z : n - S.length = 0
        · exact z
        · rw [List.getElem?_eq_none (by simp; omega)] at h; cases h
      rw [z] at h
      have h : so = u := by simpa using h
      subst h
      have : n = S.length := by omega
      subst this
      exact ho
  · unfold pushA at h h'
    by_cases q : n = S.length <;> by_cases q' : m = S.length
    · rw [q, q']
    · rw [if_pos q] at h; rw [if_neg q'] at h'
      cases h
      exact absurd rfl (np m p h')
    · rw [if_neg q] at h; rw [if_pos q'] at h'
      cases h'
      exact absurd rfl (np n p h)
    · rw [if_neg q] at h; rw [if_neg q'] at h'
      exact w.inj n m a h h'
  · unfold pushA at h
    by_cases q : n = S.length
    · rw [if_pos q] at h; cases h; rw [upd_same]; exact Option.some_ne_none _
    · rw [if_neg q] at h; rw [upd_ne (np n a h)]; exact w.occ n a h
  · unfold pushA
    rw [List.length_append] at h
    have h : S.length + 1 ≤ n := h
    rw [if_neg (by omega)]
    exact w.bd n (by omega)
  · obtain ⟨h1, h2, h3⟩ := w.fr a u h
    have z : a ≠ p := fun z => by rw [z, hp] at h1; cases h1
    refine ⟨by rw [upd_ne z]; exact h1, h2, fun n e => ?_⟩
    unfold pushA at e
    by_cases q : n = S.length
    · rw [if_pos q] at e; exact z (Option.some.inj e).symm
    · rw [if_neg q] at e; exact h3 n e
/-- an object of the store is written -/
theorem World.write (w : World K g R α F S H) {n : Nat} {a : Addr} {o : HO} {so : SO} (ha : α n = some a) (hF : F a = none) (ho : SOk K g α F (upd H a o) n so) :
    World K g R α F (S.set n so) (upd H a o) := by
  have np : ∀ m b, m ≠ n → α m = some b → b ≠ a := fun m b hm h z => hm (w.inj m n a (z ▸ h) ha)
  refine ⟨fun b u h => ?_, fun m u h => ?_, w.inj, fun m b h => ?_, fun m h => w.bd m (by simpa using h), fun b u h => ?_⟩
  · rw [upd_ne]; exact w.fz b u h; intro z; subst z; rw [hF] at h; cases h
  · by_cases q : m = n
    · subst q
      by_cases hl : m < S.length
      · rw [List.getElem?_set_self hl] at h
        cases h
        exact ho
      · rw [List.getElem?_eq_none (by simpa using hl)] at h; cases h
    · rw [List.getElem?_set_ne (Ne.symm q)] at h
      have k := w.st m u h
      cases u with
      | lst xs =>
        obtain ⟨b, vs, h1, h2, h3, h4⟩ := k
        exact ⟨b, vs, h1, h2, by rw [upd_ne (np m b q h1)]; exact h3, h4⟩
      | ins c ns ds =>
        obtain ⟨b, dx, vs, h1, h2, h3, hl, h4⟩ := k
        exact ⟨b, dx, vs, h1, h2, by rw [upd_ne (np m b q h1)]; exact h3, hl, h4⟩
      | dead => trivial
      | dK ks ds =>
        obtain ⟨b, vs, h1, h2, h3, hl, h4⟩ := k
        exact ⟨b, vs, h1, h2, by rw [upd_ne (np m b q h1)]; exact h3, hl, h4⟩
      | dT ks ds =>
        obtain ⟨b, vs, h1, h2, h3, hl, h4⟩ := k
        exact ⟨b, vs, h1, h2, by rw [upd_ne (np m b q h1)]; exact h3, hl, h4⟩
  · by_cases q : b = a
    · subst q; rw [upd_same]; exact Option.some_ne_none _
    · rw [upd_ne q]; exact w.occ m b h
  · obtain ⟨h1, h2, h3⟩ := w.fr b u h
    exact ⟨by rw [upd_ne (fun z => h3 n (by rw [z]; exact ha))]; exact h1, h2, h3⟩
/-- an object of the store is frozen -/
theorem World.freeze (w : World K g R α F S H) {n : Nat} {a : Addr} {o : HO} (ha : α n = some a) (hF : F a = none) (ho : H a = some o) :
    World K g R α (upd F a o) (S.set n .dead) H ∧ Ext α F α (upd F a o) := by
  have np : ∀ m b, m ≠ n → α m = some b → b ≠ a := fun m b hm h z => hm (w.inj m n a (z ▸ h) ha)
  have e : Ext α F α (upd F a o) := ⟨fun _ _ h => h, fun b u h => by rw [upd_ne]; exact h; intro z; subst z; rw [hF] at h; cases h⟩
  refine ⟨⟨fun b u h => ?_, fun m u h => ?_, w.inj, w.occ, fun m h => w.bd m (by simpa using h), fun b u h => ?_⟩, e⟩
  · by_cases q : b = a
    · subst q; rw [upd_same] at h; rw [ho]; exact h
    · rw [upd_ne q] at h; exact w.fz b u h
  · by_cases q : m = n
    · subst q
      by_cases hl : m < S.length
      · rw [List.getElem?_set_self hl] at h
        cases h
        trivial
      · rw [List.getElem?_eq_none (by simpa using hl)] at h; cases h
    · rw [List.getElem?_set_ne (Ne.symm q)] at h
      have k := w.st m u h
      cases u with
      | lst xs =>
        obtain ⟨b, vs, h1, h2, h3, h4⟩ := k
        exact ⟨b, vs, h1, by rw [upd_ne (np m b q h1)]; exact h2, h3, Reps.mono e _ _ h4⟩
      | ins c ns ds =>
        obtain ⟨b, dx, vs, h1, h2, h3, hl, h4⟩ := k
        exact ⟨b, dx, vs, h1, by rw [upd_ne (np m b q h1)]; exact h2, h3, hl, Reps.mono e _ _ h4⟩
      | dead => trivial
      | dK ks ds =>
        obtain ⟨b, vs, h1, h2, h3, hl, h4⟩ := k
        exact ⟨b, vs, h1, by rw [upd_ne (np m b q h1)]; exact h2, h3, hl, Reps.mono e _ _ h4⟩
      | dT ks ds =>
        obtain ⟨b, vs, h1, h2, h3, hl, h4⟩ := k
        exact ⟨b, vs, h1, by rw [upd_ne (np m b q h1)]; exact h2, h3, hl, Reps.mono e _ _ h4⟩
  · obtain ⟨h1, h2, h3⟩ := w.fr b u h
    exact ⟨h1, by rw [upd_ne (fun z => h3 n (by rw [z]; exact ha))]; exact h2, h3⟩
end
end Itp
/-! enumerate over a tuple -/
namespace Itp
open PySem PySem.Spec PyProof.Rows L2
theorem meets_enumV {v : Value} {o : Obj} {H : Heap → Prop} (B : Begins v o H) :
    Meets (Builtin.«enumerate.__new__» ⟨[.type "enumerate", v], []⟩) (fun _ R s => H s.heap ∧
      R (.ok (.ret (.ref (s.heap.push o).objs.size))) { s with heap := (s.heap.push o).push { cls := .type "enumerate", data := .fields #[.none, .bool false, .ref s.heap.objs.size, rawInt 0, .none, .none] } }) :=
  .of_wp fun prog w A R s h => by
    obtain ⟨hp, g, d, tk, os⟩ := s; obtain ⟨h1, h⟩ := h
    have hsub := sub_enumerate
    have q1 : ∀ {A' : Around} {E : Value → Shared → Prop} {Q : Value → Shared → Prop}, Q (.ref hp.objs.size) ⟨hp.push o, g, d, tk, os⟩ → wpAny (model prog w) A' (pyIter v) Q E ⟨hp, g, d, tk, os⟩ :=
      fun q => B.iter prog w _ _ ⟨hp, g, d, tk, os⟩ _ h1 q
    wp_walk using q1
    refine wpAny_stack_any fun st => wpAny_pure ?_
    split
    · rename_i c _ _ _ _ _
      cases (c == Value.type "enumerate")
      · wp_walk using q1
        exact ⟨_, rfl, h⟩
      · wp_walk using q1
        exact ⟨_, rfl, h⟩
    · wp_walk using q1
      exact ⟨_, rfl, h⟩
section
variable {prog : Program} {w : PySem.World} {A : Around} {E : Value → Shared → Prop} {s : Shared}
theorem call_enumV {v : Value} {o : Obj} {H : Heap → Prop} {Q : Value → Shared → Prop} (B : Begins v o H) (h1 : H s.heap)
    (h : ∀ h', IsEnum h' (s.heap.objs.size + 1) s.heap.objs.size 0 .none → h'.get? s.heap.objs.size = some o → h'.objs.size = s.heap.objs.size + 2 →
      (∀ b o, s.heap.get? b = some o → h'.get? b = some o) → Q (.ref (s.heap.objs.size + 1)) { s with heap := h' }) :
    wpAny (model prog w) A (call (.type "enumerate") [v]) Q E s := by
  refine callType_new F.called_enumerate (by decide) (F.typeCall_enumerate_1 _) (F.newCall_enumerate_1 _) (fun obj => F.args_object_init_2 obj _) F.entry_enumerate_new
    (meets_enumV B) ⟨h1, ?_⟩
  have hz : (s.heap.push o).objs.size = s.heap.objs.size + 1 := Heap.size_push ..
  show _ ∧ _
  rw [hz]
  have he : IsEnum ((s.heap.push o).push { cls := .type "enumerate", data := .fields #[.none, .bool false, .ref s.heap.objs.size, rawInt 0, .none, .none] }) (s.heap.objs.size + 1) s.heap.objs.size 0 .none := by
    have := Heap.get?_push_size (s.heap.push o) (o := { cls := .type "enumerate", data := .fields #[.none, .bool false, .ref s.heap.objs.size, rawInt 0, .none, .none] }) rfl
    rw [hz] at this; exact this
  refine ⟨⟨_, he, rfl⟩, h _ he (Heap.get?_push_of_some _ (Heap.get?_push_size _ B.free)) (by rw [Heap.size_push, hz]) fun b o x => Heap.get?_push_of_some _ (Heap.get?_push_of_some _ x)⟩
end
/-- the tuple at a, each item in a new pair -/
def IteT (K : PySem.W.Frag) (a : Addr) : It :=
  ⟨fun i H => ∃ (xs : List V) (x : V), SqT K H a xs ∧ xs[i]? = some x, fun i H v H' => ∃ T x, v = .ref T ∧ H T = none ∧ H' = upd H T (.tup [.int (i : Nat), x]) ∧ ∀ xs, SqT K H a xs → xs[i]? = some x, fun i H => ∃ xs : List V, SqT K H a xs ∧ xs.length = i⟩
theorem turn_enumT {P : Program} {w : PySem.World} {K : PySem.W.Frag} {elts : List Expr} {kk : Nat} {tpos : Pos} (a e it : Addr) :
    Turn P w K (.Tuple elts kk tpos) (IteT K a) [e, it] e (fun i h => (∃ old, IsEnum h e it ((i : Nat) : Int) old) ∧ h.IsTupleIter it a i ∧ e ≠ it ∧ a ≠ it ∧ e ≠ a) where
  mem := by simp
  obj := fun i h st b hb => by
    obtain ⟨⟨old, he⟩, ⟨o, ho, hc, hd⟩, _⟩ := st
    have e' : b = e ∨ b = it := by simpa using hb
    rcases e' with z | z
    · rw [z]; exact ⟨_, he, fun v q => nomatch q⟩
    · rw [z]; exact ⟨o, ho, fun v q => by rw [hd] at q; cases q⟩
  keep := fun i h h' st k => let ⟨⟨old, he⟩, hi, hne⟩ := st; ⟨⟨old, k e (by simp) _ he⟩, hi.at fun o q => k it (by simp) o q, hne⟩
  item := by
    intro X hP hw hK hc i pins s σ H E I hf st hg
    subst hP hw hK
    obtain ⟨⟨old, he⟩, hit, hne, hai, hea⟩ := st
    obtain ⟨xs, x, hq, hx⟩ := hg
    obtain ⟨its, rv, p, hz⟩ := I.tuple hq
    obtain ⟨u, hu, ru⟩ := rv.get hx
    have hel : e < s.heap.objs.size := Heap.lt_size he
    have hil : it < s.heap.objs.size := by obtain ⟨_, q, _⟩ := hit; exact Heap.lt_size q
    have hlt : i < its.toArray.size := by
      have := (List.getElem?_eq_some_iff.mp hu).1
      simpa using this
    refine wpAny_pyNext_enum_itemD (Draws.tuple (A := X.A.in1) (show X.A.in1.handled = none from I.ok.hd hc) it a hai its.toArray) he ⟨hit, p⟩ hlt hne (by simp [hne, hea]) fun x' h' tk hP ho hit' hT hsz hk => ?_
    have ex : x' = u := by
      have : its[i]? = some x' := by simpa using hP
      rw [hu] at this
      exact (Option.some.inj this).symm
    subst ex
    refine ⟨_, rfl, wpAny_letOwnedTupleGo_enum (s := { s with heap := h', toks := tk + 1 }) ho fun h'' he' sb => ?_⟩
    have hT2 : h''.get? s.heap.objs.size = some { cls := .type "tuple", data := .seq #[.int i tk, x'] } := (sb.2 _ (Nat.ne_of_gt hel)).trans hT
    have new : ObjOk X.prog X.w (upd H s.heap.objs.size (.tup [.int (i : Nat), x])) h'' s.heap.objs.size (.tup [.int (i : Nat), x]) :=
      ⟨by show 2 ≤ sizeLine; decide, [.int i tk, x'], .cons ⟨_, rfl⟩ (.cons ru .nil), ⟨_, hT2, rfl, _, rfl⟩⟩
    have I1 : Inv X pins σ (upd H s.heap.objs.size (.tup [.int (i : Nat), x])) { s with heap := h'', toks := tk + 1 } :=
      I.turnedNew (ch := [e, it]) (fun b ob hb q => (sb.2 b (fun z => hb (by simp [z]))).trans (hk b ob (fun z => hb (by simp [z])) (fun z => hb (by simp [z])) q)) hf (Nat.le_refl _) new
    refine ⟨.ref s.heap.objs.size, _, I1, rfl, ⟨_, x, rfl, I.hok.fresh (Nat.le_refl _), rfl, fun ys hy => by rw [I.tuple_inj hy hq]; exact hx⟩, ⟨⟨x', ?_⟩, hit'.1.at fun o q => (sb.2 it (Ne.symm hne)).trans q, hne, hai, hea⟩, fun b hb => ?_⟩
    · have e1 : ((i + 1 : Nat) : Int) = (i : Int) + 1 := by omega
      rw [e1]; exact he'
    · have hb' : b < s.heap.objs.size := by
        have e' : b = e ∨ b = it := by simpa using hb
        rcases e' with z | z
        · rw [z]; exact hel
        · rw [z]; exact hil
      rw [upd_ne (Nat.ne_of_lt hb')]
      exact (hf b hb).1
  done := by
    intro X hP hw hK hc i pins s σ H E I hf st hg
    subst hP hw hK
    obtain ⟨⟨old, he⟩, hit, hne, hai, hea⟩ := st
    obtain ⟨xs, hq, hx⟩ := hg
    obtain ⟨its, rv, p, hz⟩ := I.tuple hq
    obtain ⟨f0, f1, f2, f3, f4, f5⟩ := hf it (by simp)
    have hl := rv.length
    have hn : i = its.toArray.size := by simp; omega
    exact wpAny_pyNext_enum_endD (n := its.toArray.size) (Draws.tuple (A := X.A.in1) (show X.A.in1.handled = none from I.ok.hd hc) it a hai its.toArray) he (by rw [← hn]; exact ⟨hit, p⟩) fun h' eb => ⟨rfl, I.turned (t' := s.toks) (fun b o hb q => eb b o hb q) f0 f1 f3 f4 f5⟩
  self := fun A i s Q E st h => let ⟨⟨_, he⟩, _⟩ := st; wpAny_pyIter_enum he h
def iEnumA (K : PySem.W.Frag) (ta : TA) : TI := fun σ H R => ta σ H fun vs H1 => ∃ a xs, vs = [.ref a] ∧ ((SqL K H1 a xs ∧ R (Ite K a) H1) ∨ (SqT K H1 a xs ∧ R (IteT K a) H1))
theorem pi_enumA {X : Cx} {e : Expr} {ta : TA} {p pos tpos : Pos} {elts : List Expr} {kk : Nat} (hg : Gl X "enumerate") (hm : X.mg "enumerate" = none) (ha : PA X [e] ta) (hs : starEach [e] X.env = [(false, eval e X.env)] := by rfl) :
    PI X (.Tuple elts kk tpos) (.Call (.Name "enumerate" p) [e] [] pos) (iEnumA X.K ta) := by
  refine ⟨fun pins s σ H R I h => ?_⟩
  refine Call_ (ld_blt I hg hm boot_enumerate (PyProof.Rows.callWith_type1 (thn (ha.run pos pins s σ H _ I h) fun us s1 ⟨vs, H1, I1, r1, q1⟩ => ?_) hs rfl))
  obtain ⟨a, xs, ex, hq⟩ := q1
  subst ex
  cases r1 with
  | cons r rr =>
    cases rr
    cases r
    have fp : ∀ b ∈ [s1.heap.objs.size + 1, s1.heap.objs.size], s1.heap.objs.size ≤ b := fun b hb => by
      have e' : b = s1.heap.objs.size + 1 ∨ b = s1.heap.objs.size := by simpa using hb
      rcases e' with z | z
      · rw [z]; exact Nat.le_add_right _ _
      · rw [z]; exact Nat.le_refl _
    rcases hq with ⟨hq, q⟩ | ⟨hq, q⟩
    · obtain ⟨its, rv, p', hz⟩ := I1.list hq
      refine call_enumerate_list p'.isList fun h' he hit hsz hk => wpAny_pyIter_enum he ?_
      have I2 : Inv X pins σ H1 { s1 with heap := h' } := I1.kept (t' := s1.toks) hk
      exact ⟨s1.heap.objs.size + 1, [s1.heap.objs.size + 1, s1.heap.objs.size], _, _, H1, rfl, I2, turn_enum a (s1.heap.objs.size + 1) s1.heap.objs.size, ⟨⟨.none, he⟩, hit, Nat.succ_ne_self _⟩, fun b hb => I1.fpOk (fp b hb) (I1.hok.fresh (fp b hb)), q⟩
    · obtain ⟨its, rv, p', hz⟩ := I1.tuple hq
      refine call_enumV (begins_tuple a its.toArray) p' fun h' he hit hsz hk => wpAny_pyIter_enum he ?_
      have I2 : Inv X pins σ H1 { s1 with heap := h' } := I1.kept (t' := s1.toks) hk
      have hal : a < s1.heap.objs.size := by obtain ⟨o, ho, _⟩ := p'; exact Heap.lt_size ho
      exact ⟨s1.heap.objs.size + 1, [s1.heap.objs.size + 1, s1.heap.objs.size], _, _, H1, rfl, I2, turn_enumT a (s1.heap.objs.size + 1) s1.heap.objs.size, ⟨⟨.none, he⟩, ⟨_, hit, rfl, rfl⟩, Nat.succ_ne_self _, Nat.ne_of_lt hal, Nat.ne_of_gt (Nat.lt_succ_of_lt hal)⟩, fun b hb => I1.fpOk (fp b hb) (I1.hok.fresh (fp b hb)), q⟩
end Itp
namespace Itp
open PySem L2
inductive BO where | add | sub | mul | fdiv | mod | pow
inductive CO where | eq | ne | lt | le | gt | ge | isN | notN | inn | nin
inductive Ty where | int | bool | str | list | tuple | own (c : Nat) (sb : List Nat)
inductive IK where | val | rng | enum | zip | keys | vals
inductive Tg where | name (i : Nat) | tup (ts : List Tg)
inductive BF where | len | int | list | tuple | all | any | str | range | max | min | sum | sorted | bool | max2 | min2 | lrng | lzip | lenD | listD
inductive BM where | join | append | insert | extend | count | index | clear | get
/-- what an attribute of a class is, if no field -/
inductive AK where | prp (f : Nat) | con (d : D) | fld
inductive OK where | eq | ne | len | repr | bool | add | sub
/-- where a parameter's value comes from -/
inductive Sc where | pos (j : Nat) | kw (j : Nat) | con (d : D) | rest
structure Plan where
  n : Nat
  rst : Bool
  src : List Sc
inductive E where
  | var (i : Nat)
  | non | bl (b : Bool) | int (i : Int) | str (x : Str)
  | gint (n : Str) (i : Int) | gstr (n : Str) (x : Str)
  | bin (o : BO) (a b : E) | neg (a : E) | not (a : E)
  | cmp (o : CO) (a b : E) | chn (o p : CO) (a b c : E)
  | bop (o : Bool) (es : List E) | ite (c a b : E)
  | tup (es : List E) | lst (t : Bool) (es : List E)
  | star (e : E)
  | trk (e : E)
  | nev
  | idx (a b : E) | slc (a : E) (lo hi : Option E) | rev (a : E)
  | isi (e : E) (t : Ty) | isT (e : E) (ts : List Ty)
  | bf (b : BF) (es : List E)
  | bm (m : BM) (e : E) (es : List E)
  | lc (tg : Tg) (own : List Nat) (k : IK) (its : List E) (ifs : List E) (e : E)
  | lc2 (tg : Tg) (own : List Nat) (k : IK) (its ifs : List E) (tg2 : Tg) (k2 : IK) (its2 ifs2 : List E) (e : E)
  | scl (srt : Bool) (tg : Tg) (own : List Nat) (k : IK) (its ifs : List E) (e : E)
  | scl2 (srt : Bool) (tg : Tg) (own : List Nat) (k : IK) (its ifs : List E) (tg2 : Tg) (k2 : IK) (its2 ifs2 : List E) (e : E)
  | dct (t T : Bool)
  | dct1 (t T : Bool) (ks vs : List E)
  | dcl (t T : Bool) (tg : Tg) (own : List Nat) (k : IK) (its ifs : List E) (ek ev : E)
  | frz (e : E)
  | call (f : Nat) (es kes : List E) (pl : Plan)
  | mk (t : Bool) (c f : Nat) (es kes : List E) (pl : Plan)
  | mkv (t : Bool) (e : E) (tb : List (Nat × Nat)) (es kes : List E) (pl : Plan)
  | mth (e : E) (m : Nat) (tb : List (Nat × Nat)) (es kes : List E) (pl : Plan)
  | cmt (c m f : Nat) (es kes : List E) (pl : Plan)
  | smt (c m f : Nat) (es kes : List E) (pl : Plan)
  | sup (m f : Nat) (es kes : List E) (pl : Plan)
  | att (e : E) (i : Nat) (tb : List (Nat × AK))
  | cst (c i : Nat) (d : D)
  | own (o : OK) (tb sb : List (Nat × Nat)) (es : List E)
  | fst (es : List E)
  | ink (neg : Bool) (a : E) (c i : Nat) (xs : List Str)
inductive St where
  | set (i : Nat) (e : E)
  | asg (tg : Tg) (e : E)
  | par (tgs : List Nat) (es : List E)
  | idx (o i e : E)
  | expr (e : E)
  | ret (e : E)
  | retN
  | pass
  | ifs (c : E) (a b : List St)
  | for (tg : Tg) (k : IK) (its : List E) (b : List St)
  | while (c : E) (b : List St)
  | never
  | flds (o : E) (cs : List Nat) (is : List Nat) (es : List E)
  | aug (i : Nat) (o : BO) (e : E)
  | augI (o i : E) (op : BO) (e : E)
  | cont
/-! ### values -/
def lstOf : D → Sto → Option (List D)
  | .lst xs, _ => some xs
  | .loc n, S => match S[n]? with
    | some (.lst xs) => some xs
    | _ => none
  | _, _ => none
def truD : D → Sto → Option Bool
  | .non, _ => some false
  | .bl b, _ => some b
  | .int i, _ => some (i != 0)
  | .str x, _ => some ((x.length : Int) != 0)
  | .lst xs, _ => some !xs.isEmpty
  | .tup xs, _ => some !xs.isEmpty
  | .loc n, S => match S[n]? with
    | some (.lst xs) => some !xs.isEmpty
    | _ => none
  | _, _ => none
def mapO {β : Type} (f : D → Option β) : List D → Option (List β)
  | [] => some []
  | d :: ds => match f d, mapO f ds with
    | some p, some ps => some (p :: ps)
    | _, _ => none
/-- as data, places read through the store -/
def toP (S : Sto) : Nat → D → Option PyData
  | 0, d => (match d with
    | .non => some .none
    | .bl b => some (.bool b)
    | .int i => some (.int i)
    | .str x => some (.str x)
    | _ => none)
  | n + 1, d => (match d with
    | .non => some .none
    | .bl b => some (.bool b)
    | .int i => some (.int i)
    | .str x => some (.str x)
    | .lst xs => (mapO (toP S n) xs).map .list
    | .tup xs => (mapO (toP S n) xs).map .tuple
    | .loc m => (match S[m]? with
      | some (.lst xs) => (mapO (toP S n) xs).map .list
      | _ => none)
    | _ => none)
def toPs (S : Sto) (n : Nat) (ds : List D) : Option (List PyData) := mapO (toP S n) ds
/-! keys of dicts -/
def keyOf : D → Option Key
  | .int i => some (.inl i)
  | .str x => some (.inr x)
  | _ => none
def tkeyOf : D → Option (List Key)
  | .tup xs => mapO keyOf xs
  | _ => none
section
variable {κ : Type} [DecidableEq κ]
def lookD : List κ → List D → κ → Option D
  | k :: ks, v :: vs, q => if k = q then some v else lookD ks vs q
  | _, _, _ => none
/-- in its place, or at the end -/
def putD (ks : List κ) (vs : List D) (q : κ) (v : D) : List κ × List D :=
  if q ∈ ks then (ks, (ks.zip vs).map fun p => if p.1 = q then v else p.2) else (ks ++ [q], vs ++ [v])
end
def dcK : D → Sto → Option (List Key × List D)
  | .dK ks vs, _ => some (ks, vs)
  | .loc n, S => match S[n]? with
    | some (.dK ks vs) => some (ks, vs)
    | _ => none
  | _, _ => none
def dcT : D → Sto → Option (List (List Key) × List D)
  | .dT ks vs, _ => some (ks, vs)
  | .loc n, S => match S[n]? with
    | some (.dT ks vs) => some (ks, vs)
    | _ => none
  | _, _ => none
/-- what a dict has at a key -/
def dget (d k : D) (S : Sto) : Option (Option D) := match dcK d S with
  | some (ks, vs) => (keyOf k).map fun q => lookD ks vs q
  | none => match dcT d S with
    | some (ks, vs) => (tkeyOf k).map fun q => lookD ks vs q
    | none => none
def kD : Key → D
  | .inl i => .int i
  | .inr x => .str x
def ktD (k : List Key) : D := .tup (k.map kD)
def ofO {β : Type} (o : Option β) (S : Sto) : Out β := match o with
  | some b => .ok b S
  | none => .bad
def eqD (a b : D) (S : Sto) : Option Bool := match toP S 20 a, toP S 20 b with
  | some p, some q => some (PyData.eqv p q)
  | _, _ => none
def inD (a : D) (b : D) (S : Sto) : Option Bool := match b with
  | .str z => match a with
    | .str x => if x.length = 1 then some (decide (x.cps.getD 0 0 ∈ z.cps.toList)) else none
    | _ => none
  | .tup ys => match toP S 19 a, toPs S 19 ys with
    | some p, some qs => some (qs.any fun z => PyData.eqv z p)
    | _, _ => none
  | b => match lstOf b S with
    | some ys => match toP S 19 a, toPs S 19 ys with
      | some p, some qs => some (qs.any fun z => PyData.eqv z p)
      | _, _ => none
    | none => (dget b a S).map (·.isSome)
def isNon : D → Bool
  | .non => true
  | _ => false
def cmpD : CO → D → D → Sto → Option Bool
  | .eq, a, b, S => eqD a b S
  | .ne, a, b, S => (eqD a b S).map (!·)
  | .lt, .int i, .int j, _ => some (decide (i < j))
  | .le, .int i, .int j, _ => some (decide (i ≤ j))
  | .gt, .int i, .int j, _ => some (decide (j < i))
  | .ge, .int i, .int j, _ => some (decide (j ≤ i))
  | .isN, a, .non, _ => some (isNon a)
  | .notN, a, .non, _ => some (!isNon a)
  | .inn, a, b, S => inD a b S
  | .nin, a, b, S => (inD a b S).map (!·)
  | _, _, _, _ => none
def c64 (i : Int) : Bool := decide (-(2 ^ 64) < i) && decide (i < 2 ^ 64)
def binD : BO → D → D → Sto → Option D
  | .add, .int i, .int j, _ => some (.int (i + j))
  | .sub, .int i, .int j, _ => some (.int (i - j))
  | .mul, .int i, .int j, _ => if c64 i || c64 j then some (.int (i * j)) else none
  | .fdiv, .int i, .int j, _ => if 0 < j ∧ j < 1073741824 then some (.int (i / j)) else none
  | .mod, .int i, .int j, _ => if 0 < j then some (.int (i % j)) else none
  | .pow, .int i, .int j, _ => if 0 ≤ j ∧ j ≤ 1000 ∧ i.natAbs < 2 ^ 64 then some (.int (i ^ j.toNat)) else none
  | .mul, .tup xs, .int n, _ => if xs.length ≤ 1000 ∧ 0 < xs.length ∧ 2 ≤ n ∧ n ≤ 1000 then some (.tup (List.replicate n.toNat xs).flatten) else none
  | .mul, .lst xs, .int n, _ => if xs.length * n.toNat ≤ 16777216 ∧ -(2 ^ 62) ≤ n ∧ n ≤ 16777216 then some (.lst (List.replicate n.toNat xs).flatten) else none
  | .add, .str a, .str b, _ => if a.length + b.length ≤ 16777216 then some (.str (a ++ b)) else none
  | .add, .tup xs, .tup ys, _ => if xs.length + ys.length ≤ 16777216 then some (.tup (xs ++ ys)) else none
  | .add, a, b, S => match lstOf a S, lstOf b S with
    | some xs, some ys => if xs.length + ys.length ≤ 16777216 then some (.lst (xs ++ ys)) else none
    | _, _ => none
  | _, _, _, _ => none
def atD (xs : List D) : D → Option D
  | .int i => atI xs i
  | _ => none
def idxD (a b : D) (S : Sto) : Option D := match a with
  | .str z => match b with
    | .int i => (atI z.cps.toList i).map fun c => .str ⟨#[c]⟩
    | _ => none
  | .tup xs => atD xs b
  | a => match lstOf a S with
    | some xs => atD xs b
    | none => (dget a b S).bind id
def cutD {β : Type} (xs : List β) (lo hi : Option Int) : List β := (xs.drop (HT.sIx xs.length 0 lo)).take (HT.sIx xs.length xs.length hi - HT.sIx xs.length 0 lo)
def slcD (a : D) (lo hi : Option Int) (S : Sto) : Option D := match a with
  | .str z => some (.str (cutS z lo hi))
  | .tup xs => some (.tup (cutD xs lo hi))
  | .scr ns => some (.lst ((cutD ns lo hi).map D.int))
  | a => (lstOf a S).map fun xs => .lst (cutD xs lo hi)
def revD (a : D) (S : Sto) : Option D := match a with
  | .tup xs => some (.tup xs.reverse)
  | a => (lstOf a S).map fun xs => .lst xs.reverse
inductive TK where | non | bl | int | str | lst | tup | obj (c : Nat)
def tkD : D → Sto → Option TK
  | .non, _ => some .non
  | .bl _, _ => some .bl
  | .int _, _ => some .int
  | .str _, _ => some .str
  | .lst _, _ => some .lst
  | .tup _, _ => some .tup
  | .obj c _ _, _ => some (.obj c)
  | .loc n, S => match S[n]? with
    | some (.lst _) => some .lst
    | some (.ins c _ _) => some (.obj c)
    | _ => none
  | .scr _, _ => none
  | .cls _, _ => none
  | .dK .., _ => none
  | .dT .., _ => none
def isK : TK → Ty → Bool
  | .bl, .int => true
  | .bl, .bool => true
  | .int, .int => true
  | .str, .str => true
  | .lst, .list => true
  | .tup, .tuple => true
  | .obj c, .own _ sb => sb.contains c
  | _, _ => false
def isD (d : D) (t : Ty) (S : Sto) : Option Bool := (tkD d S).map (isK · t)
def isAny (d : D) (ts : List Ty) (S : Sto) : Option Bool := (tkD d S).map fun k => ts.any (isK k)
def blsOf : List D → Option (List Bool)
  | [] => some []
  | .bl b :: r => (blsOf r).map (b :: ·)
  | _ => none
def strsOf : List D → Option (List Str)
  | [] => some []
  | .str b :: r => (strsOf r).map (b :: ·)
  | _ => none
def intsOf : List D → Option (List Int)
  | [] => some []
  | .int b :: r => (intsOf r).map (b :: ·)
  | _ => none
def maxL : List Int → Option Int
  | [] => none
  | x :: r => some (r.foldl max x)
def minL : List Int → Option Int
  | [] => none
  | x :: r => some (r.foldl min x)
/-! order of ints, texts and tuples of them -/
def ltS (a b : Str) : Bool := decide (a.cps.toList < b.cps.toList)
mutual
def ltD : Nat → D → D → Option Bool
  | _, .int i, .int j => some (decide (i < j))
  | _, .str x, .str y => some (ltS x y)
  | n + 1, .tup xs, .tup ys => ltDs n xs ys
  | _, _, _ => none
def ltDs : Nat → List D → List D → Option Bool
  | _, [], [] => some false
  | _, [], _ :: _ => some true
  | _, _ :: _, [] => some false
  | n, x :: xs, y :: ys => match ltD n x y, ltD n y x with
    | some true, some _ => some true
    | some false, some true => some false
    | some false, some false => (match n with
      | 0 => none
      | n + 1 => ltDs n xs ys)
    | _, _ => none
end
def insD (x : D) : List D → Option (List D)
  | [] => some [x]
  | y :: r => match ltD 40 x y with
    | some true => some (x :: y :: r)
    | some false => (insD x r).map (y :: ·)
    | none => none
def sortD : List D → Option (List D)
  | [] => some []
  | x :: r => (sortD r).bind (insD x)
/-- alike ones dropped -/
def dedD (ds : List D) (S : Sto) : Option (List D) := ds.foldl (fun acc x => acc.bind fun xs => match inD x (.lst xs) S with
  | some true => some xs
  | some false => some (xs ++ [x])
  | none => none) (some [])
def signs (x : Str) : List D := x.cps.toList.map fun c => .str ⟨#[c]⟩
def bfD : BF → List D → Sto → Option D
  | .len, [.str x], _ => some (.int x.length)
  | .len, [.tup xs], _ => some (.int xs.length)
  | .len, [a], S => (lstOf a S).map fun xs => .int xs.length
  | .lenD, [a], S => (match dcK a S with
    | some (ks, _) => some (.int ks.length)
    | none => (dcT a S).map fun p => .int p.1.length)
  | .int, [.int i], _ => some (.int i)
  | .list, [.tup xs], _ => some (.lst xs)
  | .list, [.str x], _ => some (.lst (signs x))
  | .list, [a], S => (lstOf a S).map .lst
  | .listD, [a], S => (match dcK a S with
    | some (ks, _) => some (.lst (ks.map kD))
    | none => (dcT a S).map fun p => .lst (p.1.map ktD))
  | .tuple, [.tup xs], _ => some (.tup xs)
  | .tuple, [a], S => (lstOf a S).map .tup
  | .all, [a], S => (lstOf a S).bind fun xs => (blsOf xs).map fun bs => .bl (bs.all id)
  | .any, [a], S => (lstOf a S).bind fun xs => (blsOf xs).map fun bs => .bl (bs.any id)
  | .str, [.int i], _ => if i.natAbs < 2 ^ 64 then some (.str (toString i)) else none
  | .max, [a], S => (lstOf a S).bind fun xs => (intsOf xs).bind fun ns => (maxL ns).map .int
  | .min, [a], S => (lstOf a S).bind fun xs => (intsOf xs).bind fun ns => (minL ns).map .int
  | .sum, [a], S => (lstOf a S).bind fun xs => (intsOf xs).map fun ns => .int ns.sum
  | .sorted, [.tup xs], _ => (sortD xs).map .lst
  | .sorted, [a], S => (lstOf a S).bind fun xs => (sortD xs).map .lst
  | .bool, [.bl b], _ => some (.bl b)
  | .bool, [.int i], _ => some (.bl (i != 0))
  | .max2, [.int i, .int j], _ => some (.int (max i j))
  | .min2, [.int i, .int j], _ => some (.int (min i j))
  | .lrng, [.int n], _ => if -(2 ^ 62) ≤ n ∧ n ≤ 16777216 then some (.lst ((List.range n.toNat).map fun (k : Nat) => .int (k : Int))) else none
  | .lzip, [a, b], S => (match lstOf a S, b with
    | some xs, .tup ys => some (.lst ((xs.zip ys).map fun p => .tup [p.1, p.2]))
    | some xs, b => (lstOf b S).map fun ys => .lst ((xs.zip ys).map fun p => .tup [p.1, p.2])
    | _, _ => none)
  | _, _, _ => none
/-- items of what is walked -/
def itD : IK → List D → Sto → Option (List D)
  | .val, [.tup xs], _ => some xs
  | .val, [.str x], _ => some (signs x)
  | .val, [.lst xs], _ => some xs
  | .rng, [.int n], _ => if -(2 ^ 62) ≤ n ∧ n ≤ 16777216 then some ((List.range n.toNat).map fun (k : Nat) => .int (0 + (k : Int))) else none
  | .rng, [.int a, .int b], _ => if -(2 ^ 62) ≤ a ∧ a < 2 ^ 62 ∧ -(2 ^ 62) ≤ b ∧ b < 2 ^ 62 ∧ b - a ≤ 16777216 then some ((List.range (b - a).toNat).map fun (k : Nat) => .int (a + (k : Int))) else none
  | .enum, [.tup xs], _ => some ((List.range xs.length).map fun (k : Nat) => .tup [.int (k : Int), xs.getD k .non])
  | .enum, [.lst xs], _ => some ((List.range xs.length).map fun (k : Nat) => .tup [.int (k : Int), xs.getD k .non])
  | .zip, [.lst xs, .lst ys], _ => some ((List.range (min xs.length ys.length)).map fun (k : Nat) => .tup [xs.getD k .non, ys.getD k .non])
  | .zip, [.tup xs, .tup ys], _ => some ((List.range (min xs.length ys.length)).map fun (k : Nat) => .tup [xs.getD k .non, ys.getD k .non])
  | .keys, [.dK ks _], _ => some (ks.map kD)
  | .keys, [.dT ks _], _ => some (ks.map ktD)
  | .keys, [.loc n], S => (match S[n]? with
    | some (.dK ks _) => some (ks.map kD)
    | some (.dT ks _) => some (ks.map ktD)
    | _ => none)
  | .vals, [.dK _ vs], _ => some vs
  | .vals, [.dT _ vs], _ => some vs
  | .vals, [.loc n], S => (match S[n]? with
    | some (.dK _ vs) => some vs
    | some (.dT _ vs) => some vs
    | _ => none)
  | _, _, _ => none
/-- the i-th item of what is walked and may change meanwhile -/
def liveD : IK → List D → Sto → Nat → Option (Option D)
  | .val, [d], S, i => (lstOf d S).map fun xs => xs[i]?
  | .enum, [d], S, i => (lstOf d S).map fun xs => xs[i]?.map fun x => .tup [.int i, x]
  | .zip, [a, b], S, i => (match lstOf a S, lstOf b S with
    | some xs, some ys => some (match xs[i]?, ys[i]? with
      | some x, some y => some (.tup [x, y])
      | _, _ => none)
    | _, _ => none)
  | _, _, _, _ => none
mutual
def setTg : Tg → D → Gm → Option Gm
  | .name i, d, γ => some (γ.set i (some d))
  | .tup ts, .tup ds, γ => if ts.length = ds.length then setTgs ts ds γ else none
  | .tup _, _, _ => none
def setTgs : List Tg → List D → Gm → Option Gm
  | [], [], γ => some γ
  | t :: ts, d :: ds, γ => match setTg t d γ with
    | some γ' => setTgs ts ds γ'
    | none => none
  | _, _, _ => none
end
def wipeG (γ : Gm) : List Nat → Gm
  | [] => γ
  | v :: vs => (wipeG γ vs).set v none
def srcD (n : Nat) (ds ks : List D) : Sc → Option D
  | .pos j => ds[j]?
  | .kw j => ks[j]?
  | .con d => some d
  | .rest => some (.tup (ds.drop n))
def bindS (n : Nat) (ds ks : List D) : List Sc → Option (List D)
  | [] => some []
  | c :: r => match srcD n ds ks c, bindS n ds ks r with
    | some d, some as => some (d :: as)
    | _, _ => none
def bindP (p : Plan) (ds ks : List D) : Option (List D) := if ds.length = p.n ∨ (p.rst = true ∧ p.n ≤ ds.length ∧ ds.length ≤ 16777216) then bindS p.n ds ks p.src else none
def bmOk : BM → D → Sto → Bool
  | .join, .str _, _ => true
  | .join, _, _ => false
  | .count, .tup _, _ => true
  | .index, .tup _, _ => true
  | .get, x, S => (dcK x S).isSome || (dcT x S).isSome
  | _, x, S => (lstOf x S).isSome
def eqAt (S : Sto) (x : D) (xs : List D) : Option (List Bool) := match toP S 19 x, toPs S 19 xs with
  | some p, some qs => some (qs.map fun z => PyData.eqv z p)
  | _, _ => none
/-- the methods of texts and lists -/
def bmD : BM → D → List D → Sto → Out D
  | .join, .str a, [l], S => (match lstOf l S with
    | some xs => (match strsOf xs with
      | some ys => if (ys.map (·.length)).sum + ys.length * a.length ≤ 16777216 then .ok (.str (Str.join a ys)) S else .bad
      | none => .bad)
    | none => .bad)
  | .append, .loc n, [d], S => (match S[n]? with
    | some (.lst xs) => if xs.length < 16777216 then .ok .non (S.set n (.lst (xs ++ [d]))) else .bad
    | _ => .bad)
  | .insert, .loc n, [.int i, d], S => (match S[n]? with
    | some (.lst xs) => if xs.length < 16777216 ∧ 0 ≤ i ∧ i ≤ xs.length then .ok .non (S.set n (.lst (xs.take i.toNat ++ d :: xs.drop i.toNat))) else .bad
    | _ => .bad)
  | .extend, .loc n, [x], S => (match S[n]?, (match x with | .tup ys => some ys | .lst ys => some ys | _ => none) with
    | some (.lst xs), some ys => if xs.length + ys.length ≤ 16777216 then .ok .non (S.set n (.lst (xs ++ ys))) else .bad
    | _, _ => .bad)
  | .clear, .loc n, [], S => (match S[n]? with
    | some (.lst _) => .ok .non (S.set n (.lst []))
    | _ => .bad)
  | .count, a, [d], S => (match (match a with | .tup ys => some ys | a => lstOf a S) with
    | some xs => (match eqAt S d xs with
      | some bs => .ok (.int (bs.filter id).length) S
      | none => .bad)
    | none => .bad)
  | .index, a, [d], S => (match (match a with | .tup ys => some ys | a => lstOf a S) with
    | some xs => (match eqAt S d xs with
      | some bs => (match bs.findIdx? id with
        | some i => .ok (.int i) S
        | none => .bad)
      | none => .bad)
    | none => .bad)
  | .get, a, [k, d], S => (match dget a k S with
    | some (some v) => .ok v S
    | some none => .ok d S
    | none => .bad)
  | _, _, _, _ => .bad
/-- an instance: its class, its fields -/
def insOf : D → Sto → Option (Nat × List Nat × List D)
  | .obj c ns ds, _ => some (c, ns, ds)
  | .loc n, S => match S[n]? with
    | some (.ins c ns ds) => some (c, ns, ds)
    | _ => none
  | _, _ => none
def fldOf (i : Nat) : List Nat → List D → Option D
  | n :: ns, d :: ds => if n = i then some d else fldOf i ns ds
  | _, _ => none
def putF (i : Nat) (v : D) : List Nat → List D → List Nat × List D
  | n :: ns, d :: ds => if n = i then (n :: ns, v :: ds) else (n :: (putF i v ns ds).1, d :: (putF i v ns ds).2)
  | _, _ => ([i], [v])
/-- what a star is opened to -/
def seqOf (x : D) (S : Sto) : Option (List D) := match x with
  | .tup xs => some xs
  | x => lstOf x S
/-- an object is made: its place, the call of its __init__, frozen or not -/
def mkD (cal : Nat → List D → Sto → Out D) (t : Bool) (c f : Nat) (pl : Plan) (ds ks : List D) (S : Sto) : Out D := match bindP pl (.loc S.length :: ds) ks with
  | some as => (cal f as (S ++ [.ins c [] []])).bind fun v S' => (match v with
    | .non => if t then .ok (.loc S.length) S' else (match S'[S.length]? with
      | some (.ins c ns ds) => .ok (.obj c ns ds) (S'.set S.length .dead)
      | _ => .bad)
    | _ => .bad)
  | none => .bad
def asBl (neg : Bool) : D → Sto → Out D
  | .bl b, S => .ok (.bl (b != neg)) S
  | _, _ => .bad
/-- == by an own __eq__ -/
def eqO (cal : Nat → List D → Sto → Out D) (neg : Bool) (tb sb : List (Nat × Nat)) (x y : D) (S : Sto) : Out D := match insOf x S with
  | some (c, _) => (match tkD y S with
    | some (.obj c') => if sb.contains (c, c') then (match tb.lookup c' with
        | some f => (cal f [y, x] S).bind (asBl neg)
        | none => .bad) else (match tb.lookup c with
        | some f => (cal f [x, y] S).bind (asBl neg)
        | none => .bad)
    | some _ => (match tb.lookup c with
        | some f => (cal f [x, y] S).bind (asBl neg)
        | none => .bad)
    | none => .bad)
  | none => .bad
def ownD (cal : Nat → List D → Sto → Out D) (o : OK) (tb sb : List (Nat × Nat)) (ds : List D) (S : Sto) : Out D := match o, ds with
  | .eq, [x, y] => eqO cal false tb sb x y S
  | .ne, [x, y] => eqO cal true tb sb x y S
  | .len, [x] => (match insOf x S with
    | some (c, _) => (match tb.lookup c with
      | some f => (cal f [x] S).bind fun v S => (match v with
        | .int i => if 0 ≤ i ∧ i < 2 ^ 63 then .ok (.int i) S else .bad
        | _ => .bad)
      | none => .bad)
    | none => .bad)
  | .repr, [x] => (match insOf x S with
    | some (c, _) => (match tb.lookup c with
      | some f => (cal f [x] S).bind fun v S => (match v with
        | .str z => .ok (.str z) S
        | _ => .bad)
      | none => .bad)
    | none => .bad)
  | .bool, [x] => (match insOf x S with
    | some (c, _) => (match tb.lookup c with
      | some f => (cal f [x] S).bind (asBl false)
      | none => .bad)
    | none => .bad)
  | .add, [x, y] => (match insOf x S with
    | some (c, _) => (match tb.lookup c with
      | some f => cal f [x, y] S
      | none => .bad)
    | none => .bad)
  | .sub, [x, y] => (match insOf x S with
    | some (c, _) => (match tb.lookup c with
      | some f => cal f [x, y] S
      | none => .bad)
    | none => .bad)
  | _, _ => .bad
/-- the parts of an f-string, put together -/
def fstD : List D → Str → Option Str
  | [], acc => some acc
  | .str y :: r, acc => if acc.length + y.length ≤ 16777216 then fstD r (acc ++ y) else none
  | .int i :: r, acc => if i.natAbs < 2 ^ 64 ∧ acc.length + Str.length (toString i) ≤ 16777216 then fstD r (acc ++ (toString i : Str)) else none
  | _, _ => none
/-! ### the evaluator -/
/-- a comprehension's turns -/
def loopC (turn : Gm → Sto → Out (Option D)) (tg : Tg) (γ : Gm) : List D → List D → Sto → Out (List D)
  | [], acc, S => .ok acc S
  | d :: r, acc, S => match setTg tg d γ with
    | none => .bad
    | some γ' => match turn γ' S with
      | .ok (some x) S' => loopC turn tg γ r (acc ++ [x]) S'
      | .ok none S' => loopC turn tg γ r acc S'
      | .exc .. => .bad
      | .bad => .bad
/-- .. over what is read anew at each turn -/
def loopCL (turn : Gm → Sto → Out (Option D)) (tg : Tg) (γ : Gm) (it : Sto → Nat → Option (Option D)) : Nat → Nat → List D → Sto → Out (List D)
  | 0, _, _, _ => .bad
  | n + 1, i, acc, S => match it S i with
    | none => .bad
    | some none => .ok acc S
    | some (some d) => match setTg tg d γ with
      | none => .bad
      | some γ' => match turn γ' S with
        | .ok (some x) S' => loopCL turn tg γ it n (i + 1) (acc ++ [x]) S'
        | .ok none S' => loopCL turn tg γ it n (i + 1) acc S'
        | .exc .. => .bad
        | .bad => .bad
/-- a comprehension's turns with a list for each -/
def loopC2 (turn : Gm → Sto → Out (List D)) (tg : Tg) (γ : Gm) : List D → List D → Sto → Out (List D)
  | [], acc, S => .ok acc S
  | d :: r, acc, S => match setTg tg d γ with
    | none => .bad
    | some γ' => match turn γ' S with
      | .ok xs S' => loopC2 turn tg γ r (acc ++ xs) S'
      | .exc .. => .bad
      | .bad => .bad
def noX {β : Type} (o : Out β) : Out β := match o with
  | .exc .. => .bad
  | o => o
/-- tracked -/
def trkD (d : D) (S : Sto) : Out D := match d with
  | .lst xs => .ok (.loc S.length) (S ++ [.lst xs])
  | .dK ks vs => .ok (.loc S.length) (S ++ [.dK ks vs])
  | .dT ks vs => .ok (.loc S.length) (S ++ [.dT ks vs])
  | _ => .bad
def frzD (d : D) (S : Sto) : Out D := match d with
  | .loc n => match S[n]? with
    | some (.lst xs) => .ok (.lst xs) (S.set n .dead)
    | some (.ins c ns ds) => .ok (.obj c ns ds) (S.set n .dead)
    | some (.dK ks vs) => .ok (.dK ks vs) (S.set n .dead)
    | some (.dT ks vs) => .ok (.dT ks vs) (S.set n .dead)
    | _ => .bad
  | _ => .bad
def attD (cal : Nat → List D → Sto → Out D) (i : Nat) (tb : List (Nat × AK)) (x : D) (S : Sto) : Out D := match insOf x S with
  | some (c, ns, ds) => (match tb.lookup c with
    | some (.prp f) => noX (cal f [x] S)
    | some (.con d) => if ns.contains i then .bad else .ok d S
    | some .fld => ofO (fldOf i ns ds) S
    | none => .bad)
  | none => .bad
/-- the pairs of a dict comprehension -/
def mkDct (T : Bool) : List D → List D → Sto → Option D
  | ks, vs, _ => if T then (mapO tkeyOf ks).map fun qs => let r := (qs.zip vs).foldl (fun (a : List (List Key) × List D) p => putD a.1 a.2 p.1 p.2) ([], []); .dT r.1 r.2
    else (mapO keyOf ks).map fun qs => let r := (qs.zip vs).foldl (fun (a : List Key × List D) p => putD a.1 a.2 p.1 p.2) ([], []); .dK r.1 r.2
section
variable (cal : Nat → List D → Sto → Out D)
mutual
def ev : E → Gm → Sto → Out D
  | .var i, γ, S => match γ[i]? with
    | some (some d) => .ok d S
    | _ => .bad
  | .non, _, S => .ok .non S
  | .bl b, _, S => .ok (.bl b) S
  | .int i, _, S => .ok (.int i) S
  | .str x, _, S => .ok (.str x) S
  | .gint _ i, _, S => .ok (.int i) S
  | .gstr _ x, _, S => .ok (.str x) S
  | .star _, _, _ => .bad
  | .nev, _, _ => .bad
  | .trk e, γ, S => (ev e γ S).bind trkD
  | .bin o a b, γ, S => (ev a γ S).bind fun x S => (ev b γ S).bind fun y S => ofO (binD o x y S) S
  | .neg a, γ, S => (ev a γ S).bind fun x S => match x with
    | .int i => .ok (.int (-i)) S
    | _ => .bad
  | .not a, γ, S => (ev a γ S).bind fun x S => match truD x S with
    | some b => .ok (.bl !b) S
    | none => .bad
  | .cmp o a b, γ, S => (ev a γ S).bind fun x S => (ev b γ S).bind fun y S => match cmpD o x y S with
    | some k => .ok (.bl k) S
    | none => .bad
  | .chn o p a b c, γ, S => (ev a γ S).bind fun x S => (ev b γ S).bind fun y S => match cmpD o x y S with
    | some true => (ev c γ S).bind fun z S => match cmpD p y z S with
      | some k => .ok (.bl k) S
      | none => .bad
    | some false => .ok (.bl false) S
    | none => .bad
  | .bop o es, γ, S => evB o es γ S
  | .ite c a b, γ, S => (ev c γ S).bind fun x S => match truD x S with
    | some true => ev a γ S
    | some false => ev b γ S
    | none => .bad
  | .tup es, γ, S => (evs es γ S).bind fun ds S => if ds.length ≤ 16777216 then .ok (.tup ds) S else .bad
  | .lst t es, γ, S => (evs es γ S).bind fun ds S => if ds.length ≤ 16777216 then (if t then .ok (.loc S.length) (S ++ [.lst ds]) else .ok (.lst ds) S) else .bad
  | .idx a b, γ, S => (ev a γ S).bind fun x S => (ev b γ S).bind fun y S => ofO (idxD x y S) S
  | .slc a lo hi, γ, S => (ev a γ S).bind fun x S => (evO lo γ S).bind fun l S => (evO hi γ S).bind fun h S => ofO (slcD x l h S) S
  | .rev a, γ, S => (ev a γ S).bind fun x S => ofO (revD x S) S
  | .isi e t, γ, S => (ev e γ S).bind fun x S => match isD x t S with
    | some b => .ok (.bl b) S
    | none => .bad
  | .isT e ts, γ, S => (ev e γ S).bind fun x S => match isAny x ts S with
    | some b => .ok (.bl b) S
    | none => .bad
  | .bf b es, γ, S => (evs es γ S).bind fun ds S => ofO (bfD b ds S) S
  | .bm m e es, γ, S => (ev e γ S).bind fun x S => if bmOk m x S then (evs es γ S).bind fun ds S => bmD m x ds S else .bad
  | .lc tg own k its ifs e, γ, S => (evs its γ S).bind fun ds S => match itD k ds S with
    | some xs => if xs.length ≤ 16777216 then (loopC (fun γ' S => match evF ifs γ' S with
        | .ok true S => (match ev e γ' S with | .ok d S => .ok (some d) S | _ => .bad)
        | .ok false S => .ok none S
        | _ => .bad) tg (wipeG γ own) xs [] S).bind fun ys S => .ok (.lst ys) S else .bad
    | none => (loopCL (fun γ' S => match evF ifs γ' S with
        | .ok true S => (match ev e γ' S with | .ok d S => .ok (some d) S | _ => .bad)
        | .ok false S => .ok none S
        | _ => .bad) tg (wipeG γ own) (liveD k ds) 16777217 0 [] S).bind fun ys S => .ok (.lst ys) S
  | .lc2 tg own k its ifs tg2 k2 its2 ifs2 e, γ, S => (evs its γ S).bind fun ds S => match itD k ds S with
    | some xs => if xs.length ≤ 16777216 then (loopC2 (fun γ' S => match evF ifs γ' S with
        | .ok true S => (match evs its2 γ' S with
          | .ok ds2 S => (match itD k2 ds2 S with
            | some ys => loopC (fun γ' S => match evF ifs2 γ' S with
              | .ok true S => (match ev e γ' S with | .ok d S => .ok (some d) S | _ => .bad)
              | .ok false S => .ok none S
              | _ => .bad) tg2 γ' ys [] S
            | none => .bad)
          | _ => .bad)
        | .ok false S => .ok [] S
        | _ => .bad) tg (wipeG γ own) xs [] S).bind fun ys S => if ys.length ≤ 16777216 then .ok (.lst ys) S else .bad else .bad
    | none => .bad
  | .scl srt tg own k its ifs e, γ, S => (evs its γ S).bind fun ds S => match itD k ds S with
    | some xs => if xs.length ≤ 16777216 then (loopC (fun γ' S => match evF ifs γ' S with
        | .ok true S => (match ev e γ' S with | .ok d S => .ok (some d) S | _ => .bad)
        | .ok false S => .ok none S
        | _ => .bad) tg (wipeG γ own) xs [] S).bind fun ys S => ofO ((dedD ys S).bind fun zs => if srt then (sortD zs).map .lst else some (.int zs.length)) S else .bad
    | none => .bad
  | .scl2 srt tg own k its ifs tg2 k2 its2 ifs2 e, γ, S => (evs its γ S).bind fun ds S => match itD k ds S with
    | some xs => if xs.length ≤ 16777216 then (loopC2 (fun γ' S => match evF ifs γ' S with
        | .ok true S => (match evs its2 γ' S with
          | .ok ds2 S => (match itD k2 ds2 S with
            | some ys => loopC (fun γ' S => match evF ifs2 γ' S with
              | .ok true S => (match ev e γ' S with | .ok d S => .ok (some d) S | _ => .bad)
              | .ok false S => .ok none S
              | _ => .bad) tg2 γ' ys [] S
            | none => .bad)
          | _ => .bad)
        | .ok false S => .ok [] S
        | _ => .bad) tg (wipeG γ own) xs [] S).bind fun ys S => ofO ((dedD ys S).bind fun zs => if srt then (sortD zs).map .lst else some (.int zs.length)) S else .bad
    | none => .bad
  | .dct t T, _, S => if t then (if T then trkD (.dT [] []) S else trkD (.dK [] []) S) else (if T then .ok (.dT [] []) S else .ok (.dK [] []) S)
  | .dct1 t T ks vs, γ, S => (evs ks γ S).bind fun ks S => (evs vs γ S).bind fun vs S => (ofO (mkDct T ks vs S) S).bind fun d S => if t then trkD d S else .ok d S
  | .dcl t T tg own k its ifs ek ev', γ, S => (evs its γ S).bind fun ds S => match itD k ds S with
    | some xs => if xs.length ≤ 16777216 then (loopC (fun γ' S => match evF ifs γ' S with
        | .ok true S => (match ev ek γ' S with
          | .ok d S => (match ev ev' γ' S with | .ok v S => .ok (some (.tup [d, v])) S | _ => .bad)
          | _ => .bad)
        | .ok false S => .ok none S
        | _ => .bad) tg (wipeG γ own) xs [] S).bind fun ys S => (ofO (mkDct T (ys.map fun p => match p with | .tup [d, _] => d | d => d) (ys.map fun p => match p with | .tup [_, d] => d | d => d) S) S).bind fun d S => if t then trkD d S else .ok d S else .bad
    | none => .bad
  | .frz e, γ, S => (ev e γ S).bind frzD
  | .call f es kes pl, γ, S => (evs es γ S).bind fun ds S => (evs kes γ S).bind fun ks S => match bindP pl ds ks with
    | some as => cal f as S
    | none => .bad
  | .mk t c f es kes pl, γ, S => (evs es γ S).bind fun ds S => (evs kes γ S).bind fun ks S => mkD cal t c f pl ds ks S
  | .mkv t e tb es kes pl, γ, S => (ev e γ S).bind fun x S => match x with
    | .cls c => (match tb.lookup c with
      | some f => (evs es γ S).bind fun ds S => (evs kes γ S).bind fun ks S => mkD cal t c f pl ds ks S
      | none => .bad)
    | _ => .bad
  | .mth e m tb es kes pl, γ, S => (ev e γ S).bind fun x S => match insOf x S with
    | some (c, ns, _) => if ns.contains m then .bad else (match tb.lookup c with
      | some f => (evs es γ S).bind fun ds S => (evs kes γ S).bind fun ks S => (match bindP pl (x :: ds) ks with
        | some as => cal f as S
        | none => .bad)
      | none => .bad)
    | none => .bad
  | .cmt c _ f es kes pl, γ, S => (evs es γ S).bind fun ds S => (evs kes γ S).bind fun ks S => match bindP pl (.cls c :: ds) ks with
    | some as => cal f as S
    | none => .bad
  | .smt _ _ f es kes pl, γ, S => (evs es γ S).bind fun ds S => (evs kes γ S).bind fun ks S => match bindP pl ds ks with
    | some as => cal f as S
    | none => .bad
  | .sup _ f es kes pl, γ, S => match γ[0]? with
    | some (some x) => (evs es γ S).bind fun ds S => (evs kes γ S).bind fun ks S => (match bindP pl (x :: ds) ks with
      | some as => cal f as S
      | none => .bad)
    | _ => .bad
  | .att e i tb, γ, S => (ev e γ S).bind fun x S => attD cal i tb x S
  | .cst _ _ d, _, S => .ok d S
  | .own o tb sb es, γ, S => (evs es γ S).bind fun ds S => noX (ownD cal o tb sb ds S)
  | .fst es, γ, S => (evs es γ S).bind fun ds S => ofO ((fstD ds Str.empty).map .str) S
  | .ink neg a _ _ xs, γ, S => (ev a γ S).bind fun x S => match x with
    | .str z => .ok (.bl (xs.contains z != neg)) S
    | _ => .bad
def evs : List E → Gm → Sto → Out (List D)
  | [], _, S => .ok [] S
  | e :: r, γ, S => match e with
    | .star e => (ev e γ S).bind fun d S => (ofO (seqOf d S) S).bind fun xs S => (evs r γ S).bind fun ds S => .ok (xs ++ ds) S
    | e => (ev e γ S).bind fun d S => (evs r γ S).bind fun ds S => .ok (d :: ds) S
def evO : Option E → Gm → Sto → Out (Option Int)
  | none, _, S => .ok none S
  | some e, γ, S => (ev e γ S).bind fun x S => match x with
    | .int i => .ok (some i) S
    | _ => .bad
def evB : Bool → List E → Gm → Sto → Out D
  | _, [], _, _ => .bad
  | o, e :: r, γ, S => match r with
    | [] => ev e γ S
    | _ :: _ => (ev e γ S).bind fun x S => match truD x S with
      | some b => if b = o then evB o r γ S else .ok x S
      | none => .bad
/-- the ifs of a comprehension -/
def evF : List E → Gm → Sto → Out Bool
  | [], _, S => .ok true S
  | e :: r, γ, S => (ev e γ S).bind fun x S => match truD x S with
    | some true => evF r γ S
    | some false => .ok false S
    | none => .bad
end
/-- x += y, x -= y of ints -/
def augD : BO → D → D → Option D
  | .add, .int i, .int j => some (.int (i + j))
  | .sub, .int i, .int j => some (.int (i - j))
  | _, _, _ => none
/-- x[y], x a list of the store -/
def getL (x y : D) (S : Sto) : Option D := match x with
  | .loc n => (match y with
    | .int k => (match S[n]? with
      | some (.lst xs) => atI xs k
      | _ => none)
    | _ => none)
  | _ => none
/-- the end of a statement -/
inductive Fl where
  | nx (γ : Gm) (S : Sto) | ret (d : D) (S : Sto) | exc (c : Nat) (ds : List D) (S : Sto) | bad | ct (γ : Gm) (S : Sto)
@[reducible] def Fl.of {β : Type} (o : Out β) (k : β → Sto → Fl) : Fl := match o with
  | .ok b S => k b S
  | .exc c ds S => .exc c ds S
  | .bad => .bad
def setAll : List Nat → List D → Gm → Gm
  | i :: is, d :: ds, γ => setAll is ds (γ.set i (some d))
  | _, _, γ => γ
def loopF (body : Gm → Sto → Fl) (tg : Tg) : List D → Gm → Sto → Fl
  | [], γ, S => .nx γ S
  | d :: r, γ, S => match setTg tg d γ with
    | none => .bad
    | some γ' => match body γ' S with
      | .nx γ'' S' => loopF body tg r γ'' S'
      | .ct γ'' S' => loopF body tg r γ'' S'
      | o => o
def loopFL (body : Gm → Sto → Fl) (tg : Tg) (it : Sto → Nat → Option (Option D)) : Nat → Nat → Gm → Sto → Fl
  | 0, _, _, _ => .bad
  | n + 1, i, γ, S => match it S i with
    | none => .bad
    | some none => .nx γ S
    | some (some d) => match setTg tg d γ with
      | none => .bad
      | some γ' => match body γ' S with
        | .nx γ'' S' => loopFL body tg it n (i + 1) γ'' S'
        | .ct γ'' S' => loopFL body tg it n (i + 1) γ'' S'
        | o => o
/-- fields are set, one behind another -/
def putAll (o : Sto → Out D) (cs : List Nat) : List Nat → List D → Sto → Out Unit
  | i :: is, d :: ds, S => (o S).bind fun x S => match x with
    | .loc n => (match S[n]? with
      | some (.ins c ns vs) => if cs.contains c ∧ ns.length < 1000 then putAll o cs is ds (S.set n (.ins c (putF i d ns vs).1 (putF i d ns vs).2)) else .bad
      | _ => .bad)
    | _ => .bad
  | [], [], S => .ok () S
  | _, _, _ => .bad
/-- x[y] = d, x a list -/
def putL (x y d : D) (S : Sto) : Out Unit := match x with
  | .loc n => (match y with
    | .int k => (match S[n]? with
      | some (.lst xs) => (match ixN xs.length k with
        | some j => .ok () (S.set n (.lst (xs.set j d)))
        | none => .bad)
      | _ => .bad)
    | _ => .bad)
  | _ => .bad
/-- x[y] = d -/
def putI (x y d : D) (S : Sto) : Out Unit := match x with
  | .loc n => (match S[n]? with
    | some (.lst xs) => (match y with
      | .int k => (match ixN xs.length k with
        | some j => .ok () (S.set n (.lst (xs.set j d)))
        | none => .bad)
      | _ => .bad)
    | some (.dK ks vs) => (match keyOf y with
      | some q => if ks.length < 16777216 then .ok () (S.set n (.dK (putD ks vs q d).1 (putD ks vs q d).2)) else .bad
      | none => .bad)
    | some (.dT ks vs) => (match tkeyOf y with
      | some q => if ks.length < 16777216 then .ok () (S.set n (.dT (putD ks vs q d).1 (putD ks vs q d).2)) else .bad
      | none => .bad)
    | _ => .bad)
  | _ => .bad
def loopW (c : Gm → Sto → Out D) (body : Gm → Sto → Fl) : Nat → Gm → Sto → Fl
  | 0, _, _ => .bad
  | n + 1, γ, S => .of (c γ S) fun x S => match truD x S with
    | some true => (match body γ S with
      | .nx γ' S' => loopW c body n γ' S'
      | .ct γ' S' => loopW c body n γ' S'
      | o => o)
    | some false => .nx γ S
    | none => .bad
mutual
def ex : St → Gm → Sto → Fl
  | .set i e, γ, S => .of (ev cal e γ S) fun d S => .nx (γ.set i (some d)) S
  | .asg tg e, γ, S => .of (ev cal e γ S) fun d S => match setTg tg d γ with
    | some γ' => .nx γ' S
    | none => .bad
  | .par is es, γ, S => .of (evs cal es γ S) fun ds S => if is.length = ds.length then .nx (setAll is ds γ) S else .bad
  | .idx o i e, γ, S => .of (ev cal e γ S) fun d S => .of (ev cal o γ S) fun x S => .of (ev cal i γ S) fun y S => .of (putL x y d S) fun _ S => .nx γ S
  | .expr e, γ, S => .of (ev cal e γ S) fun _ S => .nx γ S
  | .ret e, γ, S => .of (ev cal e γ S) fun d S => .ret d S
  | .retN, _, S => .ret .non S
  | .pass, γ, S => .nx γ S
  | .ifs c a b, γ, S => .of (ev cal c γ S) fun x S => match truD x S with
    | some true => exs a γ S
    | some false => exs b γ S
    | none => .bad
  | .for tg k its b, γ, S => .of (evs cal its γ S) fun ds S => match itD k ds S with
    | some xs => loopF (fun γ S => exs b γ S) tg xs γ S
    | none => loopFL (fun γ S => exs b γ S) tg (liveD k ds) 16777217 0 γ S
  | .while c b, γ, S => loopW (fun γ S => ev cal c γ S) (fun γ S => exs b γ S) 100000 γ S
  | .never, _, _ => .bad
  | .aug i op e, γ, S => (match γ[i]? with
    | some (some x) => .of (ev cal e γ S) fun y S => .of (ofO (augD op x y) S) fun d S => .nx (γ.set i (some d)) S
    | _ => .bad)
  | .augI o i op e, γ, S => .of (ev cal o γ S) fun x S => .of (ev cal i γ S) fun y S => .of (ofO (getL x y S) S) fun a S => .of (ev cal e γ S) fun b S => .of (ofO (augD op a b) S) fun d S => .of (putL x y d S) fun _ S => .nx γ S
  | .cont, γ, S => .ct γ S
  | .flds o cs is es, γ, S => .of (evs cal es γ S) fun ds S => .of (putAll (fun S => ev cal o γ S) cs is ds S) fun _ S => .nx γ S
def exs : List St → Gm → Sto → Fl
  | [], γ, S => .nx γ S
  | s :: r, γ, S => match ex s γ S with
    | .nx γ' S' => exs r γ' S'
    | o => o
end
end
mutual
def D.low (n : Nat) : D → Bool
  | .loc m => decide (m < n)
  | .lst xs => D.lows n xs
  | .tup xs => D.lows n xs
  | .obj _ _ xs => D.lows n xs
  | .dK _ xs => D.lows n xs
  | .dT _ xs => D.lows n xs
  | _ => true
def D.lows (n : Nat) : List D → Bool
  | [] => true
  | d :: ds => d.low n && D.lows n ds
end
def SO.low (n : Nat) : SO → Bool
  | .lst xs => D.lows n xs
  | .ins _ _ xs => D.lows n xs
  | .dK _ xs => D.lows n xs
  | .dT _ xs => D.lows n xs
  | .dead => true
/-- what a call has made and nobody sees is dropped -/
def trim (n : Nat) (d : D) (S : Sto) : Sto := if S.length ≤ n then S else if d.low n && (S.take n).all (SO.low n) then S.take n else S
structure Fn where
  np : Nat
  nv : Nat
  body : List St
/-- the end of a def's body -/
def fin (n : Nat) : Fl → Out D
  | .nx _ S' => .ok .non (trim n .non S')
  | .ret d S' => .ok d (trim n d S')
  | .exc c ds S' => .exc c ds S'
  | .ct _ _ => .bad
  | .bad => .bad
/-- a call, by at most n calls in one another -/
def callN (P : List Fn) : Nat → Nat → List D → Sto → Out D
  | 0, _, _, _ => .bad
  | n + 1, f, ds, S => match P[f]? with
    | none => .bad
    | some fn => if ds.length = fn.np then fin S.length (exs (callN P n) fn.body (ds.map some ++ List.replicate (fn.nv - fn.np) none) S) else .bad
theorem trim_self (d : D) (S : Sto) : trim S.length d S = S := by
  unfold trim
  rw [if_pos (Nat.le_refl _)]
theorem callN_eq {P : List Fn} {n f : Nat} {fn : Fn} {ds : List D} {S : Sto} (h : P[f]? = some fn) (hl : ds.length = fn.np) : callN P (n + 1) f ds S = fin S.length (exs (callN P n) fn.body (ds.map some ++ List.replicate (fn.nv - fn.np) none) S) := by
  unfold callN
  rw [h]
  exact if_pos hl
/-- a call that leaves the store as it was -/
theorem call_pure {P : List Fn} {n f : Nat} {fn : Fn} {ds : List D} {S : Sto} {d : D} (h : P[f]? = some fn) (hl : ds.length = fn.np) (e : exs (callN P n) fn.body (ds.map some ++ List.replicate (fn.nv - fn.np) none) S = .ret d S) : callN P (n + 1) f ds S = .ok d S := by
  rw [callN_eq h hl, e]
  show Out.ok d (trim S.length d S) = _
  rw [trim_self]
/-- .. that leaves a store as long -/
theorem call_same {P : List Fn} {n f : Nat} {fn : Fn} {ds : List D} {S S' : Sto} {d : D} (h : P[f]? = some fn) (hl : ds.length = fn.np) (hs : S'.length = S.length) (e : exs (callN P n) fn.body (ds.map some ++ List.replicate (fn.nv - fn.np) none) S = .ret d S') : callN P (n + 1) f ds S = .ok d S' := by
  rw [callN_eq h hl, e]
  show Out.ok d (trim S.length d S') = _
  rw [← hs, trim_self]
end Itp
namespace Itp
open PySem PySem.Spec PyProof.Rows L2
/-! ### judgements over the evaluator -/
section
variable {K : PySem.W.Frag} {g : Gb} {α α' : Nat → Option Addr} {F F' R : Hp} {X : Cx}
def Slots (K : PySem.W.Frag) (g : Gb) (α : Nat → Option Addr) (F : Hp) (γ : Gm) (σ : L2.St) : Prop :=
  γ.length = σ.length ∧ ∀ (i : Nat) d, γ[i]? = some (some d) → ∃ v, σ[i]? = some (some v) ∧ Rep K g α F d v
theorem Slots.mono {γ : Gm} {σ : L2.St} (e : Ext α F α' F') (h : Slots K g α F γ σ) : Slots K g α' F' γ σ :=
  ⟨h.1, fun i d q => let ⟨v, a, b⟩ := h.2 i d q; ⟨v, a, Rep.mono e _ _ b⟩⟩
theorem Slots.set {γ : Gm} {σ : L2.St} {i : Nat} {d : D} {v : V} (h : Slots K g α F γ σ) (r : Rep K g α F d v) : Slots K g α F (γ.set i (some d)) (σ.set i (some v)) := by
  refine ⟨by simp [h.1], fun j e q => ?_⟩
  by_cases hj : i = j
  · subst hj
    by_cases hl : i < γ.length
    · rw [List.getElem?_set_self hl] at q
      have q := Option.some.inj (Option.some.inj q)
      subst q
      exact ⟨v, by rw [List.getElem?_set_self (h.1 ▸ hl)], r⟩
    · rw [List.getElem?_eq_none (by simpa using hl)] at q; cases q
  · rw [List.getElem?_set_ne hj] at q
    obtain ⟨w, a, b⟩ := h.2 j e q
    exact ⟨w, by rw [List.getElem?_set_ne hj]; exact a, b⟩
theorem Slots.unset {γ : Gm} {σ : L2.St} {i : Nat} (h : Slots K g α F γ σ) : Slots K g α F (γ.set i none) (σ.set i none) := by
  refine ⟨by simp [h.1], fun j e q => ?_⟩
  by_cases hj : i = j
  · subst hj
    by_cases hl : i < γ.length
    · rw [List.getElem?_set_self hl] at q
      cases q
    · rw [List.getElem?_eq_none (by simpa using hl)] at q; cases q
  · rw [List.getElem?_set_ne hj] at q
    obtain ⟨w, a, b⟩ := h.2 j e q
    exact ⟨w, by rw [List.getElem?_set_ne hj]; exact a, b⟩
theorem Slots.wipe {γ : Gm} {σ : L2.St} (h : Slots K g α F γ σ) : ∀ vs : List Nat, Slots K g α F (wipeG γ vs) (L2.wipe σ vs)
  | [] => h
  | v :: vs => (Slots.wipe h vs).unset
/-- behind an expression: rep tells what its value stands for -/
def Aft (K : PySem.W.Frag) (g : Gb) (R : Hp) {β ρ : Type} (rep : (Nat → Option Addr) → Hp → β → ρ → Prop) (α : Nat → Option Addr) (F : Hp) (o : Out β) (Q : ρ → Hp → Prop) : Prop := match o with
  | .ok b S => ∀ r H α' F', Ext α F α' F' → World K g R α' F' S H → rep α' F' b r → Q r H
  | _ => False
theorem Aft.ext {β ρ : Type} {rep : (Nat → Option Addr) → Hp → β → ρ → Prop} {o : Out β} {Q : ρ → Hp → Prop} (e : Ext α F α' F') (h : Aft K g R rep α F o Q) : Aft K g R rep α' F' o Q := by
  cases o with
  | ok b S => exact fun r H α2 F2 e2 => h r H α2 F2 (e.trans e2)
  | exc => exact h
  | bad => exact h
theorem Aft.bind {β δ ρ τ : Type} {rep : (Nat → Option Addr) → Hp → β → ρ → Prop} {rep2 : (Nat → Option Addr) → Hp → δ → τ → Prop} {o : Out β} {k : β → Sto → Out δ} {Q : τ → Hp → Prop} {Q1 : ρ → Hp → Prop}
    (h : Aft K g R rep2 α F (o.bind k) Q) (f : ∀ b S r H α' F', Ext α F α' F' → World K g R α' F' S H → rep α' F' b r → Aft K g R rep2 α' F' (k b S) Q → Q1 r H) : Aft K g R rep α F o Q1 := by
  cases o with
  | ok b S => exact fun r H α2 F2 e2 w2 r2 => f b S r H α2 F2 e2 w2 r2 (Aft.ext e2 h)
  | exc => exact h
  | bad => exact h
theorem Aft.mono {β ρ : Type} {rep : (Nat → Option Addr) → Hp → β → ρ → Prop} {o : Out β} {Q Q' : ρ → Hp → Prop} (h : Aft K g R rep α F o Q) (q : ∀ r H, Q r H → Q' r H) : Aft K g R rep α F o Q' := by
  cases o with
  | ok b S => exact fun r H α2 F2 e2 w2 r2 => q _ _ (h r H α2 F2 e2 w2 r2)
  | exc => exact h
  | bad => exact h
def tG (K : PySem.W.Frag) (g : Gb) {β ρ : Type} (rep : (Nat → Option Addr) → Hp → β → ρ → Prop) (m : Gm → Sto → Out β) (σ : L2.St) (H : Hp) (Q : ρ → Hp → Prop) : Prop :=
  ∃ γ S α F R, Slots K g α F γ σ ∧ World K g R α F S H ∧ Aft K g R rep α F (m γ S) Q
abbrev tI (K : PySem.W.Frag) (g : Gb) (m : Gm → Sto → Out D) : TE := tG K g (Rep K g) m
abbrev tIs (K : PySem.W.Frag) (g : Gb) (m : Gm → Sto → Out (List D)) : TA := tG K g (Reps K g) m
abbrev tIo (K : PySem.W.Frag) (g : Gb) (m : Gm → Sto → Out (Option Int)) : TO := tG K g (fun _ _ a b => a = b) m
abbrev tIb (K : PySem.W.Frag) (g : Gb) (m : Gm → Sto → Out Bool) : TT := tG K g (fun _ _ a b => a = b) m
theorem tG.bind {β δ ρ τ : Type} {rep : (Nat → Option Addr) → Hp → β → ρ → Prop} {rep2 : (Nat → Option Addr) → Hp → δ → τ → Prop} {m : Gm → Sto → Out β} {k : Gm → β → Sto → Out δ} {σ : L2.St} {H : Hp} {Q : τ → Hp → Prop} {Q1 : ρ → Hp → Prop}
    (h : tG K g rep2 (fun γ S => (m γ S).bind (k γ)) σ H Q) (f : ∀ γ b S r H α F R, Slots K g α F γ σ → World K g R α F S H → rep α F b r → Aft K g R rep2 α F (k γ b S) Q → Q1 r H) : tG K g rep m σ H Q1 := by
  obtain ⟨γ, S, α, F, R, s, w, a⟩ := h
  exact ⟨γ, S, α, F, R, s, w, Aft.bind a fun b S r H α' F' e w' r' a' => f γ b S r H α' F' R (s.mono e) w' r' a'⟩
theorem _root_.L2.PE.imp {e : Expr} {t t' : TE} (h : PE X e t) (f : ∀ σ H Q, t' σ H Q → t σ H Q) : PE X e t' := ⟨fun pins s σ H Q I q => h.run pins s σ H Q I (f σ H Q q)⟩
theorem _root_.L2.PT.imp {e : Expr} {t t' : TT} (h : PT X e t) (f : ∀ σ H Q, t' σ H Q → t σ H Q) : PT X e t' := ⟨fun pins s σ H Q I q => h.run pins s σ H Q I (f σ H Q q)⟩
theorem _root_.L2.PA.imp {e : List Expr} {t t' : TA} (h : PA X e t) (f : ∀ σ H Q, t' σ H Q → t σ H Q) : PA X e t' := ⟨fun pos pins s σ H Q I q => h.run pos pins s σ H Q I (f σ H Q q)⟩
theorem _root_.L2.PO.imp {e : Option Expr} {t t' : TO} (h : PO X e t) (f : ∀ σ H Q, t' σ H Q → t σ H Q) : PO X e t' := ⟨fun pins s σ H Q I q => h.run pins s σ H Q I (f σ H Q q)⟩
end
/-! ### values -/
section
variable {K : PySem.W.Frag} {g : Gb} {α : Nat → Option Addr} {F H R : Hp} {S : Sto} {X : Cx}
theorem lst_of (w : World K g R α F S H) {d : D} {v : V} {xs : List D} (r : Rep K g α F d v) (e : lstOf d S = some xs) : ∃ a vs, v = .ref a ∧ H a = some (.lst vs) ∧ Reps K g α F xs vs := by
  cases d with
  | lst ys =>
    have e : ys = xs := Option.some.inj e
    subst e
    obtain ⟨a, vs, h1, h2, h3⟩ := r
    exact ⟨a, vs, h1, w.fz _ _ h2, h3⟩
  | loc n =>
    obtain ⟨a, h1, h2⟩ := r
    have e : (match S[n]? with | some (.lst xs) => some xs | _ => none) = some xs := e
    cases q : S[n]? with
    | none => rw [q] at e; cases e
    | some o =>
      cases o with
      | lst ys =>
        rw [q] at e
        have e : ys = xs := Option.some.inj e
        subst e
        obtain ⟨b, vs, k1, k2, k3, k4⟩ := w.st n _ q
        rw [h2] at k1; cases k1
        exact ⟨a, vs, h1, k3, k4⟩
      | ins c ns ds => rw [q] at e; cases e
      | dead => rw [q] at e; cases e
      | dK ks vs => rw [q] at e; cases e
      | dT ks vs => rw [q] at e; cases e
  | non => cases e
  | bl b => cases e
  | int i => cases e
  | str x => cases e
  | tup xs => cases e
  | obj c ns ds => cases e
  | scr ns => cases e
  | cls c => cases e
  | dK ks vs => cases e
  | dT ks vs => cases e
theorem size16 : sizeLine = 16777216 := sizeLine_eq
theorem okS_len {x : Str} (h : okS x = true) : x.length ≤ sizeLine := by
  unfold okS at h
  rw [Bool.and_eq_true] at h
  rw [size16]
  exact of_decide_eq_true h.2
theorem tru_of (w : World X.K g R α F S H) {d : D} {v : V} {k : Bool} (r : Rep X.K g α F d v) (e : truD d S = some k) : TruV X.K v H k := by
  cases d with
  | non => cases r; exact (Option.some.inj e).symm
  | bl b => cases r; exact (Option.some.inj e).symm
  | int i => cases r; exact (Option.some.inj e).symm
  | str x => obtain ⟨rfl, h⟩ := r; exact ⟨okS_len h, (Option.some.inj e).symm⟩
  | lst xs =>
    obtain ⟨a, vs, rfl, h2, h3⟩ := r
    refine .inl ⟨vs, SqL.of (w.fz _ _ h2), ?_⟩
    rw [← Option.some.inj e]
    have := h3.length
    cases xs <;> cases vs <;> simp_all
  | tup xs =>
    obtain ⟨a, vs, rfl, h2, h3⟩ := r
    refine .inr (.inl ⟨vs, SqT.of (w.fz _ _ h2), ?_⟩)
    rw [← Option.some.inj e]
    have := h3.length
    cases xs <;> cases vs <;> simp_all
  | loc n =>
    have e : (match S[n]? with | some (.lst xs) => some !xs.isEmpty | _ => none) = some k := e
    cases q : S[n]? with
    | none => rw [q] at e; cases e
    | some o =>
      cases o with
      | lst xs =>
        rw [q] at e
        obtain ⟨a, vs, rfl, h2, h3⟩ := lst_of (xs := xs) w r (by show (match S[n]? with | some (.lst xs) => some xs | _ => none) = _; rw [q])
        refine .inl ⟨vs, SqL.of h2, ?_⟩
        rw [← Option.some.inj e]
        have := h3.length
        cases xs <;> cases vs <;> simp_all
      | ins c ns ds => rw [q] at e; cases e
      | dead => rw [q] at e; cases e
      | dK ks vs => rw [q] at e; cases e
      | dT ks vs => rw [q] at e; cases e
  | obj c ns ds => cases e
  | scr ns => cases e
  | cls c => cases e
  | dK ks vs => cases e
  | dT ks vs => cases e
theorem dps_map (w : World K g R α F S H) {n : Nat} (ih : ∀ (d : D) (v : V) (p : PyData), Rep K g α F d v → toP S n d = some p → Dp K H v p ∧ p.canLay0 = true ∧ p.depth ≤ n) : ∀ (ds : List D) (vs : List V) (ps : List PyData), Reps K g α F ds vs → mapO (toP S n) ds = some ps → DpAll K H vs ps ∧ PyData.canLayAll0 ps = true ∧ PyData.depthAll ps ≤ n
  | [], vs, ps, r, e => by cases r; cases e; exact ⟨.nil, rfl, Nat.zero_le _⟩
  | d :: ds, vs, ps, r, e => by
    obtain ⟨v, rs, rfl, h1, h2⟩ := r
    rw [mapO] at e
    cases q1 : toP S n d with
    | none => rw [q1] at e; cases e
    | some p =>
      cases q2 : mapO (toP S n) ds with
      | none => rw [q1, q2] at e; cases e
      | some ps' =>
        rw [q1, q2] at e
        cases e
        obtain ⟨a1, a2, a3⟩ := ih d v p h1 q1
        obtain ⟨b1, b2, b3⟩ := dps_map w ih ds rs ps' h2 q2
        refine ⟨.cons a1 b1, ?_, ?_⟩
        · show (p.canLay0 && PyData.canLayAll0 ps') = true
          rw [a2, b2]; rfl
        · show max p.depth (PyData.depthAll ps') ≤ n
          omega
theorem dp_of (w : World K g R α F S H) : ∀ (n : Nat) (d : D) (v : V) (p : PyData), Rep K g α F d v → toP S n d = some p → Dp K H v p ∧ p.canLay0 = true ∧ p.depth ≤ n := by
  have hs : ∀ (n : Nat) (x : Str) (v : V) (p : PyData), Rep K g α F (.str x) v → some (PyData.str x) = some p → Dp K H v p ∧ p.canLay0 = true ∧ p.depth ≤ n := fun n x v p r e => by
    obtain ⟨rfl, h⟩ := r
    have h' : PyData.canLay0 (.str x) = true := by
      unfold okS at h
      rw [Bool.and_eq_true] at h
      exact h.1
    cases e
    exact ⟨.str x, h', Nat.zero_le _⟩
  intro n
  induction n with
  | zero =>
    intro d v p r e
    cases d with
    | non => cases r; cases e; exact ⟨.non, rfl, Nat.zero_le _⟩
    | bl b => cases r; cases e; exact ⟨.bl b, rfl, Nat.zero_le _⟩
    | int b => cases r; cases e; exact ⟨.int b, rfl, Nat.zero_le _⟩
    | str x => exact hs 0 x v p r e
    | _ => cases e
  | succ n ih =>
    intro d v p r e
    cases d with
    | non => cases r; cases e; exact ⟨.non, rfl, Nat.zero_le _⟩
    | bl b => cases r; cases e; exact ⟨.bl b, rfl, Nat.zero_le _⟩
    | int b => cases r; cases e; exact ⟨.int b, rfl, Nat.zero_le _⟩
    | str x => exact hs (n + 1) x v p r e
    | lst xs =>
      obtain ⟨a, vs, rfl, h2, h3⟩ := r
      have e : (mapO (toP S n) xs).map PyData.list = some p := e
      cases q : mapO (toP S n) xs with
      | none => rw [q] at e; cases e
      | some ps =>
        rw [q] at e
        cases e
        obtain ⟨k1, k2, k3⟩ := dps_map w ih xs vs ps h3 q
        exact ⟨.lst (SqL.of (w.fz _ _ h2)) k1, k2, Nat.succ_le_succ k3⟩
    | tup xs =>
      obtain ⟨a, vs, rfl, h2, h3⟩ := r
      have e : (mapO (toP S n) xs).map PyData.tuple = some p := e
      cases q : mapO (toP S n) xs with
      | none => rw [q] at e; cases e
      | some ps =>
        rw [q] at e
        cases e
        obtain ⟨k1, k2, k3⟩ := dps_map w ih xs vs ps h3 q
        exact ⟨.tup (SqT.of (w.fz _ _ h2)) k1, k2, Nat.succ_le_succ k3⟩
    | loc m =>
      have e : (match S[m]? with
        | some (.lst xs) => (mapO (toP S n) xs).map PyData.list
        | _ => none) = some p := e
      obtain ⟨a0, rfl, ha⟩ := r
      cases q0 : S[m]? with
      | none => rw [q0] at e; cases e
      | some o =>
        rw [q0] at e
        cases o with
        | lst xs =>
          obtain ⟨a, vs, h1, _, h2, h3⟩ := w.st m _ q0
          rw [ha] at h1
          cases h1
          dsimp only at e
          cases q : mapO (toP S n) xs with
          | none => rw [q] at e; cases e
          | some ps =>
            rw [q] at e
            cases e
            obtain ⟨k1, k2, k3⟩ := dps_map w ih xs vs ps h3 q
            exact ⟨.lst (SqL.of h2) k1, k2, Nat.succ_le_succ k3⟩
        | ins => cases e
        | dead => cases e
        | dK ks vs => cases e
        | dT ks vs => cases e
    | _ => cases e
theorem dps_of (w : World K g R α F S H) (n : Nat) (ds : List D) (vs : List V) (ps : List PyData) (r : Reps K g α F ds vs) (e : toPs S n ds = some ps) : DpAll K H vs ps ∧ PyData.canLayAll0 ps = true ∧ PyData.depthAll ps ≤ n := dps_map w (dp_of w n) ds vs ps r e
theorem shaped_of {p : PyData} {n : Nat} (h : p.canLay0 = true) (d : p.depth ≤ n) (hn : n ≤ 64) : SeqAt.shaped p = true := by
  unfold SeqAt.shaped
  rw [h, decide_eq_true (show p.depth ≤ 64 by omega)]
  rfl
end
end Itp
namespace Itp
open PySem PySem.Spec PyProof.Rows L2
section
variable {g : Gb} {α : Nat → Option Addr} {F H R : Hp} {S : Sto} {X : Cx} {x y d : D} {vx vy v : V} {Q : VK}
/-- the end of a value that needs no object -/
theorem Aft.now {K : PySem.W.Frag} (h : Aft K g R (Rep K g) α F (.ok d S) Q) (w : World K g R α F S H) (r : Rep K g α F d v) : Q v H := h v H α F Ext.refl w r
theorem Aft.newT {K : PySem.W.Frag} {xs : List D} {vs : List V} (h : Aft K g R (Rep K g) α F (.ok (.tup xs) S) Q) (w : World K g R α F S H) (r : Reps K g α F xs vs) : ∀ p, H p = none → Q (.ref p) (upd H p (.tup vs)) := fun p hp => by
  obtain ⟨w', e⟩ := w.lay (o := .tup vs) hp
  exact h _ _ α _ e w' ⟨p, vs, rfl, upd_same, Reps.mono e _ _ r⟩
theorem Aft.newL {K : PySem.W.Frag} {xs : List D} {vs : List V} (h : Aft K g R (Rep K g) α F (.ok (.lst xs) S) Q) (w : World K g R α F S H) (r : Reps K g α F xs vs) : ∀ p, H p = none → Q (.ref p) (upd H p (.lst vs)) := fun p hp => by
  obtain ⟨w', e⟩ := w.lay (o := .lst vs) hp
  exact h _ _ α _ e w' ⟨p, vs, rfl, upd_same, Reps.mono e _ _ r⟩
theorem Aft.newS {K : PySem.W.Frag} {xs : List D} {vs : List V} (h : Aft K g R (Rep K g) α F (.ok (.loc S.length) (S ++ [.lst xs])) Q) (w : World K g R α F S H) (r : Reps K g α F xs vs) : ∀ p, H p = none → Q (.ref p) (upd H p (.lst vs)) := fun p hp => by
  have e := w.push_ext (p := p)
  have hp' : pushA α S.length p S.length = some p := by unfold pushA; rw [if_pos rfl]
  exact h _ _ _ _ e (w.push hp ⟨p, vs, hp', w.fnone hp, upd_same, Reps.mono e _ _ r⟩) ⟨p, rfl, hp'⟩
theorem okS_app {a b : Str} (ha : okS a = true) (hb : okS b = true) (hl : a.length + b.length ≤ 16777216) : okS (a ++ b) = true := by
  unfold okS at *
  rw [Bool.and_eq_true] at *
  refine ⟨?_, decide_eq_true ?_⟩
  · show (a.cps ++ b.cps).all _ = true
    rw [Array.all_append, ha.1, hb.1]; rfl
  · show (a.cps ++ b.cps).size ≤ _
    rw [Array.size_append]; exact hl
theorem okS_sub {a b : Str} (ha : okS a = true) (h : ∀ c ∈ b.cps, c ∈ a.cps) (hl : b.length ≤ a.length) : okS b = true := by
  unfold okS at *
  rw [Bool.and_eq_true] at *
  refine ⟨?_, decide_eq_true (Nat.le_trans hl (of_decide_eq_true ha.2))⟩
  rw [Array.all_eq_true'] at *
  exact fun c hc => ha.1 c (h c hc)
/-! ### operators -/
def BO.py : BO → Operator
  | .add => .Add | .sub => .Sub | .mul => .Mult | .fdiv => .FloorDiv | .mod => .Mod | .pow => .Pow
def rBin (K : PySem.W.Frag) : BO → R2
  | .add => fun x y H Q => (∃ i j, x = .int i ∧ y = .int j ∧ Q (.int (i + j)) H) ∨ (∃ i j, x = .str i ∧ y = .str j ∧ i.length + j.length ≤ sizeLine ∧ Q (.str (i ++ j)) H) ∨ rCatA K x y H Q ∨ rCat x y H Q
  | .sub => rI0 fun i j => .int (i - j)
  | .mul => fun x y H Q => rI CMul (fun i j => .int (i * j)) x y H Q ∨ rRep x y H Q ∨ rRepT K x y H Q
  | .fdiv => rI CDiv fun i j => .int (i / j)
  | .mod => rI (fun _ j => 0 < j) fun i j => .int (i % j)
  | .pow => rI CPow fun i j => .int (i ^ j.toNat)
theorem op_bin : ∀ o : BO, OpR X (binaryOp o.py) (rBin X.K o)
  | .add => op_add.or (op_add_str.or (op_catA.or op_cat))
  | .sub => op_sub
  | .mul => op_mul.or (op_rep.or op_repT)
  | .fdiv => op_fdiv
  | .mod => op_mod
  | .pow => op_pow
theorem c64_ok {i : Int} (h : c64 i = true) : -(2 ^ 64) < i ∧ i < 2 ^ 64 := by
  unfold c64 at h
  rw [Bool.and_eq_true] at h
  exact ⟨of_decide_eq_true h.1, of_decide_eq_true h.2⟩
theorem ofO_some {β : Type} {K : PySem.W.Frag} {ρ : Type} {rep : (Nat → Option Addr) → Hp → β → ρ → Prop} {o : Option β} {Q : ρ → Hp → Prop} (h : Aft K g R rep α F (ofO o S) Q) : ∃ b, o = some b ∧ Aft K g R rep α F (.ok b S) Q := by
  cases o with
  | none => exact False.elim h
  | some b => exact ⟨b, rfl, h⟩
theorem bin_lst {a b : D} {va vb : V} (w : World X.K g R α F S H) (ra : Rep X.K g α F a va) (rb : Rep X.K g α F b vb) {xs ys : List D} (ea : lstOf a S = some xs) (eb : lstOf b S = some ys) (hl : xs.length + ys.length ≤ 16777216)
    (h : Aft X.K g R (Rep X.K g) α F (.ok (.lst (xs ++ ys)) S) Q) : rCat va vb H Q := by
  obtain ⟨p, vs, rfl, h2, h3⟩ := lst_of w ra ea
  obtain ⟨p', vs', rfl, k2, k3⟩ := lst_of w rb eb
  exact ⟨p, p', vs, vs', rfl, rfl, h2, k2, by rw [size16, ← h3.length, ← k3.length]; exact hl, h.newL w (h3.app k3)⟩
theorem Reps.rep {K : PySem.W.Frag} {xs : List D} {vs : List V} (r : Reps K g α F xs vs) : ∀ n : Nat, Reps K g α F (List.replicate n xs).flatten (List.replicate n vs).flatten
  | 0 => rfl
  | n + 1 => by
    rw [List.replicate_succ, List.replicate_succ, List.flatten_cons, List.flatten_cons]
    exact r.app (r.rep n)
theorem bin_val (o : BO) (w : World X.K g R α F S H) (rx : Rep X.K g α F x vx) (ry : Rep X.K g α F y vy) (h : Aft X.K g R (Rep X.K g) α F (ofO (binD o x y S) S) Q) : rBin X.K o vx vy H Q := by
  obtain ⟨d, e, h⟩ := ofO_some h
  cases o with
  | sub =>
    unfold binD at e
    split at e
    all_goals first | (contradiction) | (cases e; done) | skip
    cases rx; cases ry
    have e := Option.some.inj e
    subst e
    exact ⟨_, _, rfl, rfl, h.now w rfl⟩
  | mul =>
    unfold binD at e
    split at e
    all_goals first | (cases e; done) | (contradiction) | skip
    · cases rx; cases ry
      split at e
      · rename_i hc
        cases e
        refine .inl ⟨_, _, rfl, rfl, ?_, h.now w rfl⟩
        rcases Bool.or_eq_true_iff.mp hc with hc | hc
        · exact .inl (c64_ok hc)
        · exact .inr (c64_ok hc)
      · cases e
    · obtain ⟨a, vs, rfl, h2, h3⟩ := rx
      cases ry
      split at e
      · rename_i hc
        cases e
        have hl := h3.length
        refine .inr (.inr ⟨a, _, vs, rfl, rfl, SqT.of (w.fz _ _ h2), ?_, hc.2.2.1, hc.2.2.2, by omega, h.newT w (h3.rep _)⟩)
        intro z; subst z; rw [List.length_nil] at hl; omega
      · cases e
    · obtain ⟨a, vs, rfl, h2, h3⟩ := rx
      cases ry
      split at e
      · rename_i hc
        cases e
        exact .inr (.inl ⟨a, _, vs, rfl, rfl, w.fz _ _ h2, by omega, by omega, by rw [← h3.length, size16]; exact hc.1, h.newL w (h3.rep _)⟩)
      · cases e
  | fdiv =>
    unfold binD at e
    split at e
    all_goals first | (cases e; done) | (contradiction) | skip
    cases rx; cases ry
    split at e
    · rename_i hc
      cases e
      exact ⟨_, _, rfl, rfl, hc, h.now w rfl⟩
    · cases e
  | mod =>
    unfold binD at e
    split at e
    all_goals first | (cases e; done) | (contradiction) | skip
    cases rx; cases ry
    split at e
    · rename_i hc
      cases e
      exact ⟨_, _, rfl, rfl, hc, h.now w rfl⟩
    · cases e
  | pow =>
    unfold binD at e
    split at e
    all_goals first | (cases e; done) | (contradiction) | skip
    cases rx; cases ry
    split at e
    · rename_i hc
      cases e
      exact ⟨_, _, rfl, rfl, ⟨hc.1, by omega, hc.2.2⟩, h.now w rfl⟩
    · cases e
  | add =>
    unfold binD at e
    split at e
    all_goals first | (contradiction) | skip
    · cases rx; cases ry; cases e
      exact .inl ⟨_, _, rfl, rfl, h.now w rfl⟩
    · obtain ⟨rfl, ox⟩ := rx
      obtain ⟨rfl, oy⟩ := ry
      split at e
      · rename_i hc
        cases e
        exact .inr (.inl ⟨_, _, rfl, rfl, by rw [size16]; exact hc, h.now w ⟨rfl, okS_app ox oy hc⟩⟩)
      · cases e
    · obtain ⟨a, vs, rfl, h2, h3⟩ := rx
      obtain ⟨b, ws, rfl, k2, k3⟩ := ry
      split at e
      · rename_i hc
        cases e
        have l1 := h3.length
        have l2 := k3.length
        refine .inr (.inr (.inl ⟨a, b, vs, ws, rfl, rfl, SqT.of (w.fz _ _ h2), SqT.of (w.fz _ _ k2), by rw [size16, ← l1, ← l2]; exact hc, fun e => ?_, fun _ e => ?_, fun _ _ => h.newT w (h3.app k3)⟩))
        · subst e
          have : (_ : List D) = [] := List.eq_nil_of_length_eq_zero l1
          subst this
          exact h.now w ⟨b, ws, rfl, k2, k3⟩
        · subst e
          have : (_ : List D) = [] := List.eq_nil_of_length_eq_zero l2
          subst this
          exact h.now w ⟨a, vs, rfl, h2, by rw [List.append_nil]; exact h3⟩
      · cases e
    · split at e
      · rename_i xs ys q1 q2
        split at e
        · rename_i hc
          cases e
          exact .inr (.inr (.inr (bin_lst w rx ry q1 q2 hc h)))
        · cases e
      · cases e
end
section
variable {g : Gb} {X : Cx} {a b : Expr} {ma mb : Gm → Sto → Out D} {pos : Pos}
/-- two expressions, then what their values ask -/
theorem tOp_of {r : R2} {k : D → D → Sto → Out D} {σ : L2.St} {H : Hp} {Q : VK} (h : tI X.K g (fun γ S => (ma γ S).bind fun x S => (mb γ S).bind fun y S => k x y S) σ H Q)
    (f : ∀ x y vx vy S H α F R, World X.K g R α F S H → Rep X.K g α F x vx → Rep X.K g α F y vy → Aft X.K g R (Rep X.K g) α F (k x y S) Q → r vx vy H Q) : tOp r (tI X.K g ma) (tI X.K g mb) σ H Q := by
  refine tG.bind (k := fun γ x S => (mb γ S).bind fun y S => k x y S) h fun γ x S vx H α F R s w rx h => ?_
  exact ⟨γ, S, α, F, R, s, w, Aft.bind h fun y S vy H α' F' e w' ry h => f x y vx vy S H α' F' R w' (Rep.mono e _ _ rx) ry h⟩
theorem je_bin (o : BO) (ha : PE X a (tI X.K g ma)) (hb : PE X b (tI X.K g mb)) : PE X (.BinOp a o.py b pos) (tI X.K g fun γ S => (ma γ S).bind fun x S => (mb γ S).bind fun y S => ofO (binD o x y S) S) :=
  (pe_op (op_bin o) ha hb).imp fun σ H Q h => tOp_of h fun x y vx vy S H α F R w rx ry h => bin_val o w rx ry h
end
end Itp
namespace Itp
open PySem PySem.Spec PyProof.Rows L2
section
variable {g : Gb} {α : Nat → Option Addr} {F H R : Hp} {S : Sto} {X : Cx} {x y d : D} {vx vy v : V} {Q : VK}
/-! ### comparisons -/
def CO.py : CO → CmpOp
  | .eq => .Eq | .ne => .NotEq | .lt => .Lt | .le => .LtE | .gt => .Gt | .ge => .GtE | .isN => .Is | .notN => .IsNot | .inn => .In | .nin => .NotIn
def rInT (K : PySem.W.Frag) : R2 := fun x y H Q => ∃ d ds, Dp K H x d ∧ Dp K H y (.tuple ds) ∧ SeqAt.shaped d = true ∧ SeqAt.shaped (.tuple ds) = true ∧ Q (.bl (ds.any fun z => PyData.eqv z d)) H
def rNotInT (K : PySem.W.Frag) : R2 := fun x y H Q => ∃ d ds, Dp K H x d ∧ Dp K H y (.tuple ds) ∧ SeqAt.shaped d = true ∧ SeqAt.shaped (.tuple ds) = true ∧ Q (.bl (!ds.any fun z => PyData.eqv z d)) H
theorem op_inT (hu : X.A.units + 65 < cLine) : OpR X (compareOp .In) (rInT X.K) := by
  intro pins s σ H x y v u Q I rx ry h
  obtain ⟨d, ds, hd, he, sd, se, q⟩ := h
  obtain ⟨as, r1⟩ := Dp.reads I d x v hd rx
  obtain ⟨bs, r2⟩ := Dp.reads I (.tuple ds) y u he ry
  exact SeqAt.in_tuple_reads r2 r1 (SeqAt.canLay_of_shaped se) (SeqAt.canLay_of_shaped sd) (room_in_shaped sd hu) ⟨.bl _, H, I, rfl, q⟩
theorem op_notInT (hu : X.A.units + 65 < cLine) : OpR X (compareOp .NotIn) (rNotInT X.K) := by
  intro pins s σ H x y v u Q I rx ry h
  obtain ⟨d, ds, hd, he, sd, se, q⟩ := h
  obtain ⟨as, r1⟩ := Dp.reads I d x v hd rx
  obtain ⟨bs, r2⟩ := Dp.reads I (.tuple ds) y u he ry
  exact SeqAt.notIn_tuple_reads r2 r1 (SeqAt.canLay_of_shaped se) (SeqAt.canLay_of_shaped sd) (room_in_shaped sd hu) ⟨.bl _, H, I, rfl, q⟩
def rInC : R2 := fun x y H Q => ∃ a o, y = .ref a ∧ DGet H a x o ∧ Q (.bl o.isSome) H
def rNotInC : R2 := fun x y H Q => ∃ a o, y = .ref a ∧ DGet H a x o ∧ Q (.bl (!o.isSome)) H
theorem op_inC (hu : X.A.units + 1 < cLine) : OpR X (compareOp .In) rInC := by
  intro pins s σ H x y v u Q I rx ry h
  obtain ⟨a, o, rfl, gg, q⟩ := h
  cases ry
  exact d_in hu I gg rx fun s3 I3 => ⟨.bl o.isSome, H, I3, rfl, q⟩
theorem op_notInC (hu : X.A.units + 1 < cLine) : OpR X (compareOp .NotIn) rNotInC := by
  intro pins s σ H x y v u Q I rx ry h
  obtain ⟨a, o, rfl, gg, q⟩ := h
  cases ry
  exact d_notIn hu I gg rx fun s3 I3 => ⟨.bl (!o.isSome), H, I3, rfl, q⟩
def rCmp (K : PySem.W.Frag) : CO → R2
  | .eq => rEqD K
  | .ne => rNeD K
  | .lt => rI0 fun i j => .bl (decide (i < j))
  | .le => rI0 fun i j => .bl (decide (i ≤ j))
  | .gt => rI0 fun i j => .bl (decide (j < i))
  | .ge => rI0 fun i j => .bl (decide (j ≤ i))
  | .isN => fun x y H Q => y = .non ∧ Q (.bl (decide (x = .non))) H
  | .notN => fun x y H Q => y = .non ∧ Q (.bl (!decide (x = .non))) H
  | .inn => fun x y H Q => rInT K x y H Q ∨ rInC x y H Q ∨ (∃ (c : Nat) (z : Str), x = .str ⟨#[c]⟩ ∧ y = .str z ∧ Q (.bl (decide (c ∈ z.cps.toList))) H) ∨ rInD K x y H Q
  | .nin => fun x y H Q => rNotInT K x y H Q ∨ rNotInC x y H Q ∨ (∃ (c : Nat) (z : Str), x = .str ⟨#[c]⟩ ∧ y = .str z ∧ Q (.bl (!decide (c ∈ z.cps.toList))) H) ∨ rNotInD K x y H Q
theorem op_cmp (hu : X.A.units + 65 < cLine) : ∀ o : CO, OpR X (compareOp o.py) (rCmp X.K o)
  | .eq => op_eqD (by omega)
  | .ne => op_neD (by omega)
  | .lt => op_lt
  | .le => op_le
  | .gt => op_gt
  | .ge => op_ge
  | .isN => op_isN
  | .notN => op_notN
  | .inn => (op_inT hu).or ((op_inC (by omega)).or (op_in_sign.or (op_inD hu)))
  | .nin => (op_notInT hu).or ((op_notInC (by omega)).or (op_notIn_sign.or (op_notInD hu)))
theorem Rep.isNon {K : PySem.W.Frag} (r : Rep K g α F d v) : decide (v = .non) = isNon d := by
  cases d with
  | non => cases r; rfl
  | bl b => cases r; rfl
  | int b => cases r; rfl
  | str b => obtain ⟨rfl, _⟩ := r; rfl
  | lst b => obtain ⟨a, vs, rfl, _⟩ := r; rfl
  | tup b => obtain ⟨a, vs, rfl, _⟩ := r; rfl
  | obj c ns ds => obtain ⟨a, dx, vs, rfl, _⟩ := r; rfl
  | loc n => obtain ⟨a, rfl, _⟩ := r; rfl
  | scr n => obtain ⟨a, rfl, _⟩ := r; rfl
  | cls n => obtain ⟨rfl, _⟩ := r; rfl
  | dK ks ds => obtain ⟨a, vs, rfl, _⟩ := r; rfl
  | dT ks ds => obtain ⟨a, vs, rfl, _⟩ := r; rfl
/-! dicts -/
def ORep (K : PySem.W.Frag) (g : Gb) (α : Nat → Option Addr) (F : Hp) : Option D → Option V → Prop
  | none, none => True
  | some d, some v => Rep K g α F d v
  | _, _ => False
theorem look_rep {κ : Type} [DecidableEq κ] {K : PySem.W.Frag} : ∀ {ks : List κ} {ds : List D} {vs : List V} (q : κ), Reps K g α F ds vs → ks.length = ds.length → ORep K g α F (lookD ks ds q) (valV (ks.zip vs) q)
  | [], ds, vs, q, _, _ => by
    unfold lookD
    rw [List.zip_nil_left, valV_nil]
    trivial
  | k :: ks, [], vs, q, _, hl => by cases hl
  | k :: ks, d :: ds, vs, q, r, hl => by
    obtain ⟨v, r', rfl, h1, h2⟩ := r
    unfold lookD
    rw [List.zip_cons_cons]
    by_cases e : k = q
    · rw [if_pos e, valV_pos (p := (k, v)) e]; exact h1
    · rw [if_neg e, valV_neg (p := (k, v)) e]; exact look_rep q h2 (by simpa using hl)
theorem dcK_of {K : PySem.W.Frag} (w : World K g R α F S H) {d : D} {v : V} {ks : List Key} {ds : List D} (r : Rep K g α F d v) (e : dcK d S = some (ks, ds)) : ∃ a vs, v = .ref a ∧ H a = some (.dK (ks.zip vs)) ∧ ks.length = ds.length ∧ Reps K g α F ds vs := by
  cases d with
  | dK ks' ds' => cases e; obtain ⟨a, vs, h1, h2, h3, h4⟩ := r; exact ⟨a, vs, h1, w.fz _ _ h2, h3, h4⟩
  | loc n =>
    obtain ⟨a, h1, h2⟩ := r
    have e : (match S[n]? with | some (.dK ks vs) => some (ks, vs) | _ => none) = some (ks, ds) := e
    cases q : S[n]? with
    | none => rw [q] at e; cases e
    | some o =>
      rw [q] at e
      cases o with
      | dK ks' ds' => cases e; obtain ⟨b, vs, k1, k2, k3, k4, k5⟩ := w.st n _ q; rw [h2] at k1; cases k1; exact ⟨a, vs, h1, k3, k4, k5⟩
      | _ => cases e
  | _ => cases e
theorem dcT_of {K : PySem.W.Frag} (w : World K g R α F S H) {d : D} {v : V} {ks : List (List Key)} {ds : List D} (r : Rep K g α F d v) (e : dcT d S = some (ks, ds)) : ∃ a vs, v = .ref a ∧ H a = some (.dT (ks.zip vs)) ∧ ks.length = ds.length ∧ Reps K g α F ds vs := by
  cases d with
  | dT ks' ds' => cases e; obtain ⟨a, vs, h1, h2, h3, h4⟩ := r; exact ⟨a, vs, h1, w.fz _ _ h2, h3, h4⟩
  | loc n =>
    obtain ⟨a, h1, h2⟩ := r
    have e : (match S[n]? with | some (.dT ks vs) => some (ks, vs) | _ => none) = some (ks, ds) := e
    cases q : S[n]? with
    | none => rw [q] at e; cases e
    | some o =>
      rw [q] at e
      cases o with
      | dT ks' ds' => cases e; obtain ⟨b, vs, k1, k2, k3, k4, k5⟩ := w.st n _ q; rw [h2] at k1; cases k1; exact ⟨a, vs, h1, k3, k4, k5⟩
      | _ => cases e
  | _ => cases e
theorem key_rep {K : PySem.W.Frag} {d : D} {v : V} {k : Key} (r : Rep K g α F d v) (e : keyOf d = some k) : v = kV k := by
  cases d with
  | int i => cases r; cases e; rfl
  | str x => obtain ⟨rfl, _⟩ := r; cases e; rfl
  | _ => cases e
theorem keys_rep {K : PySem.W.Frag} : ∀ {ds : List D} {vs : List V} {k : List Key}, Reps K g α F ds vs → mapO keyOf ds = some k → vs = k.map kV
  | [], vs, k, r, e => by cases r; cases e; rfl
  | d :: ds, vs, k, r, e => by
    obtain ⟨v, r', rfl, h1, h2⟩ := r
    unfold mapO at e
    cases q1 : keyOf d with
    | none => rw [q1] at e; cases e
    | some p =>
      cases q2 : mapO keyOf ds with
      | none => rw [q1, q2] at e; cases e
      | some ps =>
        rw [q1, q2] at e
        cases e
        rw [key_rep h1 q1, keys_rep h2 q2]
        rfl
theorem tkey_rep {K : PySem.W.Frag} (w : World K g R α F S H) {d : D} {v : V} {k : List Key} (r : Rep K g α F d v) (e : tkeyOf d = some k) : ∃ b, v = .ref b ∧ H b = some (.tup (k.map kV)) := by
  cases d with
  | tup xs =>
    obtain ⟨a, vs, rfl, h2, h3⟩ := r
    have := keys_rep h3 e
    subst this
    exact ⟨a, rfl, w.fz _ _ h2⟩
  | _ => cases e
theorem dget_rep {K : PySem.W.Frag} (w : World K g R α F S H) {d k : D} {v u : V} {o : Option D} (r : Rep K g α F d v) (rk : Rep K g α F k u) (e : dget d k S = some o) :
    ∃ a x, v = .ref a ∧ DGet H a u x ∧ ORep K g α F o x := by
  unfold dget at e
  cases q1 : dcK d S with
  | some p =>
    obtain ⟨ks, ds⟩ := p
    rw [q1] at e
    have e : (keyOf k).map (fun q => lookD ks ds q) = some o := e
    cases q2 : keyOf k with
    | none => rw [q2] at e; cases e
    | some q =>
      rw [q2] at e
      cases e
      obtain ⟨a, vs, h1, h2, h3, h4⟩ := dcK_of w r q1
      exact ⟨a, _, h1, by rw [key_rep rk q2]; exact DGet.k h2, look_rep q h4 h3⟩
  | none =>
    rw [q1] at e
    dsimp only at e
    cases q3 : dcT d S with
    | none => rw [q3] at e; cases e
    | some p =>
      obtain ⟨ks, ds⟩ := p
      rw [q3] at e
      have e : (tkeyOf k).map (fun q => lookD ks ds q) = some o := e
      cases q2 : tkeyOf k with
      | none => rw [q2] at e; cases e
      | some q =>
        rw [q2] at e
        cases e
        obtain ⟨a, vs, h1, h2, h3, h4⟩ := dcT_of w r q3
        obtain ⟨b, k1, k2⟩ := tkey_rep w rk q2
        exact ⟨a, _, h1, by rw [k1]; exact DGet.t h2 k2, look_rep q h4 h3⟩
theorem eq_val {K : PySem.W.Frag} {k : Bool} (w : World K g R α F S H) (rx : Rep K g α F x vx) (ry : Rep K g α F y vy) (e : eqD x y S = some k) : ∃ d e, Dp K H vx d ∧ Dp K H vy e ∧ SeqAt.shaped d = true ∧ SeqAt.shaped e = true ∧ PyData.eqv d e = k := by
  unfold eqD at e
  cases q1 : toP S 20 x with
  | none => rw [q1] at e; cases e
  | some p =>
    cases q2 : toP S 20 y with
    | none => rw [q1, q2] at e; cases e
    | some q =>
      rw [q1, q2] at e
      obtain ⟨a1, a2, a3⟩ := dp_of w _ _ _ _ rx q1
      obtain ⟨b1, b2, b3⟩ := dp_of w _ _ _ _ ry q2
      exact ⟨p, q, a1, b1, shaped_of a2 a3 (by decide), shaped_of b2 b3 (by decide), Option.some.inj e⟩
theorem in_val {K : PySem.W.Frag} {k : Bool} (w : World K g R α F S H) (rx : Rep K g α F x vx) (ry : Rep K g α F y vy) (e : inD x y S = some k) :
    (∃ d ds, Dp K H vx d ∧ Dp K H vy (.tuple ds) ∧ SeqAt.shaped d = true ∧ SeqAt.shaped (.tuple ds) = true ∧ (ds.any fun z => PyData.eqv z d) = k) ∨ (∃ a o, vy = .ref a ∧ DGet H a vx o ∧ o.isSome = k) ∨
    (∃ (c : Nat) (z : Str), vx = .str ⟨#[c]⟩ ∧ vy = .str z ∧ decide (c ∈ z.cps.toList) = k) ∨ ∃ d ds, Dp K H vx d ∧ Dp K H vy (.list ds) ∧ SeqAt.shaped d = true ∧ SeqAt.shaped (.list ds) = true ∧ (ds.any fun z => PyData.eqv z d) = k := by
  have go : ∀ ys, lstOf y S = some ys → (match toP S 19 x, toPs S 19 ys with | some p, some qs => some (qs.any fun z => PyData.eqv z p) | _, _ => none) = some k →
      ∃ d ds, Dp K H vx d ∧ Dp K H vy (.list ds) ∧ SeqAt.shaped d = true ∧ SeqAt.shaped (.list ds) = true ∧ (ds.any fun z => PyData.eqv z d) = k := by
    intro ys hy e
    obtain ⟨a, vs, rfl, h2, h3⟩ := lst_of w ry hy
    cases q1 : toP S 19 x with
    | none => rw [q1] at e; cases e
    | some p =>
      cases q2 : toPs S 19 ys with
      | none => rw [q1, q2] at e; cases e
      | some qs =>
        rw [q1, q2] at e
        obtain ⟨a1, a2, a3⟩ := dp_of w _ _ _ _ rx q1
        obtain ⟨b1, b2, b3⟩ := dps_of w _ _ _ _ h3 q2
        exact ⟨p, qs, a1, .lst (SqL.of h2) b1, shaped_of a2 a3 (by decide), shaped_of (n := 20) (p := .list qs) b2 (Nat.succ_le_succ b3) (by decide), Option.some.inj e⟩
  have rest : (match lstOf y S with | some ys => (match toP S 19 x, toPs S 19 ys with | some p, some qs => some (qs.any fun z => PyData.eqv z p) | _, _ => none) | none => (dget y x S).map (·.isSome)) = some k → (∃ a o, vy = .ref a ∧ DGet H a vx o ∧ o.isSome = k) ∨ ∃ d ds, Dp K H vx d ∧ Dp K H vy (.list ds) ∧ SeqAt.shaped d = true ∧ SeqAt.shaped (.list ds) = true ∧ (ds.any fun z => PyData.eqv z d) = k := by
    intro e
    cases q : lstOf y S with
    | some ys => rw [q] at e; exact .inr (go _ q e)
    | none =>
      rw [q] at e
      have e : (dget y x S).map (·.isSome) = some k := e
      cases q2 : dget y x S with
      | none => rw [q2] at e; cases e
      | some o =>
        rw [q2] at e
        obtain ⟨a, o', h1, h2, h3⟩ := dget_rep w ry rx q2
        refine .inl ⟨a, o', h1, h2, ?_⟩
        rw [← Option.some.inj e]
        cases o <;> cases o' <;> first | rfl | exact h3.elim
  cases y with
  | str z =>
    cases x with
    | str x' =>
      obtain ⟨rfl, _⟩ := rx
      obtain ⟨rfl, _⟩ := ry
      have e : (if x'.length = 1 then some (decide (x'.cps.getD 0 0 ∈ z.cps.toList)) else none) = some k := e
      split at e
      · rename_i hl
        refine .inr (.inr (.inl ⟨x'.cps.getD 0 0, z, ?_, rfl, Option.some.inj e⟩))
        have : x' = ⟨#[x'.cps.getD 0 0]⟩ := by
          obtain ⟨⟨l⟩⟩ := x'
          cases l with
          | nil => cases hl
          | cons c r =>
            cases r with
            | nil => rfl
            | cons c' r' => simp [Str.length] at hl
        exact congrArg V.str this
      · cases e
    | _ => cases e
  | tup ys =>
    obtain ⟨a, vs, rfl, h2, h3⟩ := ry
    have e : (match toP S 19 x, toPs S 19 ys with | some p, some qs => some (qs.any fun z => PyData.eqv z p) | _, _ => none) = some k := e
    cases q1 : toP S 19 x with
    | none => rw [q1] at e; cases e
    | some p =>
      cases q2 : toPs S 19 ys with
      | none => rw [q1, q2] at e; cases e
      | some qs =>
        rw [q1, q2] at e
        obtain ⟨a1, a2, a3⟩ := dp_of w _ _ _ _ rx q1
        obtain ⟨b1, b2, b3⟩ := dps_of w _ _ _ _ h3 q2
        exact .inl ⟨p, qs, a1, .tup (SqT.of (w.fz _ _ h2)) b1, shaped_of a2 a3 (by decide), shaped_of (n := 20) (p := .tuple qs) b2 (Nat.succ_le_succ b3) (by decide), Option.some.inj e⟩
  | _ => exact .inr ((rest e).elim .inl fun h => .inr (.inr h))
theorem cmp_val (o : CO) {k : Bool} (w : World X.K g R α F S H) (rx : Rep X.K g α F x vx) (ry : Rep X.K g α F y vy) (e : cmpD o x y S = some k) (h : Q (.bl k) H) : rCmp X.K o vx vy H Q := by
  cases o with
  | eq =>
    have e : eqD x y S = some k := by unfold cmpD at e; exact e
    obtain ⟨d, d', h1, h2, h3, h4, h5⟩ := eq_val w rx ry e
    exact ⟨d, d', h1, h2, h3, h4, by rw [h5]; exact h⟩
  | ne =>
    have e : (eqD x y S).map (!·) = some k := by unfold cmpD at e; exact e
    cases q : eqD x y S with
    | none => rw [q] at e; cases e
    | some k' =>
      rw [q] at e
      cases e
      obtain ⟨d, d', h1, h2, h3, h4, h5⟩ := eq_val w rx ry q
      exact ⟨d, d', h1, h2, h3, h4, by rw [h5]; exact h⟩
  | lt => unfold cmpD at e; split at e <;> first | contradiction | (cases e; done) | skip
          all_goals (cases rx; cases ry; have e := Option.some.inj e; subst e; exact ⟨_, _, rfl, rfl, h⟩)
  | le => unfold cmpD at e; split at e <;> first | contradiction | (cases e; done) | skip
          all_goals (cases rx; cases ry; have e := Option.some.inj e; subst e; exact ⟨_, _, rfl, rfl, h⟩)
  | gt => unfold cmpD at e; split at e <;> first | contradiction | (cases e; done) | skip
          all_goals (cases rx; cases ry; have e := Option.some.inj e; subst e; exact ⟨_, _, rfl, rfl, h⟩)
  | ge => unfold cmpD at e; split at e <;> first | contradiction | (cases e; done) | skip
          all_goals (cases rx; cases ry; have e := Option.some.inj e; subst e; exact ⟨_, _, rfl, rfl, h⟩)
  | isN => unfold cmpD at e; split at e <;> first | contradiction | (cases e; done) | skip
           all_goals (have z : vy = V.non := ry; refine ⟨z, ?_⟩; rw [rx.isNon]; have e := Option.some.inj e; rw [← e] at h; exact h)
  | notN => unfold cmpD at e; split at e <;> first | contradiction | (cases e; done) | skip
            all_goals (have z : vy = V.non := ry; refine ⟨z, ?_⟩; rw [rx.isNon]; have e := Option.some.inj e; rw [← e] at h; exact h)
  | inn =>
    have e : inD x y S = some k := by unfold cmpD at e; exact e
    rcases in_val w rx ry e with ⟨d, ds, h1, h2, h3, h4, h5⟩ | ⟨a, o, h1, h2, h3⟩ | ⟨c, z, h1, h2, h3⟩ | ⟨d, ds, h1, h2, h3, h4, h5⟩
    · exact .inl ⟨d, ds, h1, h2, h3, h4, by rw [h5]; exact h⟩
    · exact .inr (.inl ⟨a, o, h1, h2, by rw [h3]; exact h⟩)
    · exact .inr (.inr (.inl ⟨c, z, h1, h2, by rw [h3]; exact h⟩))
    · exact .inr (.inr (.inr ⟨d, ds, h1, h2, h3, h4, by rw [h5]; exact h⟩))
  | nin =>
    have e : (inD x y S).map (!·) = some k := by unfold cmpD at e; exact e
    cases q : inD x y S with
    | none => rw [q] at e; cases e
    | some k' =>
      rw [q] at e
      cases e
      rcases in_val w rx ry q with ⟨d, ds, h1, h2, h3, h4, h5⟩ | ⟨a, o, h1, h2, h3⟩ | ⟨c, z, h1, h2, h3⟩ | ⟨d, ds, h1, h2, h3, h4, h5⟩
      · exact .inl ⟨d, ds, h1, h2, h3, h4, by rw [h5]; exact h⟩
      · exact .inr (.inl ⟨a, o, h1, h2, by rw [h3]; exact h⟩)
      · exact .inr (.inr (.inl ⟨c, z, h1, h2, by rw [h3]; exact h⟩))
      · exact .inr (.inr (.inr ⟨d, ds, h1, h2, h3, h4, by rw [h5]; exact h⟩))
/-! ### items and slices -/
theorem atI_rep {K : PySem.W.Frag} {ds : List D} {vs : List V} {i : Int} {d : D} (r : Reps K g α F ds vs) (e : atI ds i = some d) : ∃ v, atI vs i = some v ∧ Rep K g α F d v := by
  unfold atI at e ⊢
  rw [← r.length]
  cases q : ixN ds.length i with
  | none => rw [q] at e; cases e
  | some j => rw [q] at e; exact r.get e
theorem atI_mem {β : Type} {xs : List β} {i : Int} {c : β} (e : atI xs i = some c) : c ∈ xs := by
  unfold atI at e
  cases q : ixN xs.length i with
  | none => rw [q] at e; cases e
  | some j => rw [q] at e; exact List.mem_of_getElem? e
def rIxC : R2 := fun x y H Q => ∃ a v, x = .ref a ∧ DGet H a y (some v) ∧ Q v H
theorem ix_dict (hu : X.A.units + 1 < cLine) : IxR X rIxC := by
  intro value slice pins s σ H x y v u Q I rx ry h hs
  obtain ⟨a, z, rfl, gg, q⟩ := h
  cases rx
  have hT := dict_typeIs I gg
  unfold subscriptTail
  refine wpAny_bind ?_
  rw [getitemInPython_of_ne hT.not_modules]
  refine wpAny_bind (wpAny_specialOf hT PySem.F.slot_dict_getitem.lookup ?_)
  have fin : wpAny (model X.prog X.w) X.A (subscripted slice false (.ref a) u) (fun r s₃ => wpAny (model X.prog X.w) X.A (letTemporaryGo value (.ref a) r >>= fun _ => pure r) (EP X pins σ Q) X.xe s₃) X.xe s := by
    rw [hs]
    exact wpAny_operating (wpAny_mono (d_getItem hu I gg ry fun w' s3 I3 rw' => (⟨z, H, I3, rw', q⟩ : EP X pins σ Q w' s3)) (fun r s₃ h₃ => wpAny_bind (wpAny_letTemporaryGo (wpAny_pure h₃))) fun _ _ x => x)
  first
    | exact wpAny_pure (wpAny_bind fin)
    | exact wpAny_bind (wpAny_pure (wpAny_bind fin))
    | exact wpAny_bind fin
def rIxA (K : PySem.W.Frag) : R2 := fun x y H Q => rIx K x y H Q ∨ rIxC x y H Q
theorem ix_all (hu : X.A.units + 1 < cLine) : IxR X (rIxA X.K) := ix_seq.or (ix_dict hu)
theorem idx_val (w : World X.K g R α F S H) (rx : Rep X.K g α F x vx) (ry : Rep X.K g α F y vy) (h0 : Aft X.K g R (Rep X.K g) α F (ofO (idxD x y S) S) Q) : rIxA X.K vx vy H Q := by
  obtain ⟨d, e, h⟩ := ofO_some h0
  clear h0
  have rest : (match lstOf x S with | some xs => atD xs y | none => (dget x y S).bind id) = some d → rIxA X.K vx vy H Q := by
    intro e
    cases q : lstOf x S with
    | some xs =>
      rw [q] at e
      cases y with
      | int i =>
        cases ry
        obtain ⟨a, vs, rfl, h2, h3⟩ := lst_of w rx q
        obtain ⟨v, q1, q2⟩ := atI_rep h3 e
        exact .inl (.inl ⟨a, vs, _, v, rfl, rfl, SqL.of h2, q1, h.now w q2⟩)
      | _ => cases e
    | none =>
      rw [q] at e
      have e : (dget x y S).bind id = some d := e
      cases q2 : dget x y S with
      | none => rw [q2] at e; cases e
      | some o =>
        rw [q2] at e
        have e : o = some d := e
        subst e
        obtain ⟨a, o', h1, h2, h3⟩ := dget_rep w rx ry q2
        cases o' with
        | none => exact h3.elim
        | some v => exact .inr ⟨a, v, h1, h2, h.now w h3⟩
  cases x with
  | str z =>
    cases y with
    | int i =>
      cases ry
      obtain ⟨rfl, ox⟩ := rx
      have e : (atI z.cps.toList i).map (fun c => D.str ⟨#[c]⟩) = some d := e
      cases q : atI z.cps.toList i with
      | none => rw [q] at e; cases e
      | some c =>
        rw [q] at e
        cases e
        refine .inl (.inr (.inr ⟨z, _, c, rfl, rfl, okS_len ox, q, h.now w ⟨rfl, okS_sub ox (fun c' hc => ?_) ?_⟩⟩))
        · have : c' = c := by simpa using hc
          subst this
          exact Array.mem_toList_iff.mp (atI_mem q)
        · show 1 ≤ z.cps.size
          have h1 := List.length_pos_of_mem (atI_mem q)
          rw [Array.length_toList] at h1
          exact h1
    | _ => cases e
  | tup xs =>
    cases y with
    | int i =>
      cases ry
      obtain ⟨a, vs, rfl, h2, h3⟩ := rx
      have e : atI xs i = some d := e
      obtain ⟨v, q1, q2⟩ := atI_rep h3 e
      exact .inl (.inr (.inl ⟨a, vs, _, v, rfl, rfl, SqT.of (w.fz _ _ h2), q1, h.now w q2⟩))
    | _ => cases e
  | _ => exact rest e
def rSlc (K : PySem.W.Frag) : V → Option Int → Option Int → Hp → VK → Prop := fun x lo hi H Q => rSlL K x lo hi H Q ∨ rSlA K x lo hi H Q ∨ rSlS x lo hi H Q
theorem sl_any : SlR X (rSlc X.K) := sl_list.or (sl_tupA.or sl_str)
theorem cut_rep {K : PySem.W.Frag} {ds : List D} {vs : List V} (lo hi : Option Int) (r : Reps K g α F ds vs) : Reps K g α F (cutD ds lo hi) (cutV vs lo hi) := by
  unfold cutD cutV
  rw [r.length]
  exact (r.drop _).take _
theorem cut_ints (ns : List Int) (lo hi : Option Int) : cutV (ns.map V.int) lo hi = (cutD ns lo hi).map V.int := by
  unfold cutD cutV
  rw [List.length_map, List.map_take, List.map_drop]
theorem reps_ints {K : PySem.W.Frag} : ∀ ns : List Int, Reps K g α F (ns.map D.int) (ns.map V.int)
  | [] => rfl
  | n :: ns => ⟨.int n, _, rfl, rfl, reps_ints ns⟩
theorem okS_cut {z : Str} {lo hi : Option Int} (o : okS z = true) : okS (cutS z lo hi) = true := by
  refine okS_sub o (fun c hc => ?_) ?_
  · unfold cutS at hc
    have hc : c ∈ (z.cps.toList.drop (HT.sIx z.length 0 lo)).take (HT.sIx z.length z.length hi - HT.sIx z.length 0 lo) := by simpa using hc
    exact Array.mem_toList_iff.mp (List.mem_of_mem_drop (List.mem_of_mem_take hc))
  · unfold cutS
    show ((z.cps.toList.drop (HT.sIx z.length 0 lo)).take (HT.sIx z.length z.length hi - HT.sIx z.length 0 lo)).toArray.size ≤ z.cps.size
    rw [List.size_toArray, List.length_take, List.length_drop, Array.length_toList]
    omega
theorem slc_val {lo hi : Option Int} (w : World X.K g R α F S H) (rx : Rep X.K g α F x vx) (h0 : Aft X.K g R (Rep X.K g) α F (ofO (slcD x lo hi S) S) Q) : rSlc X.K vx lo hi H Q := by
  obtain ⟨d, e, h⟩ := ofO_some h0
  clear h0
  unfold slcD at e
  split at e
  · obtain ⟨rfl, ox⟩ := rx
    cases e
    exact .inr (.inr ⟨_, rfl, okS_len ox, h.now w ⟨rfl, okS_cut ox⟩⟩)
  · obtain ⟨a, vs, rfl, h2, h3⟩ := rx
    cases e
    refine .inr (.inl ⟨a, vs, rfl, SqT.of (w.fz _ _ h2), fun ⟨q1, q2⟩ => ?_, fun _ => h.newT w (cut_rep lo hi h3)⟩)
    refine h.now w ⟨a, vs, rfl, h2, ?_⟩
    unfold cutD
    rw [h3.length, q1, q2, List.drop_zero, Nat.sub_zero, ← h3.length, List.take_length]
    exact h3
  · obtain ⟨a, rfl, h2⟩ := rx
    cases e
    refine .inl ⟨a, _, rfl, w.sqL h2, ?_⟩
    rw [cut_ints]
    exact h.newL w (reps_ints _)
  · cases q : lstOf x S with
    | none => rw [q] at e; cases e
    | some xs =>
      rw [q] at e
      cases e
      obtain ⟨a, vs, rfl, h2, h3⟩ := lst_of w rx q
      exact .inl ⟨a, vs, rfl, SqL.of h2, h.newL w (cut_rep lo hi h3)⟩
/-! ### isinstance -/
def Ty.val (g : Gb) : Ty → V
  | .int => .ty "int" | .bool => .ty "bool" | .str => .ty "str" | .list => .ty "list" | .tuple => .ty "tuple" | .own c _ => .ref (g.cA c)
def Ty.py (g : Gb) : Ty → Value
  | .int => .type "int" | .bool => .type "bool" | .str => .type "str" | .list => .type "list" | .tuple => .type "tuple" | .own c _ => .ref (g.cA c)
theorem Ty.cls (g : Gb) (t : Ty) : ClsV (t.val g) (t.py g) := by cases t <;> first | exact .ty _ | exact .own _
/-- the classes of the program, as isinstance asks of them -/
structure IsOk (K : PySem.W.Frag) (g : Gb) (ncls : Nat) : Prop where
  cl : ∀ c, c < ncls → Cls K (g.cA c)
  ha : ∀ c, c < ncls → PySem.W.findIn K (.ref (g.cA c)) "__class__" = some (some (.builtin "object.__class__"))
  hn : 0 < ncls → PySem.W.specialIn K (.builtin "object.__class__") "__get__" = some (some (.builtin "getset_descriptor.__get__"))
  ht : 0 < ncls → PySem.W.takesIn K (.builtin "object.__class__") = some true
  hm : ∀ c, c < ncls → PySem.W.mroIn K (g.cA c) (.type "object") = some true
  kB : ∀ c t, c < ncls → (match t with | Ty.own .. => False | _ => True) → PySem.W.kitOne K (.ref (g.cA c)) (t.py g) = some false
  kO : ∀ c k, c < ncls → k < ncls → PySem.W.kitOne K (.ref (g.cA c)) (.ref (g.cA k)) = some (g.sub c k)
  kT : ∀ n k, k < ncls → n ∈ (["NoneType", "bool", "int", "str", "list", "tuple"] : List String) → PySem.W.kitOne K (.type n) (.ref (g.cA k)) = some false
end
end Itp
namespace Itp
open PySem PySem.Spec PyProof.Rows L2
section
variable {g : Gb} {α : Nat → Option Addr} {F H R : Hp} {S : Sto} {X : Cx} {x y d : D} {vx vy v : V} {Q : VK}
/-! ### isinstance -/
def TK.py (g : Gb) : TK → Value
  | .non => .type "NoneType" | .bl => .type "bool" | .int => .type "int" | .str => .type "str" | .lst => .type "list" | .tup => .type "tuple" | .obj c => .ref (g.cA c)
def TK.ok (g : Gb) : TK → Prop
  | .obj c => c < g.nc
  | _ => True
theorem tk_of (I : IsOk X.K g g.nc) (w : World X.K g R α F S H) {t : TK} (r : Rep X.K g α F d v) (e : tkD d S = some t) : TyX X.K H v (t.py g) ∧ t.ok g := by
  cases d with
  | non => cases r; cases e; exact ⟨.base .non, trivial⟩
  | bl b => cases r; cases e; exact ⟨.base (.bl b), trivial⟩
  | int b => cases r; cases e; exact ⟨.base (.int b), trivial⟩
  | str b => obtain ⟨rfl, _⟩ := r; cases e; exact ⟨.base (.str b), trivial⟩
  | lst xs => obtain ⟨a, vs, rfl, h2, _⟩ := r; cases e; exact ⟨.base (.lst (w.fz _ _ h2)), trivial⟩
  | tup xs => obtain ⟨a, vs, rfl, h2, _⟩ := r; cases e; exact ⟨.base (.tup (w.fz _ _ h2)), trivial⟩
  | obj c ns ds => obtain ⟨a, dx, vs, rfl, h2, h3, _⟩ := r; cases e; exact ⟨.base (.ins (w.fz _ _ h2) (I.cl c h3.2) (I.ha c h3.2) (I.hn (Nat.lt_of_le_of_lt (Nat.zero_le _) h3.2)) (I.ht (Nat.lt_of_le_of_lt (Nat.zero_le _) h3.2)) (I.hm c h3.2)), h3.2⟩
  | loc n =>
    obtain ⟨a, rfl, h1⟩ := r
    have e : (match S[n]? with | some (.lst _) => some TK.lst | some (.ins c _ _) => some (.obj c) | _ => none) = some t := e
    cases q : S[n]? with
    | none => rw [q] at e; cases e
    | some o =>
      have k := w.st n o q
      cases o with
      | lst xs => rw [q] at e; cases e; obtain ⟨b, vs, k1, k2, k3, _⟩ := k; rw [h1] at k1; cases k1; exact ⟨.base (.lst k3), trivial⟩
      | ins c ns ds => rw [q] at e; cases e; obtain ⟨b, dx, vs, k1, k2, k3, k4, _⟩ := k; rw [h1] at k1; cases k1; exact ⟨.base (.ins k3 (I.cl c k4.2) (I.ha c k4.2) (I.hn (Nat.lt_of_le_of_lt (Nat.zero_le _) k4.2)) (I.ht (Nat.lt_of_le_of_lt (Nat.zero_le _) k4.2)) (I.hm c k4.2)), k4.2⟩
      | dead => rw [q] at e; cases e
      | dK ks vs => rw [q] at e; cases e
      | dT ks vs => rw [q] at e; cases e
  | scr n => cases e
  | cls n => cases e
  | dK ks vs => cases e
  | dT ks vs => cases e
def Ty.ok (g : Gb) : Ty → Bool
  | .own k sb => decide (k < g.nc) && (List.range g.nc).all fun c => g.sub c k == sb.contains c
  | _ => true
theorem kit_is (I : IsOk X.K g g.nc) {k : TK} {t : Ty} (hk : k.ok g) (ht : t.ok g = true) : PySem.W.kitOne X.K (k.py g) (t.py g) = some (isK k t) := by
  cases t with
  | own j sb =>
    have ht : (decide (j < g.nc) && (List.range g.nc).all fun c => g.sub c j == sb.contains c) = true := ht
    rw [Bool.and_eq_true] at ht
    have hj : j < g.nc := of_decide_eq_true ht.1
    cases k with
    | obj c =>
      have e : g.sub c j = sb.contains c := by simpa using List.all_eq_true.mp ht.2 c (List.mem_range.mpr hk)
      show _ = some (sb.contains c)
      rw [← e]
      exact I.kO c j hk hj
    | _ => exact I.kT _ j hj (by decide)
  | _ =>
    cases k with
    | obj c => exact I.kB c _ hk trivial
    | _ => exact kit_ty (by decide +kernel)
theorem kit_any (I : IsOk X.K g g.nc) {k : TK} (hk : k.ok g) : ∀ {ts : List Ty}, ts.all (Ty.ok g) = true → PySem.W.kitAny X.K (k.py g) (ts.map (Ty.py g)) = some (ts.any (isK k))
  | [], _ => rfl
  | t :: ts, h => by
    rw [List.all_cons, Bool.and_eq_true] at h
    rw [List.map_cons, List.any_cons]
    refine kitAny_cons (kit_is I hk h.1) (fun hb => ?_) (fun hb => by rw [hb]; rfl)
    rw [hb, Bool.false_or]
    exact kit_any I hk h.2
/-! ### built-in functions -/
def signsV (x : Str) : List V := x.cps.toList.map fun c => .str ⟨#[c]⟩
theorem vals_of {f : Nat → V} : ∀ {cs : List Nat} {us : List Value}, us.length = cs.length → (∀ (j : Nat) (v : Value), us[j]? = some v → ∃ c, cs[j]? = some c ∧ RelV (f c) v) → Vals (cs.map f) us
  | [], [], _, _ => .nil
  | c :: cs, u :: us, hl, h => by
    obtain ⟨c', e, r⟩ := h 0 u rfl
    have e : c = c' := Option.some.inj e
    subst e
    exact .cons r (vals_of (by simpa using hl) fun j v q => h (j + 1) v q)
theorem vals_signs {x : Str} {acc : Array Value} (h : ItemsOf (SignAt x) acc x.cps.size) : Vals (signsV x) acc.toList := by
  obtain ⟨h1, h2⟩ := h
  refine vals_of (by rw [Array.length_toList, Array.length_toList]; exact h1) fun j v q => ?_
  obtain ⟨c, u, k1, k2⟩ := h2 j v (by rw [← Array.getElem?_toList]; exact q)
  exact ⟨c, by rw [Array.getElem?_toList]; exact k1, ⟨u, k2⟩⟩
theorem call_list_txt (hc : X.calm = true) : CallR X (.type "list") (fun xs H Q => ∃ x, xs = [.str x] ∧ x.length ≤ sizeLine ∧ ∀ l, H l = none → Q (.ref l) (upd H l (.lst (signsV x)))) := by
  intro pins s σ H xs us Q I r h
  obtain ⟨x, rfl, hz, q⟩ := h
  obtain ⟨u, rfl, t, rfl⟩ := vals1 r
  refine PySem.call_list_str (I.ok.hd hc) x t (fun h' tk acc c k e hi => ?_) hz
  refine ⟨.ref s.heap.objs.size, _, I.laid (o := .lst (signsV x)) k (Nat.le_refl _) ⟨?_, acc.toList, c, vals_signs hi, by simpa using e⟩, rfl, q _ (I.hok.fresh (Nat.le_refl _))⟩
  unfold signsV
  rw [List.length_map, Array.length_toList]
  exact hz
end
end Itp
namespace Itp
open PySem PySem.Spec PyProof.Rows L2
/-! ### built-in functions -/
def BF.nm : BF → Str
  | .len => "len" | .int => "int" | .list => "list" | .tuple => "tuple" | .all => "all" | .any => "any" | .str => "str" | .range => "range" | .max => "max" | .min => "min" | .sum => "sum" | .sorted => "sorted" | .bool => "bool" | .max2 => "max" | .min2 => "min" | .lrng => "list" | .lzip => "list" | .lenD => "len" | .listD => "list"
/-- those that the checker lets -/
def BF.ok : BF → Bool
  | .range => false | .sorted => false | .lrng => false | .lzip => false | .lenD => false | .listD => false
  | _ => true
def rBf (K : PySem.W.Frag) : BF → List V → Hp → VK → Prop
  | .len => fun xs H Q => ∃ x n, xs = [x] ∧ LenV K x H n ∧ Q (.int n) H
  | .int => fun xs H Q => (∃ i, xs = [.int i] ∧ Q (.int i) H) ∨ ∃ k, xs = [.bl k] ∧ Q (.int (if k then 1 else 0)) H
  | .list => fun xs H Q => (∃ x, xs = [.str x] ∧ x.length ≤ sizeLine ∧ ∀ l, H l = none → Q (.ref l) (upd H l (.lst (signsV x)))) ∨ ∃ p ys, xs = [.ref p] ∧ (SqL K H p ys ∨ SqT K H p ys) ∧ ∀ l, H l = none → Q (.ref l) (upd H l (.lst ys))
  | .tuple => fun xs H Q => ∃ p ys, xs = [.ref p] ∧ ((SqL K H p ys ∧ ∀ l, H l = none → Q (.ref l) (upd H l (.tup ys))) ∨ (SqT K H p ys ∧ Q (.ref p) H))
  | .all => rAll K
  | .any => rAny K
  | .str => fun xs H Q => ∃ i, xs = [.int i] ∧ i.natAbs.log2 < 1920 ∧ Q (.str (toString i)) H
  | .range => fun _ _ _ => False
  | .max => rMax K
  | .min => rMin K
  | .sum => rSum K
  | .bool => fun xs H Q => (∃ i, xs = [.int i] ∧ Q (.bl (i != 0)) H) ∨ ∃ k, xs = [.bl k] ∧ Q (.bl k) H
  | .max2 => fun xs H Q => ∃ i j, xs = [.int i, .int j] ∧ Q (.int (if j > i then j else i)) H
  | .min2 => fun xs H Q => ∃ i j, xs = [.int i, .int j] ∧ Q (.int (if j < i then j else i)) H
  | .sorted => fun _ _ _ => False
  | .lrng => fun _ _ _ => False
  | .lzip => fun _ _ _ => False
  | .lenD => fun _ _ _ => False
  | .listD => fun _ _ _ => False
section
variable {g : Gb} {α : Nat → Option Addr} {F H R : Hp} {S : Sto} {X : Cx} {x y d : D} {vx vy v : V} {Q : VK}
theorem bls_of {K : PySem.W.Frag} : ∀ {xs : List D} {vs : List V} {bs : List Bool}, Reps K g α F xs vs → blsOf xs = some bs → vs = bs.map V.bl
  | [], vs, bs, r, e => by cases r; cases e; rfl
  | d :: xs, vs, bs, r, e => by
    obtain ⟨v, r', rfl, h1, h2⟩ := r
    cases d with
    | bl b =>
      have e : (blsOf xs).map (b :: ·) = some bs := e
      cases q : blsOf xs with
      | none => rw [q] at e; cases e
      | some bs' =>
        rw [q] at e
        cases e
        cases h1
        rw [bls_of h2 q]
        rfl
    | _ => cases e
theorem ints_of {K : PySem.W.Frag} : ∀ {xs : List D} {vs : List V} {bs : List Int}, Reps K g α F xs vs → intsOf xs = some bs → vs = bs.map V.int
  | [], vs, bs, r, e => by cases r; cases e; rfl
  | d :: xs, vs, bs, r, e => by
    obtain ⟨v, r', rfl, h1, h2⟩ := r
    cases d with
    | int b =>
      have e : (intsOf xs).map (b :: ·) = some bs := e
      cases q : intsOf xs with
      | none => rw [q] at e; cases e
      | some bs' =>
        rw [q] at e
        cases e
        cases h1
        rw [ints_of h2 q]
        rfl
    | _ => cases e
theorem max_uniq {ns : List Int} {m k : Int} (e : maxL ns = some m) (hk : k ∈ ns) (h : ∀ y ∈ ns, y ≤ k) : k = m := by
  have go : ∀ (r : List Int) (x : Int), (r.foldl max x = x ∨ r.foldl max x ∈ r) ∧ x ≤ r.foldl max x ∧ ∀ y ∈ r, y ≤ r.foldl max x := by
    intro r
    induction r with
    | nil => intro x; exact ⟨.inl rfl, Int.le_refl _, fun _ h => nomatch h⟩
    | cons a r ih =>
      intro x
      obtain ⟨h1, h2, h3⟩ := ih (max x a)
      rw [List.foldl_cons]
      refine ⟨?_, by omega, fun y hy => ?_⟩
      · rcases h1 with h1 | h1
        · by_cases hx : x ≤ a
          · right; rw [h1, Int.max_eq_right hx]; exact List.mem_cons_self
          · left; rw [h1, Int.max_eq_left (by omega)]
        · exact .inr (List.mem_cons_of_mem _ h1)
      · rcases List.mem_cons.mp hy with e | hy
        · subst e; omega
        · exact h3 y hy
  cases ns with
  | nil => cases e
  | cons x r =>
    cases e
    obtain ⟨h1, h2, h3⟩ := go r x
    have a : r.foldl max x ≤ k := by
      rcases h1 with h1 | h1
      · rw [h1]; exact h x List.mem_cons_self
      · exact h _ (List.mem_cons_of_mem _ h1)
    have b : k ≤ r.foldl max x := by
      rcases List.mem_cons.mp hk with e | hk
      · rw [e]; exact h2
      · exact h3 k hk
    omega
theorem min_uniq {ns : List Int} {m k : Int} (e : minL ns = some m) (hk : k ∈ ns) (h : ∀ y ∈ ns, k ≤ y) : k = m := by
  have go : ∀ (r : List Int) (x : Int), (r.foldl min x = x ∨ r.foldl min x ∈ r) ∧ r.foldl min x ≤ x ∧ ∀ y ∈ r, r.foldl min x ≤ y := by
    intro r
    induction r with
    | nil => intro x; exact ⟨.inl rfl, Int.le_refl _, fun _ h => nomatch h⟩
    | cons a r ih =>
      intro x
      obtain ⟨h1, h2, h3⟩ := ih (min x a)
      rw [List.foldl_cons]
      refine ⟨?_, by omega, fun y hy => ?_⟩
      · rcases h1 with h1 | h1
        · by_cases hx : a ≤ x
          · right; rw [h1, Int.min_eq_right hx]; exact List.mem_cons_self
          · left; rw [h1, Int.min_eq_left (by omega)]
        · exact .inr (List.mem_cons_of_mem _ h1)
      · rcases List.mem_cons.mp hy with e | hy
        · subst e; omega
        · exact h3 y hy
  cases ns with
  | nil => cases e
  | cons x r =>
    cases e
    obtain ⟨h1, h2, h3⟩ := go r x
    have a : k ≤ r.foldl min x := by
      rcases h1 with h1 | h1
      · rw [h1]; exact h x List.mem_cons_self
      · exact h _ (List.mem_cons_of_mem _ h1)
    have b : r.foldl min x ≤ k := by
      rcases List.mem_cons.mp hk with e | hk
      · rw [e]; exact h2
      · exact h3 k hk
    omega
theorem strs_of {K : PySem.W.Frag} : ∀ {xs : List D} {vs : List V} {bs : List Str}, Reps K g α F xs vs → strsOf xs = some bs → vs = bs.map V.str ∧ ∀ b ∈ bs, okS b = true
  | [], vs, bs, r, e => by cases r; cases e; exact ⟨rfl, fun _ h => nomatch h⟩
  | d :: xs, vs, bs, r, e => by
    obtain ⟨v, r', rfl, h1, h2⟩ := r
    cases d with
    | str b =>
      have e : (strsOf xs).map (b :: ·) = some bs := e
      cases q : strsOf xs with
      | none => rw [q] at e; cases e
      | some bs' =>
        rw [q] at e
        cases e
        obtain ⟨rfl, ob⟩ := h1
        obtain ⟨k1, k2⟩ := strs_of h2 q
        rw [k1]
        refine ⟨rfl, fun b' hb => ?_⟩
        rcases List.mem_cons.mp hb with e | hb
        · rw [e]; exact ob
        · exact k2 b' hb
    | _ => cases e
theorem reps_one {K : PySem.W.Frag} {d : D} {vs : List V} (r : Reps K g α F [d] vs) : ∃ v, vs = [v] ∧ Rep K g α F d v := by
  obtain ⟨v, r', rfl, h1, h2⟩ := r
  cases h2
  exact ⟨v, rfl, h1⟩
theorem reps_two {K : PySem.W.Frag} {d e : D} {vs : List V} (r : Reps K g α F [d, e] vs) : ∃ v w, vs = [v, w] ∧ Rep K g α F d v ∧ Rep K g α F e w := by
  obtain ⟨v, r', rfl, h1, h2⟩ := r
  obtain ⟨w, rfl, h3⟩ := reps_one h2
  exact ⟨v, w, rfl, h1, h3⟩
theorem reps_signs {K : PySem.W.Frag} {x : Str} (o : okS x = true) : Reps K g α F (signs x) (signsV x) := by
  have all : ∀ cs : List Nat, (∀ c ∈ cs, c ∈ x.cps.toList) → Reps K g α F (cs.map fun c => D.str ⟨#[c]⟩) (cs.map fun c => V.str ⟨#[c]⟩) := by
    intro cs
    induction cs with
    | nil => intro _; rfl
    | cons c cs ih =>
      intro h
      refine ⟨_, _, rfl, ⟨rfl, okS_sub o (fun c' hc => ?_) ?_⟩, ih fun c' hc => h c' (List.mem_cons_of_mem _ hc)⟩
      · have : c' = c := by simpa using hc
        subst this
        exact Array.mem_toList_iff.mp (h _ List.mem_cons_self)
      · show 1 ≤ x.cps.size
        have h1 := List.length_pos_of_mem (h c List.mem_cons_self)
        rw [Array.length_toList] at h1
        exact h1
  exact all _ fun _ h => h
theorem okS_ofString (s : String) (h : (Str.ofString s).length ≤ sizeLine) : okS (Str.ofString s) = true := by
  unfold okS
  rw [Bool.and_eq_true]
  refine ⟨?_, decide_eq_true (by rw [size16] at h; exact h)⟩
  rw [Str.ofString_eq_toList, Array.all_eq_true']
  intro c hc
  have hc : c ∈ s.toList.map Char.toNat := by simpa using hc
  obtain ⟨ch, _, rfl⟩ := List.mem_map.mp hc
  have := ch.valid
  refine decide_eq_true ?_
  show ch.val.toNat < 0x110000
  rcases this with h | h
  · have : ch.val.toNat < 0xd800 := h
    omega
  · exact h.2
theorem log2_small {i : Int} (h : i.natAbs < 2 ^ 64) : i.natAbs.log2 < 1920 := by
  by_cases z : i.natAbs = 0
  · rw [z]; decide
  · have := (Nat.log2_lt z).mpr h
    omega
theorem okS_num (i : Int) (h : i.natAbs < 2 ^ 64) : okS (toString i : Str) = true := okS_ofString _ (int_text_fits (log2_small h))
theorem bf_val (b : BF) (hb : b.ok = true) {ds : List D} {vs : List V} (w : World X.K g R α F S H) (r : Reps X.K g α F ds vs) (h0 : Aft X.K g R (Rep X.K g) α F (ofO (bfD b ds S) S) Q) : rBf X.K b vs H Q := by
  obtain ⟨d, e, h⟩ := ofO_some h0
  clear h0
  cases ds with
  | nil => cases b <;> cases e
  | cons d1 rest =>
    cases rest with
    | cons d2 rest =>
      have two : ∀ (f : Int → Int → Int) (bb : BF), (∀ i j, bfD bb [.int i, .int j] S = some (.int (f i j))) → (∀ l d, bfD bb l S = some d → ∃ i j, l = [.int i, .int j]) → bfD bb (d1 :: d2 :: rest) S = some d → ∃ i j, vs = [.int i, .int j] ∧ d = .int (f i j) := by
        intro f bb h1 h2 e
        obtain ⟨i, j, z⟩ := h2 _ _ e
        cases z
        obtain ⟨v, v', rfl, r1, r2⟩ := reps_two r
        cases r1; cases r2
        rw [h1] at e
        exact ⟨i, j, rfl, (Option.some.inj e).symm⟩
      cases b with
      | max2 =>
        obtain ⟨i, j, rfl, rfl⟩ := two max .max2 (fun _ _ => rfl) (fun l d e => by
          unfold bfD at e
          split at e <;> first | contradiction | (cases e; done) | exact ⟨_, _, rfl⟩) e
        refine ⟨i, j, rfl, h.now w ?_⟩
        show V.int _ = V.int _
        congr 1
        split <;> omega
      | min2 =>
        obtain ⟨i, j, rfl, rfl⟩ := two min .min2 (fun _ _ => rfl) (fun l d e => by
          unfold bfD at e
          split at e <;> first | contradiction | (cases e; done) | exact ⟨_, _, rfl⟩) e
        refine ⟨i, j, rfl, h.now w ?_⟩
        show V.int _ = V.int _
        congr 1
        split <;> omega
      | _ => first | (cases hb; done) | (cases e; done) | (cases d1 <;> cases e)
    | nil =>
      obtain ⟨v, rfl, r1⟩ := reps_one r
      clear r
      have hL : ∀ {k : List D → D}, (lstOf d1 S).map k = some d → ∃ xs a vs, d = k xs ∧ v = .ref a ∧ H a = some (.lst vs) ∧ Reps X.K g α F xs vs := by
        intro k e
        cases q : lstOf d1 S with
        | none => rw [q] at e; cases e
        | some xs =>
          rw [q] at e
          obtain ⟨a, vs, h1, h2, h3⟩ := lst_of w r1 q
          exact ⟨xs, a, vs, (Option.some.inj e).symm, h1, h2, h3⟩
      have hB : ∀ {k : List Bool → D}, ((lstOf d1 S).bind fun xs => (blsOf xs).map k) = some d → ∃ bs a, d = k bs ∧ v = .ref a ∧ H a = some (.lst (bs.map V.bl)) := by
        intro k e
        cases q : lstOf d1 S with
        | none => rw [q] at e; cases e
        | some xs =>
          rw [q] at e
          have e : (blsOf xs).map k = some d := e
          cases q2 : blsOf xs with
          | none => rw [q2] at e; cases e
          | some bs =>
            rw [q2] at e
            obtain ⟨a, vs, h1, h2, h3⟩ := lst_of w r1 q
            rw [bls_of h3 q2] at h2
            exact ⟨bs, a, (Option.some.inj e).symm, h1, h2⟩
      cases b with
      | len =>
        have fin : (lstOf d1 S).map (fun xs => D.int xs.length) = some d → rBf X.K .len [v] H Q := fun e => by
          obtain ⟨xs, a, vs, rfl, rfl, h2, h3⟩ := hL e
          exact ⟨_, xs.length, rfl, .inl ⟨vs, SqL.of h2, h3.length⟩, h.now w rfl⟩
        cases d1 with
        | str x => obtain ⟨rfl, ox⟩ := r1; cases e; exact ⟨_, x.length, rfl, ⟨okS_len ox, rfl⟩, h.now w rfl⟩
        | tup xs => obtain ⟨a, vs, rfl, h2, h3⟩ := r1; cases e; exact ⟨_, xs.length, rfl, .inr ⟨vs, SqT.of (w.fz _ _ h2), h3.length⟩, h.now w rfl⟩
        | _ => exact fin e
      | int =>
        cases d1 with
        | int i => cases r1; cases e; exact .inl ⟨i, rfl, h.now w rfl⟩
        | _ => cases e
      | list =>
        have fin : (lstOf d1 S).map D.lst = some d → rBf X.K .list [v] H Q := fun e => by
          obtain ⟨xs, a, vs, rfl, rfl, h2, h3⟩ := hL e
          exact .inr ⟨a, vs, rfl, .inl (SqL.of h2), h.newL w h3⟩
        cases d1 with
        | str x => obtain ⟨rfl, ox⟩ := r1; cases e; exact .inl ⟨x, rfl, okS_len ox, h.newL w (reps_signs ox)⟩
        | tup xs => obtain ⟨a, vs, rfl, h2, h3⟩ := r1; cases e; exact .inr ⟨a, vs, rfl, .inr (SqT.of (w.fz _ _ h2)), h.newL w h3⟩
        | _ => exact fin e
      | tuple =>
        have fin : (lstOf d1 S).map D.tup = some d → rBf X.K .tuple [v] H Q := fun e => by
          obtain ⟨xs, a, vs, rfl, rfl, h2, h3⟩ := hL e
          exact ⟨a, vs, rfl, .inl ⟨SqL.of h2, h.newT w h3⟩⟩
        cases d1 with
        | tup xs => obtain ⟨a, vs, rfl, h2, h3⟩ := r1; cases e; exact ⟨a, vs, rfl, .inr ⟨SqT.of (w.fz _ _ h2), h.now w ⟨a, vs, rfl, h2, h3⟩⟩⟩
        | _ => exact fin e
      | all =>
        obtain ⟨bs, a, rfl, rfl, h2⟩ := hB (k := fun bs => .bl (bs.all id)) e
        exact ⟨a, bs, rfl, SqL.of h2, h.now w rfl⟩
      | any =>
        obtain ⟨bs, a, rfl, rfl, h2⟩ := hB (k := fun bs => .bl (bs.any id)) e
        exact ⟨a, bs, rfl, SqL.of h2, h.now w rfl⟩
      | str =>
        cases d1 with
        | int i =>
          cases r1
          have e : (if i.natAbs < 2 ^ 64 then some (D.str (toString i)) else none) = some d := e
          split at e
          · rename_i hi
            cases e
            exact ⟨i, rfl, log2_small hi, h.now w ⟨rfl, okS_num i hi⟩⟩
          · cases e
        | _ => cases e
      | range => cases hb
      | sorted => cases hb
      | lrng => cases hb
      | lzip => cases hb
      | lenD => cases hb
      | listD => cases hb
      | max2 => cases d1 <;> cases e
      | min2 => cases d1 <;> cases e
      | sum =>
        have e : ((lstOf d1 S).bind fun xs => (intsOf xs).map fun ns => D.int ns.sum) = some d := e
        cases q : lstOf d1 S with
        | none => rw [q] at e; cases e
        | some xs =>
          rw [q] at e
          have e : ((intsOf xs).map fun ns => D.int ns.sum) = some d := e
          cases q2 : intsOf xs with
          | none => rw [q2] at e; cases e
          | some ns =>
            rw [q2] at e
            cases e
            obtain ⟨a, vs, rfl, h2, h3⟩ := lst_of w r1 q
            rw [ints_of h3 q2] at h2
            exact ⟨a, ns, rfl, SqL.of h2, h.now w rfl⟩
      | bool =>
        cases d1 with
        | bl b => cases r1; cases e; exact .inr ⟨_, rfl, h.now w rfl⟩
        | int b => cases r1; cases e; exact .inl ⟨_, rfl, h.now w rfl⟩
        | _ => cases e
      | min =>
        have e : ((lstOf d1 S).bind fun xs => (intsOf xs).bind fun ns => (minL ns).map D.int) = some d := e
        cases q : lstOf d1 S with
        | none => rw [q] at e; cases e
        | some xs =>
          rw [q] at e
          have e : ((intsOf xs).bind fun ns => (minL ns).map D.int) = some d := e
          cases q2 : intsOf xs with
          | none => rw [q2] at e; cases e
          | some ns =>
            rw [q2] at e
            have e : (minL ns).map D.int = some d := e
            cases q3 : minL ns with
            | none => rw [q3] at e; cases e
            | some m =>
              rw [q3] at e
              cases e
              obtain ⟨a, vs, rfl, h2, h3⟩ := lst_of w r1 q
              rw [ints_of h3 q2] at h2
              refine ⟨a, ns, rfl, SqL.of h2, ?_, fun k hk hy => ?_⟩
              · cases ns with
                | nil => cases q3
                | cons => simp
              · rw [min_uniq q3 hk hy]
                exact h.now w rfl
      | max =>
        have e : ((lstOf d1 S).bind fun xs => (intsOf xs).bind fun ns => (maxL ns).map D.int) = some d := e
        cases q : lstOf d1 S with
        | none => rw [q] at e; cases e
        | some xs =>
          rw [q] at e
          have e : ((intsOf xs).bind fun ns => (maxL ns).map D.int) = some d := e
          cases q2 : intsOf xs with
          | none => rw [q2] at e; cases e
          | some ns =>
            rw [q2] at e
            have e : (maxL ns).map D.int = some d := e
            cases q3 : maxL ns with
            | none => rw [q3] at e; cases e
            | some m =>
              rw [q3] at e
              cases e
              obtain ⟨a, vs, rfl, h2, h3⟩ := lst_of w r1 q
              rw [ints_of h3 q2] at h2
              refine ⟨a, ns, rfl, SqL.of h2, ?_, fun k hk hy => ?_⟩
              · cases ns with
                | nil => cases q3
                | cons => simp
              · rw [max_uniq q3 hk hy]
                exact h.now w rfl
end
/-! ### what the checker asks -/
def noStar : Expr → Bool
  | .Starred .. => false
  | _ => true
theorem star_cons {e : Expr} {es : List Expr} {env : Env} (h : noStar e = true) : starEach (e :: es) env = (false, eval e env) :: starEach es env := by
  cases e <;> first | rfl | cases h
theorem star_none {pos : Pos} {env : Env} : ∀ {es : List Expr}, es.all noStar = true → (backTo pos (starEach es env)).any (·.1) = false
  | [], _ => rfl
  | e :: es, h => by
    rw [List.all_cons, Bool.and_eq_true] at h
    rw [star_cons h.1]
    show (false || (backTo pos (starEach es env)).any (·.1)) = false
    rw [star_none h.2]
    rfl
theorem star_all {pos : Pos} {env : Env} : ∀ {es : List Expr}, es.all noStar = true → (backTo pos (starEach es env)).all (fun x => !x.1) = true
  | [], _ => rfl
  | e :: es, h => by
    rw [List.all_cons, Bool.and_eq_true] at h
    rw [star_cons h.1]
    show (!false && (backTo pos (starEach es env)).all (fun x => !x.1)) = true
    rw [star_all h.2]
    rfl
/-- no call of a name without arguments (super()) -/
def noSup : Expr → Bool
  | .Call (.Name _ _) [] [] _ => false
  | _ => true
theorem base_of {o : Expr} {n : Str} {env : Env} {w : Sem Value} (h : noSup o = true) : attributeBase o n env w = w := by
  unfold attributeBase
  split
  · cases h
  · rfl
def noSlc : Expr → Bool
  | .Slice .. => false
  | _ => true
theorem plain_of {b : Expr} (h : noSlc b = true) : PlainIx b := by
  intro o i
  cases b <;> first | rfl | cases h
def noSet : Expr → Bool
  | .Set .. => false
  | _ => true
theorem mark_of {b : Expr} {op : CmpOp} (h : noSet b = true) : behindInMarks op b = false := by
  cases b <;> first | rfl | cases h
theorem fold_of {b : Expr} {env : Env} {x : Value} (h : noSet b = true) : foldedSetIterable b env x = pure x := by
  cases b <;> first | rfl | cases h
end Itp
namespace Itp
open PySem PySem.Spec PyProof.Rows L2 StX
/-! ### how a call binds -/
/-- t looks names up in the dict at D, then goes on as r -/
def KwC {α : Type} (D : Addr) : List (Str × Value) → Sem α → Sem α → Prop
  | [], t, r => t = r
  | q :: l, t, r => ∃ (β γ : Type) (k1 : Option Value → Sem β) (k2 : β → Sem γ) (k3 : γ → Sem α) (a : β), t = ((nsGet D q.1 >>= k1) >>= k2) >>= k3 ∧ k1 (some q.2) = pure a ∧ KwC D l (k2 a >>= k3) r
theorem KwC.run {α : Type} {K : PySem.W.Frag} {M : Model} {A : Around} {E : Value → Shared → Prop} {s : Shared} {D : Addr} (X : K.In s.heap) {Q : α → Shared → Prop} : ∀ {l : List (Str × Value)} {t r : Sem α}, (∀ q ∈ l, PySem.W.nsIn K D q.1 = some (some q.2)) → KwC D l t r → wpAny M A r Q E s → wpAny M A t Q E s
  | [], t, r, _, e, h => by
    have e : t = r := e
    rw [e]; exact h
  | q :: l, t, r, hl, e, h => by
    obtain ⟨β, γ, k1, k2, k3, a, e1, e2, e3⟩ := e
    have l1 : PySem.W.Looks M s.heap (nsGet D q.1 >>= k1) a := (PySem.W.looks_nsIn X (hl q (List.mem_cons_self ..))).andThen (PySem.W.Looks.of_pure e2)
    have z := KwC.run X (fun q hq => hl q (List.mem_cons_of_mem _ hq)) e3 h
    rw [e1]
    rw [show (((nsGet D q.1 >>= k1) >>= k2) >>= k3) = ((nsGet D q.1 >>= k1) >>= fun b => k2 b >>= k3) by rw [bind_assoc]]
    exact wpAny_bind (l1.here z)
def Sc.isRest : Sc → Bool
  | .rest => true
  | _ => false
def bindU : List Sc → List Value → List Value → List Value → Value → List Value
  | [], _, _, _, _ => []
  | .pos j :: r, cs, us, ws, t => us.getD j .none :: bindU r cs us ws t
  | .kw j :: r, cs, us, ws, t => ws.getD j .none :: bindU r cs us ws t
  | .con _ :: r, cs, us, ws, t => cs.headD .none :: bindU r cs.tail us ws t
  | .rest :: r, cs, us, ws, t => t :: bindU r cs us ws t
def cV : D → V
  | .bl b => .bl b
  | .int i => .int i
  | .str x => .str x
  | _ => .non
def okC : D → Bool
  | .bl _ => true
  | .int _ => true
  | .str x => okS x
  | .non => true
  | _ => false
def consOk : List Sc → List Value → Prop
  | [], _ => True
  | .con d :: r, cs => RelV (cV d) (cs.headD .none) ∧ okC d = true ∧ consOk r cs.tail
  | _ :: r, cs => consOk r cs
def lenOk (pl : Plan) (n : Nat) : Prop := n = pl.n ∨ (pl.rst = true ∧ pl.n ≤ n ∧ n ≤ 16777216)
structure BndOk (K : PySem.W.Frag) (fd : FuncData) (ps ks : List Str) (pl : Plan) : Prop where
  rs : pl.rst = pl.src.any Sc.isRest
  ln : pl.src.length = ps.length
  ex : ∀ us ws : List Value, lenOk pl us.length → ws.length = ks.length → ∃ (D : Addr) (l : List (Str × Value)) (cs : List Value), (∀ q ∈ l, PySem.W.nsIn K D q.1 = some (some q.2)) ∧ consOk pl.src cs ∧
    KwC D l (bindArgs fd ⟨us, ks.zip ws⟩) (if pl.rst then (newTuple (us.drop pl.n) >>= fun t => pure (ps.zip (bindU pl.src cs us ws t))) else pure (ps.zip (bindU pl.src cs us ws .none)))
theorem rep_con {K : PySem.W.Frag} {g : Gb} {α : Nat → Option Addr} {F : Hp} {d : D} (h : okC d = true) : Rep K g α F d (cV d) := by
  cases d with
  | non => rfl
  | bl b => rfl
  | int i => rfl
  | str x => exact ⟨rfl, h⟩
  | _ => cases h
theorem vals_getD : ∀ {vs : List V} {us : List Value} {j : Nat} {v : V}, Vals vs us → vs[j]? = some v → RelV v (us.getD j .none)
  | [], us, j, v, r, h => by simp at h
  | w :: vs, us, 0, v, r, h => by
    cases r with
    | cons a b => simp at h; subst h; exact a
  | w :: vs, us, j + 1, v, r, h => by
    cases r with
    | cons a b => exact vals_getD (vs := vs) (j := j) b (by simpa using h)
theorem bind_rep {K : PySem.W.Frag} {g : Gb} {α : Nat → Option Addr} {F : Hp} {n : Nat} {ds ks : List D} {vs zs : List V} {us ws : List Value} {vt : V} {t : Value} (r : Reps K g α F ds vs) (ru : Vals vs us) (rk : Reps K g α F ks zs) (rw_ : Vals zs ws) :
    ∀ {src : List Sc} {cs : List Value} {as : List D}, consOk src cs → (src.any Sc.isRest = true → Rep K g α F (.tup (ds.drop n)) vt ∧ RelV vt t) → bindS n ds ks src = some as → ∃ vf, Vals vf (bindU src cs us ws t) ∧ Reps K g α F as vf
  | [], cs, as, _, _, e => by cases e; exact ⟨[], .nil, rfl⟩
  | c :: src, cs, as, hc, ht, e => by
    unfold bindS at e
    cases q1 : srcD n ds ks c with
    | none => rw [q1] at e; cases e
    | some d =>
      cases q2 : bindS n ds ks src with
      | none => rw [q1, q2] at e; cases e
      | some as' =>
        rw [q1, q2] at e
        cases e
        have ht' : src.any Sc.isRest = true → Rep K g α F (.tup (ds.drop n)) vt ∧ RelV vt t := fun z => ht (by rw [List.any_cons, z, Bool.or_true])
        cases c with
        | pos j =>
          obtain ⟨vf, h1, h2⟩ := bind_rep r ru rk rw_ (src := src) (cs := cs) hc ht' q2
          obtain ⟨v, k1, k2⟩ := r.get q1
          exact ⟨v :: vf, .cons (vals_getD ru k1) h1, ⟨v, vf, rfl, k2, h2⟩⟩
        | kw j =>
          obtain ⟨vf, h1, h2⟩ := bind_rep r ru rk rw_ (src := src) (cs := cs) hc ht' q2
          obtain ⟨v, k1, k2⟩ := rk.get q1
          exact ⟨v :: vf, .cons (vals_getD rw_ k1) h1, ⟨v, vf, rfl, k2, h2⟩⟩
        | con d' =>
          cases q1
          obtain ⟨h3, h4, h5⟩ := hc
          obtain ⟨vf, h1, h2⟩ := bind_rep r ru rk rw_ (src := src) (cs := cs.tail) h5 ht' q2
          exact ⟨_ :: vf, .cons h3 h1, ⟨_, vf, rfl, rep_con h4, h2⟩⟩
        | rest =>
          cases q1
          obtain ⟨vf, h1, h2⟩ := bind_rep r ru rk rw_ (src := src) (cs := cs) hc ht' q2
          obtain ⟨h3, h4⟩ := ht rfl
          exact ⟨vt :: vf, .cons h4 h1, ⟨vt, vf, rfl, h3, h2⟩⟩
theorem bindS_len {n : Nat} {ds ks : List D} : ∀ {src : List Sc} {as : List D}, bindS n ds ks src = some as → as.length = src.length
  | [], as, e => by cases e; rfl
  | c :: src, as, e => by
    unfold bindS at e
    cases q1 : srcD n ds ks c with
    | none => rw [q1] at e; cases e
    | some d =>
      cases q2 : bindS n ds ks src with
      | none => rw [q1, q2] at e; cases e
      | some as' =>
        rw [q1, q2] at e
        cases e
        simp [bindS_len q2]
/-- the contract of a def, however its parameters are bound -/
def FnB (P : Program) (w : PySem.World) (K : PySem.W.Frag) (mg : Str → Option Value) (base : Heap) (CX : CXT) (k : Nat) (f : Addr) (fd : FuncData) (ps : List Str) (sp : Sp) : Prop :=
  ∀ (A : Around) (outer : List Env) (s : Shared) (H : Hp) (args : Args) (Q : VK) (E : XK) (G : List V → Hp → Prop), Room k A → Env0 P w K mg base A outer s H → Bnd CX P w K mg base fd args ps A outer s H E G → (∀ vs H2, G vs H2 → sp vs H2 Q E) →
    codeAny (model P w) A (.call (.ref f) args) (CR CX outer P w H s Q E) s
theorem FnB.mono {P : Program} {w : PySem.World} {K : PySem.W.Frag} {mg : Str → Option Value} {base : Heap} {CX : CXT} {j k : Nat} {f : Addr} {fd : FuncData} {ps : List Str} {sp : Sp} (F : FnB P w K mg base CX j f fd ps sp) (h : j ≤ k) : FnB P w K mg base CX k f fd ps sp :=
  fun A outer s H args Q E G hr => F A outer s H args Q E G (hr.mono h)
theorem FnB.ok {P : Program} {w : PySem.World} {K : PySem.W.Frag} {mg : Str → Option Value} {base : Heap} {CX : CXT} {k : Nat} {f : Addr} {fd : FuncData} {ps : List Str} {sp : Sp} (F : FnB P w K mg base CX k f fd ps sp) (hl : ∀ vs H Q E, sp vs H Q E → vs.length = ps.length) : FnOk P w K mg base CX k f fd ps sp :=
  ⟨hl, fun A outer s H args us vs Q E hr e0 hb r hs => F A outer s H args Q E (fun xs H2 => xs = vs ∧ H2 = H) hr e0 (fun A' Ex Q' h => hb _ _ _ _ (h s H vs us e0 Un.refl rfl (fun _ _ z => z) r (hl _ _ _ _ hs) ⟨rfl, rfl⟩)) fun xs H2 ⟨e1, e2⟩ => by subst e1 e2; exact hs⟩
def spI (K : PySem.W.Frag) (g : Gb) (cal : Nat → List D → Sto → Out D) (f np : Nat) : Sp := fun vs H Q _ =>
  ∃ ds S α F R, ds.length = np ∧ Reps K g α F ds vs ∧ World K g R α F S H ∧ Aft K g R (Rep K g) α F (cal f ds S) Q
theorem spI_len {K : PySem.W.Frag} {g : Gb} {cal : Nat → List D → Sto → Out D} {f np : Nat} {vs : List V} {H : Hp} {Q : VK} {E : XK} (h : spI K g cal f np vs H Q E) : vs.length = np := by
  obtain ⟨ds, S, α, F, R, hl, r, _⟩ := h
  rw [← r.length]; exact hl
section
variable {P : Program} {w : PySem.World} {K : PySem.W.Frag} {mg : Str → Option Value} {base : Heap} {g : Gb} {α : Nat → Option Addr} {F H R : Hp} {S : Sto}
/-- what a call's arguments are bound to -/
theorem bnd_of {fd : FuncData} {ps ks : List Str} {pl : Plan} {A : Around} {outer : List Env} {s : Shared} {E : XK} {us ws : List Value} {vs zs : List V} {ds kd as : List D} (B : BndOk K fd ps ks pl) (e0 : Env0 P w K mg base A outer s H) (W : World K g R α F S H)
    (r : Reps K g α F ds vs) (ru : Vals vs us) (rk : Reps K g α F kd zs) (rw_ : Vals zs ws) (hk : zs.length = ks.length) (bp : bindP pl ds kd = some as) :
    Bnd CX0 P w K mg base fd ⟨us, ks.zip ws⟩ ps A outer s H E (fun xs H2 => ∃ F', Ext α F α F' ∧ World K g R α F' S H2 ∧ Reps K g α F' as xs) := by
  intro A' Ex Q' h
  have KX : K.In s.heap := e0.mod.kin.keeps fun b o e => (e0.bs b o e).1
  unfold bindP at bp
  split at bp
  · rename_i hb
    have hlu : lenOk pl us.length := by
      rw [← ru.length, ← r.length]
      rcases hb with h1 | h1
      · exact .inl h1
      · exact .inr h1
    obtain ⟨D, l, cs, h1, h2, h3⟩ := B.ex us ws hlu (by rw [← rw_.length]; exact hk)
    refine KwC.run KX h1 h3 ?_
    have hl := bindS_len bp
    by_cases hr : pl.rst = true
    · rw [if_pos hr]
      have hz : (us.drop pl.n).length ≤ sizeLine := by
        rw [List.length_drop, size16, ← ru.length, ← r.length]
        rcases hb with h1 | h1
        · omega
        · omega
      refine wpAny_bind (wpAny_newTuple (wpAny_pure ?_) hz)
      have hn : H s.heap.objs.size = Option.none := e0.hok.fresh (Nat.le_refl _)
      have rd : Vals (vs.drop pl.n) (us.drop pl.n) := by
        have go : ∀ (n : Nat) {vs : List V} {us : List Value}, Vals vs us → Vals (vs.drop n) (us.drop n) := by
          intro n
          induction n with
          | zero => intro vs us h; exact h
          | succ n ih =>
            intro vs us h
            cases h with
            | nil => exact .nil
            | cons a b => exact ih b
        exact go _ ru
      have new : ObjOk P w (upd H s.heap.objs.size (.tup (vs.drop pl.n))) (s.heap.push ({ cls := .type "tuple", data := .seq (us.drop pl.n).toArray } : Obj)) s.heap.objs.size (.tup (vs.drop pl.n)) := ⟨by rw [rd.length]; exact hz, us.drop pl.n, rd, ⟨_, Heap.get?_push_size _ rfl, rfl, _, rfl⟩⟩
      have un := un_laid (fs := frs outer) (s := s) (o := ({ cls := .type "tuple", data := .seq (us.drop pl.n).toArray } : Obj)) (u := .tup (vs.drop pl.n)) hn
      obtain ⟨W', e'⟩ := W.lay (o := .tup (vs.drop pl.n)) hn
      obtain ⟨vf, k1, k2⟩ := bind_rep (n := pl.n) (vt := .ref s.heap.objs.size) (t := .ref s.heap.objs.size) (Reps.mono e' _ _ r) ru (Reps.mono e' _ _ rk) rw_ h2 (fun _ => ⟨⟨_, _, rfl, upd_same, Reps.mono e' _ _ (r.drop _)⟩, rfl⟩) bp
      exact h _ _ vf _ (env0_laid e0 new) un rfl (fun e s' z => z) k1 (by rw [← k2.length, hl, B.ln]) ⟨_, e', W', k2⟩
    · rw [if_neg hr]
      refine wpAny_pure ?_
      obtain ⟨vf, k1, k2⟩ := bind_rep (n := pl.n) (vt := .non) (t := .none) r ru rk rw_ h2 (fun z => by rw [← B.rs] at z; exact absurd z hr) bp
      exact h s H vf _ e0 Un.refl rfl (fun _ _ z => z) k1 (by rw [← k2.length, hl, B.ln]) ⟨F, Ext.refl, W, k2⟩
  · cases bp
end
section
variable {X : Cx} {pins : List (Addr × Obj)} {σ : L2.St} {H R : Hp} {s : Shared} {g : Gb} {cal : Nat → List D → Sto → Out D} {α : Nat → Option Addr} {F : Hp} {S : Sto}
/-- the callee runs -/
theorem run_call {k fi : Nat} {f : Addr} {fd : FuncData} {ps ks : List Str} {pl : Plan} {us ws : List Value} {vs zs : List V} {ds kd as : List D} {Q : VK} (FB : FnB X.prog X.w X.K X.mg X.base CX0 k f fd ps (spI X.K g cal fi ps.length)) (B : BndOk X.K fd ps ks pl) (hr : Room k X.A) (I : Inv X pins σ H s) (W : World X.K g R α F S H)
    (r : Reps X.K g α F ds vs) (ru : Vals vs us) (rk : Reps X.K g α F kd zs) (rw_ : Vals zs ws) (hk : zs.length = ks.length) (bp : bindP pl ds kd = some as) (h : Aft X.K g R (Rep X.K g) α F (cal fi as S) Q) :
    wpAny (model X.prog X.w) X.A (call (.ref f) us (ks.zip ws)) (EP X pins σ Q) X.xe s := by
  refine wpAny_call (codeAny_mono (FB X.A X.stack s H ⟨us, ks.zip ws⟩ Q (fun _ _ _ => False) _ hr I.env0 (bnd_of B I.env0 W r ru rk rw_ hk bp) fun xs H2 ⟨F', e', W', r'⟩ => ⟨as, S, α, F', R, ?_, r', W', Aft.ext e' h⟩) fun r s' hq => ?_)
  · unfold bindP at bp
    split at bp
    · rw [bindS_len bp, B.ln]
    · cases bp
  · cases r with
    | error e => exact False.elim hq
    | ok fl =>
      cases fl with
      | ret u => exact I.after hq
      | next => exact False.elim hq
      | brk => exact False.elim hq
      | cont => exact False.elim hq
end
end Itp
namespace Itp
open PySem PySem.Spec PyProof.Rows L2
structure Tab where
  fn : List Str
  ci : List (Str × Int)
  cs : List (Str × Str)
  free : List Str
  cls : List Str
  sub : List (Nat × Nat) := []
  kb : List (Nat × List Str × Plan) := []
  nm : List Str := []
  mt : List (Nat × Nat × Nat) := []
  pr : List (Nat × Nat × Nat) := []
  cn : List (Nat × Nat × D) := []
  cc : List (Nat × Nat × D) := []
  ck : List (Nat × Nat × List Str) := []
  nf : List (Nat × Nat) := []
  ini : List (Nat × Nat) := []
  cm : List (Nat × Nat × Nat) := []
  sm : List (Nat × Nat × Nat) := []
  oeq : List (Nat × Nat) := []
  olen : List (Nat × Nat) := []
  orep : List (Nat × Nat) := []
  obool : List (Nat × Nat) := []
def sameC : D → D → Bool
  | .non, .non => true
  | .bl a, .bl b => a == b
  | .int a, .int b => a == b
  | .str a, .str b => a == b
  | _, _ => false
theorem sameC_eq {a b : D} (h : sameC a b = true) : a = b ∧ ∃ v : V, ∀ {K : PySem.W.Frag} {g : Gb} {α : Nat → Option Addr} {F : Hp} {w : V}, Rep K g α F a w → w = v := by
  cases a <;> cases b <;> first | (cases h; done) | skip
  · exact ⟨rfl, .non, fun h => h⟩
  · have h := beq_iff_eq.mp h; subst h; exact ⟨rfl, .bl _, fun h => h⟩
  · have h := beq_iff_eq.mp h; subst h; exact ⟨rfl, .int _, fun h => h⟩
  · have h := beq_iff_eq.mp h; subst h; exact ⟨rfl, .str _, fun h => h.1⟩
def sameSc : Sc → Sc → Bool
  | .pos i, .pos j => i == j
  | .kw i, .kw j => i == j
  | .con a, .con b => sameC a b
  | .rest, .rest => true
  | _, _ => false
def sameScs : List Sc → List Sc → Bool
  | [], [] => true
  | a :: as, b :: bs => sameSc a b && sameScs as bs
  | _, _ => false
theorem sameSc_eq {a b : Sc} (h : sameSc a b = true) : a = b := by
  cases a <;> cases b <;> first | (cases h; done) | skip
  · have h := beq_iff_eq.mp h; subst h; rfl
  · have h := beq_iff_eq.mp h; subst h; rfl
  · have h : sameC _ _ = true := h; rw [(sameC_eq h).1]
  · rfl
theorem sameScs_eq : ∀ {a b : List Sc}, sameScs a b = true → a = b
  | [], [], _ => rfl
  | a :: as, b :: bs, h => by
    have h : (sameSc a b && sameScs as bs) = true := h
    rw [Bool.and_eq_true] at h
    rw [sameSc_eq h.1, sameScs_eq h.2]
  | [], _ :: _, h => by cases h
  | _ :: _, [], h => by cases h
def samePl (p q : Plan) : Bool := p.n == q.n && p.rst == q.rst && sameScs p.src q.src
theorem samePl_eq {p q : Plan} (h : samePl p q = true) : p = q := by
  unfold samePl at h
  simp only [Bool.and_eq_true, beq_iff_eq] at h
  obtain ⟨a, b, c⟩ := p
  obtain ⟨a', b', c'⟩ := q
  obtain ⟨⟨h1, h2⟩, h0⟩ := h
  have h3 : c = c' := sameScs_eq h0
  clear h0
  dsimp only at h1 h2
  subst h1 h2 h3
  rfl
def Tab.hasKb (T : Tab) (f : Nat) (ks : List Str) (pl : Plan) : Bool := T.kb.any fun p => p.1 == f && p.2.1 == ks && samePl p.2.2 pl
theorem Tab.hasKb_mem {T : Tab} {f : Nat} {ks : List Str} {pl : Plan} (h : T.hasKb f ks pl = true) : (f, ks, pl) ∈ T.kb := by
  unfold Tab.hasKb at h
  obtain ⟨⟨a, b, c⟩, hm, h⟩ := List.any_eq_true.mp h
  simp only [Bool.and_eq_true, beq_iff_eq] at h
  obtain ⟨⟨h1, h2⟩, h3⟩ := h
  have h3 := samePl_eq h3
  subst h1 h2 h3
  exact hm
def visB (sc : Scope) (x : Str) : Bool := match sc.names.lookup x with | some .local => true | some .cell => true | some .free => true | _ => false
def gloB (sc : Scope) (x : Str) : Bool := match sc.names.lookup x with | some .globalImplicit => true | _ => false
def stoB (sc : Scope) (x : Str) : Bool := match sc.names.lookup x with | some .local => true | some .cell => true | _ => false
/-! ### the parts of an expression -/
def pName : Expr → Option Str
  | .Name x _ => some x
  | _ => none
def pConst : Expr → Option Const
  | .Constant c _ _ => some c
  | _ => none
def pBin : Expr → Option (Expr × Operator × Expr)
  | .BinOp l o r _ => some (l, o, r)
  | _ => none
def pUn : Expr → Option (UnaryOp × Expr)
  | .UnaryOp o e _ => some (o, e)
  | _ => none
def pCmp : Expr → Option (Expr × List CmpOp × List Expr)
  | .Compare l o r _ => some (l, o, r)
  | _ => none
def pBool : Expr → Option (BoolOp × List Expr)
  | .BoolOp o vs _ => some (o, vs)
  | _ => none
def pIf : Expr → Option (Expr × Expr × Expr)
  | .IfExp c a b _ => some (c, a, b)
  | _ => none
def pTup : Expr → Option (List Expr)
  | .Tuple es _ _ => some es
  | _ => none
def pLst : Expr → Option (List Expr)
  | .List es _ => some es
  | _ => none
def pStar : Expr → Option Expr
  | .Starred e _ => some e
  | _ => none
def pSub : Expr → Option (Expr × Expr)
  | .Subscript a b _ => some (a, b)
  | _ => none
def pSlc : Expr → Option (Option Expr × Option Expr)
  | .Slice l h none _ => some (l, h)
  | _ => none
def pCall : Expr → Option (Expr × List Expr × List Keyword × Pos)
  | .Call f as ks p => some (f, as, ks, p)
  | _ => none
def pAttr : Expr → Option (Expr × Str × Pos)
  | .Attribute o n p => some (o, n, p)
  | _ => none
def pJoin : Expr → Option (List Expr)
  | .JoinedStr vs _ => some vs
  | _ => none
def pFmt : Expr → Option Expr
  | .FormattedValue e c none _ => if c = -1 then some e else none
  | _ => none
def pLc : Expr → Option (Expr × List Comprehension × Scope × Pos)
  | .ListComp e gs sc p => some (e, gs, sc, p)
  | _ => none
section
variable {py : Expr}
theorem pName_inv {x} (h : pName py = some x) : ∃ p, py = .Name x p := by cases py <;> first | (cases h; exact ⟨_, rfl⟩) | cases h
theorem pConst_inv {c} (h : pConst py = some c) : ∃ k p, py = .Constant c k p := by cases py <;> first | (cases h; exact ⟨_, _, rfl⟩) | cases h
theorem pBin_inv {l o r} (h : pBin py = some (l, o, r)) : ∃ p, py = .BinOp l o r p := by cases py <;> first | (cases h; exact ⟨_, rfl⟩) | cases h
theorem pUn_inv {o r} (h : pUn py = some (o, r)) : ∃ p, py = .UnaryOp o r p := by cases py <;> first | (cases h; exact ⟨_, rfl⟩) | cases h
theorem pCmp_inv {l o r} (h : pCmp py = some (l, o, r)) : ∃ p, py = .Compare l o r p := by cases py <;> first | (cases h; exact ⟨_, rfl⟩) | cases h
theorem pBool_inv {o r} (h : pBool py = some (o, r)) : ∃ p, py = .BoolOp o r p := by cases py <;> first | (cases h; exact ⟨_, rfl⟩) | cases h
theorem pIf_inv {l o r} (h : pIf py = some (l, o, r)) : ∃ p, py = .IfExp l o r p := by cases py <;> first | (cases h; exact ⟨_, rfl⟩) | cases h
theorem pTup_inv {es} (h : pTup py = some es) : ∃ k p, py = .Tuple es k p := by cases py <;> first | (cases h; exact ⟨_, _, rfl⟩) | cases h
theorem pLst_inv {es} (h : pLst py = some es) : ∃ p, py = .List es p := by cases py <;> first | (cases h; exact ⟨_, rfl⟩) | cases h
theorem pStar_inv {e} (h : pStar py = some e) : ∃ p, py = .Starred e p := by cases py <;> first | (cases h; exact ⟨_, rfl⟩) | cases h
theorem pSub_inv {a b} (h : pSub py = some (a, b)) : ∃ p, py = .Subscript a b p := by cases py <;> first | (cases h; exact ⟨_, rfl⟩) | cases h
theorem pSlc_inv {a b} (h : pSlc py = some (a, b)) : ∃ p, py = .Slice a b none p := by
  cases py <;> first | (cases h; done) | skip
  rename_i l u s p
  cases s with
  | none => cases h; exact ⟨_, rfl⟩
  | some s => cases h
theorem pCall_inv {f as ks p} (h : pCall py = some (f, as, ks, p)) : py = .Call f as ks p := by cases py <;> first | (cases h; rfl) | cases h
theorem pAttr_inv {o n p} (h : pAttr py = some (o, n, p)) : py = .Attribute o n p := by cases py <;> first | (cases h; rfl) | cases h
theorem pJoin_inv {vs} (h : pJoin py = some vs) : ∃ p, py = .JoinedStr vs p := by cases py <;> first | (cases h; exact ⟨_, rfl⟩) | cases h
theorem pFmt_inv {e} (h : pFmt py = some e) : ∃ p, py = .FormattedValue e (-1) none p := by
  cases py <;> first | (cases h; done) | skip
  rename_i v c s p
  cases s with
  | none =>
    have h : (if c = -1 then some v else none) = some e := h
    split at h
    · rename_i z; subst z; cases h; exact ⟨_, rfl⟩
    · cases h
  | some s => cases h
theorem pLc_inv {e gs sc p} (h : pLc py = some (e, gs, sc, p)) : py = .ListComp e gs sc p := by cases py <;> first | (cases h; rfl) | cases h
end
def kwNames : List Keyword → Option (List Str)
  | [] => some []
  | ⟨some x, _, _⟩ :: r => (kwNames r).map (x :: ·)
  | _ => none
/-- the name of a class that isinstance asks for -/
def Ty.name (T : Tab) : Ty → Option Str
  | .int => some "int" | .bool => some "bool" | .str => some "str" | .list => some "list" | .tuple => some "tuple" | .own c _ => T.cls[c]?
def Ty.okT (nc : Nat) (sub : List (Nat × Nat)) : Ty → Bool
  | .own k sb => decide (k < nc) && (List.range nc).all fun c => sub.contains (c, k) == sb.contains c
  | _ => true
mutual
/-- may stand as a test -/
def tst : E → Bool
  | .ite .. => false
  | .frz .. => false
  | .nev => false
  | .star .. => false
  | .trk .. => false
  | .not a => tst a
  | .bop _ es => tsts es
  | _ => true
def tsts : List E → Bool
  | [] => true
  | e :: es => tst e && tsts es
end
/-- makes a new object -/
def isFresh : E → Bool
  | .bf .list _ => true
  | .lc .. => true
  | _ => false
def isVar : E → Bool
  | .var _ => true
  | _ => false
def BM.nm : BM → Str
  | .join => "join" | .append => "append" | .insert => "insert" | .extend => "extend" | .count => "count" | .index => "index" | .clear => "clear" | .get => "get"
def BM.args : BM → Nat
  | .insert => 2 | .clear => 0 | .get => 2
  | _ => 1
def BM.ok : BM → Bool
  | .join => true | .append => true | .insert => true
  | _ => false
/-- list(range(n)) -/
def BF.isLr : BF → Bool
  | .lrng => true
  | _ => false
/-- arguments as the rules take them -/
def argOk (as : List Expr) (kws : List Keyword) : Bool := match as with
  | [] => true
  | a :: r => noStar a || (r.isEmpty && kws.isEmpty)
def fewOk (as : List Expr) (kws : List Keyword) : Bool := as.all noStar && decide (as.length + kws.length < 29)
/-- the pairs of unlike classes, the second below the first -/
def sbOk (T : Tab) (sb : List (Nat × Nat)) : Bool := (List.range T.cls.length).all fun c => (List.range T.cls.length).all fun k => sb.contains (c, k) == (c != k && T.sub.contains (k, c))
/-! ### the checker -/
section
variable (T : Tab) (N : List Str)
def mtTy (sc : Scope) (t : Ty) (py : Expr) : Bool := match pName py, t.name T with
  | some x, some y => decide (x = y) && gloB sc x && !(x == "__debug__") && (match t with | .own .. => t.okT T.cls.length T.sub | _ => T.free.contains x)
  | _, _ => false
def mtTys (sc : Scope) : List Ty → List Expr → Bool
  | [], [] => true
  | t :: ts, p :: ps => mtTy T sc t p && mtTys sc ts ps
  | _, _ => false
mutual
def mtTg (sc : Scope) : Tg → Expr → Bool
  | .name i, py => (match pName py with
    | some x => decide (N[i]? = some x) && stoB sc x
    | none => false)
  | .tup ts, py => (match pTup py with
    | some ps => mtTgs sc ts ps
    | none => false)
def mtTgs (sc : Scope) : List Tg → List Expr → Bool
  | [], [] => true
  | t :: ts, p :: ps => mtTg sc t p && mtTgs sc ts ps
  | _, _ => false
end
mutual
def Tg.slots : Tg → List Nat
  | .name i => [i]
  | .tup ts => Tg.slotss ts
def Tg.slotss : List Tg → List Nat
  | [] => []
  | t :: ts => t.slots ++ Tg.slotss ts
end
def blt (sc : Scope) (x : Str) (py : Expr) : Bool := match pName py with
  | some y => decide (y = x) && gloB sc x && T.free.contains x
  | none => false
/-- the arguments of what is walked -/
def itArgs : IK → Scope → Expr → Expr → Option (List Expr)
  | .val, _, _, py => some [py]
  | .rng, sc, _, py => (match pCall py with
    | some (f, as, [], _) => if blt T sc "range" f && (as.length == 1 || as.length == 2) then some as else none
    | _ => none)
  | .enum, sc, t, py => (match pCall py with
    | some (f, as, [], _) => if blt T sc "enumerate" f && (pTup t).isSome && as.length == 1 then some as else none
    | _ => none)
  | .zip, sc, t, py => (match pCall py with
    | some (f, as, [], _) => if blt T sc "zip" f && (pTup t).isSome && as.length == 2 then some as else none
    | _ => none)
  | .keys, _, _, _ => none
  | .vals, _, _, _ => none
mutual
def mtE : E → Scope → Expr → Bool
  | .var i, sc, py => (match pName py with
    | some x => decide (N[i]? = some x) && visB sc x && !(x == "__debug__") && !(x == "__classdict__")
    | none => false)
  | .non, _, py => (match pConst py with | some .none => true | _ => false)
  | .bl b, _, py => (match pConst py with | some (.bool c) => decide (c = b) | _ => false)
  | .int i, _, py => (match pConst py with | some (.int c) => decide (c = i) | _ => false)
  | .str x, _, py => (match pConst py with | some (.str c) => decide (c = x) && okS x | _ => false)
  | .gint n i, sc, py => (match pName py with
    | some x => decide (x = n) && gloB sc x && !(x == "__debug__") && T.ci.contains (n, i)
    | none => false)
  | .gstr n z, sc, py => (match pName py with
    | some x => decide (x = n) && gloB sc x && !(x == "__debug__") && T.cs.contains (n, z) && okS z
    | none => false)
  | .bin o a b, sc, py => (match pBin py with
    | some (l, op, r) => decide (op = o.py) && mtE a sc l && mtE b sc r
    | none => false)
  | .neg a, sc, py => (match pUn py with
    | some (op, r) => decide (op = .USub) && mtE a sc r
    | none => false)
  | .not a, sc, py => (match pUn py with
    | some (op, r) => decide (op = .Not) && mtE a sc r
    | none => false)
  | .cmp o a b, sc, py => (match pCmp py with
    | some (l, [op], [r]) => decide (op = o.py) && noSet r && mtE a sc l && mtE b sc r
    | _ => false)
  | .chn o p a b c, sc, py => (match pCmp py with
    | some (l, [op, op'], [r, r']) => decide (op = o.py) && decide (op' = p.py) && noSet r' && mtE a sc l && mtE b sc r && mtE c sc r'
    | _ => false)
  | .bop o es, sc, py => (match pBool py with
    | some (op, vs) => decide (op = (if o then .And else .Or)) && vs.all noStar && mtEs es sc vs
    | none => false)
  | .ite c a b, sc, py => (match pIf py with
    | some (t, l, r) => tst c && mtE c sc t && mtE a sc l && mtE b sc r
    | none => false)
  | .tup es, sc, py => (match pTup py with
    | some ps => mtEs es sc ps
    | none => false)
  | .lst _ es, sc, py => (match pLst py with
    | some ps => mtEs es sc ps
    | none => false)
  | .idx a b, sc, py => (match pSub py with
    | some (l, r) => noSlc r && mtE a sc l && mtE b sc r
    | none => false)
  | .slc a lo hi, sc, py => (match pSub py with
    | some (l, r) => (match pSlc r with
      | some (x, y) => mtE a sc l && mtO lo sc x && mtO hi sc y
      | none => false)
    | none => false)
  | .isi e t, sc, py => (match pCall py with
    | some (f, [a, b], [], _) => blt T sc "isinstance" f && mtE e sc a && mtTy T sc t b
    | _ => false)
  | .isT e ts, sc, py => (match pCall py with
    | some (f, [a, b], [], _) => blt T sc "isinstance" f && mtE e sc a && (match pTup b with
      | some bs => decide (ts.length ≤ 1000) && mtTys T sc ts bs
      | none => false)
    | _ => false)
  | .bf b es, sc, py => (match pCall py with
    | some (f, a :: as, [], _) => if b.isLr then (as.isEmpty && blt T sc "list" f && (match pCall a with
        | some (h, [x], [], _) => blt T sc "range" h && noStar x && mtEs es sc [x]
        | _ => false)) else (b.ok && blt T sc b.nm f && mtEs es sc (a :: as) && (a :: as).all noStar)
    | _ => false)
  | .bm m e es, sc, py => (match pCall py with
    | some (f, as, [], p) => (match pAttr f with
      | some (o, n, q) => m.ok && decide (n = m.nm) && decide (q.endLine = p.line) && noSup o && mtE e sc o && mtEs es sc as && as.all noStar && as.length == m.args
      | none => false)
    | _ => false)
  | .lc tg own k its ifs e, sc, py => (match pLc py with
    | some (elt, [⟨t, iter, fs, 0⟩], scope, _) => blkC N sc scope (own.map fun i => (N.getD i "", i)) && noSet iter && (match itArgs T k sc t iter with | some as => as.all noStar && mtEs its sc as | none => false) && mtTg N scope tg t && tg.slots.all (own.contains ·) && mtFs ifs scope fs && mtE e scope elt
    | _ => false)
  | .lc2 .., _, _ => false
  | .scl .., _, _ => false
  | .scl2 .., _, _ => false
  | .dct .., _, _ => false
  | .dct1 .., _, _ => false
  | .dcl .., _, _ => false
  | .rev .., _, _ => false
  | .star .., _, _ => false
  | .nev, _, py => noStar py
  | .trk e, sc, py => isFresh e && mtE e sc py
  | .frz e, sc, py => mtE e sc py
  | .call f es kes pl, sc, py => (match pCall py with
    | some (h, as, kws, _) => (match pName h with
      | some x => decide (T.fn[f]? = some x) && !(x == "") && gloB sc x && !(x == "__debug__") && mtEs es sc as && (kws.map (·.value)).all noStar && mtEs kes sc (kws.map (·.value)) && argOk as kws && (match kwNames kws with
        | some ks => T.hasKb f ks pl
        | none => false)
      | none => false)
    | none => false)
  | .mk _ c f es kes pl, sc, py => (match pCall py with
    | some (h, as, kws, _) => (match pName h with
      | some x => decide (T.cls[c]? = some x) && gloB sc x && !(x == "__debug__") && T.ini.contains (c, f) && mtEs es sc as && (kws.map (·.value)).all noStar && mtEs kes sc (kws.map (·.value)) && argOk as kws && (match kwNames kws with
        | some ks => T.hasKb f ks pl
        | none => false)
      | none => false)
    | none => false)
  | .mkv _ e tb es kes pl, sc, py => (match pCall py with
    | some (h, as, kws, _) => (match kwNames kws with
      | some ks => (pName h).isSome && mtE e sc h && tb.all (fun q => T.ini.contains q && T.hasKb q.2 ks pl) && mtEs es sc as && (kws.map (·.value)).all noStar && mtEs kes sc (kws.map (·.value)) && argOk as kws
      | none => false)
    | none => false)
  | .mth e m tb es kes pl, sc, py => (match pCall py with
    | some (h, as, kws, p) => (match pAttr h with
      | some (o, n, q) => (match kwNames kws with
        | some ks => decide (T.nm[m]? = some n) && noSup o && mtE e sc o && tb.all (fun p => T.mt.contains (p.1, m, p.2) && T.hasKb p.2 ks pl) && mtEs es sc as && (kws.map (·.value)).all noStar && mtEs kes sc (kws.map (·.value)) && fewOk as kws && decide (q.endLine = p.line)
        | none => false)
      | none => false)
    | none => false)
  | .smt c m f es kes pl, sc, py => (match pCall py with
    | some (h, as, kws, p) => (match pAttr h with
      | some (o, n, q) => (match pName o, kwNames kws with
        | some x, some ks => decide (T.nm[m]? = some n) && decide (T.cls[c]? = some x) && gloB sc x && !(x == "__debug__") && T.sm.contains (c, m, f) && T.hasKb f ks pl && mtEs es sc as && (kws.map (·.value)).all noStar && mtEs kes sc (kws.map (·.value)) && fewOk as kws && decide (q.endLine = p.line)
        | _, _ => false)
      | none => false)
    | none => false)
  | .cmt c m f es kes pl, sc, py => (match pCall py with
    | some (h, as, kws, p) => (match pAttr h with
      | some (o, n, q) => (match pName o, kwNames kws with
        | some x, some ks => decide (T.nm[m]? = some n) && decide (T.cls[c]? = some x) && gloB sc x && !(x == "__debug__") && T.cm.contains (c, m, f) && T.hasKb f ks pl && mtEs es sc as && (kws.map (·.value)).all noStar && mtEs kes sc (kws.map (·.value)) && fewOk as kws && decide (q.endLine = p.line)
        | _, _ => false)
      | none => false)
    | none => false)
  | .sup .., _, _ => false
  | .att e i tb, sc, py => (match pAttr py with
    | some (o, n, _) => decide (T.nm[i]? = some n) && noSup o && mtE e sc o && tb.all fun p => (match p.2 with
      | .prp f => T.pr.contains (p.1, i, f) && T.hasKb f [] ⟨1, false, [.pos 0]⟩
      | .con d => T.cn.any fun q => q.1 == p.1 && q.2.1 == i && sameC q.2.2 d
      | .fld => T.nf.contains (p.1, i))
    | none => false)
  | .cst c i d, sc, py => (match pAttr py with
    | some (o, n, _) => (match pName o with
      | some x => decide (T.nm[i]? = some n) && decide (T.cls[c]? = some x) && gloB sc x && !(x == "__debug__") && T.cc.any fun q => q.1 == c && q.2.1 == i && sameC q.2.2 d
      | none => false)
    | none => false)
  | .own o tb sb es, sc, py => (match o with
    | .len => (match pCall py with
      | some (f, [a], [], _) => blt T sc "len" f && noStar a && tb.all (fun p => T.olen.contains p && T.hasKb p.2 [] ⟨1, false, [.pos 0]⟩) && mtEs es sc [a]
      | _ => false)
    | .repr => (match pCall py with
      | some (f, [a], [], _) => blt T sc "repr" f && noStar a && tb.all (fun p => T.orep.contains p && T.hasKb p.2 [] ⟨1, false, [.pos 0]⟩) && mtEs es sc [a]
      | _ => false)
    | .eq => (match pCmp py with
      | some (l, [op], [r]) => decide (op = .Eq) && noSet r && noStar l && noStar r && tb.all (fun p => T.oeq.contains p && T.hasKb p.2 [] ⟨2, false, [.pos 0, .pos 1]⟩) && sbOk T sb && mtEs es sc [l, r]
      | _ => false)
    | .ne => (match pCmp py with
      | some (l, [op], [r]) => decide (op = .NotEq) && noSet r && noStar l && noStar r && tb.all (fun p => T.oeq.contains p && T.hasKb p.2 [] ⟨2, false, [.pos 0, .pos 1]⟩) && sbOk T sb && mtEs es sc [l, r]
      | _ => false)
    | _ => false)
  | .fst es, sc, py => (match pJoin py with
    | some (v :: u :: vs) => mtJs es sc (v :: u :: vs)
    | _ => false)
  | .ink neg a c i xs, sc, py => (match pCmp py with
    | some (l, [op], [r]) => decide (op = (if neg then .NotIn else .In)) && noSet r && mtE a sc l && (match pAttr r with
      | some (o, n, _) => (match pName o with
        | some x => decide (T.nm[i]? = some n) && decide (T.cls[c]? = some x) && gloB sc x && !(x == "__debug__") && T.ck.contains (c, i, xs)
        | none => false)
      | none => false)
    | _ => false)
def mtEs : List E → Scope → List Expr → Bool
  | [], _, ps => ps.isEmpty
  | e :: es, sc, ps => (match ps with
    | [] => false
    | p :: ps => (match e with
      | .star e' => (match pStar p with
        | some q => mtE e' sc q
        | none => false)
      | e => noStar p && mtE e sc p) && mtEs es sc ps)
/-- the parts of an f-string -/
def mtJs : List E → Scope → List Expr → Bool
  | [], _, ps => ps.isEmpty
  | e :: es, sc, ps => (match ps with
    | [] => false
    | p :: ps => (match pFmt p with
      | some q => mtE e sc q
      | none => (match pConst p with
        | some (.str c) => (match e with
          | .str x => decide (c = x) && okS x
          | _ => false)
        | _ => false)) && mtJs es sc ps)
def mtO : Option E → Scope → Option Expr → Bool
  | none, _, p => p.isNone
  | some e, sc, p => (match p with
    | none => false
    | some p => mtE e sc p)
/-- the ifs of a comprehension: none or one -/
def mtFs : List E → Scope → List Expr → Bool
  | [], _, ps => ps.isEmpty
  | e :: es, sc, ps => (match ps with
    | [p] => es.isEmpty && tst e && mtE e sc p
    | _ => false)
end
end
example (T : Tab) (N : List Str) (sc : Scope) (p : Pos) : mtE T N (.bin .add (.int 1) (.int 2)) sc (.BinOp (.Constant (.int 1) 0 p) .Add (.Constant (.int 2) 0 p) p) = true := by rfl
end Itp
namespace Itp
open PySem PySem.Spec PyProof.Rows L2
/-- a name table as it stands in the running frame -/
structure ScOk (X : Cx) (sc : Scope) : Prop where
  vis : ∀ x, visB sc x = true → Vis X.env.scope x
  glo : ∀ x, gloB sc x = true → Gl X x
  sto : ∀ x, stoB sc x = true → Loc X.env.scope x ∧ (X.fn x = true ∨ X.env.scope.names.lookup x = some .local)
  fre : ∀ x, (sc.names.lookup x = some .cell ∨ sc.names.lookup x = some .free) → (X.env.scope.names.lookup x = some .cell ∨ X.env.scope.names.lookup x = some .free)
  lcl : ∀ x, sc.names.lookup x = some .local → X.env.scope.names.lookup x = some .local
/-- a def of the program -/
structure FnI (T : Tab) (X : Cx) (g : Gb) (cal : Nat → List D → Sto → Out D) (n f : Nat) : Prop where
  kp : PySem.W.keepIn X.K (.ref (g.fA f)) = true
  fn : ∃ fd ps, FnB X.prog X.w X.K X.mg X.base CX0 (2 * n) (g.fA f) fd ps (spI X.K g cal f ps.length) ∧ ∀ ks pl, (f, ks, pl) ∈ T.kb → BndOk X.K fd ps ks pl
/-- the classes of the program, as its code asks of them -/
structure ClsOk (T : Tab) (g : Gb) (K : PySem.W.Frag) : Prop where
  nm : ∀ (i : Nat) x, T.nm[i]? = some x → g.nm i = x
  nj : ∀ i j, g.nm i = g.nm j → i = j
  mt : ∀ c m f, (c, m, f) ∈ T.mt → Cls K (g.cA c) ∧ Meth K (g.cA c) (g.nm m) (g.fA f)
  pr : ∀ c m f, (c, m, f) ∈ T.pr → Cls K (g.cA c) ∧ ∃ p, PropOf K (g.cA c) (g.nm m) p (g.fA f)
  cn : ∀ c m d, (c, m, d) ∈ T.cn → okC d = true ∧ Cls K (g.cA c) ∧ ∃ u, Con K (g.cA c) (g.nm m) (cV d) u
  cc : ∀ c m d, (c, m, d) ∈ T.cc → okC d = true ∧ ∃ mc u, ClX.CRead K (g.cA c) mc ∧ ClX.CVal K (g.cA c) mc (g.nm m) (cV d) u
  cks : ∀ c m xs, (c, m, xs) ∈ T.ck → ∃ mc a, ClX.CRead K (g.cA c) mc ∧ ClX.CVal K (g.cA c) mc (g.nm m) (.ref a) (.ref a) ∧ ∀ H, SqT K H a (xs.map V.str)
  nf : ∀ c m, (c, m) ∈ T.nf → Cls K (g.cA c) ∧ NoAttr K (g.cA c) (g.nm m)
  ini : ∀ c f, (c, f) ∈ T.ini → Mk K (g.cA c) (g.fA f) ∧ c < g.nc
  cm : ∀ c m f, (c, m, f) ∈ T.cm → c < g.nc ∧ ∃ mc p, ClX.CRead K (g.cA c) mc ∧ ClX.CMet K (g.cA c) mc (g.nm m) p (g.fA f)
  sm : ∀ c m f, (c, m, f) ∈ T.sm → ∃ mc p rest, ClX.CRead K (g.cA c) mc ∧ PySem.W.findCls K (.ref (g.cA c)) mc (g.nm m) = some (.get (.builtin "staticmethod.__get__") (.ref p) .none (.ref (g.cA c))) ∧ PySem.W.recIn K p "staticmethod" = some (.ref (g.fA f) :: rest)
  olen : ∀ c f, (c, f) ∈ T.olen → Meth K (g.cA c) "__len__" (g.fA f)
  orep : ∀ c f, (c, f) ∈ T.orep → Meth K (g.cA c) "__repr__" (g.fA f)
  obool : ∀ c f, (c, f) ∈ T.obool → Meth K (g.cA c) "__bool__" (g.fA f)
  oeq : ∀ c f, (c, f) ∈ T.oeq → Meth K (g.cA c) "__eq__" (g.fA f) ∧ PySem.W.findIn K (.ref (g.cA c)) "__ne__" = some (some (.builtin "object.__ne__"))
  sb : ∀ c k, c < g.nc → k < g.nc → PySem.W.mroIn K (g.cA c) (.ref (g.cA k)) = some (g.sub c k)
  ne : ∀ c k, c < g.nc → k < g.nc → g.cA c = g.cA k → c = k
  su : ∀ c k, c < g.nc → k < g.nc → g.sub c k = T.sub.contains (c, k)
  nc : g.nc = T.cls.length
  kf : ∀ q ∈ T.kb, q.1 < T.fn.length
structure Cok (T : Tab) (g : Gb) (cal : Nat → List D → Sto → Out D) (X : Cx) (n : Nat) : Prop where
  calm : X.calm = true
  nd : X.N.Nodup
  room : Room (2 * n + 1) X.A
  fr : ∀ x ∈ T.free, X.mg x = none
  fo : ∀ x ∈ T.free, x ≠ "__name__" ∧ (x == ("__debug__" : Str)) = false
  ci : ∀ p ∈ T.ci, ∃ t, X.mg p.1 = some (.int p.2 t)
  cs : ∀ p ∈ T.cs, ∃ t, X.mg p.1 = some (.str p.2 t)
  cl : ∀ (c : Nat) x, T.cls[c]? = some x → X.mg x = some (.ref (g.cA c)) ∧ c < g.nc
  is : IsOk X.K g g.nc
  ck : ClsOk T g X.K
  mg : ∀ (f : Nat) x, T.fn[f]? = some x → x ≠ "" → X.mg x = some (.ref (g.fA f))
  fn : ∀ f, f < T.fn.length → FnI T X g cal n f
theorem Cok.hu {T : Tab} {g : Gb} {cal : Nat → List D → Sto → Out D} {X : Cx} {n : Nat} (C : Cok T g cal X n) : X.A.units + 65 < cLine := by
  have := C.room.un
  omega
section
variable {g : Gb} {X : Cx} {a b c : Expr} {ma mb mc : Gm → Sto → Out D} {pos : Pos}
theorem je_var {i : Nat} {x : Str} (hN : X.N[i]? = some x) (hv : Vis X.env.scope x) (h1 : (x == ("__debug__" : Str)) = false) (h2 : (x == ("__classdict__" : Str)) = false) :
    PE X (.Name x pos) (tI X.K g fun γ S => match γ[i]? with | some (some d) => .ok d S | _ => .bad) := by
  refine (pe_var hN hv h1 h2).imp fun σ H Q h => ?_
  obtain ⟨γ, S, α, F, R, s, w, h⟩ := h
  dsimp only at h
  cases q : γ[i]? with
  | none => rw [q] at h; exact False.elim h
  | some o =>
    cases o with
    | none => rw [q] at h; exact False.elim h
    | some d =>
      rw [q] at h
      obtain ⟨v, e, r⟩ := s.2 i d q
      exact ⟨v, e, h.now w r⟩
theorem je_con {d : D} {v : V} (h : PE X a (tC v)) (r : ∀ α F, Rep X.K g α F d v) : PE X a (tI X.K g fun _ S => .ok d S) := by
  refine h.imp fun σ H Q h => ?_
  obtain ⟨γ, S, α, F, R, s, w, h⟩ := h
  exact h.now w (r α F)
theorem je_neg (ha : PE X a (tI X.K g ma)) : PE X (.UnaryOp .USub a pos) (tI X.K g fun γ S => (ma γ S).bind fun x S => match x with | .int i => .ok (.int (-i)) S | _ => .bad) := by
  refine (pe_un un_neg ha).imp fun σ H Q h => ?_
  refine tG.bind (δ := D) (k := fun γ (x : D) S => match x with | .int i => .ok (.int (-i)) S | _ => .bad) h fun γ x S v H α F R s w r h => ?_
  cases x with
  | int i => cases r; exact ⟨i, rfl, h.now w rfl⟩
  | _ => exact False.elim h
/-- a value's truth, as a test -/
def trm (m : Gm → Sto → Out D) : Gm → Sto → Out Bool := fun γ S => (m γ S).bind fun x S => ofO (truD x S) S
abbrev tT (K : PySem.W.Frag) (g : Gb) (m : Gm → Sto → Out D) : TT := tIb K g (trm m)
theorem Aft.tru {α : Nat → Option Addr} {F H R : Hp} {S : Sto} {x : D} {v : V} {Q : Bool → Hp → Prop} (h : Aft X.K g R (fun _ _ (a b : Bool) => a = b) α F (ofO (truD x S) S) Q) (w : World X.K g R α F S H) (r : Rep X.K g α F x v) : ∃ k, TruV X.K v H k ∧ Q k H := by
  obtain ⟨k, e, h⟩ := ofO_some h
  exact ⟨k, tru_of w r e, h k H α F Ext.refl w rfl⟩
theorem je_not (ha : PE X a (tI X.K g ma)) : PE X (.UnaryOp .Not a pos) (tI X.K g fun γ S => (ma γ S).bind fun x S => match truD x S with | some b => .ok (.bl !b) S | none => .bad) := by
  refine (pe_notT ha).imp fun σ H Q h => ?_
  refine tG.bind (δ := D) (k := fun γ x S => match truD x S with | some b => .ok (.bl !b) S | none => .bad) h fun γ x S v H α F R s w r h => ?_
  cases q : truD x S with
  | none => rw [q] at h; exact False.elim h
  | some k => rw [q] at h; exact ⟨k, tru_of w r q, h.now w rfl⟩
/-- the end of a comparison -/
theorem cmp_end {o : CO} {x y : D} {vx vy : V} {α : Nat → Option Addr} {F H R : Hp} {S : Sto} {Q : VK} (w : World X.K g R α F S H) (rx : Rep X.K g α F x vx) (ry : Rep X.K g α F y vy)
    (h : Aft X.K g R (Rep X.K g) α F (match cmpD o x y S with | some k => .ok (.bl k) S | none => .bad) Q) : rCmp X.K o vx vy H Q := by
  cases q : cmpD o x y S with
  | none => rw [q] at h; exact False.elim h
  | some k => rw [q] at h; exact cmp_val o w rx ry q (h.now w rfl)
theorem je_cmp (hu : X.A.units + 65 < cLine) (o : CO) (hm : noSet b = true) (ha : PE X a (tI X.K g ma)) (hb : PE X b (tI X.K g mb)) : PE X (.Compare a [o.py] [b] pos) (tI X.K g fun γ S => (ma γ S).bind fun x S => (mb γ S).bind fun y S => match cmpD o x y S with | some k => .ok (.bl k) S | none => .bad) :=
  (pe_cmpR (op_cmp hu o) ha hb (mark_of hm)).imp fun σ H Q h => tOp_of h fun x y vx vy S H α F R w rx ry h => cmp_end w rx ry h
theorem tI_bl {m : Gm → Sto → Out D} {σ : L2.St} {H : Hp} {Q : Bool → Hp → Prop} (h : tT X.K g m σ H Q) (hb : ∀ γ S d S', m γ S = .ok d S' → ∃ k, d = .bl k) : tI X.K g m σ H fun v H' => ∃ k, v = .bl k ∧ Q k H' := by
  obtain ⟨γ, S, α, F, R, s, w, h⟩ := h
  refine ⟨γ, S, α, F, R, s, w, ?_⟩
  unfold trm at h
  cases q : m γ S with
  | ok d S' =>
    rw [q] at h
    obtain ⟨k, rfl⟩ := hb γ S d S' q
    intro v H' α' F' e w' r
    cases r
    exact ⟨k, rfl, h k H' α' F' e w' rfl⟩
  | exc => rw [q] at h; exact h
  | bad => rw [q] at h; exact h
theorem bind_ok {β δ : Type} {o : Out β} {k : β → Sto → Out δ} {d : δ} {S : Sto} (h : o.bind k = .ok d S) : ∃ b S', o = .ok b S' ∧ k b S' = .ok d S := by
  cases o with
  | ok b S' => exact ⟨b, S', rfl, h⟩
  | exc => cases h
  | bad => cases h
theorem jt_cmp (hu : X.A.units + 65 < cLine) (o : CO) (hm : noSet b = true) (ha : PE X a (tI X.K g ma)) (hb : PE X b (tI X.K g mb)) : PT X (.Compare a [o.py] [b] pos) (tT X.K g fun γ S => (ma γ S).bind fun x S => (mb γ S).bind fun y S => match cmpD o x y S with | some k => .ok (.bl k) S | none => .bad) := by
  refine (pt_cmpR (op_cmp hu o) ha hb (mark_of hm)).imp fun σ H Q h => ?_
  have h := tI_bl h fun γ S d S' q => by
    obtain ⟨x, S1, q1, q⟩ := bind_ok q
    obtain ⟨y, S2, q2, q⟩ := bind_ok q
    split at q
    · cases q; exact ⟨_, rfl⟩
    · cases q
  exact tOp_of h fun x y vx vy S H α F R w rx ry h => cmp_end w rx ry h
theorem chn_of {o p : CO} {σ : L2.St} {H : Hp} {Q : VK} (h : tI X.K g (fun γ S => (ma γ S).bind fun x S => (mb γ S).bind fun y S => match cmpD o x y S with
    | some true => (mc γ S).bind fun z S => (match cmpD p y z S with | some k => .ok (.bl k) S | none => .bad)
    | some false => .ok (.bl false) S
    | none => .bad) σ H Q) : tChain (rCmp X.K o) (rCmp X.K p) (tI X.K g ma) (tI X.K g mb) (tI X.K g mc) σ H Q := by
  refine tG.bind (δ := D) (k := fun γ x S => (mb γ S).bind fun y S => match cmpD o x y S with
    | some true => (mc γ S).bind fun z S => (match cmpD p y z S with | some k => .ok (.bl k) S | none => .bad)
    | some false => .ok (.bl false) S
    | none => .bad) h fun γ x S vx H α F R s w rx h => ?_
  refine ⟨γ, S, α, F, R, s, w, Aft.bind h fun y S vy H α' F' e w' ry h => ?_⟩
  have rx' := Rep.mono e _ _ rx
  cases q : cmpD o x y S with
  | none => rw [q] at h; exact False.elim h
  | some k =>
    rw [q] at h
    refine cmp_val o w' rx' ry q ⟨k, rfl, ?_⟩
    cases k with
    | true =>
      rw [if_pos rfl]
      exact ⟨γ, S, α', F', R, s.mono e, w', Aft.bind h fun z S vz H α2 F2 e2 w2 rz h => cmp_end w2 (Rep.mono e2 _ _ ry) rz h⟩
    | false =>
      rw [if_neg Bool.false_ne_true]
      exact h.now w' rfl
theorem last_of {o p : CmpOp} (h : noSet c = true) : lastMarks [o, p] [b, c] = false := mark_of h
theorem je_chn (hu : X.A.units + 65 < cLine) (o p : CO) (hm : noSet c = true) (ha : PE X a (tI X.K g ma)) (hb : PE X b (tI X.K g mb)) (hc : PE X c (tI X.K g mc)) :
    PE X (.Compare a [o.py, p.py] [b, c] pos) (tI X.K g fun γ S => (ma γ S).bind fun x S => (mb γ S).bind fun y S => match cmpD o x y S with
    | some true => (mc γ S).bind fun z S => (match cmpD p y z S with | some k => .ok (.bl k) S | none => .bad)
    | some false => .ok (.bl false) S
    | none => .bad) := (pe_chain (op_cmp hu o) (op_cmp hu p) ha hb hc (last_of hm)).imp fun σ H Q h => chn_of h
theorem jt_chn (hu : X.A.units + 65 < cLine) (o p : CO) (hm : noSet c = true) (ha : PE X a (tI X.K g ma)) (hb : PE X b (tI X.K g mb)) (hc : PE X c (tI X.K g mc)) :
    PT X (.Compare a [o.py, p.py] [b, c] pos) (tT X.K g fun γ S => (ma γ S).bind fun x S => (mb γ S).bind fun y S => match cmpD o x y S with
    | some true => (mc γ S).bind fun z S => (match cmpD p y z S with | some k => .ok (.bl k) S | none => .bad)
    | some false => .ok (.bl false) S
    | none => .bad) := by
  refine (pt_chain (op_cmp hu o) (op_cmp hu p) ha hb hc (last_of hm)).imp fun σ H Q h => ?_
  have h := tI_bl h fun γ S d S' q => by
    obtain ⟨x, S1, q1, q⟩ := bind_ok q
    obtain ⟨y, S2, q2, q⟩ := bind_ok q
    split at q
    · obtain ⟨z, S3, q3, q⟩ := bind_ok q
      split at q
      · cases q; exact ⟨_, rfl⟩
      · cases q
    · cases q; exact ⟨_, rfl⟩
    · cases q
  exact chn_of h
/-- a value as a test, where the model asks its truth -/
theorem jt_val (ha : PE X a (tI X.K g ma)) (he : ∀ whole, isTrue a X.env whole = (do let v ← whole; standAt a.pos; holding [v] (truthy v))) : PT X a (tT X.K g ma) := by
  refine (pt_truth ha he).imp fun σ H Q h => ?_
  exact tG.bind (k := fun _ x S => ofO (truD x S) S) h fun γ x S v H α F R s w r h => h.tru w r
theorem jt_not (ha : PT X a (tT X.K g ma)) : PT X (.UnaryOp .Not a pos) (tT X.K g fun γ S => (ma γ S).bind fun x S => match truD x S with | some b => .ok (.bl !b) S | none => .bad) := by
  refine (pt_not ha).imp fun σ H Q h => ?_
  obtain ⟨γ, S, α, F, R, s, w, h⟩ := h
  refine ⟨γ, S, α, F, R, s, w, ?_⟩
  unfold trm at h ⊢
  dsimp only at h ⊢
  cases q : ma γ S with
  | ok d S' =>
    rw [q] at h
    dsimp only [Out.bind] at h ⊢
    cases q2 : truD d S' with
    | none => rw [q2] at h; exact h
    | some k =>
      rw [q2] at h
      intro r H' α' F' e w' er
      subst er
      exact h _ H' α' F' e w' rfl
  | exc => rw [q] at h; exact h
  | bad => rw [q] at h; exact h
theorem je_ite (hc : PT X c (tT X.K g mc)) (ha : PE X a (tI X.K g ma)) (hb : PE X b (tI X.K g mb)) : PE X (.IfExp c a b pos) (tI X.K g fun γ S => (mc γ S).bind fun x S => match truD x S with
    | some true => ma γ S
    | some false => mb γ S
    | none => .bad) := by
  refine (pe_ifExp hc ha hb).imp fun σ H Q h => ?_
  obtain ⟨γ, S, α, F, R, s, w, h⟩ := h
  refine ⟨γ, S, α, F, R, s, w, ?_⟩
  unfold trm
  dsimp only at h ⊢
  cases q : mc γ S with
  | ok d S' =>
    rw [q] at h
    dsimp only [Out.bind] at h ⊢
    cases q2 : truD d S' with
    | none => rw [q2] at h; exact h
    | some k =>
      rw [q2] at h
      intro r H' α' F' e w' er
      subst er
      cases k with
      | true => rw [if_pos rfl]; exact ⟨γ, S', α', F', R, s.mono e, w', Aft.ext e h⟩
      | false => rw [if_neg Bool.false_ne_true]; exact ⟨γ, S', α', F', R, s.mono e, w', Aft.ext e h⟩
  | exc => rw [q] at h; exact h
  | bad => rw [q] at h; exact h
/-! ### and, or -/
theorem jb_one {o : BoolOp} (ha : PE X a (tI X.K g ma)) : PE X (.BoolOp o [a] pos) (tI X.K g ma) := pe_one ha
theorem jb_cons {o : Bool} {r : List Expr} (ha : PE X a (tI X.K g ma)) (hb : PE X (.BoolOp (if o then .And else .Or) (b :: r) pos) (tI X.K g mb)) : PE X (.BoolOp (if o then .And else .Or) (a :: b :: r) pos) (tI X.K g fun γ S => (ma γ S).bind fun x S => match truD x S with
    | some k => if k = o then mb γ S else .ok x S
    | none => .bad) := by
  cases o with
  | true =>
    refine (pe_andT ha hb).imp fun σ H Q h => ?_
    refine tG.bind (δ := D) (k := fun γ x S => match truD x S with | some k => if k = true then mb γ S else .ok x S | none => .bad) h fun γ x S v H α F R s w r h => ?_
    cases q : truD x S with
    | none => rw [q] at h; exact False.elim h
    | some k =>
      rw [q] at h
      refine ⟨k, tru_of w r q, ?_⟩
      cases k with
      | true => rw [if_pos rfl]; exact ⟨γ, S, α, F, R, s, w, h⟩
      | false => rw [if_neg Bool.false_ne_true]; exact Aft.now (d := x) h w r
  | false =>
    refine (pe_orT ha hb).imp fun σ H Q h => ?_
    refine tG.bind (δ := D) (k := fun γ x S => match truD x S with | some k => if k = false then mb γ S else .ok x S | none => .bad) h fun γ x S v H α F R s w r h => ?_
    cases q : truD x S with
    | none => rw [q] at h; exact False.elim h
    | some k =>
      rw [q] at h
      refine ⟨k, tru_of w r q, ?_⟩
      cases k with
      | true => rw [if_pos rfl]; exact Aft.now (d := x) h w r
      | false => rw [if_neg Bool.false_ne_true]; exact ⟨γ, S, α, F, R, s, w, h⟩
theorem _root_.L2.PW.imp {e : Expr} {t t' : TT} (h : PW X e t) (f : ∀ σ H Q, t' σ H Q → t σ H Q) : PW X e t' := ⟨fun wh pins s σ H Q I q => h.run wh pins s σ H Q I (f σ H Q q)⟩
theorem jw_one {o : Bool} (ha : PT X a (tT X.K g ma)) : PW X (.BoolOp (if o then .And else .Or) [a] pos) (tT X.K g ma) := by
  cases o with
  | true => exact pw_and1 ha
  | false => exact pw_or1 ha
theorem jw_cons {o : Bool} {r : List Expr} (ha : PT X a (tT X.K g ma)) (hb : PW X (.BoolOp (if o then .And else .Or) (b :: r) pos) (tT X.K g mb)) : PW X (.BoolOp (if o then .And else .Or) (a :: b :: r) pos) (tT X.K g fun γ S => (ma γ S).bind fun x S => match truD x S with
    | some k => if k = o then mb γ S else .ok x S
    | none => .bad) := by
  have go : ∀ σ H Q, tT X.K g (fun γ S => (ma γ S).bind fun x S => match truD x S with | some k => if k = o then mb γ S else .ok x S | none => .bad) σ H Q → tT X.K g ma σ H fun c H1 => if c = o then tT X.K g mb σ H1 Q else Q (!o) H1 := by
    intro σ H Q h
    obtain ⟨γ, S, α, F, R, s, w, h⟩ := h
    refine ⟨γ, S, α, F, R, s, w, ?_⟩
    unfold trm at h ⊢
    dsimp only at h ⊢
    cases q : ma γ S with
    | ok d S' =>
      rw [q] at h
      dsimp only [Out.bind] at h ⊢
      cases q2 : truD d S' with
      | none => rw [q2] at h; exact h
      | some k =>
        rw [q2] at h
        dsimp only at h
        intro r H' α' F' e w' er
        subst er
        by_cases hk : k = o
        · rw [if_pos hk] at h ⊢
          exact ⟨γ, S', α', F', R, s.mono e, w', Aft.ext e h⟩
        · rw [if_neg hk] at h ⊢
          dsimp only at h
          rw [q2] at h
          have : k = !o := by cases k <;> cases o <;> simp_all
          rw [← this]
          exact h k H' α' F' e w' rfl
    | exc => rw [q] at h; exact h
    | bad => rw [q] at h; exact h
  cases o with
  | true =>
    refine (pw_and ha hb).imp fun σ H Q h => ?_
    exact go σ H Q h
  | false =>
    refine (pw_or ha hb).imp fun σ H Q h => ?_
    obtain ⟨γ, S, α, F, R, s, w, h⟩ := go σ H Q h
    refine ⟨γ, S, α, F, R, s, w, Aft.mono h fun c H1 q => ?_⟩
    cases c with
    | true => exact q
    | false => exact q
end
end Itp
namespace Itp
open PySem PySem.Spec PyProof.Rows L2
section
variable {K : PySem.W.Frag} {g : Gb} {α : Nat → Option Addr} {F H R : Hp} {S : Sto}
theorem World.rnone (w : World K g R α F S H) {p : Addr} (hp : H p = none) : R p = none := by
  cases q : R p with
  | none => rfl
  | some o => have := (w.fr p o q).1; rw [hp] at this; cases this
theorem World.frame (w : World K g R α F S H) {p : Addr} {o : HO} (hp : H p = none) : World K g (upd R p o) α F S (upd H p o) := by
  have w' := w.idle (o := o) hp
  refine ⟨w'.fz, w'.st, w'.inj, w'.occ, w'.bd, fun a u h => ?_⟩
  by_cases q : a = p
  · subst q
    rw [upd_same] at h
    cases h
    exact ⟨upd_same, w.fnone hp, fun n e => w.occ n _ e hp⟩
  · rw [upd_ne q] at h
    exact w'.fr a u h
theorem World.reframe (w : World K g (upd R p o) α F S H) {o' : HO} : World K g (upd R p o') α F S (upd H p o') := by
  obtain ⟨h1, h2, h3⟩ := w.fr p o upd_same
  refine ⟨fun a u h => ?_, fun n u h => ?_, w.inj, fun n a h => ?_, w.bd, fun a u h => ?_⟩
  · rw [upd_ne]; exact w.fz a u h
    intro z; rw [z, h2] at h; cases h
  · have k := w.st n u h
    cases u with
    | lst xs =>
      obtain ⟨a, vs, k1, k2, k3, k4⟩ := k
      exact ⟨a, vs, k1, k2, by rw [upd_ne (fun z => h3 n (by rw [← z]; exact k1))]; exact k3, k4⟩
    | ins c ns ds =>
      obtain ⟨a, dx, vs, k1, k2, k3, hl, k4⟩ := k
      exact ⟨a, dx, vs, k1, k2, by rw [upd_ne (fun z => h3 n (by rw [← z]; exact k1))]; exact k3, hl, k4⟩
    | dead => trivial
    | dK ks ds =>
      obtain ⟨a, vs, k1, k2, k3, hl, k4⟩ := k
      exact ⟨a, vs, k1, k2, by rw [upd_ne (fun z => h3 n (by rw [← z]; exact k1))]; exact k3, hl, k4⟩
    | dT ks ds =>
      obtain ⟨a, vs, k1, k2, k3, hl, k4⟩ := k
      exact ⟨a, vs, k1, k2, by rw [upd_ne (fun z => h3 n (by rw [← z]; exact k1))]; exact k3, hl, k4⟩
  · by_cases q : a = p
    · rw [q, upd_same]; exact Option.some_ne_none _
    · rw [upd_ne q]; exact w.occ n a h
  · by_cases q : a = p
    · subst q
      rw [upd_same] at h
      cases h
      exact ⟨upd_same, h2, h3⟩
    · rw [upd_ne q] at h ⊢
      exact w.fr a u (by rw [upd_ne q]; exact h)
theorem World.unframe (w : World K g (upd R p o) α F S H) (hp : R p = none) : World K g R α (upd F p o) S H ∧ Ext α F α (upd F p o) := by
  obtain ⟨h1, h2, h3⟩ := w.fr p o upd_same
  have e : Ext α F α (upd F p o) := ⟨fun _ _ h => h, fun a u h => by rw [upd_ne]; exact h; intro z; rw [z, h2] at h; cases h⟩
  refine ⟨⟨fun a u h => ?_, fun n u h => ?_, w.inj, w.occ, w.bd, fun a u h => ?_⟩, e⟩
  · by_cases q : a = p
    · rw [q, upd_same] at h; rw [q, h1]; exact h
    · rw [upd_ne q] at h; exact w.fz a u h
  · have k := w.st n u h
    cases u with
    | lst xs =>
      obtain ⟨a, vs, k1, k2, k3, k4⟩ := k
      exact ⟨a, vs, k1, by rw [upd_ne (fun z => h3 n (by rw [← z]; exact k1))]; exact k2, k3, Reps.mono e _ _ k4⟩
    | ins c ns ds =>
      obtain ⟨a, dx, vs, k1, k2, k3, hl, k4⟩ := k
      exact ⟨a, dx, vs, k1, by rw [upd_ne (fun z => h3 n (by rw [← z]; exact k1))]; exact k2, k3, hl, Reps.mono e _ _ k4⟩
    | dead => trivial
    | dK ks ds =>
      obtain ⟨a, vs, k1, k2, k3, hl, k4⟩ := k
      exact ⟨a, vs, k1, by rw [upd_ne (fun z => h3 n (by rw [← z]; exact k1))]; exact k2, k3, hl, Reps.mono e _ _ k4⟩
    | dT ks ds =>
      obtain ⟨a, vs, k1, k2, k3, hl, k4⟩ := k
      exact ⟨a, vs, k1, by rw [upd_ne (fun z => h3 n (by rw [← z]; exact k1))]; exact k2, k3, hl, Reps.mono e _ _ k4⟩
  · have q : a ≠ p := fun z => by rw [z, hp] at h; cases h
    obtain ⟨k1, k2, k3⟩ := w.fr a u (by rw [upd_ne q]; exact h)
    exact ⟨k1, by rw [upd_ne q]; exact k2, k3⟩
end
section
variable {g : Gb} {X : Cx} {a b c : Expr} {ma mb mc : Gm → Sto → Out D} {ml : Gm → Sto → Out (List D)} {pos : Pos} {es : List Expr}
/-! ### argument lists -/
theorem ja_nil : PA X [] (tIs X.K g fun _ S => .ok [] S) := pa_nil.imp fun σ H Q h => by
  obtain ⟨γ, S, α, F, R, s, w, h⟩ := h
  exact h [] H α F Ext.refl w rfl
theorem ja_cons (hn : noStar a = true) (ha : PE X a (tI X.K g ma)) (hl : PA X es (tIs X.K g ml)) : PA X (a :: es) (tIs X.K g fun γ S => (ma γ S).bind fun d S => (ml γ S).bind fun ds S => .ok (d :: ds) S) := by
  refine (pa_cons ha hl (star_cons hn)).imp fun σ H Q h => ?_
  refine tG.bind (δ := List D) (k := fun γ d S => (ml γ S).bind fun ds S => .ok (d :: ds) S) h fun γ x S vx H α F R s w rx h => ?_
  refine ⟨γ, S, α, F, R, s, w, Aft.bind (δ := List D) h fun ds S vs H α' F' e w' rs h => ?_⟩
  exact h (vx :: vs) H α' F' Ext.refl w' ⟨vx, vs, rfl, Rep.mono e _ _ rx, rs⟩
/-- what stands behind argument values -/
theorem tIs_of {k : List D → Sto → Out D} {σ : L2.St} {H : Hp} {Q : VK} {Q1 : List V → Hp → Prop} (h : tI X.K g (fun γ S => (ml γ S).bind fun ds S => k ds S) σ H Q)
    (f : ∀ ds vs S H α F R, World X.K g R α F S H → Reps X.K g α F ds vs → Aft X.K g R (Rep X.K g) α F (k ds S) Q → Q1 vs H) : tIs X.K g ml σ H Q1 :=
  tG.bind (δ := D) (k := fun _ ds S => k ds S) h fun γ ds S vs H α F R s w r h => f ds vs S H α F R w r h
theorem seq_of {K : PySem.W.Frag} {R F H : Hp} {α : Nat → Option Addr} {S : Sto} (w : World K g R α F S H) {d : D} {v : V} {xs : List D} (r : Rep K g α F d v) (e : seqOf d S = some xs) : ∃ p vs, v = .ref p ∧ (SqT K H p vs ∨ SqL K H p vs) ∧ Reps K g α F xs vs := by
  unfold seqOf at e
  split at e
  · cases e
    obtain ⟨p, vs, e1, h2, h3⟩ := r
    exact ⟨p, vs, e1, .inl (SqT.of (w.fz _ _ h2)), h3⟩
  · obtain ⟨p, vs, e1, h2, h3⟩ := lst_of w r e
    exact ⟨p, vs, e1, .inr (SqL.of h2), h3⟩
theorem ja_star {p : Pos} (ha : PE X a (tI X.K g ma)) (hl : PA X es (tIs X.K g ml)) : PA X (.Starred a p :: es) (tIs X.K g fun γ S => (ma γ S).bind fun d S => (ofO (seqOf d S) S).bind fun xs S => (ml γ S).bind fun ds S => .ok (xs ++ ds) S) := by
  refine (StX.pa_star ha hl).imp fun σ H Q h => ?_
  refine tG.bind (δ := List D) (k := fun γ d S => (ofO (seqOf d S) S).bind fun xs S => (ml γ S).bind fun ds S => .ok (xs ++ ds) S) h fun γ x S vx H α F R s w rx h => ?_
  cases q : seqOf x S with
  | none => rw [q] at h; exact False.elim h
  | some xs =>
    rw [q] at h
    obtain ⟨p, vs, e1, h2, h3⟩ := seq_of w rx q
    refine ⟨p, vs, e1, h2, γ, S, α, F, R, s, w, Aft.bind (δ := List D) h fun ds S ws H α' F' e w' rs h => ?_⟩
    exact h (vs ++ ws) H α' F' Ext.refl w' ((Reps.mono e _ _ h3).app rs)
theorem je_tup {k : Nat} (hl : PA X es (tIs X.K g ml)) : PE X (.Tuple es k pos) (tI X.K g fun γ S => (ml γ S).bind fun ds S => if ds.length ≤ 16777216 then .ok (.tup ds) S else .bad) := by
  refine (pe_tup hl).imp fun σ H Q h => ?_
  refine tIs_of h fun ds vs S H α F R w r h => ?_
  split at h
  · rename_i hz
    exact ⟨by rw [← r.length, size16]; exact hz, h.newT w r⟩
  · exact False.elim h
theorem je_lst {t : Bool} (hl : PA X es (tIs X.K g ml)) : PE X (.List es pos) (tI X.K g fun γ S => (ml γ S).bind fun ds S => if ds.length ≤ 16777216 then (if t then .ok (.loc S.length) (S ++ [.lst ds]) else .ok (.lst ds) S) else .bad) := by
  refine (pe_lst hl).imp fun σ H Q h => ?_
  refine tIs_of h fun ds vs S H α F R w r h => ?_
  split at h
  · rename_i hz
    refine ⟨by rw [← r.length, size16]; exact hz, ?_⟩
    cases t with
    | true => exact Aft.newS h w r
    | false => exact Aft.newL h w r
  · exact False.elim h
theorem je_idx (hu : X.A.units + 1 < cLine) (hn : noSlc b = true) (ha : PE X a (tI X.K g ma)) (hb : PE X b (tI X.K g mb)) : PE X (.Subscript a b pos) (tI X.K g fun γ S => (ma γ S).bind fun x S => (mb γ S).bind fun y S => ofO (idxD x y S) S) :=
  (pe_ix (ix_all hu) ha hb (plain_of hn)).imp fun σ H Q h => tOp_of h fun x y vx vy S H α F R w rx ry h => idx_val w rx ry h
theorem jo_none : PO X none (tIo X.K g fun _ S => .ok none S) := po_none.imp fun σ H Q h => by
  obtain ⟨γ, S, α, F, R, s, w, h⟩ := h
  exact h none H α F Ext.refl w rfl
theorem jo_some (ha : PE X a (tI X.K g ma)) : PO X (some a) (tIo X.K g fun γ S => (ma γ S).bind fun x S => match x with | .int i => .ok (some i) S | _ => .bad) := by
  refine (po_some ha).imp fun σ H Q h => ?_
  refine tG.bind (δ := Option Int) (k := fun γ (x : D) S => match x with | .int i => .ok (some i) S | _ => .bad) h fun γ x S v H α F R s w r h => ?_
  cases x with
  | int i => cases r; exact ⟨i, rfl, h (some i) H α F Ext.refl w rfl⟩
  | _ => exact False.elim h
theorem je_slc {lo hi : Option Expr} {mo mh : Gm → Sto → Out (Option Int)} {p2 : Pos} (ha : PE X a (tI X.K g ma)) (hl : PO X lo (tIo X.K g mo)) (hh : PO X hi (tIo X.K g mh)) :
    PE X (.Subscript a (.Slice lo hi none p2) pos) (tI X.K g fun γ S => (ma γ S).bind fun x S => (mo γ S).bind fun l S => (mh γ S).bind fun u S => ofO (slcD x l u S) S) := by
  refine (pe_slice sl_any ha hl hh).imp fun σ H Q h => ?_
  refine tG.bind (δ := D) (k := fun γ x S => (mo γ S).bind fun l S => (mh γ S).bind fun u S => ofO (slcD x l u S) S) h fun γ x S v H α F R s w r h => ?_
  refine ⟨γ, S, α, F, R, s, w, Aft.bind (δ := D) h fun l S l' H α' F' e w' el h => ?_⟩
  refine ⟨γ, S, α', F', R, s.mono e, w', Aft.bind (δ := D) h fun u S u' H α2 F2 e2 w2 eu h => ?_⟩
  subst el eu
  exact slc_val w2 (Rep.mono (e.trans e2) _ _ r) h
end
end Itp
namespace Itp
open PySem PySem.Spec PyProof.Rows L2
theorem contains_mem {l : List Str} {x : Str} (h : l.contains x = true) : x ∈ l := by simpa using h
section
variable {T : Tab} {g : Gb} {cal : Nat → List D → Sto → Out D} {n : Nat} {X : Cx} {a b c : Expr} {ma mb mc : Gm → Sto → Out D} {ml : Gm → Sto → Out (List D)} {pos : Pos} {es : List Expr} {sc : Scope}
theorem blt_of {f : Expr} {x : Str} (C : Cok T g cal X n) (hs : ScOk X sc) (h : blt T sc x f = true) : (∃ p, f = .Name x p) ∧ Gl X x ∧ X.mg x = none ∧ x ≠ "__name__" ∧ (x == ("__debug__" : Str)) = false := by
  unfold blt at h
  cases q : pName f with
  | none => rw [q] at h; cases h
  | some y =>
    rw [q] at h
    simp only [Bool.and_eq_true] at h
    obtain ⟨⟨h1, h2⟩, h3⟩ := h
    have h1 := of_decide_eq_true h1
    subst h1
    have m := contains_mem h3
    exact ⟨pName_inv q, hs.glo _ h2, C.fr _ m, (C.fo _ m).1, (C.fo _ m).2⟩
theorem ty_pe {t : Ty} {py : Expr} (C : Cok T g cal X n) (hs : ScOk X sc) (h : mtTy T sc t py = true) : PE X py (tC (t.val g)) ∧ t.ok g = true ∧ noStar py = true := by
  unfold mtTy at h
  cases q : pName py with
  | none => rw [q] at h; cases h
  | some x =>
    cases q2 : t.name T with
    | none => rw [q, q2] at h; cases h
    | some y =>
      rw [q, q2] at h
      simp only [Bool.and_eq_true] at h
      obtain ⟨⟨⟨h1, h2⟩, h3⟩, h4⟩ := h
      have h1 := of_decide_eq_true h1
      subst h1
      obtain ⟨p, rfl⟩ := pName_inv q
      have hg := hs.glo _ h2
      have hd : (x == ("__debug__" : Str)) = false := by simpa using h3
      cases t with
      | own k sb =>
        obtain ⟨k1, k2⟩ := C.cl k x q2
        have h4 : (decide (k < T.cls.length) && (List.range T.cls.length).all fun c => T.sub.contains (c, k) == sb.contains c) = true := h4
        refine ⟨pe_glob hg k1 rfl hd, ?_, rfl⟩
        rw [Bool.and_eq_true] at h4
        show (decide (k < g.nc) && (List.range g.nc).all fun c => g.sub c k == sb.contains c) = true
        rw [Bool.and_eq_true]
        refine ⟨decide_eq_true k2, List.all_eq_true.mpr fun c hc => ?_⟩
        have hc' := List.mem_range.mp hc
        rw [C.ck.su c k hc' k2]
        rw [C.ck.nc] at hc
        exact List.all_eq_true.mp h4.2 c hc
      | int => cases q2; exact ⟨pe_bltn hg (C.fr _ (contains_mem h4)) boot_int rfl, rfl, rfl⟩
      | bool => cases q2; exact ⟨pe_bltn hg (C.fr _ (contains_mem h4)) (by decide +kernel) rfl, rfl, rfl⟩
      | str => cases q2; exact ⟨pe_bltn hg (C.fr _ (contains_mem h4)) (by decide +kernel) rfl, rfl, rfl⟩
      | list => cases q2; exact ⟨pe_bltn hg (C.fr _ (contains_mem h4)) boot_list rfl, rfl, rfl⟩
      | tuple => cases q2; exact ⟨pe_bltn hg (C.fr _ (contains_mem h4)) boot_tuple rfl, rfl, rfl⟩
theorem je_isi {f : Expr} {t : Ty} (C : Cok T g cal X n) (hs : ScOk X sc) (hf : blt T sc "isinstance" f = true) (hn : noStar a = true) (ha : PE X a (tI X.K g ma)) (ht : mtTy T sc t b = true) :
    PE X (.Call f [a, b] [] pos) (tI X.K g fun γ S => (ma γ S).bind fun x S => match isD x t S with | some b => .ok (.bl b) S | none => .bad) := by
  obtain ⟨⟨p, rfl⟩, hg, hm, _, _⟩ := blt_of C hs hf
  obtain ⟨hb, ho, hnb⟩ := ty_pe C hs ht
  refine (pe_callB call_isi hg hm boot_isinstance (pa_cons ha (pa_cons hb pa_nil (star_cons hnb)) (star_cons hn)) (by decide) (by decide) (star_cons hn) (star_none (by rw [List.all_cons, hnb]; rfl))).imp fun σ H Q h => ?_
  refine tG.bind (δ := D) (k := fun γ x S => match isD x t S with | some b => .ok (.bl b) S | none => .bad) h fun γ x S v H α F R s w r h => ?_
  cases q : isD x t S with
  | none => rw [q] at h; exact False.elim h
  | some k =>
    rw [q] at h
    unfold isD at q
    cases q2 : tkD x S with
    | none => rw [q2] at q; cases q
    | some tk =>
      rw [q2] at q
      have q := Option.some.inj q
      subst q
      obtain ⟨h1, h2⟩ := tk_of C.is w r q2
      exact ⟨_, _, _, _, _, rfl, t.cls g, h1, kit_is C.is h2 ho, h.now w rfl⟩
theorem tys_pa (C : Cok T g cal X n) (hs : ScOk X sc) : ∀ {ts : List Ty} {ps : List Expr}, mtTys T sc ts ps = true → PA X ps (fun _ H Q => Q (ts.map (Ty.val g)) H) ∧ ts.all (Ty.ok g) = true ∧ ps.length = ts.length
  | [], [], _ => ⟨pa_nil, rfl, rfl⟩
  | t :: ts, p :: ps, h => by
    unfold mtTys at h
    rw [Bool.and_eq_true] at h
    obtain ⟨h1, h2, h3⟩ := ty_pe C hs h.1
    obtain ⟨k1, k2, k3⟩ := tys_pa C hs h.2
    refine ⟨(pa_cons h1 k1 (star_cons h3)).imp fun σ H Q h => h, by rw [List.all_cons, h2, k2]; rfl, by simp [k3]⟩
  | [], _ :: _, h => by cases h
  | _ :: _, [], h => by cases h
theorem cls_all (g : Gb) : ∀ ts : List Ty, Paired ClsV (ts.map (Ty.val g)) (ts.map (Ty.py g))
  | [] => .nil
  | t :: ts => .cons (t.cls g) (cls_all g ts)
theorem je_isT {f : Expr} {ts : List Ty} {bs : List Expr} {k : Nat} {tp : Pos} (hz : ts.length ≤ 1000) (C : Cok T g cal X n) (hs : ScOk X sc) (hf : blt T sc "isinstance" f = true) (hn : noStar a = true) (ha : PE X a (tI X.K g ma)) (ht : mtTys T sc ts bs = true) :
    PE X (.Call f [a, .Tuple bs k tp] [] pos) (tI X.K g fun γ S => (ma γ S).bind fun x S => match isAny x ts S with | some b => .ok (.bl b) S | none => .bad) := by
  obtain ⟨⟨p, rfl⟩, hg, hm, _, _⟩ := blt_of C hs hf
  obtain ⟨hb, ho, hl⟩ := tys_pa C hs ht
  refine (pe_callB call_isiT hg hm boot_isinstance (pa_cons ha (pa_cons (pe_tup hb) pa_nil) (star_cons hn)) (by decide) (by decide) (star_cons hn) rfl).imp fun σ H Q h => ?_
  refine tG.bind (δ := D) (k := fun γ x S => match isAny x ts S with | some b => .ok (.bl b) S | none => .bad) h fun γ x S v H α F R s w r h => ?_
  refine ⟨by rw [List.length_map, size16]; omega, fun p hp => ?_⟩
  have w' := w.idle (o := .tup (ts.map (Ty.val g))) hp
  cases q : isAny x ts S with
  | none => rw [q] at h; exact False.elim h
  | some k =>
    rw [q] at h
    unfold isAny at q
    cases q2 : tkD x S with
    | none => rw [q2] at q; cases q
    | some tk =>
      rw [q2] at q
      have q := Option.some.inj q
      subst q
      obtain ⟨h1, h2⟩ := tk_of C.is w' r q2
      exact ⟨_, _, _, _, _, _, rfl, upd_same, cls_all g ts, h1, kit_any C.is h2 ho, h.now w' rfl⟩
theorem je_bf {f : Expr} (bb : BF) (hb : bb.ok = true) (C : Cok T g cal X n) (hs : ScOk X sc) (hf : blt T sc bb.nm f = true) (hn : (a :: es).all noStar = true) (ha : PA X (a :: es) (tIs X.K g ml)) :
    PE X (.Call f (a :: es) [] pos) (tI X.K g fun γ S => (ml γ S).bind fun ds S => ofO (bfD bb ds S) S) := by
  obtain ⟨⟨p, rfl⟩, hg, hm, h1, h2⟩ := blt_of C hs hf
  have hn' : noStar a = true ∧ es.all noStar = true := by rw [List.all_cons, Bool.and_eq_true] at hn; exact hn
  have fin : ∀ {σ : L2.St} {H : Hp} {Q : VK}, tI X.K g (fun γ S => (ml γ S).bind fun ds S => ofO (bfD bb ds S) S) σ H Q → tCB (rBf X.K bb) (tIs X.K g ml) σ H Q := fun h => tIs_of h fun ds vs S H α F R w r h => bf_val bb hb w r h
  cases bb with
  | len => exact (pe_callB call_len hg hm boot_len ha h1 h2 (star_cons hn'.1) (star_none hn'.2)).imp fun σ H Q h => fin h
  | int => exact (pe_callTy call_int1 hg hm boot_int ha h1 h2 (star_cons hn'.1) (star_none hn'.2)).imp fun σ H Q h => fin h
  | list => exact (pe_callTy ((call_list_txt C.calm).or call_list_of) hg hm boot_list ha h1 h2 (star_cons hn'.1) (star_none hn'.2)).imp fun σ H Q h => fin h
  | tuple => exact (pe_callTy call_tuple_of hg hm boot_tuple ha h1 h2 (star_cons hn'.1) (star_none hn'.2)).imp fun σ H Q h => fin h
  | all => exact (pe_callB (cr_all C.calm) hg hm boot_all ha h1 h2 (star_cons hn'.1) (star_none hn'.2)).imp fun σ H Q h => fin h
  | any => exact (pe_callB (cr_any C.calm) hg hm boot_any ha h1 h2 (star_cons hn'.1) (star_none hn'.2)).imp fun σ H Q h => fin h
  | max => exact (pe_callB (cr_max C.calm) hg hm (by decide +kernel) ha h1 h2 (star_cons hn'.1) (star_none hn'.2)).imp fun σ H Q h => fin h
  | min => exact (pe_callB (cr_min C.calm) hg hm (by decide +kernel) ha h1 h2 (star_cons hn'.1) (star_none hn'.2)).imp fun σ H Q h => fin h
  | sum => exact (pe_callB (cr_sum C.calm) hg hm (by decide +kernel) ha h1 h2 (star_cons hn'.1) (star_none hn'.2)).imp fun σ H Q h => fin h
  | bool => exact (pe_callTy call_bool1 hg hm (by decide +kernel) ha h1 h2 (star_cons hn'.1) (star_none hn'.2)).imp fun σ H Q h => fin h
  | max2 => exact (pe_callB (call_max2 C.calm) hg hm (by decide +kernel) ha h1 h2 (star_cons hn'.1) (star_none hn'.2)).imp fun σ H Q h => fin h
  | min2 => exact (pe_callB (call_min2 C.calm) hg hm (by decide +kernel) ha h1 h2 (star_cons hn'.1) (star_none hn'.2)).imp fun σ H Q h => fin h
  | str => exact (pe_callTy call_str_int hg hm (by decide +kernel) ha h1 h2 (star_cons hn'.1) (star_none hn'.2)).imp fun σ H Q h => fin h
  | _ => cases hb
theorem kw_all {env : Env} {pos : Pos} : ∀ {kws : List Keyword} {ks : List Str}, kwNames kws = some ks → (backToKw pos (keywordEach kws env)).all (·.1.isSome) = true ∧ (backToKw pos (keywordEach kws env)).filterMap (·.1) = ks ∧ (backToKw pos (keywordEach kws env)).any (·.1.isNone) = false ∧ ks.length = kws.length
  | [], ks, h => by cases h; exact ⟨rfl, rfl, rfl, rfl⟩
  | ⟨none, v, p⟩ :: r, ks, h => by cases h
  | ⟨some x, v, p⟩ :: r, ks, h => by
    have h : (kwNames r).map (x :: ·) = some ks := h
    cases q : kwNames r with
    | none => rw [q] at h; cases h
    | some ks' =>
      rw [q] at h
      cases h
      obtain ⟨h1, h2, h3, h4⟩ := kw_all (env := env) (pos := pos) q
      refine ⟨?_, ?_, ?_, by simp [h4]⟩
      · show (true && (backToKw pos (keywordEach r env)).all (·.1.isSome)) = true
        rw [h1]; rfl
      · show x :: (backToKw pos (keywordEach r env)).filterMap (·.1) = _
        rw [h2]
      · show (false || (backToKw pos (keywordEach r env)).any (·.1.isNone)) = false
        rw [h3]; rfl
/-! ### calls of the program's own -/
theorem callWith_any {M : Model} {A : Around} {E : Value → Shared → Prop} {s : Shared} {f : Value} {first : List Value} {pos : Pos} {Q : Value → Shared → Prop} {P : Heap → Prop} {args : List (Bool × Sem Value)} {keywords : List (Option Str × Sem Value)}
    (hk : ∀ h, P h → ∃ k, (k = Keeper.frame ∨ k = Keeper.machine ∨ k = Keeper.boundFrame) ∧ PySem.W.Looks M h (keeperOf f) k)
    (h : wpAny M A (evalArgs f true args keywords) (fun a s₁ => P s₁.heap ∧ wpAny M A (call f (first ++ a.pos) a.kw) Q E s₁) E s) : wpAny M A (callWith pos f first args keywords) Q E s := by
  cases hb : (args.any (·.1) || keywords.any (·.1.isNone)) with
  | false => exact PySem.W.callWith_of hb hk h
  | true =>
    unfold callWith
    refine wpAny_bind (wpAny_holding (wpAny_mono h (fun a s₁ h₁ => wpAny_bind (wpAny_standAt ?_)) fun _ _ x => x))
    obtain ⟨k, hk', L⟩ := hk _ h₁.1
    simp only [hb]
    refine wpAny_bind (L.here ?_)
    have tail : ∀ {t : Sem Value}, wpAny M A t Q E s₁ → wpAny M A (t >>= fun r => holding [r] point >>= fun _ => pure r) Q E s₁ :=
      fun ht => wpAny_bind (wpAny_mono ht (fun r s₂ hr => wpAny_bind (wpAny_holding (wpAny_point (wpAny_pure hr)))) fun _ _ x => x)
    have marked (mk : Value) : wpAny M A (callMarked mk f (first ++ a.pos) a.kw) Q E s₁ := by unfold callMarked; exact Calls.wpAny_keep h₁.2
    rcases hk' with rfl | rfl | rfl <;> dsimp only <;> first | exact tail h₁.2 | exact tail (marked _) | exact tail (wpAny_operating h₁.2) | (split <;> first | exact tail h₁.2 | exact tail (marked _) | exact tail (wpAny_operating h₁.2))
/-- arguments, as calls take them -/
inductive JA (X : Cx) (g : Gb) : List Expr → (Gm → Sto → Out (List D)) → Prop where
  | nil : JA X g [] (fun _ S => .ok [] S)
  | cons {a : Expr} {r : List Expr} {ml : Gm → Sto → Out (List D)} (hn : noStar a = true) (h : PA X (a :: r) (tIs X.K g ml)) : JA X g (a :: r) ml
  | lone {e : Expr} {p : Pos} {me : Gm → Sto → Out D} (h : PE X e (tI X.K g me)) : JA X g [.Starred e p] (fun γ S => (me γ S).bind fun d S => (ofO (seqOf d S) S).bind fun xs S => (Out.ok [] S).bind fun ds S => .ok (xs ++ ds) S)
theorem call_args {as : List Expr} {kws : List Keyword} {ks : List Str} {mk : Gm → Sto → Out (List D)} {fv : Value} {first : List Value} {pins : List (Addr × Obj)} {σ : L2.St} {H : Hp} {s : Shared} {QQ : Value → Shared → Prop} (hk : PySem.W.keepIn X.K fv = true) (ha : JA X g as ml) (hkw : PK X kws (tIs X.K g mk)) (hks : kwNames kws = some ks) (hnil : kws = [] → ∀ γ S, mk γ S = .ok [] S) (ok : argOk as kws = true) (I : Inv X pins σ H s)
    (h : tIs X.K g ml σ H fun vs H1 => tIs X.K g mk σ H1 fun zs H2 => ∀ us ws s2, Inv X pins σ H2 s2 → Vals vs us → Vals zs ws → wpAny (model X.prog X.w) X.A (call fv (first ++ us) (ks.zip ws)) QQ X.xe s2) :
    wpAny (model X.prog X.w) X.A (callWith pos fv first (backTo pos (starEach as X.env)) (backToKw pos (keywordEach kws X.env))) QQ X.xe s := by
  obtain ⟨k1, k2, k3, k4⟩ := kw_all (env := X.env) (pos := pos) hks
  cases ha with
  | nil =>
    refine PySem.W.callWith_KW0 (h₀ := X.base) I.ok.mod.kin hk k1 ?_ (by show (false || _) = false; rw [k3]; rfl)
    obtain ⟨γ, S, α, F, R, sl, w, hq⟩ := h
    have hq := hq [] H α F Ext.refl w rfl
    refine thn (hkw.run pos pins s σ H _ I hq) fun ws s2 ⟨zs, H2, I2, rz, q⟩ => ⟨I2.kIn, ?_⟩
    rw [k2]
    exact q [] ws s2 I2 .nil rz
  | cons hn hp =>
    refine callWith_any (PySem.W.keeps_K hk) (evalArgs_kw2 k1 (thn (hp.run pos pins s σ H _ I h) fun us s1 ⟨vs, H1, I1, r, q⟩ => ?_) (star_cons hn))
    refine thn (hkw.run pos pins s1 σ H1 _ I1 q) fun ws s2 ⟨zs, H2, I2, rz, q⟩ => ⟨I2.kIn, ?_⟩
    rw [k2]
    exact q us ws s2 I2 r rz
  | @lone e p me he =>
    have ok : (false || (true && kws.isEmpty)) = true := ok
    have e0 : kws = [] := by simpa using ok
    subst e0
    cases hks
    have hh : tI X.K g me σ H fun y H1 => ∃ a xs, y = V.ref a ∧ (SqT X.K H1 a xs ∨ SqL X.K H1 a xs) ∧ tIs X.K g mk σ H1 fun zs H2 => ∀ us ws s2, Inv X pins σ H2 s2 → Vals xs us → Vals zs ws → wpAny (model X.prog X.w) X.A (call fv (first ++ us) (([] : List Str).zip ws)) QQ X.xe s2 := by
      obtain ⟨γ, S, α, F, R, sl, w, hq⟩ := h
      refine ⟨γ, S, α, F, R, sl, w, ?_⟩
      dsimp only at hq
      cases q : me γ S with
      | exc => rw [q] at hq; exact hq
      | bad => rw [q] at hq; exact hq
      | ok d S1 =>
        rw [q] at hq
        intro v H1 α1 F1 e1 w1 r1
        dsimp only [Out.bind] at hq
        cases q2 : seqOf d S1 with
        | none => rw [q2] at hq; exact False.elim hq
        | some xs =>
          rw [q2] at hq
          obtain ⟨p, vs, e2, h2, h3⟩ := seq_of w1 r1 q2
          refine ⟨p, vs, e2, h2, ?_⟩
          have hq : Aft X.K g R (Reps X.K g) α F (Out.ok (xs ++ []) S1) _ := hq
          rw [List.append_nil] at hq
          exact hq vs H1 α1 F1 e1 w1 h3
    refine PySem.W.callWith_S (h₀ := X.base) I.ok.mod.kin hk (thn (he.run pins s σ H _ I hh) fun v s1 ⟨y, H1, I1, ry, a, xs, ey, hxs, q⟩ => ?_)
    subst ey
    obtain rfl : v = Value.ref a := ry
    refine StX.star_any I1 hxs fun us s2 I2 rv => ⟨I2.kIn, ?_⟩
    obtain ⟨γ, S, α, F, R, sl, w, hq⟩ := q
    rw [hnil rfl γ S] at hq
    exact hq [] H1 α F Ext.refl w rfl us [] s2 I2 rv .nil
theorem je_frz (ha : PE X a (tI X.K g ma)) : PE X a (tI X.K g fun γ S => (ma γ S).bind frzD) := by
  refine ha.imp fun σ H Q h => ?_
  refine tG.bind (δ := D) (k := fun γ (x : D) S => frzD x S) h fun γ x S v H α F R s w r h => ?_
  unfold frzD at h
  cases x with
  | loc n =>
    obtain ⟨a, rfl, h1⟩ := r
    dsimp only at h
    cases q : S[n]? with
    | none => rw [q] at h; exact False.elim h
    | some o =>
      rw [q] at h
      have k := w.st n o q
      cases o with
      | lst xs =>
        obtain ⟨b, vs, k1, k2, k3, k4⟩ := k
        rw [h1] at k1; cases k1
        obtain ⟨w', e⟩ := w.freeze h1 k2 k3
        exact h _ H α _ e w' ⟨a, vs, rfl, upd_same, Reps.mono e _ _ k4⟩
      | ins c ns ds =>
        obtain ⟨b, dx, vs, k1, k2, k3, hl, k4⟩ := k
        rw [h1] at k1; cases k1
        obtain ⟨w', e⟩ := w.freeze h1 k2 k3
        exact h _ H α _ e w' ⟨a, dx, vs, rfl, upd_same, hl, Reps.mono e _ _ k4⟩
      | dK ks ds =>
        obtain ⟨b, vs, k1, k2, k3, hl, k4⟩ := k
        rw [h1] at k1; cases k1
        obtain ⟨w', e⟩ := w.freeze h1 k2 k3
        exact h _ H α _ e w' ⟨a, vs, rfl, upd_same, hl, Reps.mono e _ _ k4⟩
      | dT ks ds =>
        obtain ⟨b, vs, k1, k2, k3, hl, k4⟩ := k
        rw [h1] at k1; cases k1
        obtain ⟨w', e⟩ := w.freeze h1 k2 k3
        exact h _ H α _ e w' ⟨a, vs, rfl, upd_same, hl, Reps.mono e _ _ k4⟩
      | dead => exact False.elim h
  | _ => exact False.elim h
end
end Itp
namespace Itp
open PySem PySem.Spec PyProof.Rows L2
section
variable {T : Tab} {g : Gb} {cal : Nat → List D → Sto → Out D} {n : Nat} {X : Cx} {a b c o : Expr} {ma mb mo : Gm → Sto → Out D} {ml mk : Gm → Sto → Out (List D)} {pos apos p : Pos} {as : List Expr} {kws : List Keyword} {ks : List Str} {sc : Scope}
theorem two_args {β : Type} {rep : (Nat → Option Addr) → Hp → D → β → Prop} {k : List D → List D → Sto → Out D} {γ : Gm} {S : Sto} {α : Nat → Option Addr} {F R H : Hp} {σ : L2.St} {Q : β → Hp → Prop} {Q2 : List V → List V → Hp → Prop} (s : Slots X.K g α F γ σ) (w : World X.K g R α F S H) (hlk : ∀ γ S ds S', mk γ S = .ok ds S' → ds.length = kws.length)
    (h : Aft X.K g R rep α F ((ml γ S).bind fun ds S => (mk γ S).bind fun ks S => k ds ks S) Q)
    (f : ∀ ds ks vs zs S H α' F', Ext α F α' F' → World X.K g R α' F' S H → Reps X.K g α' F' ds vs → Reps X.K g α' F' ks zs → ks.length = kws.length → Aft X.K g R rep α' F' (k ds ks S) Q → Q2 vs zs H) :
    tIs X.K g ml σ H fun vs H1 => tIs X.K g mk σ H1 fun zs H2 => Q2 vs zs H2 := by
  refine ⟨γ, S, α, F, R, s, w, ?_⟩
  cases q : ml γ S with
  | exc => rw [q] at h; exact h
  | bad => rw [q] at h; exact h
  | ok ds S1 =>
    rw [q] at h
    intro vs H1 α1 F1 e1 w1 r1
    refine ⟨γ, S1, α1, F1, R, s.mono e1, w1, ?_⟩
    dsimp only [Out.bind] at h
    cases q2 : mk γ S1 with
    | exc => rw [q2] at h; exact h
    | bad => rw [q2] at h; exact h
    | ok es S2 =>
      rw [q2] at h
      intro zs H2 α2 F2 e2 w2 r2
      exact f ds es vs zs S2 H2 α2 F2 (e1.trans e2) w2 (Reps.mono e2 _ _ r1) r2 (hlk _ _ _ _ q2) (Aft.ext (e1.trans e2) h)
/-- f(..), f a def of the module -/
theorem je_call {f : Nat} {x : Str} {pl : Plan} (C : Cok T g cal X n) (hx : T.fn[f]? = some x) (hx0 : x ≠ "") (hg : Gl X x) (hd : (x == ("__debug__" : Str)) = false) (ha : JA X g as ml) (hk : PK X kws (tIs X.K g mk)) (hks : kwNames kws = some ks) (hnil : kws = [] → ∀ γ S, mk γ S = .ok [] S)
    (hlk : ∀ γ S ds S', mk γ S = .ok ds S' → ds.length = kws.length) (ok : argOk as kws = true) (hkb : (f, ks, pl) ∈ T.kb) :
    PE X (.Call (.Name x p) as kws pos) (tI X.K g fun γ S => (ml γ S).bind fun ds S => (mk γ S).bind fun ks S => match bindP pl ds ks with | some as => cal f as S | none => .bad) := by
  have hf : f < T.fn.length := (List.getElem?_eq_some_iff.mp hx).1
  obtain ⟨h2, fd, ps, F1, B1⟩ := C.fn f hf
  obtain ⟨k1, k2, k3, k4⟩ := kw_all (env := X.env) (pos := pos) hks
  refine ⟨fun pins s σ H Q I h => ?_⟩
  refine wpAny_Call_Name_kw (ld_glob I hg (C.mg f x hx hx0) ?_ hd)
  refine call_args (first := []) h2 ha hk hks hnil ok I ?_
  obtain ⟨γ, S, α, F, R, sl, w, h⟩ := h
  refine two_args sl w hlk h fun ds es vs zs S H α F _ w rd re hl h us ws s2 I2 ru rw_ => ?_
  cases q : bindP pl ds es with
  | none => rw [q] at h; exact False.elim h
  | some bs =>
    rw [q] at h
    exact run_call F1 (B1 _ _ hkb) (C.room.mono (Nat.le_succ _)) I2 w rd ru re rw_ (by rw [← re.length, hl, k4]) q h
/-! ### attributes of instances -/
theorem fld_look {K : PySem.W.Frag} {α : Nat → Option Addr} {F : Hp} (hj : ∀ i j, g.nm i = g.nm j → i = j) {i : Nat} : ∀ {ns : List Nat} {ds : List D} {vs : List V}, Reps K g α F ds vs → ns.length = ds.length →
    (match fldOf i ns ds with | some d => ∃ v, ((ns.map g.nm).zip vs).lookup (g.nm i) = some v ∧ Rep K g α F d v | none => ((ns.map g.nm).zip vs).lookup (g.nm i) = none)
  | [], ds, vs, r, hl => by
    cases ds with
    | nil => cases r; rfl
    | cons _ _ => cases hl
  | m :: ns, ds, vs, r, hl => by
    cases ds with
    | nil => cases hl
    | cons d ds =>
      obtain ⟨v, r', rfl, r1, r2⟩ := r
      have hl : ns.length = ds.length := by simpa using hl
      have ih := fld_look hj (i := i) r2 hl
      unfold fldOf
      by_cases q : m = i
      · subst q
        rw [if_pos rfl]
        exact ⟨v, by simp, r1⟩
      · rw [if_neg q]
        have e : ((((m :: ns).map g.nm).zip (v :: r')).lookup (g.nm i)) = ((ns.map g.nm).zip r').lookup (g.nm i) := by
          have q' : (g.nm i == g.nm m) = false := by
            simpa using fun z => q (hj _ _ z).symm
          rw [List.map_cons, List.zip_cons_cons, List.lookup_cons, q']
        rw [e]
        exact ih
theorem no_fld {K : PySem.W.Frag} (hj : ∀ i j, g.nm i = g.nm j → i = j) {i : Nat} : ∀ {ns : List Nat} {vs : List V}, ns.contains i = false → ((ns.map g.nm).zip vs).lookup (g.nm i) = none
  | [], vs, h => by simp
  | m :: ns, [], h => by simp
  | m :: ns, v :: vs, h => by
    have h : (i == m || ns.contains i) = false := by simpa using h
    rw [Bool.or_eq_false_iff] at h
    have q' : (g.nm i == g.nm m) = false := by
      have : i ≠ m := by simpa using h.1
      simpa using fun z => this (hj _ _ z)
    rw [List.map_cons, List.zip_cons_cons, List.lookup_cons, q']
    exact no_fld (K := K) hj h.2
/-- an instance, as the heap has it -/
theorem ins_of {K : PySem.W.Frag} {α : Nat → Option Addr} {F R H : Hp} {S : Sto} {d : D} {v : V} {c : Nat} {ns : List Nat} {ds : List D} (w : World K g R α F S H) (r : Rep K g α F d v) (e : insOf d S = some (c, ns, ds)) :
    ∃ a dx vs, v = .ref a ∧ H a = some (.ins (g.cA c) dx ((ns.map g.nm).zip vs)) ∧ ns.length = ds.length ∧ c < g.nc ∧ Reps K g α F ds vs := by
  cases d with
  | obj c' ns' ds' =>
    cases e
    obtain ⟨a, dx, vs, e1, h1, hl, h2⟩ := r
    exact ⟨a, dx, vs, e1, w.fz _ _ h1, hl.1, hl.2, h2⟩
  | loc m =>
    obtain ⟨a, e1, h1⟩ := r
    have e : (match S[m]? with | some (.ins c ns ds) => some (c, ns, ds) | _ => none) = some (c, ns, ds) := e
    cases q : S[m]? with
    | none => rw [q] at e; cases e
    | some so =>
      cases so with
      | ins c' ns' ds' =>
        rw [q] at e
        cases e
        obtain ⟨a', dx, vs, k1, k2, k3, hl, k4⟩ := w.st m _ q
        rw [h1] at k1; cases k1
        exact ⟨a, dx, vs, e1, k3, hl.1, hl.2, k4⟩
      | _ => rw [q] at e; cases e
  | _ => cases e
theorem lookup_mem {κ ρ : Type} [BEq κ] [LawfulBEq κ] {q : κ} {v : ρ} : ∀ {l : List (κ × ρ)}, l.lookup q = some v → (q, v) ∈ l
  | [], h => by cases h
  | (k, u) :: l, h => by
    rw [List.lookup_cons] at h
    cases e : (q == k) with
    | true =>
      rw [e] at h
      cases h
      rw [eq_of_beq e]
      exact List.mem_cons_self ..
    | false =>
      rw [e] at h
      exact List.mem_cons_of_mem _ (lookup_mem h)
theorem Vals.one {v : V} {u : Value} (r : RelV v u) : Vals [v] [u] := .cons r .nil
/-- the callee runs, wherever it is called from -/
theorem run_code {A' : Around} {pins : List (Addr × Obj)} {σ : L2.St} {H R : Hp} {s : Shared} {α : Nat → Option Addr} {F : Hp} {S : Sto} {k fi : Nat} {f : Addr} {fd : FuncData} {ps ks : List Str} {pl : Plan} {us ws : List Value} {vs zs : List V} {ds kd as : List D} {Q : VK} (FB : FnB X.prog X.w X.K X.mg X.base CX0 k f fd ps (spI X.K g cal fi ps.length)) (B : BndOk X.K fd ps ks pl) (hr : Room k A') (e0 : Env0 X.prog X.w X.K X.mg X.base A' X.stack s H) (I : Inv X pins σ H s) (W : World X.K g R α F S H)
    (r : Reps X.K g α F ds vs) (ru : Vals vs us) (rk : Reps X.K g α F kd zs) (rw_ : Vals zs ws) (hk : zs.length = ks.length) (bp : bindP pl ds kd = some as) (h : Aft X.K g R (Rep X.K g) α F (cal fi as S) Q) :
    codeAny (model X.prog X.w) A' (.call (.ref f) ⟨us, ks.zip ws⟩) (fun r s' => ∃ u, r = .ok (.ret u) ∧ EP X pins σ Q u s') s := by
  refine codeAny_mono (FB A' X.stack s H ⟨us, ks.zip ws⟩ Q (fun _ _ _ => False) _ hr e0 (bnd_of B e0 W r ru rk rw_ hk bp) fun xs H2 ⟨F', e', W', r'⟩ => ⟨as, S, α, F', R, ?_, r', W', Aft.ext e' h⟩) fun r s' hq => ?_
  · unfold bindP at bp
    split at bp
    · rw [bindS_len bp, B.ln]
    · cases bp
  · cases r with
    | error e => exact False.elim hq
    | ok fl =>
      cases fl with
      | ret u => exact ⟨u, rfl, I.after hq⟩
      | next => exact False.elim hq
      | brk => exact False.elim hq
      | cont => exact False.elim hq
theorem bindP1 {d : D} : bindP ⟨1, false, [.pos 0]⟩ [d] [] = some [d] := rfl
theorem bindP2 {d e : D} : bindP ⟨2, false, [.pos 0, .pos 1]⟩ [d, e] [] = some [d, e] := rfl
theorem noX_of {α : Nat → Option Addr} {F R : Hp} {o : Out D} {Q : VK} (h : Aft X.K g R (Rep X.K g) α F (noX o) Q) : Aft X.K g R (Rep X.K g) α F o Q := by
  cases o with
  | ok d S => exact h
  | exc => exact False.elim h
  | bad => exact h
/-- e.f : a property, a constant of its class, a field -/
theorem je_att {i : Nat} {x : Str} {tb : List (Nat × AK)} (C : Cok T g cal X n) (hx : T.nm[i]? = some x) (hb : noSup a = true) (ha : PE X a (tI X.K g ma))
    (ht : ∀ q ∈ tb, (match q.2 with
      | .prp f => (q.1, i, f) ∈ T.pr ∧ (f, [], ⟨1, false, [.pos 0]⟩) ∈ T.kb
      | .con d => (q.1, i, d) ∈ T.cn
      | .fld => (q.1, i) ∈ T.nf)) : PE X (.Attribute a x pos) (tI X.K g fun γ S => (ma γ S).bind fun v S => attD cal i tb v S) := by
  have ex := C.ck.nm i x hx
  subst ex
  refine ⟨fun pins s σ H Q I h => ?_⟩
  have hh : tI X.K g ma σ H fun v H1 => ∃ d γ S α F R, Slots X.K g α F γ σ ∧ World X.K g R α F S H1 ∧ Rep X.K g α F d v ∧ Aft X.K g R (Rep X.K g) α F (attD cal i tb d S) Q :=
    tG.bind (δ := D) (k := fun γ v S => attD cal i tb v S) h fun γ x S v H α F R s w r h => ⟨x, γ, S, α, F, R, s, w, r, h⟩
  refine attr_of (base_of hb) (thn (ha.run pins s σ H _ I hh) fun u s1 ⟨v, H1, I1, rx, d, γ, S, α, F, R, sl, w, r, h⟩ => ?_)
  unfold attD at h
  cases q : insOf d S with
  | none => rw [q] at h; exact False.elim h
  | some t =>
    obtain ⟨c, ns, ds⟩ := t
    rw [q] at h
    dsimp only at h
    obtain ⟨p, dx, vs, e1, h1, hl, hc, h2⟩ := ins_of w r q
    subst e1
    obtain rfl : u = Value.ref p := rx
    cases q2 : tb.lookup c with
    | none => rw [q2] at h; exact False.elim h
    | some ak =>
      rw [q2] at h
      have hm := ht _ (lookup_mem q2)
      cases ak with
      | prp f =>
        obtain ⟨m1, m2⟩ := hm
        obtain ⟨cc, pp, hp⟩ := C.ck.pr _ _ _ m1
        obtain ⟨h3, fd, ps, F1, B1⟩ := C.fn f (C.ck.kf _ m2)
        have h := noX_of h
        obtain ⟨mA, O, _, _, _, _⟩ := ins_get I1.hok h1
        obtain ⟨od, J, _⟩ := O.look
        obtain ⟨rest, hrec⟩ := hp.rec_
        have I2 := I1.tok (s1.toks + 1)
        have hcl : (PySem.W.clsIn X.K (g.cA c)).isSome = true := by
          obtain ⟨cd, hc, _⟩ := PySem.W.any_some cc.hd
          rw [hc]
          rfl
        refine PySem.W.get_bind I1.kIn J (PySem.W.plainGet_of (cc.get (g.nm i))).1 (PySem.W.findObj_data hcl hp.at_ hp.get hp.tak) (PySem.W.plainGet_of (cc.get (g.nm i))).2 (wpAny_call (PySem.W.prop_get (s := { s1 with toks := s1.toks + 1 }) I1.kIn hrec ?_))
        refine codeAny_mono (run_code (ks := []) (ws := []) F1 (B1 _ _ m2) (C.room.in1) I2.env0.in1 I2 w (ds := [d]) (vs := [.ref p]) ⟨_, _, rfl, r, rfl⟩ (Vals.one (v := .ref p) (u := .ref p) rfl) (kd := []) (zs := []) rfl .nil rfl bindP1 h) fun r s' ⟨u, er, hq⟩ => ?_
        subst er
        obtain ⟨v, H', I3, rv, q3⟩ := hq
        show wpAny _ _ (handedOut u) _ _ _
        rw [PySem.W.handedOut_of (handed_of rv)]
        exact wpAny_pure ⟨v, H', I3, rv, q3⟩
      | con d' =>
        obtain ⟨o1, c1, uu, c2⟩ := C.ck.cn _ _ _ hm
        dsimp only at h
        split at h
        · exact False.elim h
        · rename_i hz
          exact getcon_ok I1 h1 c1 c2 (no_fld (K := X.K) C.ck.nj (by simpa using hz)) fun s2 I2 => ⟨_, H1, I2, c2.rel, h.now w (rep_con o1)⟩
      | fld =>
        obtain ⟨c1, c2⟩ := C.ck.nf _ _ hm
        dsimp only at h
        have k := fld_look C.ck.nj (i := i) h2 hl
        cases q3 : fldOf i ns ds with
        | none => rw [q3] at h; exact False.elim h
        | some d' =>
          rw [q3] at h k
          obtain ⟨v', k1, k2⟩ := k
          exact getattr_ok I1 h1 c1 c2 k1 fun u s2 I2 ru => ⟨v', H1, I2, ru, Aft.now (d := d') h w k2⟩
/-- C.NAME -/
theorem je_cst {c i : Nat} {x y : Str} {d : D} (C : Cok T g cal X n) (hx : T.nm[i]? = some x) (hy : T.cls[c]? = some y) (hg : Gl X y) (hd : (y == ("__debug__" : Str)) = false) (hm : (c, i, d) ∈ T.cc) : PE X (.Attribute (.Name y p) x pos) (tI X.K g fun _ S => .ok d S) := by
  have ex := C.ck.nm i x hx
  subst ex
  obtain ⟨k1, k2⟩ := C.cl c y hy
  obtain ⟨o1, mc, u, r1, r2⟩ := C.ck.cc _ _ _ hm
  refine (ClX.pe_cval (pe_glob hg k1 (v := .ref (g.cA c)) rfl hd)).imp fun σ H Q h => ?_
  obtain ⟨γ, S, α, F, R, s, w, h⟩ := h
  exact ⟨g.cA c, mc, cV d, u, rfl, r1, r2, h.now w (rep_con o1)⟩
theorem meth_eval {o : Expr} {name : Str} {env : Env} (hb : attributeBase o name env (eval o env) = eval o env) (hf : methodCallForm (as.length + kws.length) (backTo pos (starEach as env)) (backToKw pos (keywordEach kws env)) = true) (hl : apos.endLine = pos.line) :
    eval (.Call (.Attribute o name apos) as kws pos) env = (do
      let ov ← eval o env
      standAt apos.atName
      let (f, first) ← holding [ov] (getMethod ov name (do return (← importBound o env).getD true))
      callWith pos f first (backTo pos (starEach as env)) (backToKw pos (keywordEach kws env))) := by
  rw [arm_eval_Call, hb]
  unfold methodCall calleeOf methodCallPos
  rw [hf, hl]
  simp
theorem few_form {env : Env} (h : fewOk as kws = true) (hks : kwNames kws = some ks) : methodCallForm (as.length + kws.length) (backTo pos (starEach as env)) (backToKw pos (keywordEach kws env)) = true := by
  obtain ⟨k1, k2, k3, k4⟩ := kw_all (env := env) (pos := pos) hks
  unfold fewOk at h
  rw [Bool.and_eq_true] at h
  have h2 := of_decide_eq_true h.2
  unfold methodCallForm
  rw [star_all h.1, k1]
  simp only [Bool.true_and, decide_eq_true_eq]
  split <;> omega
theorem few_arg (h : fewOk as kws = true) : argOk as kws = true := by
  unfold fewOk at h
  rw [Bool.and_eq_true] at h
  cases as with
  | nil => rfl
  | cons a r =>
    have := h.1
    rw [List.all_cons, Bool.and_eq_true] at this
    show (noStar a || _) = true
    rw [this.1]; rfl
/-- o.m(..) -/
theorem je_mth {m : Nat} {x : Str} {tb : List (Nat × Nat)} {pl : Plan} (C : Cok T g cal X n) (hx : T.nm[m]? = some x) (hb : noSup o = true) (ho : PE X o (tI X.K g mo)) (ha : JA X g as ml) (hk : PK X kws (tIs X.K g mk)) (hks : kwNames kws = some ks) (hnil : kws = [] → ∀ γ S, mk γ S = .ok [] S)
    (hlk : ∀ γ S ds S', mk γ S = .ok ds S' → ds.length = kws.length) (ok : fewOk as kws = true) (hl : apos.endLine = pos.line) (ht : ∀ q ∈ tb, (q.1, m, q.2) ∈ T.mt ∧ (q.2, ks, pl) ∈ T.kb) :
    PE X (.Call (.Attribute o x apos) as kws pos) (tI X.K g fun γ S => (mo γ S).bind fun v S => match insOf v S with
      | some (c, ns, _) => if ns.contains m then .bad else (match tb.lookup c with
        | some f => (ml γ S).bind fun ds S => (mk γ S).bind fun ks S => (match bindP pl (v :: ds) ks with
          | some as => cal f as S
          | none => .bad)
        | none => .bad)
      | none => .bad) := by
  have ex := C.ck.nm m x hx
  subst ex
  obtain ⟨k1, k2, k3, k4⟩ := kw_all (env := X.env) (pos := pos) hks
  refine ⟨fun pins s σ H Q I h => ?_⟩
  refine PySem.W.methodCall_KW (thn (ho.run pins s σ H (fun v H1 => ∃ d γ S α F R, Slots X.K g α F γ σ ∧ World X.K g R α F S H1 ∧ Rep X.K g α F d v ∧ Aft X.K g R (Rep X.K g) α F (match insOf d S with
      | some (c, ns, _) => if ns.contains m then .bad else (match tb.lookup c with
        | some f => (ml γ S).bind fun ds S => (mk γ S).bind fun ks S => (match bindP pl (d :: ds) ks with
          | some as => cal f as S
          | none => .bad)
        | none => .bad)
      | none => .bad) Q) I ?_) fun u s1 ⟨v, H1, I1, rx, d, γ, S, α, F, R, sl, w, r, h⟩ => ?_) (meth_eval (base_of hb) (few_form ok hks) hl)
  · exact tG.bind (δ := D) (k := fun γ v S => match insOf v S with
      | some (c, ns, _) => if ns.contains m then .bad else (match tb.lookup c with
        | some f => (ml γ S).bind fun ds S => (mk γ S).bind fun ks S => (match bindP pl (v :: ds) ks with
          | some as => cal f as S
          | none => .bad)
        | none => .bad)
      | none => .bad) h fun γ x S v H α F R s w r h => ⟨x, γ, S, α, F, R, s, w, r, h⟩
  cases q : insOf d S with
  | none => rw [q] at h; exact False.elim h
  | some t =>
    obtain ⟨c, ns, ds0⟩ := t
    rw [q] at h
    dsimp only at h
    split at h
    · exact False.elim h
    rename_i hz
    obtain ⟨p, dx, vs0, e1, h1, hl, hc, h2⟩ := ins_of w r q
    subst e1
    obtain rfl : u = Value.ref p := rx
    cases q2 : tb.lookup c with
    | none => rw [q2] at h; exact False.elim h
    | some f =>
      rw [q2] at h
      dsimp only at h
      obtain ⟨m1, m2⟩ := ht _ (lookup_mem q2)
      obtain ⟨c1, c2⟩ := C.ck.mt _ _ _ m1
      obtain ⟨h3, fd, ps, F1, B1⟩ := C.fn f (C.ck.kf _ m2)
      refine getmeth_ok I1 h1 c1 c2 (no_fld (K := X.K) C.ck.nj (by simpa using hz)) ?_
      refine call_args (first := [.ref p]) h3 ha hk hks hnil (few_arg ok) I1 ?_
      refine two_args sl w hlk h fun ds es vs zs S H α F e w rd re hl h us ws s2 I2 ru rw_ => ?_
      cases q : bindP pl (d :: ds) es with
      | none => rw [q] at h; exact False.elim h
      | some bs =>
        rw [q] at h
        exact run_call (us := .ref p :: us) F1 (B1 _ _ m2) (C.room.mono (Nat.le_succ _)) I2 w (ds := d :: ds) (vs := .ref p :: vs) ⟨_, _, rfl, Rep.mono e _ _ r, rd⟩ (.cons rfl ru) re rw_ (by rw [← re.length, hl, k4]) q h
end
end Itp
namespace Itp
open PySem PySem.Spec PyProof.Rows L2
section
variable {T : Tab} {g : Gb} {cal : Nat → List D → Sto → Out D} {n : Nat} {X : Cx} {a b c o : Expr} {ma mb mo : Gm → Sto → Out D} {ml mk : Gm → Sto → Out (List D)} {pos apos p : Pos} {as : List Expr} {kws : List Keyword} {ks : List Str} {sc : Scope}
/-- a new instance -/
theorem run_mk {pins : List (Addr × Obj)} {σ : L2.St} {H R : Hp} {s : Shared} {α : Nat → Option Addr} {F : Hp} {S : Sto} {k ci fi : Nat} {fd : FuncData} {ps : List Str} {pl : Plan} {t : Bool} {us ws : List Value} {vs zs : List V} {ds kd : List D} {Q : VK} (M : Mk X.K (g.cA ci) (g.fA fi)) (hci : ci < g.nc) (FB : FnB X.prog X.w X.K X.mg X.base CX0 k (g.fA fi) fd ps (spI X.K g cal fi ps.length)) (B : BndOk X.K fd ps ks pl) (hr : Room (k + 1) X.A) (I : Inv X pins σ H s) (W : World X.K g R α F S H)
    (r : Reps X.K g α F ds vs) (ru : Vals vs us) (rk : Reps X.K g α F kd zs) (rw_ : Vals zs ws) (hk : zs.length = ks.length) (h : Aft X.K g R (Rep X.K g) α F (mkD cal t ci fi pl ds kd S) Q) :
    wpAny (model X.prog X.w) X.A (call (.ref (g.cA ci)) us (ks.zip ws)) (EP X pins σ Q) X.xe s := by
  unfold mkD at h
  cases q : bindP pl (.loc S.length :: ds) kd with
  | none => rw [q] at h; exact False.elim h
  | some as =>
    rw [q] at h
    dsimp only at h
    have f1 : H s.heap.objs.size = none := I.hok.fresh (Nat.le_refl _)
    have f2 : H (s.heap.objs.size + 1) = none := I.hok.fresh (Nat.le_succ _)
    have ne : s.heap.objs.size + 1 ≠ s.heap.objs.size := Nat.ne_of_gt (Nat.lt_succ_self _)
    have I2 := Inv.made (C := g.cA ci) I
    have W1 := W.idle (o := .own (s.heap.objs.size + 1)) f1
    have f3 : upd H s.heap.objs.size (.own (s.heap.objs.size + 1)) (s.heap.objs.size + 1) = none := by rw [upd_ne ne]; exact f2
    have W2 := W1.push (so := .ins ci [] []) (o := .ins (g.cA ci) s.heap.objs.size []) f3 ⟨s.heap.objs.size + 1, s.heap.objs.size, [], by unfold pushA; rw [if_pos rfl], W1.fnone f3, upd_same, ⟨rfl, hci⟩, rfl⟩
    have e2 := W1.push_ext (p := s.heap.objs.size + 1)
    have h : Aft X.K g R (Rep X.K g) (pushA α S.length (s.heap.objs.size + 1)) F (cal fi as (S ++ [.ins ci [] []])) (fun v H2 => v = .non ∧ Q (.ref (s.heap.objs.size + 1)) H2) := by
      have h := Aft.ext e2 h
      cases q1 : cal fi as (S ++ [.ins ci [] []]) with
      | exc => rw [q1] at h; exact h
      | bad => rw [q1] at h; exact h
      | ok v S' =>
        rw [q1] at h
        intro rv H' α' F' e' w' rr
        dsimp only [Out.bind] at h
        have ha : α' S.length = some (s.heap.objs.size + 1) := e'.al _ _ (by unfold pushA; rw [if_pos rfl])
        cases v with
        | non =>
          cases rr
          refine ⟨rfl, ?_⟩
          dsimp only at h
          cases t with
          | true =>
            rw [if_pos rfl] at h
            exact h (.ref (s.heap.objs.size + 1)) H' α' F' e' w' ⟨_, rfl, ha⟩
          | false =>
            rw [if_neg Bool.false_ne_true] at h
            cases q2 : S'[S.length]? with
            | none => rw [q2] at h; exact False.elim h
            | some so =>
              rw [q2] at h
              cases so with
              | ins c' ns' ds' =>
                obtain ⟨b, dx, vs', k1, k2, k3, hl, k4⟩ := w'.st _ _ q2
                rw [ha] at k1; cases k1
                obtain ⟨w2, e3⟩ := w'.freeze ha k2 k3
                exact h _ H' α' _ (e'.trans e3) w2 ⟨_, dx, vs', rfl, upd_same, hl, Reps.mono e3 _ _ k4⟩
              | _ => exact False.elim h
        | _ => exact False.elim h
    refine wpAny_call (make_map (f := g.fA fi) I.kIn M.makes M.init (beq_iff_eq.mp M.fn) (codeAny_mono (run_code (us := Value.ref (s.heap.objs.size + 1) :: us) (vs := .ref (s.heap.objs.size + 1) :: vs) (ds := .loc S.length :: ds) FB B (hr.make (g.cA ci) us (ks.zip ws)) (I2.env0.make (g.cA ci) us (ks.zip ws)) I2 W2
      ⟨_, _, rfl, ⟨_, rfl, by unfold pushA; rw [if_pos rfl]⟩, Reps.mono e2 _ _ r⟩ (.cons rfl ru) (Reps.mono e2 _ _ rk) rw_ hk q h) fun r s' ⟨u, er, hq⟩ => ?_))
    subst er
    obtain ⟨v, H', I3, rv, ev, q3⟩ := hq
    subst ev
    exact ⟨rv, ⟨V.ref (s.heap.objs.size + 1), H', I3, rfl, q3⟩⟩
/-- C(..) -/
theorem je_mk {ci f : Nat} {x : Str} {pl : Plan} {t : Bool} (C : Cok T g cal X n) (hx : T.cls[ci]? = some x) (hg : Gl X x) (hd : (x == ("__debug__" : Str)) = false) (hi : (ci, f) ∈ T.ini) (ha : JA X g as ml) (hk : PK X kws (tIs X.K g mk)) (hks : kwNames kws = some ks) (hnil : kws = [] → ∀ γ S, mk γ S = .ok [] S)
    (hlk : ∀ γ S ds S', mk γ S = .ok ds S' → ds.length = kws.length) (ok : argOk as kws = true) (hkb : (f, ks, pl) ∈ T.kb) :
    PE X (.Call (.Name x p) as kws pos) (tI X.K g fun γ S => (ml γ S).bind fun ds S => (mk γ S).bind fun ks S => mkD cal t ci f pl ds ks S) := by
  obtain ⟨h2, fd, ps, F1, B1⟩ := C.fn f (C.ck.kf _ hkb)
  obtain ⟨M, hc⟩ := C.ck.ini _ _ hi
  obtain ⟨k1, k2, k3, k4⟩ := kw_all (env := X.env) (pos := pos) hks
  refine ⟨fun pins s σ H Q I h => ?_⟩
  refine wpAny_Call_Name_kw (ld_glob I hg (C.cl ci x hx).1 ?_ hd)
  refine call_args (first := []) M.kp ha hk hks hnil ok I ?_
  obtain ⟨γ, S, α, F, R, sl, w, h⟩ := h
  refine two_args sl w hlk h fun ds es vs zs S H α F _ w rd re hl h us ws s2 I2 ru rw_ => ?_
  exact run_mk M hc F1 (B1 _ _ hkb) C.room I2 w rd ru re rw_ (by rw [← re.length, hl, k4]) h
/-- C.m(..), m a staticmethod -/
theorem je_smt {ci m f : Nat} {x y : Str} {pl : Plan} {p1 : Pos} (C : Cok T g cal X n) (hx : T.nm[m]? = some x) (hy : T.cls[ci]? = some y) (hg : Gl X y) (hd : (y == ("__debug__" : Str)) = false) (hi : (ci, m, f) ∈ T.sm) (ha : JA X g as ml) (hk : PK X kws (tIs X.K g mk)) (hks : kwNames kws = some ks) (hnil : kws = [] → ∀ γ S, mk γ S = .ok [] S)
    (hlk : ∀ γ S ds S', mk γ S = .ok ds S' → ds.length = kws.length) (ok : fewOk as kws = true) (hl : apos.endLine = pos.line) (hkb : (f, ks, pl) ∈ T.kb) :
    PE X (.Call (.Attribute (.Name y p1) x apos) as kws pos) (tI X.K g fun γ S => (ml γ S).bind fun ds S => (mk γ S).bind fun ks S => match bindP pl ds ks with | some as => cal f as S | none => .bad) := by
  have ex := C.ck.nm m x hx
  subst ex
  obtain ⟨h2, fd, ps, F1, B1⟩ := C.fn f (C.ck.kf _ hkb)
  obtain ⟨mc, pp, rest, r1, r2, r3⟩ := C.ck.sm _ _ _ hi
  obtain ⟨k1, k2, k3, k4⟩ := kw_all (env := X.env) (pos := pos) hks
  refine ⟨fun pins s σ H Q I h => ?_⟩
  refine PySem.W.methodCall_KW (ld_glob I hg (C.cl ci y hy).1 ?_ hd) (meth_eval (base_of rfl) (few_form ok hks) hl)
  refine PySem.W.method_cls I.kIn r1.ga ?_
  refine PySem.W.cls_bind I.kIn r1.rd r2 (wpAny_call (PySem.W.sm_get (s := { s with toks := s.toks + 1 }) I.kIn r3 (PySem.W.handed_on rfl ?_)))
  have I := I.tok (s.toks + 1)
  refine call_args (first := []) h2 ha hk hks hnil (few_arg ok) I ?_
  obtain ⟨γ, S, α, F, R, sl, w, h⟩ := h
  refine two_args sl w hlk h fun ds es vs zs S H α F _ w rd re hl h us ws s2 I2 ru rw_ => ?_
  cases q : bindP pl ds es with
  | none => rw [q] at h; exact False.elim h
  | some bs =>
    rw [q] at h
    exact run_call F1 (B1 _ _ hkb) (C.room.mono (Nat.le_succ _)) I2 w rd ru re rw_ (by rw [← re.length, hl, k4]) q h
/-- what an own special method is asked of -/
def rOwn (T : Tab) (g : Gb) (cal : Nat → List D → Sto → Out D) (K : PySem.W.Frag) (m : D → Sto → Out D) : List V → Hp → VK → Prop := fun xs H Q => ∃ d v S α F R, xs = [v] ∧ World K g R α F S H ∧ Rep K g α F d v ∧ Aft K g R (Rep K g) α F (m d S) Q
theorem cr_len {tb : List (Nat × Nat)} (C : Cok T g cal X n) (ht : ∀ q ∈ tb, q ∈ T.olen ∧ (q.2, [], ⟨1, false, [.pos 0]⟩) ∈ T.kb) : CallR X (.builtin "len") (rOwn T g cal X.K fun d S => noX (ownD cal .len tb [] [d] S)) := by
  intro pins s σ H xs us Q I ru h
  obtain ⟨d, v, S, α, F, R, rfl, w, r, h⟩ := h
  have h := noX_of h
  have h : Aft X.K g R (Rep X.K g) α F (match insOf d S with
    | some (c, _) => (match tb.lookup c with
      | some f => (cal f [d] S).bind fun v S => (match v with
        | .int i => if 0 ≤ i ∧ i < 2 ^ 63 then .ok (.int i) S else .bad
        | _ => .bad)
      | none => .bad)
    | none => .bad) Q := h
  cases q : insOf d S with
  | none => rw [q] at h; exact False.elim h
  | some t =>
    obtain ⟨c, ns, ds⟩ := t
    rw [q] at h
    obtain ⟨p, dx, vs, e1, h1, hl, hc, h2⟩ := ins_of w r q
    subst e1
    cases ru with
    | cons r0 rn =>
    cases rn
    rename_i u
    obtain rfl : u = Value.ref p := r0
    dsimp only at h
    cases q2 : tb.lookup c with
    | none => rw [q2] at h; exact False.elim h
    | some f =>
      rw [q2] at h
      dsimp only at h
      obtain ⟨m1, m2⟩ := ht _ (lookup_mem q2)
      have mm := C.ck.olen _ _ m1
      obtain ⟨h3, fd, ps, F1, B1⟩ := C.fn f (C.ck.kf _ m2)
      obtain ⟨mA, O, _⟩ := ins_get I.hok h1
      obtain ⟨od, J, _⟩ := O.look
      obtain ⟨mm', hF⟩ := I.fr
      refine PySem.W.len_K hF I.ok.mod.kin J mm.at_ mm.fn (wpAny_call (codeAny_mono (run_code (ks := []) (ws := []) (Q := fun v H => ∃ i, v = .int i ∧ (0 ≤ i ∧ i < 2 ^ 63) ∧ Q (.int i) H) F1 (B1 _ _ m2) C.room.in1 I.env0.in1 I w (ds := [d]) (vs := [.ref p]) ⟨_, _, rfl, r, rfl⟩ (Vals.one (v := .ref p) (u := .ref p) rfl) (kd := []) (zs := []) rfl .nil rfl bindP1 ?_) fun r s' ⟨u, er, hq⟩ => ?_))
      · exact Aft.bind (δ := D) h fun v S vv H α' F' e w' rv h => by
          cases v with
          | int i =>
            cases rv
            dsimp only at h
            split at h
            · rename_i hz
              exact ⟨i, rfl, hz, h.now w' rfl⟩
            · exact False.elim h
          | _ => exact False.elim h
      · subst er
        obtain ⟨v, H', I3, rv, i, ev, hz, q3⟩ := hq
        subst ev
        obtain ⟨tk, rfl⟩ := rv
        exact ⟨hz, .int i, H', I3.tok _, ⟨_, rfl⟩, q3⟩
theorem cr_repr {tb : List (Nat × Nat)} (C : Cok T g cal X n) (ht : ∀ q ∈ tb, q ∈ T.orep ∧ (q.2, [], ⟨1, false, [.pos 0]⟩) ∈ T.kb) : CallR X (.builtin "repr") (rOwn T g cal X.K fun d S => noX (ownD cal .repr tb [] [d] S)) := by
  intro pins s σ H xs us Q I ru h
  obtain ⟨d, v, S, α, F, R, rfl, w, r, h⟩ := h
  have h := noX_of h
  have h : Aft X.K g R (Rep X.K g) α F (match insOf d S with
    | some (c, _) => (match tb.lookup c with
      | some f => (cal f [d] S).bind fun v S => (match v with
        | .str z => .ok (.str z) S
        | _ => .bad)
      | none => .bad)
    | none => .bad) Q := h
  cases q : insOf d S with
  | none => rw [q] at h; exact False.elim h
  | some t =>
    obtain ⟨c, ns, ds⟩ := t
    rw [q] at h
    obtain ⟨p, dx, vs, e1, h1, hl, hc, h2⟩ := ins_of w r q
    subst e1
    cases ru with
    | cons r0 rn =>
    cases rn
    rename_i u
    obtain rfl : u = Value.ref p := r0
    dsimp only at h
    cases q2 : tb.lookup c with
    | none => rw [q2] at h; exact False.elim h
    | some f =>
      rw [q2] at h
      dsimp only at h
      obtain ⟨m1, m2⟩ := ht _ (lookup_mem q2)
      have mm := C.ck.orep _ _ m1
      obtain ⟨h3, fd, ps, F1, B1⟩ := C.fn f (C.ck.kf _ m2)
      obtain ⟨mA, O, _⟩ := ins_get I.hok h1
      obtain ⟨od, J, _⟩ := O.look
      obtain ⟨mm', hF⟩ := I.fr
      refine PySem.W.repr_K (by have := C.room.un; show X.A.units + 1 < cLine; omega) hF I.ok.mod.kin J mm.at_ mm.fn (wpAny_call (codeAny_mono (run_code (ks := []) (ws := []) (Q := fun v H => ∃ z, v = .str z ∧ Q (.str z) H) F1 (B1 _ _ m2) C.room.in1 I.env0.in1 I w (ds := [d]) (vs := [.ref p]) ⟨_, _, rfl, r, rfl⟩ (Vals.one (v := .ref p) (u := .ref p) rfl) (kd := []) (zs := []) rfl .nil rfl bindP1 ?_) fun r s' ⟨u, er, hq⟩ => ?_))
      · exact Aft.bind (δ := D) h fun v S vv H α' F' e w' rv h => by
          cases v with
          | str z =>
            obtain ⟨rfl, oz⟩ := rv
            exact ⟨z, rfl, h.now w' ⟨rfl, oz⟩⟩
          | _ => exact False.elim h
      · subst er
        obtain ⟨v, H', I3, rv, z, ev, q3⟩ := hq
        subst ev
        obtain ⟨tk, rfl⟩ := rv
        exact ⟨.str z, H', I3, ⟨_, rfl⟩, q3⟩
theorem je_olen {f : Expr} {tb sb : List (Nat × Nat)} (C : Cok T g cal X n) (hs : ScOk X sc) (hf : blt T sc "len" f = true) (hn : noStar a = true) (ha : PA X [a] (tIs X.K g ml)) (h1 : ∀ γ S ds S', ml γ S = .ok ds S' → ds.length = 1) (ht : ∀ q ∈ tb, q ∈ T.olen ∧ (q.2, [], ⟨1, false, [.pos 0]⟩) ∈ T.kb) :
    PE X (.Call f [a] [] pos) (tI X.K g fun γ S => (ml γ S).bind fun ds S => noX (ownD cal .len tb sb ds S)) := by
  obtain ⟨⟨p, rfl⟩, hg, hm, _, _⟩ := blt_of C hs hf
  refine (pe_callB (cr_len C ht) hg hm boot_len ha (by decide) (by decide) (star_cons hn) rfl).imp fun σ H Q h => ?_
  obtain ⟨γ, S, α, F, R, s, w, h⟩ := h
  refine ⟨γ, S, α, F, R, s, w, ?_⟩
  dsimp only at h
  cases q : ml γ S with
  | exc => rw [q] at h; exact h
  | bad => rw [q] at h; exact h
  | ok ds S' =>
    rw [q] at h
    intro vs H' α' F' e' w' r
    have hl := h1 γ S ds S' q
    match ds, hl, r with
    | [d], _, r =>
      obtain ⟨v, rfl, r1⟩ := reps_one r
      exact ⟨d, v, S', α', F', R, rfl, w', r1, Aft.ext e' h⟩
theorem je_orep {f : Expr} {tb sb : List (Nat × Nat)} (C : Cok T g cal X n) (hs : ScOk X sc) (hf : blt T sc "repr" f = true) (hn : noStar a = true) (ha : PA X [a] (tIs X.K g ml)) (h1 : ∀ γ S ds S', ml γ S = .ok ds S' → ds.length = 1) (ht : ∀ q ∈ tb, q ∈ T.orep ∧ (q.2, [], ⟨1, false, [.pos 0]⟩) ∈ T.kb) :
    PE X (.Call f [a] [] pos) (tI X.K g fun γ S => (ml γ S).bind fun ds S => noX (ownD cal .repr tb sb ds S)) := by
  obtain ⟨⟨p, rfl⟩, hg, hm, _, _⟩ := blt_of C hs hf
  refine (pe_callB (cr_repr C ht) hg hm (by decide +kernel) ha (by decide) (by decide) (star_cons hn) rfl).imp fun σ H Q h => ?_
  obtain ⟨γ, S, α, F, R, s, w, h⟩ := h
  refine ⟨γ, S, α, F, R, s, w, ?_⟩
  dsimp only at h
  cases q : ml γ S with
  | exc => rw [q] at h; exact h
  | bad => rw [q] at h; exact h
  | ok ds S' =>
    rw [q] at h
    intro vs H' α' F' e' w' r
    have hl := h1 γ S ds S' q
    match ds, hl, r with
    | [d], _, r =>
      obtain ⟨v, rfl, r1⟩ := reps_one r
      exact ⟨d, v, S', α', F', R, rfl, w', r1, Aft.ext e' h⟩
end
end Itp
namespace Itp
open PySem PySem.Spec PyProof.Rows L2 PySem.Calls PySem.W
section
variable {prog : Program} {w : PySem.World} {A : Around} {E : Value → Shared → Prop} {s : Shared} {K : PySem.W.Frag} {x y C Cy f : Addr} {ox oy : Obj} {od od' : Option Obj} {b tb : Value}
theorem ifBound_ne {args : List Value} {Q : Option Value → Shared → Prop} (X : K.In s.heap) (I : PySem.W.InstAt s.heap x ox C od) (hs : findIn K (.ref C) "__ne__" = some (some (.builtin "object.__ne__")))
    (h : wpAny (model prog w) A (call (.builtin "object.__ne__") (.ref x :: args)) (fun v => Q (some v)) E s) : wpAny (model prog w) A (callSpecialIfBound? (.ref x) "__ne__" args) Q E s := by
  simp only [callSpecialIfBound?, bindSpecialIfBound?]
  refine wpAny_holding (wpAny_bind (wpAny_bind (wpAny_bind (I.type.here ((looks_findIn X hs).here ?_)))))
  simp only [F.cmp_object.ne.bind]
  refine wpAny_bind (wpAny_askSetting (wpAny_ite ?_))
  have fin : wpAny (model prog w) A (call (.builtin "object.__ne__") ([.ref x] ++ args) >>= fun v => pure (some v)) Q E s := wpAny_bind (wpAny_mono h (fun v s' h' => wpAny_pure h') fun _ _ h' => h')
  split
  · exact wpAny_bind (wpAny_pure (wpAny_pure fin))
  · exact wpAny_tryCatch (wpAny_bind (wpAny_pure (wpAny_pure fin)))
/-- object.__ne__ asks __eq__ -/
theorem objNe {Q : Fin → Shared → Prop} (hu : A.units < cLine) (X : K.In s.heap) (I : PySem.W.InstAt s.heap x ox C od) (hs : findIn K (.ref C) "__eq__" = some (some (.ref f))) (hf : isFn K (.ref f) = true)
    (hcall : wpAny (model prog w) A (call (.ref f) [.ref x, b]) (fun v s' => ∃ k, v = .bool k ∧ Q (.done (.ret (.bool (!k)))) s') E s) : wpAny (model prog w) A (Builtin.«object.__ne__» ⟨[.ref x, b], []⟩) Q E s := by
  unfold Builtin.«object.__ne__»
  repeat (first
    | with_reducible refine wpAny_cRoomFor hu ?_
    | (refine wpAny_bind (m := callSpecialIfBound? (.ref x) (Str.ofString "__eq__") [b])
        (ifBound_K X I hs hf (wpAny_mono hcall (fun r s' hr => by
          obtain ⟨b, rfl, hq⟩ := hr
          repeat (first | exact hq | exact wpAny_pure hq | exact wpAny_truthy_bool hq | (refine wpAny_bind (m := truthy (.bool _)) (wpAny_truthy_bool ?_)) | wp_step)) fun _ _ e => e)))
    | wp_step)
/-- one side is asked -/
theorem ask_eq {Q : Option Value → Shared → Prop} (X : K.In s.heap) (I : PySem.W.InstAt s.heap x ox C od) (hs : findIn K (.ref C) "__eq__" = some (some (.ref f))) (hf : isFn K (.ref f) = true)
    (h : wpAny (model prog w) A (call (.ref f) [.ref x, b]) (fun v s' => ∃ k, v = .bool k ∧ Q (some (.bool k)) s') E s) : wpAny (model prog w) A (tryCompare (.ref x) "__eq__" b) Q E s := by
  unfold tryCompare
  refine wpAny_bind (ifBound_K X I hs hf (wpAny_mono h (fun v s' hv => ?_) fun _ _ e => e))
  obtain ⟨k, rfl, hq⟩ := hv
  exact wpAny_pure hq
theorem ask_ne {Q : Option Value → Shared → Prop} (hu : A.units + 1 < cLine) (X : K.In s.heap) (I : PySem.W.InstAt s.heap x ox C od) (hs : findIn K (.ref C) "__eq__" = some (some (.ref f))) (hf : isFn K (.ref f) = true) (hne : findIn K (.ref C) "__ne__" = some (some (.builtin "object.__ne__"))) (hm : mroIn K C (.type "object") = some true)
    (h : wpAny (model prog w) A.in1 (call (.ref f) [.ref x, b]) (fun v s' => ∃ k, v = .bool k ∧ Q (some (.bool (!k))) s') E s) : wpAny (model prog w) A (tryCompare (.ref x) "__ne__" b) Q E s := by
  unfold tryCompare
  have hi : Looks (model prog w) s.heap (isInstance (.ref x) (.type "object")) true := I.type.andThen (looks_mroIn X hm)
  refine wpAny_bind (ifBound_ne X I hne (wpAny_call (codeAny_call_builtin F.cmp_object.ne.plain F.cmpEntry_ne (check_slot F.cmpKind_ne F.cmpSplit_ne hi (F.cmpArgs_ne _ _) (objNe (A := A.in1) hu X I hs hf (wpAny_mono h (fun v s' hv => ?_) fun _ _ e => e))))))
  obtain ⟨k, rfl, hq⟩ := hv
  first | exact ⟨k, rfl, wpAny_pure hq⟩ | exact ⟨k, rfl, wpAny_pure (wpAny_pure hq)⟩ | exact ⟨k, rfl, hq⟩
theorem rc_left {op : CmpOp} {Q : Value → Shared → Prop} (hu : A.units < cLine) (X : K.In s.heap) (I : PySem.W.InstAt s.heap x ox C od) (hb : Looks (model prog w) s.heap (typeOf b) tb) (hn : notFirst K C tb = true)
    (one : wpAny (model prog w) A (tryCompare (.ref x) (cmpInfo op).2.1 b) (fun r s' => ∃ v, r = some v ∧ Q v s') E s) : wpAny (model prog w) A (richCompare op (.ref x) b) Q E s := by
  unfold richCompare
  simp only [oneThing_ref]
  refine wpAny_holding (wpAny_bind (wpAny_cRoomFor hu ?_))
  refine wpAny_bind (I.type.here (wpAny_bind (hb.here ?_)))
  split
  · rename_i q
    have e : subIn K tb (.ref C) = some false := by
      rcases Bool.or_eq_true_iff.mp hn with e | e
      · rw [beq_iff_eq.mp e] at q; simp at q
      · exact beq_iff_eq.mp e
    refine wpAny_bind ((looks_subIn X e).here ?_)
    simp only [Bool.false_eq_true, if_false]
    refine wpAny_bind (wpAny_mono one (fun r s' z => ?_) fun _ _ e => e)
    obtain ⟨v, rfl, hq⟩ := z
    exact wpAny_pure hq
  · refine wpAny_bind (wpAny_pure ?_)
    simp only [Bool.false_eq_true, if_false]
    refine wpAny_bind (wpAny_mono one (fun r s' z => ?_) fun _ _ e => e)
    obtain ⟨v, rfl, hq⟩ := z
    exact wpAny_pure hq
/-- a subclass's is asked first -/
theorem rc_right {op : CmpOp} {Q : Value → Shared → Prop} (hu : A.units < cLine) (X : K.In s.heap) (I : PySem.W.InstAt s.heap x ox C od) (J : PySem.W.InstAt s.heap y oy Cy od') (hne : C ≠ Cy) (hsub : mroIn K Cy (.ref C) = some true)
    (one : wpAny (model prog w) A (tryCompare (.ref y) (cmpInfo op).2.2 (.ref x)) (fun r s' => ∃ v, r = some v ∧ Q v s') E s) : wpAny (model prog w) A (richCompare op (.ref x) (.ref y)) Q E s := by
  unfold richCompare
  simp only [oneThing_ref]
  refine wpAny_holding (wpAny_bind (wpAny_cRoomFor hu ?_))
  refine wpAny_bind (I.type.here (wpAny_bind (J.type.here ?_)))
  rw [if_pos (by simpa using hne)]
  refine wpAny_bind ((looks_mroIn X hsub).here ?_)
  simp only [if_true]
  refine wpAny_bind (wpAny_mono one (fun r s' z => ?_) fun _ _ e => e)
  obtain ⟨v, rfl, hq⟩ := z
  repeat (first | exact wpAny_pure hq | (refine wpAny_bind ?_) | wp_step)
end
section
variable {T : Tab} {g : Gb} {cal : Nat → List D → Sto → Out D} {n : Nat} {X : Cx} {a b : Expr} {ma mb : Gm → Sto → Out D} {pos : Pos} {sc : Scope}
def rOEq (g : Gb) (cal : Nat → List D → Sto → Out D) (K : PySem.W.Frag) (neg : Bool) (tb sb : List (Nat × Nat)) : R2 := fun x y H Q => ∃ d e S α F R, World K g R α F S H ∧ Rep K g α F d x ∧ Rep K g α F e y ∧ Aft K g R (Rep K g) α F (eqO cal neg tb sb d e S) Q
theorem bl_of {K : PySem.W.Frag} {α : Nat → Option Addr} {F R : Hp} {o : Out D} {neg : Bool} {Q : VK} (h : Aft K g R (Rep K g) α F (o.bind (asBl neg)) Q) : Aft K g R (Rep K g) α F o (fun v H => ∃ k, v = .bl k ∧ Q (.bl (k != neg)) H) :=
  Aft.bind (δ := D) h fun v S vv H α' F' e w' rv h => by
    cases v with
    | bl k => cases rv; exact ⟨k, rfl, h.now w' rfl⟩
    | _ => exact False.elim h
theorem op_oeq {tb sb : List (Nat × Nat)} (neg : Bool) (C : Cok T g cal X n) (ht : ∀ q ∈ tb, q ∈ T.oeq ∧ (q.2, [], ⟨2, false, [.pos 0, .pos 1]⟩) ∈ T.kb) (hsb : ∀ c k, c < g.nc → k < g.nc → sb.contains (c, k) = (c != k && g.sub k c)) :
    OpR X (compareOp (if neg then .NotEq else .Eq)) (rOEq g cal X.K neg tb sb) := by
  intro pins s σ H x y v u Q I rx ry h
  obtain ⟨d, e, S, α, F, R, w, rd, re, h⟩ := h
  have hu : X.A.units + 1 < cLine := by have := C.room.un; omega
  -- the call of f with p's object first
  have ask : ∀ (c f : Nat) (p : Addr) (dx : Addr) (fs : List (Str × V)) (d1 d2 : D) (v2 : V) (u2 : Value), H p = some (.ins (g.cA c) dx fs) → c < g.nc → (c, f) ∈ tb → Rep X.K g α F d1 (.ref p) → Rep X.K g α F d2 v2 → RelV v2 u2 → Aft X.K g R (Rep X.K g) α F ((cal f [d1, d2] S).bind (asBl neg)) Q →
      wpAny (model X.prog X.w) X.A (tryCompare (.ref p) (if neg then "__ne__" else "__eq__") u2) (fun r s' => ∃ v, r = some v ∧ EP X pins σ Q v s') X.xe s := by
    intro c f p dx fs d1 d2 v2 u2 hp hc hm r1 r2 ru h
    obtain ⟨m1, m2⟩ := ht _ hm
    obtain ⟨mm, mn⟩ := C.ck.oeq _ _ m1
    obtain ⟨h3, fd, ps, F1, B1⟩ := C.fn f (C.ck.kf _ m2)
    obtain ⟨mA, O, _⟩ := ins_get I.hok hp
    obtain ⟨od, J, _⟩ := O.look
    have h := bl_of h
    cases neg with
    | false =>
      refine ask_eq I.kIn J mm.at_ mm.fn (wpAny_call (codeAny_mono (run_code (ks := []) (ws := []) F1 (B1 _ _ m2) (C.room.mono (Nat.le_succ _)) I.env0 I w (ds := [d1, d2]) (vs := [.ref p, v2]) ⟨_, _, rfl, r1, ⟨_, _, rfl, r2, rfl⟩⟩ (.cons rfl (.cons ru .nil)) (kd := []) (zs := []) rfl .nil rfl bindP2 h) fun r s' ⟨u, er, hq⟩ => ?_))
      subst er
      obtain ⟨v, H', I3, rv, k, ev, q3⟩ := hq
      subst ev
      cases rv
      exact ⟨k, rfl, _, rfl, .bl k, H', I3, rfl, by simpa using q3⟩
    | true =>
      refine ask_ne hu I.kIn J mm.at_ mm.fn mn (C.is.hm c hc) (wpAny_call (codeAny_mono (run_code (ks := []) (ws := []) F1 (B1 _ _ m2) C.room.in1 I.env0.in1 I w (ds := [d1, d2]) (vs := [.ref p, v2]) ⟨_, _, rfl, r1, ⟨_, _, rfl, r2, rfl⟩⟩ (.cons rfl (.cons ru .nil)) (kd := []) (zs := []) rfl .nil rfl bindP2 h) fun r s' ⟨u, er, hq⟩ => ?_))
      subst er
      obtain ⟨v, H', I3, rv, k, ev, q3⟩ := hq
      subst ev
      cases rv
      exact ⟨k, rfl, _, rfl, .bl (!k), H', I3, rfl, by simpa using q3⟩
  have e1 : (cmpInfo (if neg then .NotEq else .Eq)).2.1 = (if neg then ("__ne__" : Str) else ("__eq__" : Str)) := by cases neg <;> rfl
  have e2 : (cmpInfo (if neg then .NotEq else .Eq)).2.2 = (if neg then ("__ne__" : Str) else ("__eq__" : Str)) := by cases neg <;> rfl
  have e3 : compareOp (if neg then .NotEq else .Eq) v u = richCompare (if neg then .NotEq else .Eq) v u := by cases neg <;> rfl
  rw [e3]
  unfold eqO at h
  cases q : insOf d S with
  | none => rw [q] at h; exact False.elim h
  | some t =>
    obtain ⟨c, ns, ds⟩ := t
    rw [q] at h
    dsimp only at h
    obtain ⟨p, dx, vs, e4, h1, hl, hc, h2⟩ := ins_of w rd q
    subst e4
    obtain rfl : v = Value.ref p := rx
    obtain ⟨mA, O, _⟩ := ins_get I.hok h1
    obtain ⟨od, J, _⟩ := O.look
    cases q1 : tkD e S with
    | none => rw [q1] at h; exact False.elim h
    | some tk =>
      rw [q1] at h
      obtain ⟨ty, tok⟩ := tk_of C.is w re q1
      obtain ⟨P, kx, hP, _⟩ := kit_of I ry ty
      have hb := kx.ty (model X.prog X.w) s.heap I.kIn hP
      have left : notFirst X.K (g.cA c) (tk.py g) = true → (∀ f, tb.lookup c = some f → Aft X.K g R (Rep X.K g) α F ((cal f [d, e] S).bind (asBl neg)) Q) → (∃ f, tb.lookup c = some f) → wpAny (model X.prog X.w) X.A (richCompare (if neg then .NotEq else .Eq) (.ref p) u) (EP X pins σ Q) X.xe s := by
        intro hn hh ⟨f, hf⟩
        refine rc_left (by omega) I.kIn J hb hn ?_
        rw [e1]
        exact ask c f p dx _ d e y u h1 hc (lookup_mem hf) rd re ry (hh f hf)
      have plain : (∀ c', tk ≠ .obj c') → notFirst X.K (g.cA c) (tk.py g) = true := by
        intro z
        unfold notFirst
        rw [Bool.or_eq_true]
        right
        cases tk with
        | obj c' => exact absurd rfl (z c')
        | _ => rfl
      cases tk with
      | obj c' =>
        dsimp only at h
        have hc' : c' < g.nc := tok
        split at h
        · rename_i hz
          rw [hsb c c' hc hc', Bool.and_eq_true] at hz
          cases q2 : tb.lookup c' with
          | none => rw [q2] at h; exact False.elim h
          | some f =>
            rw [q2] at h
            -- y is an instance as well
            have hy : ∃ ns' ds', insOf e S = some (c', ns', ds') := by
              cases e with
              | obj c2 ns' ds' => cases q1; exact ⟨_, _, rfl⟩
              | loc m =>
                have q1 : (match S[m]? with | some (.lst _) => some TK.lst | some (.ins c _ _) => some (.obj c) | _ => none) = some (.obj c') := q1
                show ∃ ns' ds', (match S[m]? with | some (.ins c ns ds) => some (c, ns, ds) | _ => none) = some (c', ns', ds')
                cases qq : S[m]? with
                | none => rw [qq] at q1; cases q1
                | some so =>
                  rw [qq] at q1
                  cases so <;> first | (cases q1; done) | skip
                  cases q1
                  exact ⟨_, _, rfl⟩
              | _ => cases q1
            obtain ⟨ns', ds', hy⟩ := hy
            obtain ⟨p', dx', vs', e5, h1', hl', _, h2'⟩ := ins_of w re hy
            subst e5
            obtain rfl : u = Value.ref p' := ry
            obtain ⟨mA', O', _⟩ := ins_get I.hok h1'
            obtain ⟨od', J', _⟩ := O'.look
            refine rc_right (by omega) I.kIn J J' (fun z => by have := C.ck.ne c c' hc hc' z; subst this; simp at hz) (by rw [C.ck.sb c' c hc' hc, hz.2]) ?_
            rw [e2]
            exact ask c' f p' dx' _ e d (.ref p) (.ref p) h1' hc' (lookup_mem q2) re rd rfl h
        · rename_i hz
          rw [hsb c c' hc hc'] at hz
          cases q2 : tb.lookup c with
          | none => rw [q2] at h; exact False.elim h
          | some f =>
            rw [q2] at h
            refine left ?_ (fun f' hf' => by rw [q2] at hf'; cases hf'; exact h) ⟨f, q2⟩
            unfold notFirst
            rw [Bool.or_eq_true]
            by_cases hcc : c = c'
            · left; subst hcc; exact beq_self_eq_true _
            · right
              have : g.sub c' c = false := by
                cases qs : g.sub c' c with
                | false => rfl
                | true => rw [qs] at hz; simp [hcc] at hz
              show (mroIn X.K (g.cA c') (.ref (g.cA c)) == some false) = true
              rw [C.ck.sb c' c hc' hc, this]
              rfl
      | _ =>
        dsimp only at h
        cases q2 : tb.lookup c with
        | none => rw [q2] at h; exact False.elim h
        | some f =>
          rw [q2] at h
          exact left (plain (by intro c' z; cases z)) (fun f' hf' => by rw [q2] at hf'; cases hf'; exact h) ⟨f, q2⟩
theorem je_oeq {tb sb : List (Nat × Nat)} (neg : Bool) (C : Cok T g cal X n) (hm : noSet b = true) (ha : PE X a (tI X.K g ma)) (hb : PE X b (tI X.K g mb)) (ht : ∀ q ∈ tb, q ∈ T.oeq ∧ (q.2, [], ⟨2, false, [.pos 0, .pos 1]⟩) ∈ T.kb) (hsb : ∀ c k, c < g.nc → k < g.nc → sb.contains (c, k) = (c != k && g.sub k c)) :
    PE X (.Compare a [if neg then .NotEq else .Eq] [b] pos) (tI X.K g fun γ S => (ma γ S).bind fun x S => (mb γ S).bind fun y S => noX (eqO cal neg tb sb x y S)) :=
  (pe_cmpR (op_oeq neg C ht hsb) ha hb (mark_of hm)).imp fun σ H Q h => tOp_of h fun x y vx vy S H α F R w rx ry h => ⟨x, y, S, α, F, R, w, rx, ry, noX_of h⟩
end
end Itp
namespace Itp
open PySem PySem.Spec PyProof.Rows L2
theorem join_ok (a : Str) (ha : okS a = true) : ∀ ys : List Str, (∀ y ∈ ys, okS y = true) → (Str.join a ys).cps.all (· < 0x110000) = true ∧ (Str.join a ys).length ≤ (ys.map (·.length)).sum + ys.length * a.length
  | [], _ => ⟨by show (#[] : Array Nat).all _ = true; simp, Nat.zero_le _⟩
  | [x], h => by
    have hx := h x List.mem_cons_self
    unfold okS at hx
    rw [Bool.and_eq_true] at hx
    refine ⟨hx.1, ?_⟩
    show x.length ≤ _
    simp
  | x :: y :: r, h => by
    obtain ⟨k1, k2⟩ := join_ok a ha (y :: r) fun z hz => h z (List.mem_cons_of_mem _ hz)
    have hx := h x List.mem_cons_self
    unfold okS at hx ha
    rw [Bool.and_eq_true] at hx ha
    have e : Str.join a (x :: y :: r) = x ++ a ++ Str.join a (y :: r) := rfl
    rw [e]
    refine ⟨?_, ?_⟩
    · show ((x.cps ++ a.cps) ++ (Str.join a (y :: r)).cps).all _ = true
      rw [Array.all_append, Array.all_append, hx.1, ha.1, k1]
      rfl
    · show ((x.cps ++ a.cps) ++ (Str.join a (y :: r)).cps).size ≤ _
      rw [Array.size_append, Array.size_append]
      have k2 : (Str.join a (y :: r)).cps.size ≤ _ := k2
      have e1 : x.cps.size = x.length := rfl
      have e2 : a.cps.size = a.length := rfl
      simp only [List.map_cons, List.sum_cons, List.length_cons] at k2 ⊢
      rw [e1, e2]
      have e3 : (r.length + 1 + 1) * a.length = (r.length + 1) * a.length + a.length := by rw [Nat.add_mul, Nat.one_mul]
      omega
section
variable {T : Tab} {g : Gb} {cal : Nat → List D → Sto → Out D} {n : Nat} {X : Cx} {a b c o : Expr} {ma mb mc mo : Gm → Sto → Out D} {ml : Gm → Sto → Out (List D)} {pos apos : Pos} {es : List Expr} {sc : Scope}
theorem aft_bad {β ρ : Type} {rep : (Nat → Option Addr) → Hp → D → ρ → Prop} {α : Nat → Option Addr} {F R : Hp} {m : Out β} {k : β → Sto → Out D} {Q : ρ → Hp → Prop} (h : Aft X.K g R rep α F (m.bind k) Q) (hk : ∀ b S, k b S = .bad) : False := by
  cases m with
  | ok b S => rw [show (Out.ok b S).bind k = k b S from rfl, hk] at h; exact h
  | exc => exact h
  | bad => exact h
theorem je_join (hn : noStar a = true) (hb : noSup o = true) (hl : apos.endLine = pos.line) (ho : PE X o (tI X.K g mo)) (ha : PE X a (tI X.K g ma)) :
    PE X (.Call (.Attribute o "join" apos) [a] [] pos) (tI X.K g fun γ S => (mo γ S).bind fun x S => if bmOk .join x S then ((ma γ S).bind fun d S => .ok [d] S).bind fun ds S => bmD .join x ds S else .bad) := by
  refine (pe_join ho ha (star_cons hn) (base_of hb) (by rw [hl]; simp)).imp fun σ H Q h => ?_
  refine tG.bind (δ := D) (k := fun γ x S => if bmOk .join x S then ((ma γ S).bind fun d S => .ok [d] S).bind fun ds S => bmD .join x ds S else .bad) h fun γ x S v H α F R s w r h => ?_
  cases x with
  | str z =>
    obtain ⟨rfl, oz⟩ := r
    refine ⟨⟨z, rfl⟩, γ, S, α, F, R, s, w, ?_⟩
    rw [if_pos (show bmOk BM.join (D.str z) S = true from rfl)] at h
    cases q : ma γ S with
    | ok d S' =>
      rw [q] at h
      intro v H' α' F' e w' r
      have h : Aft X.K g R (Rep X.K g) α F (bmD .join (.str z) [d] S') Q := h
      have h : Aft X.K g R (Rep X.K g) α F (match lstOf d S' with
        | some xs => (match strsOf xs with
          | some ys => if (ys.map (·.length)).sum + ys.length * z.length ≤ 16777216 then .ok (.str (Str.join z ys)) S' else .bad
          | none => .bad)
        | none => .bad) Q := h
      cases q1 : lstOf d S' with
      | none => rw [q1] at h; exact False.elim h
      | some xs =>
        rw [q1] at h
        dsimp only at h
        cases q2 : strsOf xs with
        | none => rw [q2] at h; exact False.elim h
        | some ys =>
          rw [q2] at h
          dsimp only at h
          split at h
          · rename_i hz
            obtain ⟨p, vs, rfl, h2, h3⟩ := lst_of w' r q1
            obtain ⟨k1, k2⟩ := strs_of h3 q2
            rw [k1] at h2
            obtain ⟨j1, j2⟩ := join_ok z oz ys k2
            refine ⟨z, p, ys, rfl, rfl, .inl (SqL.of h2), hz, ?_⟩
            rw [show Txt.join z ys = Str.join z ys from TL.join_eq z ys]
            refine Aft.now (Aft.ext e h) w' ⟨rfl, ?_⟩
            unfold okS
            rw [Bool.and_eq_true]
            exact ⟨j1, decide_eq_true (Nat.le_trans j2 hz)⟩
          · exact False.elim h
    | exc => rw [q] at h; exact h
    | bad => rw [q] at h; exact h
  | _ => exact False.elim h
theorem je_app (hn : noStar a = true) (hb : noSup o = true) (hl : apos.endLine = pos.line) (ho : PE X o (tI X.K g mo)) (ha : PE X a (tI X.K g ma)) :
    PE X (.Call (.Attribute o "append" apos) [a] [] pos) (tI X.K g fun γ S => (mo γ S).bind fun x S => if bmOk .append x S then ((ma γ S).bind fun d S => .ok [d] S).bind fun ds S => bmD .append x ds S else .bad) := by
  refine (pe_bm PySem.F.plainAttrs_list PySem.F.slot_list_append PySem.F.type_list_append mt_append ho (pa_cons ha pa_nil (star_cons hn)) (base_of hb) ?_ (by rw [hl]; simp) (star_cons hn) rfl).imp fun σ H Q h => ?_
  · rw [star_cons hn]; rfl
  refine tG.bind (δ := D) (k := fun γ x S => if bmOk .append x S then ((ma γ S).bind fun d S => .ok [d] S).bind fun ds S => bmD .append x ds S else .bad) h fun γ x S v H α F R s w r h => ?_
  split at h
  · rename_i hx
    cases q0 : lstOf x S with
    | none => have hx : (lstOf x S).isSome = true := hx; rw [q0] at hx; cases hx
    | some xs0 =>
      obtain ⟨p, vs0, rfl, h20, _⟩ := lst_of w r q0
      refine ⟨.inl ⟨rfl, _, SqL.of h20⟩, γ, S, α, F, R, s, w, ?_⟩
      cases q : ma γ S with
      | exc => rw [q] at h; exact False.elim h
      | bad => rw [q] at h; exact False.elim h
      | ok d S' =>
        rw [q] at h
        intro y H' α' F' e w' ry
        have h : Aft X.K g R (Rep X.K g) α F (bmD .append x [d] S') Q := h
        cases x with
        | loc n =>
          have h : Aft X.K g R (Rep X.K g) α F (match S'[n]? with
            | some (.lst xs) => if xs.length < 16777216 then .ok .non (S'.set n (.lst (xs ++ [d]))) else .bad
            | _ => .bad) Q := h
          cases q1 : S'[n]? with
          | none => rw [q1] at h; exact False.elim h
          | some so =>
            cases so with
            | ins => rw [q1] at h; exact False.elim h
            | dead => rw [q1] at h; exact False.elim h
            | dK => rw [q1] at h; exact False.elim h
            | dT => rw [q1] at h; exact False.elim h
            | lst xs =>
              rw [q1] at h
              dsimp only at h
              split at h
              · rename_i hz
                obtain ⟨p', vs, k1, k2, k3, k4⟩ := w'.st n _ q1
                obtain ⟨p2, e2, k0⟩ := r
                cases e2
                rw [e.al _ _ k0] at k1
                cases k1
                refine ⟨p, vs, y, rfl, rfl, k3, by rw [← k4.length, size16]; exact hz, ?_⟩
                have h := Aft.ext e h
                refine h .non _ α' F' Ext.refl (w'.write (e.al _ _ k0) k2 ⟨p, vs ++ [y], e.al _ _ k0, k2, upd_same, k4.app ⟨y, [], rfl, ry, rfl⟩⟩) rfl
              · exact False.elim h
        | _ => exact False.elim h
  · exact False.elim h
end
end Itp
namespace Itp
open PySem PySem.Spec PyProof.Rows L2
/-! ### targets -/
theorem each_cons {e : Expr} {es : List Expr} {env : Env} (h : noStar e = true) : assignEach (e :: es) env = (false, assign e env) :: assignEach es env := by
  cases e <;> first | rfl | cases h
theorem each_len {env : Env} : ∀ {es : List Expr}, es.all noStar = true → (assignEach es env).length = es.length ∧ (assignEach es env).findIdx? (·.1) = none
  | [], _ => ⟨rfl, rfl⟩
  | e :: es, h => by
    rw [List.all_cons, Bool.and_eq_true] at h
    obtain ⟨h1, h2⟩ := each_len (env := env) h.2
    rw [each_cons h.1]
    exact ⟨by simp [h1], by rw [List.findIdx?_cons]; simp [h2]⟩
theorem wipe_set {σ : L2.St} {i : Nat} {x : Option V} : ∀ {vs : List Nat}, i ∈ vs → L2.wipe (σ.set i x) vs = L2.wipe σ vs
  | v :: vs, h => by
    unfold L2.wipe
    by_cases hv : i ∈ vs
    · rw [wipe_set hv]
    · have : i = v := by
        rcases List.mem_cons.mp h with e | e
        · exact e
        · exact absurd e hv
      subst this
      have all : ∀ vs : List Nat, (L2.wipe (σ.set i x) vs).set i none = (L2.wipe σ vs).set i none := by
        intro vs
        induction vs with
        | nil => exact List.set_set ..
        | cons w ws ih =>
          unfold L2.wipe
          by_cases hw : w = i
          · subst hw
            rw [List.set_set, List.set_set]
            exact ih
          · rw [List.set_comm _ _ hw, List.set_comm _ _ hw, ih]
      exact all vs
theorem wipe_wipe {σ : L2.St} : ∀ {vs us : List Nat}, (∀ v ∈ vs, v ∈ us) → L2.wipe (L2.wipe σ vs) us = L2.wipe σ us
  | [], us, _ => rfl
  | v :: vs, us, h => by
    show L2.wipe ((L2.wipe σ vs).set v none) us = _
    rw [wipe_set (h v List.mem_cons_self)]
    exact wipe_wipe fun w hw => h w (List.mem_cons_of_mem _ hw)
/-- a target's reading: the slots behind it -/
def gI (K : PySem.W.Frag) (g : Gb) (tg : Tg) : TG := fun v σ H Q => ∃ d γ γ' S α F R, Rep K g α F d v ∧ Slots K g α F γ σ ∧ World K g R α F S H ∧ setTg tg d γ = some γ' ∧
  ∀ σ', Slots K g α F γ' σ' → (∀ vs, (∀ i ∈ tg.slots, i ∈ vs) → L2.wipe σ' vs = L2.wipe σ vs) → Q σ' H
def gIs (K : PySem.W.Frag) (g : Gb) (ts : List Tg) : TGs := fun vs σ H Q => ∃ ds γ γ' S α F R, Reps K g α F ds vs ∧ Slots K g α F γ σ ∧ World K g R α F S H ∧ setTgs ts ds γ = some γ' ∧
  ∀ σ', Slots K g α F γ' σ' → (∀ vs, (∀ i ∈ Tg.slotss ts, i ∈ vs) → L2.wipe σ' vs = L2.wipe σ vs) → Q σ' H
theorem _root_.L2.PG.imp {X : Cx} {e : Expr} {t t' : TG} (h : PG X e t) (f : ∀ v σ H Q, t' v σ H Q → t v σ H Q) : PG X e t' := ⟨fun pins s σ H v u Q I r q => h.run pins s σ H v u Q I r (f v σ H Q q)⟩
theorem _root_.L2.PGs.imp {X : Cx} {e : List Expr} {t t' : TGs} (h : PGs X e t) (f : ∀ v σ H Q, t' v σ H Q → t v σ H Q) : PGs X e t' := ⟨fun pins s σ H v u Q I r q => h.run pins s σ H v u Q I r (f v σ H Q q)⟩
section
variable {g : Gb} {X : Cx} {sc : Scope}
mutual
theorem jg (hc : X.calm = true) (hN : X.N.Nodup) (hs : ScOk X sc) : ∀ (tg : Tg) (py : Expr), mtTg X.N sc tg py = true → PG X py (gI X.K g tg) ∧ noStar py = true
  | .name i, py, h => by
    unfold mtTg at h
    cases q : pName py with
    | none => rw [q] at h; cases h
    | some x =>
      rw [q] at h
      simp only [Bool.and_eq_true] at h
      obtain ⟨p, rfl⟩ := pName_inv q
      obtain ⟨k1, k2⟩ := hs.sto x h.2
      refine ⟨(pg_name hN (of_decide_eq_true h.1) k1 k2).imp fun v σ H Q h => ?_, rfl⟩
      obtain ⟨d, γ, γ', S, α, F, R, r, s, w, e, k⟩ := h
      have e : γ.set i (some d) = γ' := Option.some.inj e
      subst e
      exact k _ (s.set r) fun vs hv => wipe_set (hv i List.mem_cons_self)
  | .tup ts, py, h => by
    unfold mtTg at h
    cases q : pTup py with
    | none => rw [q] at h; cases h
    | some ps =>
      rw [q] at h
      obtain ⟨k, p, rfl⟩ := pTup_inv q
      obtain ⟨k1, k2, k3⟩ := jgs hc hN hs ts ps h
      obtain ⟨l1, l2⟩ := each_len (env := X.env) k2
      refine ⟨(pg_tup hc k1 l1 l2).imp fun v σ H Q h => ?_, rfl⟩
      obtain ⟨d, γ, γ', S, α, F, R, r, s, w, e, k⟩ := h
      cases d with
      | tup ds =>
        obtain ⟨a, vs, rfl, h2, h3⟩ := r
        have e : (if ts.length = ds.length then setTgs ts ds γ else none) = some γ' := e
        split at e
        · rename_i hl
          exact ⟨a, vs, rfl, SqT.of (w.fz _ _ h2), by rw [← h3.length, ← hl, k3], ds, γ, γ', S, α, F, R, h3, s, w, e, k⟩
        · cases e
      | _ => cases e
theorem jgs (hc : X.calm = true) (hN : X.N.Nodup) (hs : ScOk X sc) : ∀ (ts : List Tg) (ps : List Expr), mtTgs X.N sc ts ps = true → PGs X ps (gIs X.K g ts) ∧ ps.all noStar = true ∧ ps.length = ts.length
  | [], [], _ => by
    refine ⟨pgs_nil.imp fun vs σ H Q h => ?_, rfl, rfl⟩
    obtain ⟨ds, γ, γ', S, α, F, R, r, s, w, e, k⟩ := h
    cases ds with
    | nil =>
      cases r
      have e : γ = γ' := Option.some.inj e
      subst e
      exact ⟨rfl, k σ s fun _ _ => rfl⟩
    | cons d ds => cases e
  | t :: ts, p :: ps, h => by
    unfold mtTgs at h
    rw [Bool.and_eq_true] at h
    obtain ⟨k1, k2⟩ := jg hc hN hs t p h.1
    obtain ⟨j1, j2, j3⟩ := jgs hc hN hs ts ps h.2
    refine ⟨(pgs_cons k1 j1 (by rw [each_cons k2]; rfl)).imp fun vs σ H Q h => ?_, by rw [List.all_cons, k2, j2]; rfl, by simp [j3]⟩
    obtain ⟨ds, γ, γ', S, α, F, R, r, s, w, e, k⟩ := h
    cases ds with
    | nil => cases e
    | cons d ds =>
      obtain ⟨v, rs, rfl, r1, r2⟩ := r
      have e : (match setTg t d γ with | some γ' => setTgs ts ds γ' | none => none) = some γ' := e
      cases q : setTg t d γ with
      | none => rw [q] at e; cases e
      | some γ1 =>
        rw [q] at e
        refine ⟨v, rs, rfl, d, γ, γ1, S, α, F, R, r1, s, w, q, fun σ1 s1 wp1 => ?_⟩
        refine ⟨ds, γ1, γ', S, α, F, R, r2, s1, w, e, fun σ' s' wp' => k σ' s' fun vs hv => ?_⟩
        have hv : ∀ i ∈ t.slots ++ Tg.slotss ts, i ∈ vs := hv
        rw [wp' vs fun i hi => hv i (List.mem_append_right _ hi), wp1 vs fun i hi => hv i (List.mem_append_left _ hi)]
  | [], _ :: _, h => by cases h
  | _ :: _, [], h => by cases h
end
end
/-! ### what is walked -/
/-- the turn i may be reached -/
def Reach (it : Sto → Nat → Option (Option D)) (i : Nat) : Prop := i = 0 ∨ ∃ S0 d, it S0 (i - 1) = some (some d)
/-- an iterator that gives what `it` reads, at each turn -/
def Live (K : PySem.W.Frag) (g : Gb) (α' : Nat → Option Addr) (F' : Hp) (it : Sto → Nat → Option (Option D)) (J : It) : Prop :=
  ∀ i S1 H1 R1 α1 F1, Reach it i → Ext α' F' α1 F1 → World K g R1 α1 F1 S1 H1 →
    (it S1 i = some none → J.stop i H1) ∧ ∀ d, it S1 i = some (some d) → J.go i H1 ∧ ∀ x H2, J.yld i H1 x H2 → ∃ α2 F2, Ext α1 F1 α2 F2 ∧ World K g R1 α2 F2 S1 H2 ∧ Rep K g α2 F2 d x
def statI (xs : List D) : Sto → Nat → Option (Option D) := fun _ i => some xs[i]?
def itF (k : IK) (ds : List D) (S : Sto) : Sto → Nat → Option (Option D) := match itD k ds S with
  | some xs => statI xs
  | none => liveD k ds
/-- what is asked of the rest: for each walk of the items -/
def WalkL (K : PySem.W.Frag) (g : Gb) (R : Hp) (it : Sto → Nat → Option (Option D)) (α : Nat → Option Addr) (F : Hp) (S : Sto) (Rr : It → Hp → Prop) : Prop :=
  ∀ H' α' F' J, Ext α F α' F' → World K g R α' F' S H' → Live K g α' F' it J → Rr J H'
def WalkI (K : PySem.W.Frag) (g : Gb) (R : Hp) (xs : List D) (α : Nat → Option Addr) (F : Hp) (S : Sto) (Rr : It → Hp → Prop) : Prop :=
  ∀ H' α' F' J G Y, Ext α F α' F' → World K g R α' F' S H' → Walk J xs.length G Y → (∀ S2 H2 R2 α2 F2, Ext α' F' α2 F2 → World K g R2 α2 F2 S2 H2 → G H2) →
    (∀ i H1 x H2 S1 R1 α1 F1, i < xs.length → Ext α' F' α1 F1 → World K g R1 α1 F1 S1 H1 → Y i H1 x H2 → ∃ d α2 F2, xs[i]? = some d ∧ Ext α1 F1 α2 F2 ∧ World K g R1 α2 F2 S1 H2 ∧ Rep K g α2 F2 d x) → Rr J H'
theorem walk_stat {K : PySem.W.Frag} {g : Gb} {R : Hp} {xs : List D} {α : Nat → Option Addr} {F : Hp} {S : Sto} {Rr : It → Hp → Prop} (h : WalkL K g R (statI xs) α F S Rr) : WalkI K g R xs α F S Rr := by
  intro H' α' F' J G Y e w wk hG hY
  refine h H' α' F' J e w fun i S1 H1 R1 α1 F1 hr e1 w1 => ⟨fun q => ?_, fun d q => ?_⟩
  · have q : xs[i]? = none := Option.some.inj q
    have hi : xs.length ≤ i := List.getElem?_eq_none_iff.mp q
    have : i = xs.length := by
      rcases hr with z | ⟨S0, d, z⟩
      · omega
      · have z : xs[i - 1]? = some d := Option.some.inj z
        have := (List.getElem?_eq_some_iff.mp z).1
        omega
    rw [this]
    exact wk.stops H1 (hG S1 H1 R1 α1 F1 e1 w1)
  · have q : xs[i]? = some d := Option.some.inj q
    have hi := (List.getElem?_eq_some_iff.mp q).1
    refine ⟨wk.goes i H1 hi (hG S1 H1 R1 α1 F1 e1 w1), fun x H2 y => ?_⟩
    obtain ⟨d', α2, F2, q', k⟩ := hY i H1 x H2 S1 R1 α1 F1 hi e1 w1 (wk.yields i H1 x H2 hi (hG S1 H1 R1 α1 F1 e1 w1) y)
    rw [q] at q'
    cases q'
    exact ⟨α2, F2, k⟩
def iI (K : PySem.W.Frag) (g : Gb) (k : IK) (m : Gm → Sto → Out (List D)) : TI := fun σ H Rr => ∃ γ S α F R, Slots K g α F γ σ ∧ World K g R α F S H ∧ match m γ S with
  | .ok ds S' => itF k ds S' S' 0 ≠ none ∧ WalkL K g R (itF k ds S') α F S' Rr
  | _ => False
theorem itF_of {k : IK} {ds xs : List D} {S : Sto} (h : itD k ds S = some xs) : itF k ds S = statI xs := by unfold itF; rw [h]
theorem itF_no {k : IK} {ds : List D} {S : Sto} (h : itD k ds S = none) : itF k ds S = liveD k ds := by unfold itF; rw [h]
theorem _root_.L2.PI.imp {X : Cx} {tg e : Expr} {t t' : TI} (h : PI X tg e t) (f : ∀ σ H R, t' σ H R → t σ H R) : PI X tg e t' := ⟨fun pins s σ H R I q => h.run pins s σ H R I (f σ H R q)⟩
theorem _root_.L2.PI.or {X : Cx} {tg e : Expr} {t t' : TI} (h : PI X tg e t) (h' : PI X tg e t') : PI X tg e (fun σ H R => t σ H R ∨ t' σ H R) := ⟨fun pins s σ H R I q => q.elim (h.run pins s σ H R I) (h'.run pins s σ H R I)⟩
section
variable {T : Tab} {g : Gb} {cal : Nat → List D → Sto → Out D} {n : Nat} {X : Cx} {sc : Scope} {a b f tg : Expr} {ma : Gm → Sto → Out D} {ml : Gm → Sto → Out (List D)} {pos : Pos} {es : List Expr}
theorem get_some {β : Type} {xs : List β} {i : Nat} (h : i < xs.length) : ∃ d, xs[i]? = some d := ⟨xs[i], by simp [h]⟩
theorem walk_lst {K : PySem.W.Frag} {R : Hp} {xs : List D} {α : Nat → Option Addr} {F H : Hp} {S : Sto} {Rr : It → Hp → Prop} {p : Addr} {vs : List V} (w : World K g R α F S H) (hp : F p = some (.lst vs)) (r : Reps K g α F xs vs) (h : WalkI K g R xs α F S Rr) : Rr (Itl K p) H := by
  refine h H α F _ _ _ Ext.refl w (r.length ▸ walk_list (K := K) (a := p) (xs := vs)) (fun S2 H2 R2 α2 F2 e w2 => SqL.of (w2.fz _ _ (e.fr _ _ hp))) fun i H1 x H2 S1 R1 α1 F1 hi e w1 y => ?_
  obtain ⟨e1, e2⟩ := y
  subst e1
  obtain ⟨d, hd⟩ := get_some hi
  obtain ⟨v, h1, h2⟩ := (Reps.mono e _ _ r).get hd
  rw [e2] at h1
  cases h1
  exact ⟨d, α1, F1, hd, Ext.refl, w1, h2⟩
theorem walk_tpl {K : PySem.W.Frag} {R : Hp} {xs : List D} {α : Nat → Option Addr} {F H : Hp} {S : Sto} {Rr : It → Hp → Prop} {p : Addr} {vs : List V} (w : World K g R α F S H) (hp : F p = some (.tup vs)) (r : Reps K g α F xs vs) (h : WalkI K g R xs α F S Rr) : Rr (Itt K p) H := by
  refine h H α F _ _ _ Ext.refl w (r.length ▸ walk_tup (K := K) (a := p) (xs := vs)) (fun S2 H2 R2 α2 F2 e w2 => SqT.of (w2.fz _ _ (e.fr _ _ hp))) fun i H1 x H2 S1 R1 α1 F1 hi e w1 y => ?_
  obtain ⟨e1, e2⟩ := y
  subst e1
  obtain ⟨d, hd⟩ := get_some hi
  obtain ⟨v, h1, h2⟩ := (Reps.mono e _ _ r).get hd
  rw [e2] at h1
  cases h1
  exact ⟨d, α1, F1, hd, Ext.refl, w1, h2⟩
theorem walk_txt {K : PySem.W.Frag} {R : Hp} {α : Nat → Option Addr} {F H : Hp} {S : Sto} {Rr : It → Hp → Prop} {z : Str} (o : okS z = true) (w : World K g R α F S H) (h : WalkI K g R (signs z) α F S Rr) : Rr (Its z) H := by
  have hl : (signs z).length = z.cps.size := by unfold signs; rw [List.length_map, Array.length_toList]
  refine h H α F _ _ _ Ext.refl w (hl ▸ walk_str (z := z)) (fun _ _ _ _ _ _ _ => trivial) fun i H1 x H2 S1 R1 α1 F1 hi e w1 y => ?_
  obtain ⟨e1, c, e2, e3⟩ := y
  subst e1
  obtain ⟨d, hd⟩ := get_some hi
  obtain ⟨v, h1, h2⟩ := (reps_signs (K := K) (g := g) (α := α1) (F := F1) o).get hd
  have : v = x := by
    unfold signsV at h1
    rw [List.getElem?_map, Array.getElem?_toList, e2] at h1
    rw [e3]
    exact (Option.some.inj h1).symm
  subst this
  exact ⟨d, α1, F1, hd, Ext.refl, w1, h2⟩
/-- a list, frozen or of the store, as it stands later -/
theorem lst_late {K : PySem.W.Frag} {α α1 : Nat → Option Addr} {F F1 H1 R1 : Hp} {S1 : Sto} {d : D} {p : Addr} {xs : List D} (r : Rep K g α F d (.ref p)) (e1 : Ext α F α1 F1) (w1 : World K g R1 α1 F1 S1 H1) (q : lstOf d S1 = some xs) : ∃ vs, H1 p = some (.lst vs) ∧ Reps K g α1 F1 xs vs := by
  obtain ⟨p', vs, e2, h2, h3⟩ := lst_of w1 (Rep.mono e1 _ _ r) q
  cases e2
  exact ⟨vs, h2, h3⟩
theorem walk_loc {K : PySem.W.Frag} {R : Hp} {α : Nat → Option Addr} {F H : Hp} {S : Sto} {Rr : It → Hp → Prop} {p : Addr} {d0 : D} (w : World K g R α F S H) (hp : Rep K g α F d0 (.ref p)) (h : WalkL K g R (liveD .val [d0]) α F S Rr) : Rr (Itl K p) H := by
  refine h H α F _ Ext.refl w fun i S1 H1 R1 α1 F1 _ e1 w1 => ?_
  have rd : ∀ r, liveD .val [d0] S1 i = some r → ∃ xs vs, r = xs[i]? ∧ H1 p = some (.lst vs) ∧ Reps K g α1 F1 xs vs := by
    intro r q
    have q : (lstOf d0 S1).map (fun xs => xs[i]?) = some r := q
    cases q1 : lstOf d0 S1 with
    | none => rw [q1] at q; cases q
    | some xs =>
      rw [q1] at q
      obtain ⟨vs, h2, h3⟩ := lst_late hp e1 w1 q1
      exact ⟨xs, vs, (Option.some.inj q).symm, h2, h3⟩
  refine ⟨fun q => ?_, fun d q => ?_⟩
  · obtain ⟨xs, vs, e, h2, h3⟩ := rd _ q
    exact ⟨vs, SqL.of h2, by rw [← h3.length]; exact List.getElem?_eq_none_iff.mp e.symm⟩
  · obtain ⟨xs, vs, e, h2, h3⟩ := rd _ q
    obtain ⟨v, k1, k2⟩ := h3.get e.symm
    refine ⟨⟨vs, v, SqL.of h2, k1⟩, fun x H2 ⟨e3, y⟩ => ?_⟩
    subst e3
    have := y vs (SqL.of h2)
    rw [k1] at this
    cases this
    exact ⟨α1, F1, Ext.refl, w1, k2⟩
theorem walk_locE {K : PySem.W.Frag} {R : Hp} {α : Nat → Option Addr} {F H : Hp} {S : Sto} {Rr : It → Hp → Prop} {p : Addr} {d0 : D} (w : World K g R α F S H) (hp : Rep K g α F d0 (.ref p)) (h : WalkL K g R (liveD .enum [d0]) α F S Rr) : Rr (Ite K p) H := by
  refine h H α F _ Ext.refl w fun i S1 H1 R1 α1 F1 _ e1 w1 => ?_
  have rd : ∀ r, liveD .enum [d0] S1 i = some r → ∃ xs vs, r = xs[i]?.map (fun x => .tup [.int i, x]) ∧ H1 p = some (.lst vs) ∧ Reps K g α1 F1 xs vs := by
    intro r q
    have q : (lstOf d0 S1).map (fun xs => xs[i]?.map fun x => D.tup [.int i, x]) = some r := q
    cases q1 : lstOf d0 S1 with
    | none => rw [q1] at q; cases q
    | some xs =>
      rw [q1] at q
      obtain ⟨vs, h2, h3⟩ := lst_late hp e1 w1 q1
      exact ⟨xs, vs, (Option.some.inj q).symm, h2, h3⟩
  refine ⟨fun q => ?_, fun d q => ?_⟩
  · obtain ⟨xs, vs, e, h2, h3⟩ := rd _ q
    refine ⟨vs, SqL.of h2, ?_⟩
    rw [← h3.length]
    cases q2 : xs[i]? with
    | none => exact List.getElem?_eq_none_iff.mp q2
    | some x => rw [q2] at e; cases e
  · obtain ⟨xs, vs, e, h2, h3⟩ := rd _ q
    cases q2 : xs[i]? with
    | none => rw [q2] at e; cases e
    | some x0 =>
      rw [q2] at e
      cases e
      obtain ⟨v, k1, k2⟩ := h3.get q2
      refine ⟨⟨vs, v, SqL.of h2, k1⟩, fun x H2 ⟨t, x2, ex, ht, e3, y⟩ => ?_⟩
      subst ex e3
      have := y vs (SqL.of h2)
      rw [k1] at this
      cases this
      obtain ⟨w2, e2⟩ := w1.lay (o := .tup [.int (i : Int), v]) ht
      exact ⟨α1, _, e2, w2, ⟨t, _, rfl, upd_same, ⟨_, _, rfl, rfl, ⟨_, _, rfl, Rep.mono e2 _ _ k2, rfl⟩⟩⟩⟩
theorem walk_locZ {K : PySem.W.Frag} {R : Hp} {α : Nat → Option Addr} {F H : Hp} {S : Sto} {Rr : It → Hp → Prop} {p p' : Addr} {d0 d1 : D} (w : World K g R α F S H) (hp : Rep K g α F d0 (.ref p)) (hp' : Rep K g α F d1 (.ref p')) (h : WalkL K g R (liveD .zip [d0, d1]) α F S Rr) : Rr (Itz K p p') H := by
  refine h H α F _ Ext.refl w fun i S1 H1 R1 α1 F1 _ e1 w1 => ?_
  have rd : ∀ r, liveD .zip [d0, d1] S1 i = some r → ∃ xs ys vs ws, r = (match xs[i]?, ys[i]? with | some x, some y => some (D.tup [x, y]) | _, _ => none) ∧ H1 p = some (.lst vs) ∧ Reps K g α1 F1 xs vs ∧ H1 p' = some (.lst ws) ∧ Reps K g α1 F1 ys ws := by
    intro r q
    have q : (match lstOf d0 S1, lstOf d1 S1 with
      | some xs, some ys => some (match xs[i]?, ys[i]? with
        | some x, some y => some (D.tup [x, y])
        | _, _ => none)
      | _, _ => none) = some r := q
    cases q1 : lstOf d0 S1 with
    | none => rw [q1] at q; cases q
    | some xs =>
      cases q2 : lstOf d1 S1 with
      | none => rw [q1, q2] at q; cases q
      | some ys =>
        rw [q1, q2] at q
        obtain ⟨vs, h2, h3⟩ := lst_late hp e1 w1 q1
        obtain ⟨ws, g2, g3⟩ := lst_late hp' e1 w1 q2
        exact ⟨xs, ys, vs, ws, (Option.some.inj q).symm, h2, h3, g2, g3⟩
  refine ⟨fun q => ?_, fun d q => ?_⟩
  · obtain ⟨xs, ys, vs, ws, e, h2, h3, g2, g3⟩ := rd _ q
    refine ⟨vs, ws, SqL.of h2, SqL.of g2, ?_⟩
    rw [← h3.length, ← g3.length]
    cases q2 : xs[i]? with
    | none => exact .inl (List.getElem?_eq_none_iff.mp q2)
    | some x =>
      cases q3 : ys[i]? with
      | none => exact .inr (List.getElem?_eq_none_iff.mp q3)
      | some y => rw [q2, q3] at e; cases e
  · obtain ⟨xs, ys, vs, ws, e, h2, h3, g2, g3⟩ := rd _ q
    cases q2 : xs[i]? with
    | none => rw [q2] at e; cases e
    | some x0 =>
      cases q3 : ys[i]? with
      | none => rw [q2, q3] at e; cases e
      | some y0 =>
        rw [q2, q3] at e
        cases e
        obtain ⟨v, k1, k2⟩ := h3.get q2
        obtain ⟨u, j1, j2⟩ := g3.get q3
        refine ⟨⟨vs, ws, v, u, SqL.of h2, SqL.of g2, k1, j1⟩, fun x H2 ⟨t, x2, y2, ex, ht, e3, yx, yy⟩ => ?_⟩
        subst ex e3
        have t1 := yx vs (SqL.of h2)
        have t2 := yy ws (SqL.of g2)
        rw [k1] at t1
        rw [j1] at t2
        cases t1; cases t2
        obtain ⟨w2, e2⟩ := w1.lay (o := .tup [v, u]) ht
        exact ⟨α1, _, e2, w2, ⟨t, _, rfl, upd_same, ⟨_, _, rfl, Rep.mono e2 _ _ k2, ⟨_, _, rfl, Rep.mono e2 _ _ j2, rfl⟩⟩⟩⟩
theorem ji_val (ha : PE X a (tI X.K g ma)) : PI X tg a (iI X.K g .val fun γ S => (ma γ S).bind fun d S => .ok [d] S) := by
  refine ((pi_list ha).or ((pi_tup ha).or (pi_str ha))).imp fun σ H Rr h => ?_
  obtain ⟨γ, S, α, F, R, s, w, h⟩ := h
  dsimp only at h
  cases q : ma γ S with
  | exc => rw [q] at h; exact False.elim h
  | bad => rw [q] at h; exact False.elim h
  | ok d S' =>
    rw [q] at h
    dsimp only [Out.bind] at h
    obtain ⟨h0, h⟩ := h
    have ext : ∀ {it α' F'}, WalkL X.K g R it α F S' Rr → Ext α F α' F' → WalkL X.K g R it α' F' S' Rr := fun {it α' F'} h e => fun H2 α2 F2 J e2 => h H2 α2 F2 J (e.trans e2)
    cases d with
    | lst ys =>
      rw [itF_of (k := .val) (ds := [.lst ys]) (S := S') (xs := ys) rfl] at h
      refine .inl ⟨γ, S, α, F, R, s, w, ?_⟩
      rw [q]
      intro v H' α' F' e w' r
      obtain ⟨p, vs, rfl, h2, h3⟩ := r
      exact ⟨p, rfl, ⟨vs, SqL.of (w'.fz _ _ h2)⟩, walk_lst w' h2 h3 (walk_stat (ext h e))⟩
    | tup ys =>
      rw [itF_of (k := .val) (ds := [.tup ys]) (S := S') (xs := ys) rfl] at h
      refine .inr (.inl ⟨γ, S, α, F, R, s, w, ?_⟩)
      rw [q]
      intro v H' α' F' e w' r
      obtain ⟨p, vs, rfl, h2, h3⟩ := r
      exact ⟨p, rfl, ⟨vs, SqT.of (w'.fz _ _ h2)⟩, walk_tpl w' h2 h3 (walk_stat (ext h e))⟩
    | str z =>
      rw [itF_of (k := .val) (ds := [.str z]) (S := S') (xs := signs z) rfl] at h
      refine .inr (.inr ⟨γ, S, α, F, R, s, w, ?_⟩)
      rw [q]
      intro v H' α' F' e w' r
      obtain ⟨rfl, o⟩ := r
      exact ⟨z, rfl, walk_txt o w' (walk_stat (ext h e))⟩
    | loc m =>
      rw [itF_no (k := .val) (ds := [.loc m]) (S := S') rfl] at h h0
      refine .inl ⟨γ, S, α, F, R, s, w, ?_⟩
      rw [q]
      intro v H' α' F' e w' r
      have h0 : (lstOf (.loc m) S').map (fun xs => xs[0]?) ≠ none := h0
      cases q1 : lstOf (.loc m) S' with
      | none => rw [q1] at h0; exact absurd rfl h0
      | some xs =>
        obtain ⟨p', vs, e2, h2, h3⟩ := lst_of w' r q1
        subst e2
        exact ⟨p', rfl, ⟨vs, SqL.of h2⟩, walk_loc w' r (ext h e)⟩
    | _ => exact absurd rfl h0
theorem walk_rng {K : PySem.W.Frag} {R : Hp} {α : Nat → Option Addr} {F H : Hp} {S : Sto} {Rr : It → Hp → Prop} {lo : Int} {k : Nat} (w : World K g R α F S H) (h : WalkI K g R ((List.range k).map fun (j : Nat) => D.int (lo + (j : Int))) α F S Rr) : Rr (Itr lo k) H := by
  have hl : ((List.range k).map fun (j : Nat) => D.int (lo + (j : Int))).length = k := by rw [List.length_map, List.length_range]
  refine h H α F _ _ _ Ext.refl w (by rw [hl]; exact walk_range (lo := lo) (n := k)) (fun _ _ _ _ _ _ _ => trivial) fun i H1 x H2 S1 R1 α1 F1 hi e w1 y => ?_
  obtain ⟨e1, e2⟩ := y
  subst e1 e2
  rw [hl] at hi
  exact ⟨.int (lo + i), α1, F1, by rw [List.getElem?_map, List.getElem?_range hi]; rfl, Ext.refl, w1, rfl⟩
theorem ji_rng1 (C : Cok T g cal X n) (hs : ScOk X sc) (hf : blt T sc "range" f = true) (hn : noStar a = true) (ha : PA X [a] (tIs X.K g ml)) (h1 : ∀ γ S ds S', ml γ S = .ok ds S' → ds.length = 1) : PI X tg (.Call f [a] [] pos) (iI X.K g .rng ml) := by
  obtain ⟨⟨p, rfl⟩, hg, hm, _, _⟩ := blt_of C hs hf
  refine (pi_range1 hg hm ha (star_cons hn)).imp fun σ H Rr h => ?_
  obtain ⟨γ, S, α, F, R, s, w, h⟩ := h
  refine ⟨γ, S, α, F, R, s, w, ?_⟩
  cases q : ml γ S with
  | exc => rw [q] at h; exact h
  | bad => rw [q] at h; exact h
  | ok ds S' =>
    rw [q] at h
    obtain ⟨h0, h⟩ := h
    intro vs H' α' F' e' w' r
    have extL : ∀ {it}, itF .rng ds S' = it → WalkL X.K g R it α' F' S' Rr := fun {it} z => fun H2 α2 F2 J e2 => (z ▸ h) H2 α2 F2 J (e'.trans e2)
    have ext0 : ∀ {xs}, itD .rng ds S' = some xs → WalkI X.K g R xs α' F' S' Rr := fun z => walk_stat (extL (itF_of z))
    obtain ⟨xs, e⟩ : ∃ xs, itD .rng ds S' = some xs := by
      cases qe : itD .rng ds S' with
      | some xs => exact ⟨xs, rfl⟩
      | none => rw [itF_no qe] at h0; exact absurd rfl h0
    have ext := ext0 e
    have hl := h1 γ S ds S' q
    cases ds with
    | nil => cases hl
    | cons d r' =>
      cases r' with
      | cons _ _ => simp at hl
      | nil =>
        obtain ⟨v, rfl, r1⟩ := reps_one r
        cases d with
        | int k =>
          cases r1
          have e : (if -(2 ^ 62) ≤ k ∧ k ≤ 16777216 then some ((List.range k.toNat).map fun (j : Nat) => D.int (0 + (j : Int))) else none) = some xs := e
          split at e
          · rename_i hk
            have e := Option.some.inj e
            subst e
            exact ⟨k, rfl, hk.1, by omega, walk_rng w' ext⟩
          · cases e
        | _ => cases e
theorem ji_rng2 (C : Cok T g cal X n) (hs : ScOk X sc) (hf : blt T sc "range" f = true) (hn : noStar a = true) (hn' : noStar b = true) (ha : PA X [a, b] (tIs X.K g ml)) (h1 : ∀ γ S ds S', ml γ S = .ok ds S' → ds.length = 2) : PI X tg (.Call f [a, b] [] pos) (iI X.K g .rng ml) := by
  obtain ⟨⟨p, rfl⟩, hg, hm, _, _⟩ := blt_of C hs hf
  refine (pi_range2 hg hm ha (by rw [star_cons hn, star_cons hn']; rfl) (star_cons hn')).imp fun σ H Rr h => ?_
  obtain ⟨γ, S, α, F, R, s, w, h⟩ := h
  refine ⟨γ, S, α, F, R, s, w, ?_⟩
  cases q : ml γ S with
  | exc => rw [q] at h; exact h
  | bad => rw [q] at h; exact h
  | ok ds S' =>
    rw [q] at h
    obtain ⟨h0, h⟩ := h
    intro vs H' α' F' e' w' r
    have extL : ∀ {it}, itF .rng ds S' = it → WalkL X.K g R it α' F' S' Rr := fun {it} z => fun H2 α2 F2 J e2 => (z ▸ h) H2 α2 F2 J (e'.trans e2)
    have ext0 : ∀ {xs}, itD .rng ds S' = some xs → WalkI X.K g R xs α' F' S' Rr := fun z => walk_stat (extL (itF_of z))
    obtain ⟨xs, e⟩ : ∃ xs, itD .rng ds S' = some xs := by
      cases qe : itD .rng ds S' with
      | some xs => exact ⟨xs, rfl⟩
      | none => rw [itF_no qe] at h0; exact absurd rfl h0
    have ext := ext0 e
    have hl := h1 γ S ds S' q
    cases ds with
    | nil => cases hl
    | cons d r' =>
      cases r' with
      | nil => simp at hl
      | cons d2 r' =>
        cases r' with
        | cons _ _ => simp at hl
        | nil =>
          obtain ⟨v, v2, rfl, r1, r2⟩ := reps_two r
          cases d with
          | int k =>
            cases d2 with
            | int k2 =>
              cases r1; cases r2
              have e : (if -(2 ^ 62) ≤ k ∧ k < 2 ^ 62 ∧ -(2 ^ 62) ≤ k2 ∧ k2 < 2 ^ 62 ∧ k2 - k ≤ 16777216 then some ((List.range (k2 - k).toNat).map fun (j : Nat) => D.int (k + (j : Int))) else none) = some xs := e
              split at e
              · rename_i hk
                have e := Option.some.inj e
                subst e
                exact ⟨k, k2, rfl, ⟨hk.1, hk.2.1, hk.2.2.1, hk.2.2.2.1⟩, walk_rng w' ext⟩
              · cases e
            | _ => cases e
          | _ => cases e
theorem walk_enumT {K : PySem.W.Frag} {a : Addr} {xs : List V} : Walk (IteT K a) xs.length (fun H => SqT K H a xs) (YPair (fun i => some (.int (i : Nat))) (fun i => xs[i]?)) := by
  refine ⟨fun i _ hi q => ?_, fun _ q => ⟨xs, q, rfl⟩, fun i H v H' _ q y => ?_⟩
  · exact ⟨xs, xs[i], q, by simp [hi]⟩
  · obtain ⟨T, x, h1, h2, h3, h4⟩ := y
    exact ⟨T, _, x, h1, h2, h3, rfl, h4 xs q⟩
theorem ji_enum (C : Cok T g cal X n) (hs : ScOk X sc) (hf : blt T sc "enumerate" f = true) (hn : noStar a = true) (ht : (pTup tg).isSome = true) (ha : PA X [a] (tIs X.K g ml)) (h1 : ∀ γ S ds S', ml γ S = .ok ds S' → ds.length = 1) : PI X tg (.Call f [a] [] pos) (iI X.K g .enum ml) := by
  obtain ⟨⟨p, rfl⟩, hg, hm, _, _⟩ := blt_of C hs hf
  cases qt : pTup tg with
  | none => rw [qt] at ht; cases ht
  | some ts =>
  obtain ⟨k, p2, rfl⟩ := pTup_inv qt
  refine (pi_enumA hg hm ha (star_cons hn)).imp fun σ H Rr h => ?_
  obtain ⟨γ, S, α, F, R, s, w, h⟩ := h
  refine ⟨γ, S, α, F, R, s, w, ?_⟩
  cases q : ml γ S with
  | exc => rw [q] at h; exact h
  | bad => rw [q] at h; exact h
  | ok ds S' =>
    rw [q] at h
    obtain ⟨h0, h⟩ := h
    intro vs H' α' F' e' w' r
    have extL : ∀ {it}, itF .enum ds S' = it → WalkL X.K g R it α' F' S' Rr := fun {it} z => fun H2 α2 F2 J e2 => (z ▸ h) H2 α2 F2 J (e'.trans e2)
    have ext0 : ∀ {xs}, itD .enum ds S' = some xs → WalkI X.K g R xs α' F' S' Rr := fun z => walk_stat (extL (itF_of z))
    have hl := h1 γ S ds S' q
    cases ds with
    | nil => cases hl
    | cons d r' =>
      cases r' with
      | cons _ _ => simp at hl
      | nil =>
        obtain ⟨v, rfl, r1⟩ := reps_one r
        cases d with
        | lst ys =>
          obtain ⟨pa, us, rfl, h2, h3⟩ := r1
          have ext := ext0 (xs := (List.range ys.length).map fun (k : Nat) => D.tup [.int (k : Int), ys.getD k .non]) rfl
          have hll : ((List.range ys.length).map fun (k : Nat) => D.tup [.int (k : Int), ys.getD k .non]).length = us.length := by rw [List.length_map, List.length_range, h3.length]
          refine ⟨pa, us, rfl, .inl ⟨SqL.of (w'.fz _ _ h2), ?_⟩⟩
          refine ext H' α' F' _ _ _ Ext.refl w' (hll ▸ walk_enum (K := X.K) (a := pa) (xs := us)) (fun S2 H2 R2 α2 F2 e w2 => SqL.of (w2.fz _ _ (e.fr _ _ h2))) fun i H1 x H2 S1 R1 α1 F1 hi e w1 y => ?_
          obtain ⟨t, x1, x2, rfl, k1, rfl, k3, k4⟩ := y
          cases k3
          rw [hll, ← h3.length] at hi
          obtain ⟨d, hd⟩ := get_some hi
          obtain ⟨v2, g1, g2⟩ := (Reps.mono e _ _ h3).get hd
          have k4 : us[i]? = some x2 := k4
          rw [k4] at g1
          cases g1
          obtain ⟨w2, e2⟩ := w1.lay (o := .tup [.int (i : Int), x2]) k1
          refine ⟨.tup [.int (i : Int), d], α1, _, ?_, e2, w2, ⟨t, _, rfl, upd_same, ⟨_, _, rfl, rfl, ⟨_, _, rfl, Rep.mono e2 _ _ g2, rfl⟩⟩⟩⟩
          rw [List.getElem?_map, List.getElem?_range hi]
          show some (D.tup [.int (i : Int), ys.getD i .non]) = _
          rw [List.getD_eq_getElem?_getD, hd]
          rfl
        | tup ys =>
          obtain ⟨pa, us, rfl, h2, h3⟩ := r1
          have ext := ext0 (xs := (List.range ys.length).map fun (k : Nat) => D.tup [.int (k : Int), ys.getD k .non]) rfl
          have hll : ((List.range ys.length).map fun (k : Nat) => D.tup [.int (k : Int), ys.getD k .non]).length = us.length := by rw [List.length_map, List.length_range, h3.length]
          refine ⟨pa, us, rfl, .inr ⟨SqT.of (w'.fz _ _ h2), ?_⟩⟩
          refine ext H' α' F' _ _ _ Ext.refl w' (hll ▸ walk_enumT (K := X.K) (a := pa) (xs := us)) (fun S2 H2 R2 α2 F2 e w2 => SqT.of (w2.fz _ _ (e.fr _ _ h2))) fun i H1 x H2 S1 R1 α1 F1 hi e w1 y => ?_
          obtain ⟨t, x1, x2, rfl, k1, rfl, k3, k4⟩ := y
          cases k3
          rw [hll, ← h3.length] at hi
          obtain ⟨d, hd⟩ := get_some hi
          obtain ⟨v2, g1, g2⟩ := (Reps.mono e _ _ h3).get hd
          have k4 : us[i]? = some x2 := k4
          rw [k4] at g1
          cases g1
          obtain ⟨w2, e2⟩ := w1.lay (o := .tup [.int (i : Int), x2]) k1
          refine ⟨.tup [.int (i : Int), d], α1, _, ?_, e2, w2, ⟨t, _, rfl, upd_same, ⟨_, _, rfl, rfl, ⟨_, _, rfl, Rep.mono e2 _ _ g2, rfl⟩⟩⟩⟩
          rw [List.getElem?_map, List.getElem?_range hi]
          show some (D.tup [.int (i : Int), ys.getD i .non]) = _
          rw [List.getD_eq_getElem?_getD, hd]
          rfl
        | loc m =>
          have h0 : (lstOf (.loc m) S').map (fun xs => xs[0]?.map fun x => D.tup [.int 0, x]) ≠ none := h0
          cases q1 : lstOf (.loc m) S' with
          | none => rw [q1] at h0; exact absurd rfl h0
          | some xs =>
            obtain ⟨p', us, e2, h2, h3⟩ := lst_of w' r1 q1
            subst e2
            exact ⟨p', us, rfl, .inl ⟨SqL.of h2, walk_locE w' r1 (extL (itF_no rfl))⟩⟩
        | _ => exact absurd rfl h0
theorem walk_zipT {K : PySem.W.Frag} {a b : Addr} {xs ys : List V} {n : Nat} (hn : n = min xs.length ys.length) : Walk (RZ.ItzT K a b) n (fun H => SqT K H a xs ∧ SqT K H b ys) (YPair (fun i => xs[i]?) (fun i => ys[i]?)) := by
  subst hn
  refine ⟨fun i _ hi q => ?_, fun _ q => ⟨xs, ys, q.1, q.2, by omega⟩, fun i H v H' _ q y => ?_⟩
  · have h1 : i < xs.length := by omega
    have h2 : i < ys.length := by omega
    exact ⟨xs, ys, xs[i], ys[i], q.1, q.2, by simp [h1], by simp [h2]⟩
  · obtain ⟨T, x, z, h1, h2, h3, h4, h5⟩ := y
    exact ⟨T, x, z, h1, h2, h3, h4 xs q.1, h5 ys q.2⟩
theorem ji_zip (C : Cok T g cal X n) (hs : ScOk X sc) (hf : blt T sc "zip" f = true) (hn : noStar a = true) (hn' : noStar b = true) (ht : (pTup tg).isSome = true) (ha : PA X [a, b] (tIs X.K g ml)) (h1 : ∀ γ S ds S', ml γ S = .ok ds S' → ds.length = 2) : PI X tg (.Call f [a, b] [] pos) (iI X.K g .zip ml) := by
  obtain ⟨⟨p, rfl⟩, hg, hm, _, _⟩ := blt_of C hs hf
  cases qt : pTup tg with
  | none => rw [qt] at ht; cases ht
  | some ts =>
  obtain ⟨k, p2, rfl⟩ := pTup_inv qt
  refine (RZ.pi_zipA hg hm ha (star_cons hn) (star_none (by rw [List.all_cons, hn']; rfl))).imp fun σ H Rr h => ?_
  obtain ⟨γ, S, α, F, R, s, w, h⟩ := h
  refine ⟨γ, S, α, F, R, s, w, ?_⟩
  cases q : ml γ S with
  | exc => rw [q] at h; exact h
  | bad => rw [q] at h; exact h
  | ok ds S' =>
    rw [q] at h
    obtain ⟨h0, h⟩ := h
    intro vs H' α' F' e' w' r
    have extL : ∀ {it}, itF .zip ds S' = it → WalkL X.K g R it α' F' S' Rr := fun {it} z => fun H2 α2 F2 J e2 => (z ▸ h) H2 α2 F2 J (e'.trans e2)
    have ext0 : ∀ {xs}, itD .zip ds S' = some xs → WalkI X.K g R xs α' F' S' Rr := fun z => walk_stat (extL (itF_of z))
    have hl := h1 γ S ds S' q
    cases ds with
    | nil => cases hl
    | cons d r' =>
      cases r' with
      | nil => simp at hl
      | cons d2 r' =>
        cases r' with
        | cons _ _ => simp at hl
        | nil =>
          obtain ⟨v, v2, rfl, r1, r2⟩ := reps_two r
          have pair : ∀ {ys zs : List D} {us ws : List V} {t : Addr} {x1 x2 : V} {i : Nat} {H1 : Hp} {S1 : Sto} {R1 : Hp} {α1 : Nat → Option Addr} {F1 : Hp}, Reps X.K g α' F' ys us → Reps X.K g α' F' zs ws → i < min ys.length zs.length → Ext α' F' α1 F1 → World X.K g R1 α1 F1 S1 H1 → H1 t = none → us[i]? = some x1 → ws[i]? = some x2 →
              ∃ d α2 F2, ((List.range (min ys.length zs.length)).map fun (k : Nat) => D.tup [ys.getD k .non, zs.getD k .non])[i]? = some d ∧ Ext α1 F1 α2 F2 ∧ World X.K g R1 α2 F2 S1 (upd H1 t (.tup [x1, x2])) ∧ Rep X.K g α2 F2 d (.ref t) := by
            intro ys zs us ws t x1 x2 i H1 S1 R1 α1 F1 h3 g3 hi e w1 k1 k3 k4
            obtain ⟨d, hd⟩ := get_some (xs := ys) (i := i) (by omega)
            obtain ⟨d', hd'⟩ := get_some (xs := zs) (i := i) (by omega)
            obtain ⟨u1, g1, g2⟩ := (Reps.mono e _ _ h3).get hd
            obtain ⟨u2, f1, f2⟩ := (Reps.mono e _ _ g3).get hd'
            rw [k3] at g1
            rw [k4] at f1
            cases g1; cases f1
            obtain ⟨w2, e2⟩ := w1.lay (o := .tup [x1, x2]) k1
            refine ⟨.tup [d, d'], α1, _, ?_, e2, w2, ⟨t, _, rfl, upd_same, ⟨_, _, rfl, Rep.mono e2 _ _ g2, ⟨_, _, rfl, Rep.mono e2 _ _ f2, rfl⟩⟩⟩⟩
            rw [List.getElem?_map, List.getElem?_range hi]
            show some (D.tup [ys.getD i .non, zs.getD i .non]) = _
            rw [List.getD_eq_getElem?_getD, List.getD_eq_getElem?_getD, hd, hd']
            rfl
          have live : (∀ ys : Nat, False → False → False) → itD .zip [d, d2] S' = none → ∃ a b xs ys, [v, v2] = [V.ref a, .ref b] ∧ (SqL X.K H' a xs ∧ SqL X.K H' b ys ∧ Rr (Itz X.K a b) H' ∨ SqT X.K H' a xs ∧ SqT X.K H' b ys ∧ Rr (RZ.ItzT X.K a b) H') := by
            intro _ hno
            rw [itF_no hno] at h0
            have h0 : (match lstOf d S', lstOf d2 S' with
              | some xs, some ys => some (match xs[0]?, ys[0]? with
                | some x, some y => some (D.tup [x, y])
                | _, _ => none)
              | _, _ => none) ≠ none := h0
            cases q1 : lstOf d S' with
            | none => rw [q1] at h0; exact absurd rfl h0
            | some xs =>
              cases q2 : lstOf d2 S' with
              | none => rw [q1, q2] at h0; exact absurd rfl h0
              | some ys =>
                obtain ⟨p1, us, e2, h2, h3⟩ := lst_of w' r1 q1
                obtain ⟨p2, ws, e3, g2, g3⟩ := lst_of w' r2 q2
                subst e2 e3
                exact ⟨p1, p2, us, ws, rfl, .inl ⟨SqL.of h2, SqL.of g2, walk_locZ w' r1 r2 (extL (itF_no hno))⟩⟩
          cases d with
          | lst ys =>
            cases d2 with
            | lst zs =>
              obtain ⟨pa, us, rfl, h2, h3⟩ := r1
              obtain ⟨pb, ws, rfl, g2, g3⟩ := r2
              have ext := ext0 (xs := (List.range (min ys.length zs.length)).map fun (k : Nat) => D.tup [ys.getD k .non, zs.getD k .non]) rfl
              have hll : ((List.range (min ys.length zs.length)).map fun (k : Nat) => D.tup [ys.getD k .non, zs.getD k .non]).length = min us.length ws.length := by rw [List.length_map, List.length_range, h3.length, g3.length]
              refine ⟨pa, pb, us, ws, rfl, .inl ⟨SqL.of (w'.fz _ _ h2), SqL.of (w'.fz _ _ g2), ?_⟩⟩
              refine ext H' α' F' _ _ _ Ext.refl w' (walk_zip (K := X.K) (a := pa) (b := pb) (xs := us) (ys := ws) hll) (fun S2 H2 R2 α2 F2 e w2 => ⟨SqL.of (w2.fz _ _ (e.fr _ _ h2)), SqL.of (w2.fz _ _ (e.fr _ _ g2))⟩) fun i H1 x H2 S1 R1 α1 F1 hi e w1 y => ?_
              obtain ⟨t, x1, x2, rfl, k1, rfl, k3, k4⟩ := y
              exact pair h3 g3 (by rw [List.length_map, List.length_range] at hi; exact hi) e w1 k1 k3 k4
            | loc m =>
              exact live (fun _ z _ => z) rfl
            | _ => exact absurd rfl h0
          | loc m =>
            cases d2 with
            | lst zs => exact live (fun _ z _ => z) rfl
            | loc m' => exact live (fun _ z _ => z) rfl
            | _ =>
              have h0 : (match lstOf (.loc m) S', (none : Option (List D)) with
                | some xs, some ys => some (match xs[0]?, ys[0]? with
                  | some x, some y => some (D.tup [x, y])
                  | _, _ => none)
                | _, _ => none) ≠ none := h0
              cases q1 : lstOf (.loc m) S' with
              | none => rw [q1] at h0; exact absurd rfl h0
              | some xs => rw [q1] at h0; exact absurd rfl h0
          | tup ys =>
            cases d2 with
            | tup zs =>
              obtain ⟨pa, us, rfl, h2, h3⟩ := r1
              obtain ⟨pb, ws, rfl, g2, g3⟩ := r2
              have ext := ext0 (xs := (List.range (min ys.length zs.length)).map fun (k : Nat) => D.tup [ys.getD k .non, zs.getD k .non]) rfl
              have hll : ((List.range (min ys.length zs.length)).map fun (k : Nat) => D.tup [ys.getD k .non, zs.getD k .non]).length = min us.length ws.length := by rw [List.length_map, List.length_range, h3.length, g3.length]
              refine ⟨pa, pb, us, ws, rfl, .inr ⟨SqT.of (w'.fz _ _ h2), SqT.of (w'.fz _ _ g2), ?_⟩⟩
              refine ext H' α' F' _ _ _ Ext.refl w' (walk_zipT (K := X.K) (a := pa) (b := pb) (xs := us) (ys := ws) hll) (fun S2 H2 R2 α2 F2 e w2 => ⟨SqT.of (w2.fz _ _ (e.fr _ _ h2)), SqT.of (w2.fz _ _ (e.fr _ _ g2))⟩) fun i H1 x H2 S1 R1 α1 F1 hi e w1 y => ?_
              obtain ⟨t, x1, x2, rfl, k1, rfl, k3, k4⟩ := y
              exact pair h3 g3 (by rw [List.length_map, List.length_range] at hi; exact hi) e w1 k1 k3 k4
            | _ => exact absurd rfl h0
          | _ => exact absurd rfl h0
end
end Itp
namespace Itp
open PySem PySem.Spec PyProof.Rows L2
section
variable {g : Gb} {X : Cx}
theorem wipeG_len (γ : Gm) : ∀ vs, (wipeG γ vs).length = γ.length
  | [] => rfl
  | v :: vs => by unfold wipeG; rw [List.length_set, wipeG_len γ vs]
abbrev turnC (mf : Gm → Sto → Out Bool) (me : Gm → Sto → Out D) : Gm → Sto → Out (Option D) := fun γ' S => match mf γ' S with
  | .ok true S => (match me γ' S with | .ok d S => .ok (some d) S | _ => .bad)
  | .ok false S => .ok none S
  | _ => .bad
theorem loopC_eq {turn : Gm → Sto → Out (Option D)} {tg : Tg} {γ : Gm} {xs : List D} : ∀ (m i : Nat) (acc : List D) (S : Sto), m + i = xs.length → loopC turn tg γ (xs.drop i) acc S = loopCL turn tg γ (statI xs) (m + 1) i acc S
  | 0, i, acc, S, h => by
    have hi : i = xs.length := by omega
    subst hi
    rw [List.drop_length]
    unfold loopCL statI
    rw [List.getElem?_eq_none_iff.mpr (Nat.le_refl _)]
    rfl
  | m + 1, i, acc, S, h => by
    have hi : i < xs.length := by omega
    rw [List.drop_eq_getElem_cons hi]
    unfold loopC loopCL
    have e : statI xs S i = some (some xs[i]) := by unfold statI; rw [List.getElem?_eq_getElem hi]
    rw [e]
    dsimp only
    cases setTg tg xs[i] γ with
    | none => rfl
    | some γ' =>
      dsimp only
      cases turn γ' S with
      | bad => rfl
      | exc => rfl
      | ok o S' =>
        cases o with
        | none => exact loopC_eq m (i + 1) acc S' (by omega)
        | some x => exact loopC_eq m (i + 1) (acc ++ [x]) S' (by omega)
abbrev lcM (k : IK) (tg : Tg) (own : List Nat) (ml : Gm → Sto → Out (List D)) (mf : Gm → Sto → Out Bool) (me : Gm → Sto → Out D) : Gm → Sto → Out D := fun γ S => (ml γ S).bind fun ds S => match itD k ds S with
    | some xs => if xs.length ≤ 16777216 then (loopC (turnC mf me) tg (wipeG γ own) xs [] S).bind fun ys S => .ok (.lst ys) S else .bad
    | none => (loopCL (turnC mf me) tg (wipeG γ own) (liveD k ds) 16777217 0 [] S).bind fun ys S => .ok (.lst ys) S
/-- behind an expression that makes a list: the list is nobody's yet -/
def AftF (K : PySem.W.Frag) (g : Gb) (R : Hp) (α : Nat → Option Addr) (F : Hp) (o : Out D) (Q : VK) : Prop := match o with
  | .ok (.lst xs) S' => ∀ p vs H' α' F', Ext α F α' F' → World K g (upd R p (.lst vs)) α' F' S' H' → R p = none → Reps K g α' F' xs vs → Q (.ref p) H'
  | _ => False
def tFr (K : PySem.W.Frag) (g : Gb) (m : Gm → Sto → Out D) : TE := fun σ H Q => ∃ γ S α F R, Slots K g α F γ σ ∧ World K g R α F S H ∧ AftF K g R α F (m γ S) Q
theorem AftF.ext {K : PySem.W.Frag} {R : Hp} {α α' : Nat → Option Addr} {F F' : Hp} {o : Out D} {Q : VK} (e : Ext α F α' F') (h : AftF K g R α F o Q) : AftF K g R α' F' o Q := by
  unfold AftF at h ⊢
  split at h
  · exact fun p vs H' α2 F2 e2 => h p vs H' α2 F2 (e.trans e2)
  · exact h
theorem tFr_of {K : PySem.W.Frag} {m : Gm → Sto → Out D} (hm : ∀ γ S d S', m γ S = .ok d S' → ∃ xs, d = .lst xs) {σ : L2.St} {H : Hp} {Q : VK} (h : tI K g m σ H Q) : tFr K g m σ H Q := by
  obtain ⟨γ, S, α, F, R, s, w, h⟩ := h
  refine ⟨γ, S, α, F, R, s, w, ?_⟩
  cases q : m γ S with
  | exc => rw [q] at h; exact h
  | bad => rw [q] at h; exact h
  | ok d S' =>
    obtain ⟨xs, rfl⟩ := hm γ S d S' q
    rw [q] at h
    intro p vs H' α' F' e w' hp r
    obtain ⟨w2, e2⟩ := w'.unframe hp
    exact h _ H' α' _ (e.trans e2) w2 ⟨p, vs, rfl, upd_same, Reps.mono e2 _ _ r⟩
theorem World.unframeS {K : PySem.W.Frag} {R F H : Hp} {α : Nat → Option Addr} {S : Sto} {p : Addr} {xs : List D} {vs : List V} (w : World K g (upd R p (.lst vs)) α F S H) (hp : R p = none) (r : Reps K g α F xs vs) : World K g R (pushA α S.length p) F (S ++ [.lst xs]) H := by
  obtain ⟨h1, h2, h3⟩ := w.fr p _ upd_same
  have e := w.push_ext (p := p)
  refine ⟨w.fz, fun n o h => ?_, fun n m a hn hm => ?_, fun n a h => ?_, fun n h => ?_, fun a o h => ?_⟩
  · by_cases hn : n < S.length
    · rw [List.getElem?_append_left hn] at h
      cases o with
      | dead => trivial
      | lst xs =>
        refine SOk.mono e (fun a ha => ⟨?_, rfl⟩) (w.st n _ h)
        obtain ⟨b, _, k1, k2, _⟩ := w.st n _ h
        rw [ha] at k1; cases k1; exact k2
      | ins c ns ds =>
        refine SOk.mono e (fun a ha => ⟨?_, rfl⟩) (w.st n _ h)
        obtain ⟨b, _, _, k1, k2, _⟩ := w.st n _ h
        rw [ha] at k1; cases k1; exact k2
      | dK ks ds =>
        refine SOk.mono e (fun a ha => ⟨?_, rfl⟩) (w.st n _ h)
        obtain ⟨b, _, k1, k2, _⟩ := w.st n _ h
        rw [ha] at k1; cases k1; exact k2
      | dT ks ds =>
        refine SOk.mono e (fun a ha => ⟨?_, rfl⟩) (w.st n _ h)
        obtain ⟨b, _, k1, k2, _⟩ := w.st n _ h
        rw [ha] at k1; cases k1; exact k2
    · have : n = S.length := by
        have := (List.getElem?_eq_some_iff.mp h).1
        simp at this
        omega
      subst this
      rw [List.getElem?_append_right (Nat.le_refl _), Nat.sub_self] at h
      cases h
      exact ⟨p, vs, by unfold pushA; rw [if_pos rfl], h2, h1, Reps.mono e _ _ r⟩
  · unfold pushA at hn hm
    split at hn
    · rename_i z1
      cases hn
      split at hm
      · rename_i z2; rw [z1, z2]
      · exact absurd hm (h3 m)
    · split at hm
      · cases hm; exact absurd hn (h3 n)
      · exact w.inj n m a hn hm
  · unfold pushA at h
    split at h
    · cases h; rw [h1]; exact Option.some_ne_none _
    · exact w.occ n a h
  · rw [List.length_append] at h
    unfold pushA
    rw [if_neg (by simp at h; omega)]
    exact w.bd n (by simp at h; omega)
  · have q : a ≠ p := fun z => by rw [z, hp] at h; cases h
    obtain ⟨k1, k2, k3⟩ := w.fr a o (by rw [upd_ne q]; exact h)
    refine ⟨k1, k2, fun n z => ?_⟩
    unfold pushA at z
    split at z
    · cases z; exact q rfl
    · exact k3 n z
theorem je_trk {a : Expr} {ma : Gm → Sto → Out D} (hm : ∀ γ S d S', ma γ S = .ok d S' → ∃ xs, d = .lst xs) (ha : PE X a (tFr X.K g ma)) : PE X a (tI X.K g fun γ S => (ma γ S).bind trkD) := by
  refine ha.imp fun σ H Q h => ?_
  obtain ⟨γ, S, α, F, R, s, w, h⟩ := h
  refine ⟨γ, S, α, F, R, s, w, ?_⟩
  dsimp only at h
  cases q : ma γ S with
  | exc => rw [q] at h; exact h
  | bad => rw [q] at h; exact h
  | ok d S' =>
    obtain ⟨xs, rfl⟩ := hm γ S d S' q
    rw [q] at h
    intro p vs H' α' F' e w' hp r
    exact h _ H' _ F' (e.trans w'.push_ext) (w'.unframeS hp r) ⟨p, rfl, by unfold pushA; rw [if_pos rfl]⟩
theorem bfl_lst {ds : List D} {S : Sto} {d : D} (h : bfD .list ds S = some d) : ∃ xs, d = .lst xs := by
  match ds, h with
  | [.tup xs], h => exact ⟨xs, (Option.some.inj h).symm⟩
  | [.str x], h => exact ⟨signs x, (Option.some.inj h).symm⟩
  | [.lst xs], h => exact ⟨xs, (Option.some.inj h).symm⟩
  | [.loc m], h =>
    have h : (lstOf (.loc m) S).map D.lst = some d := h
    cases q : lstOf (.loc m) S with
    | none => rw [q] at h; cases h
    | some xs => rw [q] at h; exact ⟨xs, (Option.some.inj h).symm⟩
  | [.non], h => cases h
  | [.bl _], h => cases h
  | [.int _], h => cases h
  | [.obj ..], h => cases h
  | [.scr _], h => cases h
  | [.cls _], h => cases h
  | [.dK ..], h => cases h
  | [.dT ..], h => cases h
  | [], h => cases h
  | a :: _ :: _, h => cases a <;> cases h
/-- list(..), nobody's yet -/
theorem je_listF {T : Tab} {cal : Nat → List D → Sto → Out D} {n : Nat} {sc : Scope} {f a : Expr} {es : List Expr} {ml : Gm → Sto → Out (List D)} {pos : Pos} (C : Cok T g cal X n) (hs : ScOk X sc) (hf : blt T sc "list" f = true) (hn : (a :: es).all noStar = true) (ha : PA X (a :: es) (tIs X.K g ml)) :
    PE X (.Call f (a :: es) [] pos) (tFr X.K g fun γ S => (ml γ S).bind fun ds S => ofO (bfD .list ds S) S) := by
  obtain ⟨⟨p, rfl⟩, hg, hm, h1, h2⟩ := blt_of C hs hf
  have hn' : noStar a = true ∧ es.all noStar = true := by rw [List.all_cons, Bool.and_eq_true] at hn; exact hn
  refine (pe_callTy ((call_list_txt C.calm).or call_list_of) hg hm boot_list ha h1 h2 (star_cons hn'.1) (star_none hn'.2)).imp fun σ H Q h => ?_
  obtain ⟨γ, S, α, F, R, s, w, h⟩ := h
  refine ⟨γ, S, α, F, R, s, w, ?_⟩
  dsimp only at h
  cases q : ml γ S with
  | exc => rw [q] at h; exact h
  | bad => rw [q] at h; exact h
  | ok ds S' =>
    rw [q] at h
    intro vs H' α' F' e' w' r
    have h : AftF X.K g R α F (ofO (bfD .list ds S') S') Q := h
    cases q2 : bfD .list ds S' with
    | none => rw [q2] at h; exact False.elim h
    | some d =>
      rw [q2] at h
      obtain ⟨xs, rfl⟩ := bfl_lst q2
      have h : ∀ p vs H' α' F', Ext α F α' F' → World X.K g (upd R p (.lst vs)) α' F' S' H' → R p = none → Reps X.K g α' F' xs vs → Q (.ref p) H' := h
      have fin : ∀ {us : List V} (l : Addr), Reps X.K g α' F' xs us → H' l = none → Q (.ref l) (upd H' l (.lst us)) := fun {us} l r hl => h l us _ α' F' e' (w'.frame hl) (w'.rnone hl) r
      have one : ∀ d, ds = [d] → ∃ v, vs = [v] ∧ Rep X.K g α' F' d v := fun d z => by subst z; exact reps_one r
      match ds, q2, one with
      | [.tup ys], q2, one =>
        obtain ⟨v, rfl, rv⟩ := one _ rfl
        cases q2
        obtain ⟨pa, us, rfl, k2, k3⟩ := rv
        exact .inr ⟨pa, us, rfl, .inr (SqT.of (w'.fz _ _ k2)), fun l hl => fin l k3 hl⟩
      | [.str x], q2, one =>
        obtain ⟨v, rfl, rv⟩ := one _ rfl
        cases q2
        obtain ⟨rfl, ok⟩ := rv
        exact .inl ⟨x, rfl, okS_len ok, fun l hl => fin l (reps_signs ok) hl⟩
      | [.lst ys], q2, one =>
        obtain ⟨v, rfl, rv⟩ := one _ rfl
        cases q2
        obtain ⟨pa, us, rfl, k2, k3⟩ := rv
        exact .inr ⟨pa, us, rfl, .inl (SqL.of (w'.fz _ _ k2)), fun l hl => fin l k3 hl⟩
      | [.loc m], q2, one =>
        obtain ⟨v, rfl, rv⟩ := one _ rfl
        have q2 : (lstOf (.loc m) S').map D.lst = some (.lst xs) := q2
        cases q3 : lstOf (.loc m) S' with
        | none => rw [q3] at q2; cases q2
        | some ys =>
          rw [q3] at q2
          cases q2
          obtain ⟨pa, us, rfl, k2, k3⟩ := lst_of w' rv q3
          exact .inr ⟨pa, us, rfl, .inl (SqL.of k2), fun l hl => fin l k3 hl⟩
      | [.non], h, _ => cases h
      | [.bl _], h, _ => cases h
      | [.int _], h, _ => cases h
      | [.obj ..], h, _ => cases h
      | [.scr _], h, _ => cases h
      | [.cls _], h, _ => cases h
      | [.dK ..], h, _ => cases h
      | [.dT ..], h, _ => cases h
      | [], h, _ => cases h
      | a :: _ :: _, h, _ => cases a <;> cases h
theorem lcM_lst {k : IK} {tg : Tg} {own : List Nat} {ml : Gm → Sto → Out (List D)} {mf : Gm → Sto → Out Bool} {me : Gm → Sto → Out D} {γ : Gm} {S : Sto} {d : D} {S' : Sto} (h : lcM k tg own ml mf me γ S = .ok d S') : ∃ xs, d = .lst xs := by
  unfold lcM at h
  obtain ⟨ds, S1, h1, h⟩ := bind_ok h
  split at h
  · split at h
    · obtain ⟨ys, S2, h2, h⟩ := bind_ok h
      cases h
      exact ⟨ys, rfl⟩
    · cases h
  · obtain ⟨ys, S2, h2, h⟩ := bind_ok h
    cases h
    exact ⟨ys, rfl⟩
theorem lc_ofF {k : IK} {tg : Tg} {own : List Nat} {ml : Gm → Sto → Out (List D)} {mf : Gm → Sto → Out Bool} {me : Gm → Sto → Out D} {σ : L2.St} {H : Hp} {Q : VK} (ht : ∀ i ∈ tg.slots, i ∈ own)
    (h : tFr X.K g (lcM k tg own ml mf me) σ H Q) : tLc (iI X.K g k ml) (gI X.K g tg) (tIb X.K g mf) (tI X.K g me) own σ H Q := by
  obtain ⟨γ, S, α, F, R, s, w, h⟩ := h
  refine ⟨γ, S, α, F, R, s, w, ?_⟩
  unfold lcM at h
  cases q : ml γ S with
  | exc => rw [q] at h; exact h
  | bad => rw [q] at h; exact h
  | ok ds S' =>
    rw [q] at h
    dsimp only [Out.bind] at h
    have hf : ∃ fuel, fuel ≤ 16777217 ∧ AftF X.K g R α F ((loopCL (turnC mf me) tg (wipeG γ own) (itF k ds S') fuel 0 [] S').bind fun ys S => .ok (.lst ys) S) Q := by
      cases q2 : itD k ds S' with
      | none => rw [q2] at h; rw [itF_no q2]; exact ⟨_, Nat.le_refl _, h⟩
      | some xs =>
        rw [q2] at h
        dsimp only at h
        split at h
        · rename_i hz
          have e := loopC_eq (turn := turnC mf me) (tg := tg) (γ := wipeG γ own) (xs := xs) xs.length 0 [] S' (by omega)
          rw [List.drop_zero] at e
          rw [e] at h
          rw [itF_of q2]
          exact ⟨xs.length + 1, by omega, h⟩
        · exact False.elim h
    clear h
    obtain ⟨fuel, hfu, h⟩ := hf
    generalize hit : itF k ds S' = it at h
    refine ⟨fun z => ?_, fun H' α' F' J e' w' lv D hD => ?_⟩
    · rw [hit] at z
      cases fuel with
      | zero => exact False.elim h
      | succ m =>
        unfold loopCL at h
        rw [z] at h
        exact False.elim h
    rw [hit] at lv
    have hR : R D = none := w'.rnone hD
    refine ⟨fun i m H => ∃ S1 α1 F1 accD accV, Ext α' F' α1 F1 ∧ World X.K g (upd R D (.lst accV)) α1 F1 S1 H ∧ Reps X.K g α1 F1 accD accV ∧ accD.length ≤ i ∧ m + i ≤ 16777217 ∧ Reach it i ∧
      AftF X.K g R α1 F1 ((loopCL (turnC mf me) tg (wipeG γ own) it m i accD S1).bind fun ys S => .ok (.lst ys) S) Q, ⟨fuel, S', α', F', [], [], Ext.refl, w'.frame hD, rfl, Nat.le_refl _, by omega, .inl rfl, AftF.ext e' h⟩, ?_⟩
    rintro i m H1 ⟨S1, α1, F1, accD, accV, e1, w1, ra, hl, hm, hr, ha⟩
    cases m with
    | zero => exact False.elim ha
    | succ m =>
      obtain ⟨stop, go⟩ := lv i S1 H1 _ α1 F1 hr e1 w1
      unfold loopCL at ha
      cases qi : it S1 i with
      | none => rw [qi] at ha; exact False.elim ha
      | some o =>
        cases o with
        | none =>
          rw [qi] at ha
          refine .inl ⟨stop qi, ?_⟩
          have ha : AftF X.K g R α1 F1 (.ok (.lst accD) S1) Q := ha
          exact ha D accV H1 α1 F1 Ext.refl w1 hR ra
        | some d =>
          obtain ⟨g1, g2⟩ := go d qi
          rw [qi] at ha
          dsimp only at ha
          have hr' : Reach it (i + 1) := .inr ⟨S1, d, qi⟩
          refine .inr ⟨g1, fun H => ∃ S1 α1 F1 accD accV, Ext α' F' α1 F1 ∧ World X.K g (upd R D (.lst accV)) α1 F1 S1 H ∧ Reps X.K g α1 F1 accD accV ∧ accD.length ≤ i + 1 ∧ m + (i + 1) ≤ 16777217 ∧ Reach it (i + 1) ∧
            AftF X.K g R α1 F1 ((loopCL (turnC mf me) tg (wipeG γ own) it m (i + 1) accD S1).bind fun ys S => .ok (.lst ys) S) Q, fun H' z => ⟨m, Nat.lt_succ_self m, z⟩, fun x H2 y => ?_⟩
          obtain ⟨α2, F2, e2, w2, rd⟩ := g2 x H2 y
          cases qg : setTg tg d (wipeG γ own) with
          | none => rw [qg] at ha; exact False.elim ha
          | some γ' =>
            rw [qg] at ha
            dsimp only at ha
            have s2 : Slots X.K g α2 F2 (wipeG γ own) (L2.wipe σ own) := (s.mono ((e'.trans e1).trans e2)).wipe own
            refine ⟨d, wipeG γ own, γ', S1, α2, F2, _, rd, s2, w2, qg, fun σ' s' wp => ⟨?_, ?_⟩⟩
            · rw [wp own ht]
              exact wipe_wipe fun v hv => hv
            · refine ⟨γ', S1, α2, F2, _, s', w2, ?_⟩
              unfold turnC at ha
              cases qf : mf γ' S1 with
              | exc => rw [qf] at ha; exact False.elim ha
              | bad => rw [qf] at ha; exact False.elim ha
              | ok b S2 =>
                rw [qf] at ha
                intro b' H3 α3 F3 e3 w3 eb
                subst eb
                cases b with
                | false =>
                  rw [if_neg Bool.false_ne_true]
                  exact ⟨S2, α3, F3, accD, accV, (e1.trans e2).trans e3, w3, Reps.mono (e2.trans e3) _ _ ra, by omega, by omega, hr', AftF.ext (e2.trans e3) ha⟩
                | true =>
                  rw [if_pos rfl]
                  refine ⟨γ', S2, α3, F3, _, s'.mono e3, w3, ?_⟩
                  dsimp only at ha
                  cases qe : me γ' S2 with
                  | exc => rw [qe] at ha; exact False.elim ha
                  | bad => rw [qe] at ha; exact False.elim ha
                  | ok z S3 =>
                    rw [qe] at ha
                    intro vz H4 α4 F4 e4 w4 rz
                    have ra4 := Reps.mono ((e2.trans e3).trans e4) _ _ ra
                    have hm1 : 1 ≤ m := by
                      cases m with
                      | zero => exact False.elim ha
                      | succ m => omega
                    refine ⟨accV, (w4.fr D _ upd_same).1, ?_, ?_⟩
                    · rw [← ra.length, size16]; omega
                    · refine ⟨S3, α4, F4, accD ++ [z], accV ++ [vz], ((e1.trans e2).trans e3).trans e4, w4.reframe, ra4.app ⟨vz, [], rfl, rz, rfl⟩, by simp; omega, by omega, hr', AftF.ext ((e2.trans e3).trans e4) ha⟩
/-! ### a block's names -/
theorem lookup_map {f : Str × NameKind → Str × NameKind} (hf : ∀ p, (f p).1 = p.1) : ∀ (l : List (Str × NameKind)) (x : Str), (l.map f).lookup x = (l.lookup x).map fun k => (f (x, k)).2
  | [], _ => rfl
  | (n, k) :: r, x => by
    rw [List.map_cons]
    have h1 : f (n, k) = (n, (f (n, k)).2) := Prod.ext (hf (n, k)) rfl
    rw [h1, List.lookup_cons, List.lookup_cons]
    by_cases hx : x = n
    · subst hx; simp
    · have : (x == n) = false := by simpa using hx
      rw [this]
      exact lookup_map hf r x
theorem scok_blk {sc scope : Scope} {own : List (Str × Nat)} {s : Shared} {H : Hp} {C : Addr} {cl : List (Str × Addr)} {fp : List Addr} (hk : scope.kind = .function) : ScOk (X.blk s H scope (compEnvC scope cl C X.env) fp) scope := by
  have lk : ∀ x, (relabel scope X.env).names.lookup x = (scope.names.lookup x).map fun k => if (k == .free && X.env.scope.kind == .function && X.env.kindOf x == some .cell) then NameKind.cell else k := by
    intro x
    unfold relabel
    rw [lookup_map (f := fun (n, k) => if (k == .free && X.env.scope.kind == .function && X.env.kindOf n == some .cell) then (n, .cell) else (n, k))]
    · congr 1
      funext k
      dsimp only
      split <;> rfl
    · intro p
      dsimp only
      split <;> rfl
  have lk2 : ∀ x k, scope.names.lookup x = some k → k ≠ .free → (relabel scope X.env).names.lookup x = some k := by
    intro x k h hk
    rw [lk, h]
    cases k <;> first | rfl | exact absurd rfl hk
  refine ⟨fun x h => ?_, fun x h => ?_, fun x h => ?_, fun x h => ?_, fun x h => lk2 x _ h (by decide)⟩
  · unfold visB at h
    cases q : scope.names.lookup x with
    | none => rw [q] at h; cases h
    | some k =>
      rw [q] at h
      cases k with
      | «local» => exact .inl (lk2 x _ q (by decide))
      | cell => exact .inr (.inl (lk2 x _ q (by decide)))
      | free =>
        have e := lk x
        rw [q] at e
        show (relabel scope X.env).names.lookup x = _ ∨ (relabel scope X.env).names.lookup x = _ ∨ (relabel scope X.env).names.lookup x = _
        rw [e]
        simp only [Option.map_some]
        split
        · exact .inr (.inl rfl)
        · exact .inr (.inr rfl)
      | globalExplicit => cases h
      | globalImplicit => cases h
  · unfold gloB at h
    cases q : scope.names.lookup x with
    | none => rw [q] at h; cases h
    | some k =>
      rw [q] at h
      cases k with
      | globalImplicit => exact lk2 x _ q (by decide)
      | _ => cases h
  · unfold stoB at h
    cases q : scope.names.lookup x with
    | none => rw [q] at h; cases h
    | some k =>
      rw [q] at h
      cases k with
      | «local» => exact ⟨.inl (lk2 x _ q (by decide)), .inr (lk2 x _ q (by decide))⟩
      | cell => exact ⟨.inr (lk2 x _ q (by decide)), .inl (by show (scope.names.lookup x == some .cell) = true; rw [q]; rfl)⟩
      | _ => cases h
  · show (relabel scope X.env).names.lookup x = _ ∨ (relabel scope X.env).names.lookup x = _
    rw [lk]
    rcases h with h | h <;> rw [h] <;> simp only [Option.map_some]
    · exact .inl rfl
    · split
      · exact .inl rfl
      · exact .inr rfl
theorem blk_of {N : List Str} {sc scope : Scope} {own : List (Str × Nat)} (hs : ScOk X sc) (h : blkC N sc scope own = true) : BlkOk N X.env.scope scope own := by
  obtain ⟨h1, h2, h3, h4, h5⟩ := blkOk_by h
  exact ⟨h1, h2, h3, fun y hy e => hs.fre _ (h4 y hy e), h5⟩
theorem own_snd (N : List Str) : ∀ own : List Nat, (own.map fun i => (N.getD i "", i)).map (·.2) = own
  | [] => rfl
  | i :: r => by
    rw [List.map_cons, List.map_cons, own_snd N r]
end
end Itp
namespace Itp
open PySem PySem.Spec PyProof.Rows L2
def E.ns : E → Bool
  | .star _ => false
  | _ => true
theorem evs_cons {cal : Nat → List D → Sto → Out D} {e : E} {es : List E} (h : e.ns = true) : evs cal (e :: es) = fun γ S => (ev cal e γ S).bind fun d S => (evs cal es γ S).bind fun ds S => .ok (d :: ds) S := by
  funext γ S
  cases e <;> first | (cases h; done) | rfl | (conv => lhs; unfold evs)
theorem evs_star {cal : Nat → List D → Sto → Out D} {e : E} {es : List E} : evs cal (.star e :: es) = fun γ S => (ev cal e γ S).bind fun d S => (ofO (seqOf d S) S).bind fun xs S => (evs cal es γ S).bind fun ds S => .ok (xs ++ ds) S := by
  funext γ S
  rw [evs]
theorem evs_nil {cal : Nat → List D → Sto → Out D} : evs cal [] = fun _ S => .ok [] S := by
  funext γ S
  rw [evs]
section
variable {X : Cx} {g : Gb} {cal : Nat → List D → Sto → Out D}
/-- the parts of an f-string -/
def JJ (X : Cx) (g : Gb) (cal : Nat → List D → Sto → Out D) (es : List E) (ps : List Expr) : Prop :=
  ∃ ts, PJ X ps ts ∧ ∀ (acc : Str) (γ : Gm) (S : Sto) (α : Nat → Option Addr) (F R : Hp) (σ : L2.St) (H : Hp) (Q : VK), okS acc = true → Slots X.K g α F γ σ → World X.K g R α F S H →
    Aft X.K g R (Rep X.K g) α F ((evs cal es γ S).bind fun ds S => ofO ((fstD ds acc).map .str) S) Q → tJs ts acc σ H fun out H1 => Q (.str out) H1
theorem jj_nil : JJ X g cal [] [] := by
  refine ⟨[], .nil, fun acc γ S α F R σ H Q ok s w h => ?_⟩
  rw [evs_nil] at h
  exact Aft.now (d := .str acc) h w ⟨rfl, ok⟩
theorem jj_cons {e : E} {es : List E} {p : Expr} {ps : List Expr} {t : TE} (hn : e.ns = true) (hp : PE X p t) (ht : ∀ σ H (Q : VK), tI X.K g (ev cal e) σ H (fun x H1 => (∃ y : Str, x = .str y ∧ y.length ≤ sizeLine ∧ Q (.str y) H1) ∨ ∃ i : Int, x = .int i ∧ i.natAbs.log2 < 1920 ∧ Q (.str (toString i)) H1) → t σ H Q) (J : JJ X g cal es ps) : JJ X g cal (e :: es) (p :: ps) := by
  obtain ⟨ts, J1, J2⟩ := J
  refine ⟨t :: ts, .cons hp J1, fun acc γ S α F R σ H Q ok s w h => ?_⟩
  refine ht σ H _ ?_
  rw [evs_cons hn] at h
  dsimp only at h
  refine ⟨γ, S, α, F, R, s, w, ?_⟩
  cases q : ev cal e γ S with
  | exc => rw [q] at h; exact h
  | bad => rw [q] at h; exact h
  | ok d S1 =>
    rw [q] at h
    intro v H1 α1 F1 e1 w1 r1
    have h : Aft X.K g R (Rep X.K g) α F (((evs cal es γ S1).bind fun ds S => .ok (d :: ds) S).bind fun ds S => ofO ((fstD ds acc).map .str) S) Q := h
    have step : ∀ (y : Str), okS y = true → (∀ ds, fstD (d :: ds) acc = if acc.length + y.length ≤ 16777216 then fstD ds (acc ++ y) else none) → (acc ++ y).length ≤ sizeLine ∧ tJs ts (acc ++ y) σ H1 fun out H1 => Q (.str out) H1 := by
      intro y oy hy
      by_cases hz : acc.length + y.length ≤ 16777216
      · refine ⟨by rw [size16]; show (acc.cps ++ y.cps).size ≤ _; rw [Array.size_append]; exact hz, ?_⟩
        refine J2 (acc ++ y) γ S1 α1 F1 R σ H1 Q (okS_app ok oy hz) (s.mono e1) w1 (Aft.ext e1 ?_)
        cases q2 : evs cal es γ S1 with
        | exc => rw [q2] at h; exact h
        | bad => rw [q2] at h; exact h
        | ok ds S2 =>
          rw [q2] at h
          have h : Aft X.K g R (Rep X.K g) α F (ofO ((fstD (d :: ds) acc).map .str) S2) Q := h
          rw [hy, if_pos hz] at h
          exact h
      · exfalso
        cases q2 : evs cal es γ S1 with
        | exc => rw [q2] at h; exact h
        | bad => rw [q2] at h; exact h
        | ok ds S2 =>
          rw [q2] at h
          have h : Aft X.K g R (Rep X.K g) α F (ofO ((fstD (d :: ds) acc).map .str) S2) Q := h
          rw [hy, if_neg hz] at h
          exact h
    cases d with
    | str y =>
      obtain ⟨rfl, oy⟩ := r1
      obtain ⟨k1, k2⟩ := step y oy fun ds => rfl
      exact .inl ⟨y, rfl, okS_len oy, y, rfl, k1, k2⟩
    | int i =>
      cases r1
      by_cases hi : i.natAbs < 2 ^ 64
      · obtain ⟨k1, k2⟩ := step (toString i) (okS_num i hi) fun ds => by
          show (if i.natAbs < 2 ^ 64 ∧ acc.length + Str.length (toString i) ≤ 16777216 then fstD ds (acc ++ (toString i : Str)) else none) = _
          by_cases hz : acc.length + Str.length (toString i) ≤ 16777216
          · rw [if_pos ⟨hi, hz⟩, if_pos hz]
          · rw [if_neg (fun z => hz z.2), if_neg hz]
        exact .inr ⟨i, rfl, log2_small hi, toString i, rfl, k1, k2⟩
      · exfalso
        cases q2 : evs cal es γ S1 with
        | exc => rw [q2] at h; exact h
        | bad => rw [q2] at h; exact h
        | ok ds S2 =>
          rw [q2] at h
          have h : Aft X.K g R (Rep X.K g) α F (ofO ((if i.natAbs < 2 ^ 64 ∧ acc.length + Str.length (toString i) ≤ 16777216 then fstD ds (acc ++ (toString i : Str)) else none).map .str) S2) Q := h
          rw [if_neg (fun z => hi z.1)] at h
          exact h
    | _ =>
      exfalso
      cases q2 : evs cal es γ S1 with
      | exc => rw [q2] at h; exact h
      | bad => rw [q2] at h; exact h
      | ok ds S2 => rw [q2] at h; exact h
theorem je_fst {es : List E} {v u : Expr} {vs : List Expr} {pos : Pos} (J : JJ X g cal es (v :: u :: vs)) : PE X (.JoinedStr (v :: u :: vs) pos) (tI X.K g fun γ S => (evs cal es γ S).bind fun ds S => ofO ((fstD ds Str.empty).map .str) S) := by
  obtain ⟨ts, J1, J2⟩ := J
  refine (pe_joined J1).imp fun σ H Q h => ?_
  obtain ⟨γ, S, α, F, R, s, w, h⟩ := h
  exact J2 Str.empty γ S α F R σ H Q (by decide +kernel) s w h
theorem eqO_bl {cal : Nat → List D → Sto → Out D} {neg : Bool} {tb sb : List (Nat × Nat)} {x y d : D} {S S' : Sto} (h : noX (eqO cal neg tb sb x y S) = .ok d S') : ∃ k, d = .bl k := by
  have h : eqO cal neg tb sb x y S = .ok d S' := by
    cases q : eqO cal neg tb sb x y S with
    | ok b S1 => rw [q] at h; exact h
    | exc => rw [q] at h; cases h
    | bad => rw [q] at h; cases h
  have go : ∀ {o : Out D}, o.bind (asBl neg) = .ok d S' → ∃ k, d = .bl k := by
    intro o z
    obtain ⟨b, S1, z1, z2⟩ := bind_ok z
    cases b with
    | bl k => cases z2; exact ⟨_, rfl⟩
    | _ => cases z2
  unfold eqO at h
  repeat' split at h
  all_goals first | exact go h | cases h
theorem jt_oeq {T : Tab} {n : Nat} {a b : Expr} {ma mb : Gm → Sto → Out D} {pos : Pos} {tb sb : List (Nat × Nat)} (neg : Bool) (C : Cok T g cal X n) (hm : noSet b = true) (ha : PE X a (tI X.K g ma)) (hb : PE X b (tI X.K g mb)) (ht : ∀ q ∈ tb, q ∈ T.oeq ∧ (q.2, [], ⟨2, false, [.pos 0, .pos 1]⟩) ∈ T.kb) (hsb : ∀ c k, c < g.nc → k < g.nc → sb.contains (c, k) = (c != k && g.sub k c)) :
    PT X (.Compare a [if neg then .NotEq else .Eq] [b] pos) (tT X.K g fun γ S => (ma γ S).bind fun x S => (mb γ S).bind fun y S => noX (eqO cal neg tb sb x y S)) := by
  refine (pt_cmpR (op_oeq neg C ht hsb) ha hb (mark_of hm)).imp fun σ H Q h => ?_
  have h := tI_bl h fun γ S d S' q => by
    obtain ⟨x, S1, q1, q⟩ := bind_ok q
    obtain ⟨y, S2, q2, q⟩ := bind_ok q
    exact eqO_bl q
  exact tOp_of h fun x y vx vy S H α F R w rx ry h => ⟨x, y, S, α, F, R, w, rx, ry, noX_of h⟩
theorem je_nev {py : Expr} : PE X py (tI X.K g fun _ _ => .bad) := ⟨fun pins s σ H Q I h => by
  obtain ⟨γ, S, α, F, R, s, w, h⟩ := h
  exact False.elim h⟩
end
end Itp
namespace Itp
open PySem PySem.Spec PyProof.Rows L2
section
variable {T : Tab} {g : Gb} {cal : Nat → List D → Sto → Out D} {n : Nat} {X : Cx} {a b c o : Expr} {ma mb mo : Gm → Sto → Out D} {ml mk : Gm → Sto → Out (List D)} {pos apos p : Pos} {as : List Expr} {kws : List Keyword} {ks : List Str} {sc : Scope}
/-! ### list(range(n)) -/
theorem reps_rg {K : PySem.W.Frag} {α : Nat → Option Addr} {F : Hp} {f : Nat → Int} : ∀ (l : List Nat), Reps K g α F (l.map fun k => .int (f k)) (l.map fun k => .int (f k))
  | [] => rfl
  | k :: l => ⟨_, _, rfl, rfl, reps_rg l⟩
theorem je_lrng {f h : Expr} {p2 : Pos} (C : Cok T g cal X n) (hs : ScOk X sc) (hf : blt T sc "list" f = true) (hh : blt T sc "range" h = true) (hn : noStar a = true) (ha : PE X a (tI X.K g ma)) :
    PE X (.Call f [.Call h [a] [] p2] [] pos) (tI X.K g fun γ S => ((ma γ S).bind fun d S => .ok [d] S).bind fun ds S => ofO (bfD .lrng ds S) S) := by
  obtain ⟨⟨p, rfl⟩, hg, hm, _, _⟩ := blt_of C hs hf
  obtain ⟨⟨p', rfl⟩, hg', hm', _, _⟩ := blt_of C hs hh
  refine (pe_listRg C.calm hg hm (prg_1 hg' hm' ha (star_cons hn)) rfl).imp fun σ H Q h => ?_
  obtain ⟨γ, S, α, F, R, s, w, h⟩ := h
  refine ⟨γ, S, α, F, R, s, w, ?_⟩
  dsimp only at h
  cases q : ma γ S with
  | exc => rw [q] at h; exact h
  | bad => rw [q] at h; exact h
  | ok d S' =>
    rw [q] at h
    intro v H' α' F' e w' r
    have h : Aft X.K g R (Rep X.K g) α F (ofO (bfD .lrng [d] S') S') Q := h
    cases d with
    | int k =>
      cases r
      have h : Aft X.K g R (Rep X.K g) α F (ofO (if -(2 ^ 62) ≤ k ∧ k ≤ 16777216 then some (.lst ((List.range k.toNat).map fun (k : Nat) => .int (k : Int))) else none) S') Q := h
      split at h
      · rename_i hk
        refine ⟨k, rfl, ⟨by decide, by decide, hk.1, by omega, by omega⟩, fun q hq => ?_⟩
        have h := Aft.ext e h
        obtain ⟨w2, e2⟩ := w'.lay (p := q) (o := .lst (rgV 0 k)) hq
        refine h _ _ _ _ e2 w2 ⟨q, rgV 0 k, rfl, upd_same, ?_⟩
        have e3 : rgV 0 k = (List.range k.toNat).map fun (i : Nat) => V.int (i : Int) := by
          unfold rgV
          rw [Int.sub_zero]
          congr 1
          funext i
          rw [Int.zero_add]
        rw [e3]
        exact reps_rg (f := fun (i : Nat) => (i : Int)) (List.range k.toNat)
      · exact False.elim h
    | _ => exact False.elim h
theorem je_lrB {f h : Expr} {p2 : Pos} {bb : BF} (hb : bb.isLr = true) (C : Cok T g cal X n) (hs : ScOk X sc) (hf : blt T sc "list" f = true) (hh : blt T sc "range" h = true) (hn : noStar a = true) (ha : PE X a (tI X.K g ma)) :
    PE X (.Call f [.Call h [a] [] p2] [] pos) (tI X.K g fun γ S => ((ma γ S).bind fun d S => .ok [d] S).bind fun ds S => ofO (bfD bb ds S) S) := by
  cases bb <;> first | (cases hb; done) | skip
  exact je_lrng C hs hf hh hn ha
theorem lr_fresh {bb : BF} {es : List E} (hb : bb.isLr = true) : isFresh (.bf bb es) = false := by
  cases bb <;> first | (cases hb; done) | rfl
/-! ### xs.insert(i, y) -/
theorem je_ins (hn : noStar a = true) (hn' : noStar b = true) (hb : noSup o = true) (hl : apos.endLine = pos.line) (ho : PE X o (tI X.K g mo)) (ha : PA X [a, b] (tIs X.K g ml)) (h2 : ∀ γ S ds S', ml γ S = .ok ds S' → ds.length = 2) :
    PE X (.Call (.Attribute o "insert" apos) [a, b] [] pos) (tI X.K g fun γ S => (mo γ S).bind fun x S => if bmOk .insert x S then (ml γ S).bind fun ds S => bmD .insert x ds S else .bad) := by
  refine (pe_bm PySem.F.plainAttrs_list PySem.F.slot_list_insert PySem.F.type_list_insert mt_insert ho ha (base_of hb) ?_ (by rw [hl]; simp) (star_cons hn) (by rw [star_cons hn']; rfl)).imp fun σ H Q h => ?_
  · rw [star_cons hn, star_cons hn']; rfl
  refine tG.bind (δ := D) (k := fun γ x S => if bmOk .insert x S then (ml γ S).bind fun ds S => bmD .insert x ds S else .bad) h fun γ x S v H α F R s w r h => ?_
  split at h
  · rename_i hx
    cases q0 : lstOf x S with
    | none => have hx : (lstOf x S).isSome = true := hx; rw [q0] at hx; cases hx
    | some xs0 =>
      obtain ⟨p, vs0, rfl, h20, _⟩ := lst_of w r q0
      refine ⟨.inl ⟨rfl, _, SqL.of h20⟩, γ, S, α, F, R, s, w, ?_⟩
      cases q : ml γ S with
      | exc => rw [q] at h; exact False.elim h
      | bad => rw [q] at h; exact False.elim h
      | ok ds S' =>
        rw [q] at h
        intro ys H' α' F' e w' ry
        have h : Aft X.K g R (Rep X.K g) α F (bmD .insert x ds S') Q := h
        have hz := h2 _ _ _ _ q
        match ds, hz with
        | [d1, d2], _ =>
          obtain ⟨v1, v2, rfl, r1, r2⟩ := reps_two ry
          cases x with
          | loc n =>
            cases d1 with
            | int i =>
              cases r1
              have h : Aft X.K g R (Rep X.K g) α F (match S'[n]? with
                | some (.lst xs) => if xs.length < 16777216 ∧ 0 ≤ i ∧ i ≤ xs.length then .ok .non (S'.set n (.lst (xs.take i.toNat ++ d2 :: xs.drop i.toNat))) else .bad
                | _ => .bad) Q := h
              cases q1 : S'[n]? with
              | none => rw [q1] at h; exact False.elim h
              | some so =>
                cases so with
                | lst xs =>
                  rw [q1] at h
                  dsimp only at h
                  split at h
                  · rename_i hz
                    obtain ⟨p', vs, k1, k2, k3, k4⟩ := w'.st n _ q1
                    obtain ⟨p2, e2, k0⟩ := r
                    cases e2
                    rw [e.al _ _ k0] at k1
                    cases k1
                    have hl := k4.length
                    refine ⟨p, vs, i, v2, rfl, rfl, k3, by rw [← hl, size16]; exact hz.1, hz.2.1, by omega, ?_⟩
                    have h := Aft.ext e h
                    refine h .non _ α' F' Ext.refl (w'.write (e.al _ _ k0) k2 ⟨p, _, e.al _ _ k0, k2, upd_same, ?_⟩) rfl
                    rw [List.append_assoc]
                    exact (k4.take _).app (Reps.app (ds := [d2]) (vs := [v2]) ⟨v2, [], rfl, r2, rfl⟩ (k4.drop _))
                  · exact False.elim h
                | _ => rw [q1] at h; exact False.elim h
            | _ => exact False.elim h
          | _ => exact False.elim h
  · exact False.elim h
/-! ### C.m(..), m a classmethod -/
theorem call_argsM {mkk : Gm → Sto → Out (List D)} {q gf : Addr} {self : Value} {pins : List (Addr × Obj)} {σ : L2.St} {H : Hp} {s : Shared} {QQ : Value → Shared → Prop} (hf : PySem.W.fnIn X.K gf = true) (ha : JA X g as ml) (hkw : PK X kws (tIs X.K g mkk)) (hks : kwNames kws = some ks) (hns : as.all noStar = true) (I : Inv X ((q, PySem.W.methodObj (.ref gf) self) :: pins) σ H s)
    (h : tIs X.K g ml σ H fun vs H1 => tIs X.K g mkk σ H1 fun zs H2 => ∀ us ws s2, Inv X ((q, PySem.W.methodObj (.ref gf) self) :: pins) σ H2 s2 → Vals vs us → Vals zs ws → wpAny (model X.prog X.w) X.A (call (.ref q) us (ks.zip ws)) QQ X.xe s2) :
    wpAny (model X.prog X.w) X.A (callWith pos (.ref q) [] (backTo pos (starEach as X.env)) (backToKw pos (keywordEach kws X.env))) QQ X.xe s := by
  obtain ⟨k1, k2, k3, k4⟩ := kw_all (env := X.env) (pos := pos) hks
  cases ha with
  | nil =>
    refine PySem.W.callWith_of (by show (false || _) = false; rw [k3]; rfl) (PySem.W.keeps_M (self := self) hf) (evalArgs_kw2_nil k1 ?_)
    obtain ⟨γ, S, α, F, R, sl, w, hq⟩ := h
    have hq := hq [] H α F Ext.refl w rfl
    refine thn (hkw.run pos _ s σ H _ I hq) fun ws s2 ⟨zs, H2, I2, rz, q⟩ => ⟨⟨ClX.pin_at I2, I2.kIn⟩, ?_⟩
    rw [k2]
    exact q [] ws s2 I2 .nil rz
  | cons hn hp =>
    refine callWith_any (PySem.W.keeps_M (self := self) hf) (evalArgs_kw2 k1 (thn (hp.run pos _ s σ H _ I h) fun us s1 ⟨vs, H1, I1, r, q⟩ => ?_) (star_cons hn))
    refine thn (hkw.run pos _ s1 σ H1 _ I1 q) fun ws s2 ⟨zs, H2, I2, rz, q⟩ => ⟨⟨ClX.pin_at I2, I2.kIn⟩, ?_⟩
    rw [k2]
    exact q us ws s2 I2 r rz
  | lone he => cases hns
theorem je_cmt {ci m f : Nat} {x y : Str} {pl : Plan} {p1 : Pos} (C : Cok T g cal X n) (hx : T.nm[m]? = some x) (hy : T.cls[ci]? = some y) (hg : Gl X y) (hd : (y == ("__debug__" : Str)) = false) (hi : (ci, m, f) ∈ T.cm) (ha : JA X g as ml) (hk : PK X kws (tIs X.K g mk)) (hks : kwNames kws = some ks)
    (hlk : ∀ γ S ds S', mk γ S = .ok ds S' → ds.length = kws.length) (ok : fewOk as kws = true) (hl : apos.endLine = pos.line) (hkb : (f, ks, pl) ∈ T.kb) :
    PE X (.Call (.Attribute (.Name y p1) x apos) as kws pos) (tI X.K g fun γ S => (ml γ S).bind fun ds S => (mk γ S).bind fun ks S => match bindP pl (.cls ci :: ds) ks with | some as => cal f as S | none => .bad) := by
  have ex := C.ck.nm m x hx
  subst ex
  obtain ⟨h2, fd, ps, F1, B1⟩ := C.fn f (C.ck.kf _ hkb)
  obtain ⟨hc, mc, pp, r1, r2⟩ := C.ck.cm _ _ _ hi
  obtain ⟨k1, k2, k3, k4⟩ := kw_all (env := X.env) (pos := pos) hks
  have hns : as.all noStar = true := by
    unfold fewOk at ok
    rw [Bool.and_eq_true] at ok
    exact ok.1
  refine ⟨fun pins s σ H Q I h => ?_⟩
  refine PySem.W.methodCall_KW (ld_glob I hg (C.cl ci y hy).1 ?_ hd) (meth_eval (base_of rfl) (few_form ok hks) hl)
  refine ClX.getmethcm_ok I r1 r2 fun s2 I2 => ?_
  refine call_argsM r2.fi ha hk hks hns I2 ?_
  obtain ⟨γ, S, α, F, R, sl, w, h⟩ := h
  refine two_args sl w hlk h fun ds es vs zs S H α F _ w rd re hl h us ws s3 I3 ru rw_ => ?_
  cases q : bindP pl (.cls ci :: ds) es with
  | none => rw [q] at h; exact False.elim h
  | some bs =>
    rw [q] at h
    have z : wpAny (model X.prog X.w) X.A (call (.ref s.heap.objs.size) us (ks.zip ws)) (EP X ((s.heap.objs.size, PySem.W.methodObj (.ref (g.fA f)) (.ref (g.cA ci))) :: pins) σ Q) X.xe s3 :=
      wpAny_call (PySem.W.method_call (ClX.pin_at I3) (codeAny_mono (run_code (us := .ref (g.cA ci) :: us) (vs := .ref (g.cA ci) :: vs) (ds := .cls ci :: ds) F1 (B1 _ _ hkb) (C.room.mono (Nat.le_succ _)) I3.env0 I3 w ⟨_, _, rfl, ⟨rfl, hc⟩, rd⟩ (.cons rfl ru) re rw_ (by rw [← re.length, hl, k4]) q h) fun r s' ⟨u, er, hq⟩ => by
        subst er
        exact hq))
    exact thn z fun _ _ y => ClX.unpinE y
/-! ### c(..), c a local that holds a class -/
theorem je_mkv {i : Nat} {tb : List (Nat × Nat)} {pl : Plan} {t : Bool} {x : Str} {me : Gm → Sto → Out D} (C : Cok T g cal X n) (he : PE X (.Name x p) (tI X.K g me)) (hi : ∀ q ∈ tb, q ∈ T.ini ∧ (q.2, ks, pl) ∈ T.kb) (ha : JA X g as ml) (hk : PK X kws (tIs X.K g mk)) (hks : kwNames kws = some ks) (hnil : kws = [] → ∀ γ S, mk γ S = .ok [] S)
    (hlk : ∀ γ S ds S', mk γ S = .ok ds S' → ds.length = kws.length) (ok : argOk as kws = true) :
    PE X (.Call (.Name x p) as kws pos) (tI X.K g fun γ S => (me γ S).bind fun x S => match x with
      | .cls c => (match tb.lookup c with
        | some f => (ml γ S).bind fun ds S => (mk γ S).bind fun ks S => mkD cal t c f pl ds ks S
        | none => .bad)
      | _ => .bad) := by
  obtain ⟨k1, k2, k3, k4⟩ := kw_all (env := X.env) (pos := pos) hks
  refine ⟨fun pins s σ H Q I h => ?_⟩
  have h := tG.bind (β := D) (δ := D) (rep := Rep X.K g) (rep2 := Rep X.K g) (m := me) (Q1 := fun v H1 => ∃ ci f, v = V.ref (g.cA ci) ∧ (ci, f) ∈ T.ini ∧ (f, ks, pl) ∈ T.kb ∧ tI X.K g (fun γ S => (ml γ S).bind fun ds S => (mk γ S).bind fun ks S => mkD cal t ci f pl ds ks S) σ H1 Q) (k := fun γ (x : D) S => match x with
      | .cls c => (match tb.lookup c with
        | some f => (ml γ S).bind fun ds S => (mk γ S).bind fun ks S => mkD cal t c f pl ds ks S
        | none => .bad)
      | _ => .bad) h fun γ x S v H α F R s w r h => by
    cases x with
    | cls ci =>
      dsimp only at h
      cases q : tb.lookup ci with
      | none => rw [q] at h; exact False.elim h
      | some f =>
        rw [q] at h
        obtain ⟨rfl, hc⟩ := r
        have hm := hi _ (lookup_mem q)
        exact ⟨ci, f, rfl, hm.1, hm.2, γ, S, α, F, R, s, w, h⟩
    | _ => exact False.elim h
  refine wpAny_Call_Name_kw (thn (he.run pins s σ H _ I h) fun u s1 ⟨v, H1, I1, rv, ci, f, ev, h1, h3, q⟩ => ?_)
  subst ev
  obtain rfl : u = Value.ref (g.cA ci) := rv
  obtain ⟨h2, fd, ps, F1, B1⟩ := C.fn f (C.ck.kf _ h3)
  obtain ⟨M, hc⟩ := C.ck.ini _ _ h1
  refine call_args (first := []) M.kp ha hk hks hnil ok I1 ?_
  obtain ⟨γ, S, α, F, R, sl, w, q⟩ := q
  refine two_args sl w hlk q fun ds es vs zs S H α F _ w rd re hl h us ws s2 I2 ru rw_ => ?_
  exact run_mk M hc F1 (B1 _ _ h3) C.room I2 w rd ru re rw_ (by rw [← re.length, hl, k4]) h
/-! ### x in C.NAMES -/
theorem eqV_str (a b : Str) : eqV (.str a) (.str b) = (a == b) := rfl
theorem inV_str {z : Str} : ∀ {xs : List Str}, inV (.str z) (xs.map V.str) = xs.contains z
  | [] => rfl
  | x :: xs => by
    show (eqV (.str x) (.str z) || inV (.str z) (xs.map V.str)) = _
    rw [inV_str (xs := xs), List.contains_cons, eqV_str]
    congr 1
    by_cases h : x = z
    · subst h; rfl
    · rw [beq_eq_false_iff_ne.mpr h, beq_eq_false_iff_ne.mpr (Ne.symm h)]
abbrev inkM (ma : Gm → Sto → Out D) (neg : Bool) (xs : List Str) : Gm → Sto → Out D := fun γ S => (ma γ S).bind fun x S => match x with
    | .str z => .ok (.bl (xs.contains z != neg)) S
    | _ => .bad
theorem ink_of {neg : Bool} {ci : Nat} {xs : List Str} {x y : Str} {p1 p2 : Pos} {aa : Addr} {mc : Value} (r1 : ClX.CRead X.K (g.cA ci) mc) (r2 : ClX.CVal X.K (g.cA ci) mc x (.ref aa) (.ref aa)) (r3 : ∀ H, SqT X.K H aa (xs.map V.str)) {σ : L2.St} {H : Hp} {Q : VK} (h : tI X.K g (inkM ma neg xs) σ H Q) :
    tOp (rIn X.K neg) (tI X.K g ma) (ClX.tCVal X.K (tC (.ref (g.cA ci))) x) σ H Q := by
  refine tG.bind (δ := D) (k := fun γ (x : D) S => match x with
    | .str z => .ok (.bl (xs.contains z != neg)) S
    | _ => .bad) h fun γ v S vv H α F R s w r h => ?_
  cases v with
  | str z =>
    obtain ⟨rfl, oz⟩ := r
    refine ⟨g.cA ci, mc, .ref aa, .ref aa, rfl, r1, r2, aa, xs.map V.str, rfl, .inr (r3 _), rfl, ?_, ?_⟩
    · rw [List.all_map]
      exact List.all_eq_true.mpr fun _ _ => rfl
    · rw [inV_str]
      refine h.now w ?_
      show V.bl _ = V.bl _
      cases neg <;> simp
  | _ => exact False.elim h
theorem je_ink {neg : Bool} {ci i : Nat} {xs : List Str} {x y : Str} {p1 p2 : Pos} {op : CmpOp} (hop : op = if neg then .NotIn else .In) (C : Cok T g cal X n) (hx : T.nm[i]? = some x) (hy : T.cls[ci]? = some y) (hg : Gl X y) (hd : (y == ("__debug__" : Str)) = false) (hi : (ci, i, xs) ∈ T.ck) (ha : PE X a (tI X.K g ma)) :
    PE X (.Compare a [op] [.Attribute (.Name y p1) x p2] pos) (tI X.K g (inkM ma neg xs)) ∧ PT X (.Compare a [op] [.Attribute (.Name y p1) x p2] pos) (tT X.K g (inkM ma neg xs)) := by
  have ex := C.ck.nm i x hx
  subst ex
  obtain ⟨k1, k2⟩ := C.cl ci y hy
  obtain ⟨mc, aa, r1, r2, r3⟩ := C.ck.cks _ _ _ hi
  have hb : PE X (.Attribute (.Name y p1) (g.nm i) p2) (ClX.tCVal X.K (tC (.ref (g.cA ci))) (g.nm i)) := ClX.pe_cval (pe_glob hg k1 (v := .ref (g.cA ci)) rfl hd)
  have tb : ∀ {σ : L2.St} {H : Hp} {Q : Bool → Hp → Prop}, tT X.K g (inkM ma neg xs) σ H Q → tI X.K g (inkM ma neg xs) σ H fun v H' => ∃ k, v = .bl k ∧ Q k H' := fun h => tI_bl h fun γ S d S' q => by
    obtain ⟨x, S1, q1, q⟩ := bind_ok q
    split at q
    · cases q; exact ⟨_, rfl⟩
    · cases q
  subst hop
  cases neg with
  | false => exact ⟨(pe_cmpR op_in_seq ha hb rfl).imp fun σ H Q h => ink_of (p1 := p1) (p2 := p2) (y := y) r1 r2 r3 h, (pt_cmpR op_in_seq ha hb rfl).imp fun σ H Q h => ink_of (p1 := p1) (p2 := p2) (y := y) r1 r2 r3 (tb h)⟩
  | true => exact ⟨(pe_cmpR op_notIn_seq ha hb rfl).imp fun σ H Q h => ink_of (p1 := p1) (p2 := p2) (y := y) r1 r2 r3 h, (pt_cmpR op_notIn_seq ha hb rfl).imp fun σ H Q h => ink_of (p1 := p1) (p2 := p2) (y := y) r1 r2 r3 (tb h)⟩
end
end Itp
namespace Itp
open PySem PySem.Spec PyProof.Rows L2
/-- a comprehension's parts -/
def LcP (X : Cx) (g : Gb) (cal : Nat → List D → Sto → Out D) (tg : Tg) (own : List Nat) (k : IK) (its ifs : List E) (e : E) (py : Expr) : Prop :=
  ∃ (elt t iter : Expr) (fs : List Expr) (scope : Scope) (p : Pos), py = .ListComp elt [⟨t, iter, fs, 0⟩] scope p ∧ PI X t iter (iI X.K g k (evs cal its)) ∧ BlkOk X.N X.env.scope scope (own.map fun i => (X.N.getD i "", i)) ∧
    (∀ (s : Shared) (H : Hp) (A : Addr) (cl : List (Str × Addr)) (fp : List Addr), PG (X.blk s H scope (compEnvC scope cl A X.env) fp) t (gI X.K g tg)) ∧
    (∀ (s : Shared) (H : Hp) (A : Addr) (cl : List (Str × Addr)) (fp : List Addr), PTs (X.blk s H scope (compEnvC scope cl A X.env) fp) fs (tIb X.K g (evF cal ifs))) ∧
    (∀ (s : Shared) (H : Hp) (A : Addr) (cl : List (Str × Addr)) (fp : List Addr), PE (X.blk s H scope (compEnvC scope cl A X.env) fp) elt (tI X.K g (ev cal e))) ∧ noSet iter = true ∧ ∀ i ∈ tg.slots, i ∈ own
theorem LcP.pe {X : Cx} {g : Gb} {cal : Nat → List D → Sto → Out D} {tg : Tg} {own : List Nat} {k : IK} {its ifs : List E} {e : E} {py : Expr} (L : LcP X g cal tg own k its ifs e py) (hc : X.calm = true) (hN : X.N.Nodup) : PE X py (tI X.K g (ev cal (.lc tg own k its ifs e))) := by
  obtain ⟨elt, t, iter, fs, scope, p, rfl, hi, ok, hg, ht, he, hn, hs⟩ := L
  have := pe_lc (elt := elt) (te := tI X.K g (ev cal e)) (tt := tIb X.K g (evF cal ifs)) (g := gI X.K g tg) hc hN hi ok hg ht he (pos := p) (fun x => fold_of hn)
  rw [own_snd] at this
  exact this.imp fun σ H Q h => lc_ofF hs (tFr_of (fun γ S d S' z => lcM_lst (k := k) (tg := tg) (own := own) (ml := evs cal its) (mf := evF cal ifs) (me := ev cal e) (γ := γ) (S := S) z) h)
theorem LcP.fr {X : Cx} {g : Gb} {cal : Nat → List D → Sto → Out D} {tg : Tg} {own : List Nat} {k : IK} {its ifs : List E} {e : E} {py : Expr} (L : LcP X g cal tg own k its ifs e py) (hc : X.calm = true) (hN : X.N.Nodup) : PE X py (tFr X.K g (ev cal (.lc tg own k its ifs e))) := by
  obtain ⟨elt, t, iter, fs, scope, p, rfl, hi, ok, hg, ht, he, hn, hs⟩ := L
  have := pe_lc (elt := elt) (te := tI X.K g (ev cal e)) (tt := tIb X.K g (evF cal ifs)) (g := gI X.K g tg) hc hN hi ok hg ht he (pos := p) (fun x => fold_of hn)
  rw [own_snd] at this
  exact this.imp fun σ H Q h => lc_ofF hs h
theorem lc_lst {cal : Nat → List D → Sto → Out D} {tg : Tg} {own : List Nat} {k : IK} {its ifs : List E} {e : E} {γ : Gm} {S : Sto} {d : D} {S' : Sto} (h : ev cal (.lc tg own k its ifs e) γ S = .ok d S') : ∃ xs, d = .lst xs :=
  lcM_lst (k := k) (tg := tg) (own := own) (ml := evs cal its) (mf := evF cal ifs) (me := ev cal e) (γ := γ) (S := S) h
structure JE (X : Cx) (g : Gb) (cal : Nat → List D → Sto → Out D) (e : E) (py : Expr) : Prop where
  pe : PE X py (tI X.K g (ev cal e))
  ns : noStar py = true
  pt : tst e = true → PT X py (tT X.K g (ev cal e))
  lc : ∀ tg own k its ifs e', e = .lc tg own k its ifs e' → LcP X g cal tg own k its ifs e' py
  en : e.ns = true
  fr : isFresh e = true → PE X py (tFr X.K g (ev cal e)) ∧ ∀ γ S d S', ev cal e γ S = .ok d S' → ∃ xs, d = .lst xs
structure JEs (X : Cx) (g : Gb) (cal : Nat → List D → Sto → Out D) (es : List E) (pys : List Expr) : Prop where
  pa : PA X pys (tIs X.K g (evs cal es))
  ja : ∀ kws, argOk pys kws = true → JA X g pys (evs cal es)
  ln : pys.length = es.length
  el : pys.all noStar = true → ∀ γ S ds S', evs cal es γ S = .ok ds S' → ds.length = es.length
  pb : pys.all noStar = true → es ≠ [] → ∀ (o : Bool) (pos : Pos), PE X (.BoolOp (if o then .And else .Or) pys pos) (tI X.K g (evB cal o es))
  pw : pys.all noStar = true → es ≠ [] → tsts es = true → ∀ (o : Bool) (pos : Pos), PW X (.BoolOp (if o then .And else .Or) pys pos) (tT X.K g (evB cal o es))
  pk : pys.all noStar = true → ∀ kws : List Keyword, kws.map (·.value) = pys → PK X kws (tIs X.K g (evs cal es))
  one : ∀ e py, es = [e] → pys = [py] → noStar py = true → JE X g cal e py
  two : ∀ e e' py py', es = [e, e'] → pys = [py, py'] → noStar py = true → noStar py' = true → JE X g cal e py ∧ JE X g cal e' py'
def isLc : E → Bool
  | .lc .. => true
  | _ => false
section
variable {X : Cx} {g : Gb} {a : Expr} {ma : Gm → Sto → Out D} {ml : Gm → Sto → Out (List D)}
theorem _root_.L2.PK.imp {kws : List Keyword} {t t' : TA} (h : PK X kws t) (f : ∀ σ H Q, t' σ H Q → t σ H Q) : PK X kws t' := ⟨fun pos pins s σ H Q I q => h.run pos pins s σ H Q I (f σ H Q q)⟩
theorem pk_nil' : PK X [] (tIs X.K g fun _ S => .ok [] S) := pk_nil.imp fun σ H Q h => by
  obtain ⟨γ, S, α, F, R, s, w, h⟩ := h
  exact h [] H α F Ext.refl w rfl
theorem pk_cons' {nm : Option Str} {kp : Pos} {kws : List Keyword} (ha : PE X a (tI X.K g ma)) (hl : PK X kws (tIs X.K g ml)) : PK X (⟨nm, a, kp⟩ :: kws) (tIs X.K g fun γ S => (ma γ S).bind fun d S => (ml γ S).bind fun ds S => .ok (d :: ds) S) := by
  refine (pk_cons ha hl).imp fun σ H Q h => ?_
  refine tG.bind (δ := List D) (k := fun γ d S => (ml γ S).bind fun ds S => .ok (d :: ds) S) h fun γ x S vx H α F R s w rx h => ?_
  refine ⟨γ, S, α, F, R, s, w, Aft.bind (δ := List D) h fun ds S vs H α' F' e w' rs h => ?_⟩
  exact h (vx :: vs) H α' F' Ext.refl w' ⟨vx, vs, rfl, Rep.mono e _ _ rx, rs⟩
end
theorem Cok.blk {T : Tab} {g : Gb} {cal : Nat → List D → Sto → Out D} {X : Cx} {n : Nat} (C : Cok T g cal X n) (s : Shared) (H : Hp) (scope : Scope) (cenv : Env) (fp : List Addr) : Cok T g cal (X.blk s H scope cenv fp) n :=
  ⟨C.calm, C.nd, C.room, C.fr, C.fo, C.ci, C.cs, C.cl, C.is, C.ck, C.mg, fun f h => ⟨(C.fn f h).kp, (C.fn f h).fn⟩⟩
section
variable {X : Cx} {g : Gb} {cal : Nat → List D → Sto → Out D} {e : E} {py : Expr}
theorem je_of (h : PE X py (tI X.K g (ev cal e))) (hn : noStar py = true) (he : ∀ whole, isTrue py X.env whole = (do let v ← whole; standAt py.pos; holding [v] (truthy v))) : (hl : isLc e = false := by rfl) → (hs : e.ns = true := by rfl) → (hf : isFresh e = false := by rfl) → JE X g cal e py := fun hl hs hf => ⟨h, hn, fun _ => jt_val h he, fun _ _ _ _ _ _ z => (by subst z; cases hl), hs, fun z => by rw [hf] at z; cases z⟩
end
theorem jI {T : Tab} {g : Gb} {cal : Nat → List D → Sto → Out D} {n : Nat} {X : Cx} {sc : Scope} {k : IK} {its : List E} {t iter : Expr} {as : List Expr} (C : Cok T g cal X n) (hs : ScOk X sc) (h : itArgs T k sc t iter = some as) (hn : as.all noStar = true) (J : JEs X g cal its as) : PI X t iter (iI X.K g k (evs cal its)) := by
  cases k with
  | val =>
    cases h
    match its, J, J.ln with
    | [e], J, _ =>
      have hn1 : noStar iter = true := by simpa using hn
      have J1 := J.one e iter rfl rfl hn1
      have := ji_val (tg := t) J1.pe
      rw [evs_cons J1.en, evs_nil]
      exact this
  | rng =>
    have hh : (match pCall iter with | some (f, as, [], _) => if blt T sc "range" f && (as.length == 1 || as.length == 2) then some as else none | _ => none) = some as := h
    cases q : pCall iter with
    | none => rw [q] at hh; cases hh
    | some u =>
      obtain ⟨f, as', ks, p⟩ := u
      rw [q] at hh
      clear h
      have e1 := pCall_inv q
      subst e1
      match ks, hh with
      | [], hh =>
        dsimp only at hh
        split at hh
        · rename_i hb
          cases hh
          simp only [Bool.and_eq_true, Bool.or_eq_true, beq_iff_eq] at hb
          match as, its, J, J.ln, hb, hn with
          | [], _, J, _, hb, hn => simp at hb
          | [a], [e], J, _, hb, hn => exact ji_rng1 C hs hb.1 (by simpa using hn) J.pa fun γ S ds S' h => J.el hn γ S ds S' h
          | [a, b], [e, e'], J, _, hb, hn =>
            have hn0 := hn
            simp only [List.all_cons, Bool.and_eq_true] at hn
            exact ji_rng2 C hs hb.1 hn.1 hn.2.1 J.pa fun γ S ds S' h => J.el hn0 γ S ds S' h
          | a :: b :: c :: r, _, J, _, hb, hn => simp at hb
        · cases hh
  | enum =>
    have hh : (match pCall iter with | some (f, as, [], _) => if blt T sc "enumerate" f && (pTup t).isSome && as.length == 1 then some as else none | _ => none) = some as := h
    cases q : pCall iter with
    | none => rw [q] at hh; cases hh
    | some u =>
      obtain ⟨f, as', ks, p⟩ := u
      rw [q] at hh
      clear h
      have e1 := pCall_inv q
      subst e1
      match ks, hh with
      | [], hh =>
        dsimp only at hh
        split at hh
        · rename_i hb
          cases hh
          simp only [Bool.and_eq_true, Bool.or_eq_true, beq_iff_eq] at hb
          match as, its, J, J.ln, hb, hn with
          | [], _, J, _, hb, hn => simp at hb
          | [a], [e], J, _, hb, hn => exact ji_enum C hs hb.1.1 (by simpa using hn) hb.1.2 J.pa fun γ S ds S' h => J.el hn γ S ds S' h
          | a :: b :: r, _, J, _, hb, hn => simp at hb
        · cases hh
  | zip =>
    have hh : (match pCall iter with | some (f, as, [], _) => if blt T sc "zip" f && (pTup t).isSome && as.length == 2 then some as else none | _ => none) = some as := h
    cases q : pCall iter with
    | none => rw [q] at hh; cases hh
    | some u =>
      obtain ⟨f, as', ks, p⟩ := u
      rw [q] at hh
      clear h
      have e1 := pCall_inv q
      subst e1
      match ks, hh with
      | [], hh =>
        dsimp only at hh
        split at hh
        · rename_i hb
          cases hh
          simp only [Bool.and_eq_true, Bool.or_eq_true, beq_iff_eq] at hb
          match as, its, J, J.ln, hb, hn with
          | [], _, J, _, hb, hn => simp at hb
          | [a], _, J, _, hb, hn => simp at hb
          | [a, b], [e, e'], J, _, hb, hn =>
            have hn0 := hn
            simp only [List.all_cons, Bool.and_eq_true] at hn
            exact ji_zip C hs hb.1.1 hn.1 hn.2.1 hb.1.2 J.pa fun γ S ds S' h => J.el hn0 γ S ds S' h
          | a :: b :: c :: r, _, J, _, hb, hn => simp at hb
        · cases hh
  | keys => cases h
  | vals => cases h
section
variable {X : Cx} {g : Gb} {cal : Nat → List D → Sto → Out D} {T : Tab} {n : Nat}
theorem jes_nil : JEs X g cal [] [] := by
  refine ⟨?_, fun kws _ => ?_, rfl, fun _ γ S ds S' h => ?_, fun _ z => absurd rfl z, fun _ z => absurd rfl z, fun _ kws hk => ?_, fun e py z => (by cases z), fun e e' py py' z => by cases z⟩
  · rw [evs_nil]; exact ja_nil
  · rw [evs_nil]; exact .nil
  · rw [evs_nil] at h; cases h; rfl
  · have : kws = [] := by simpa using hk
    subst this
    rw [evs_nil]
    exact pk_nil'
theorem jes_cons {e : E} {es : List E} {p : Expr} {ps : List Expr} (h1 : noStar p = true) (J : JE X g cal e p) (Js : JEs X g cal es ps) : JEs X g cal (e :: es) (p :: ps) := by
  have pa : PA X (p :: ps) (tIs X.K g (evs cal (e :: es))) := by rw [evs_cons J.en]; exact ja_cons h1 J.pe Js.pa
  have tl : (p :: ps).all noStar = true → ps.all noStar = true := fun z => by rw [List.all_cons, Bool.and_eq_true] at z; exact z.2
  refine ⟨pa, fun kws _ => .cons h1 pa, by simp [Js.ln], fun hn γ S ds S' h => ?_, fun hn _ o pos => ?_, fun hn _ ht o pos => ?_, fun hn kws hk => ?_, fun e' py' z z' _ => (by cases z; cases z'; exact J), fun a b c d z z' _ hd => ?_⟩
  · rw [evs_cons J.en] at h
    obtain ⟨d, S1, h1, h⟩ := bind_ok h
    obtain ⟨ds', S2, h2, h⟩ := bind_ok h
    cases h
    simp [Js.el (tl hn) _ _ _ _ h2]
  · match es, ps, Js, Js.ln, tl hn with
    | [], [], Js, _, _ => exact jb_one J.pe
    | e2 :: es, p2 :: ps, Js, _, hn' => exact jb_cons J.pe (Js.pb hn' (fun z => by cases z) o pos)
  · have ht : (tst e && tsts es) = true := ht
    rw [Bool.and_eq_true] at ht
    match es, ps, Js, Js.ln, ht, tl hn with
    | [], [], Js, _, ht, _ => exact jw_one (J.pt ht.1)
    | e2 :: es, p2 :: ps, Js, _, ht, hn' => exact jw_cons (J.pt ht.1) (Js.pw hn' (fun z => by cases z) ht.2 o pos)
  · cases kws with
    | nil => cases hk
    | cons kw kws =>
      obtain ⟨nm, v, kp⟩ := kw
      have hk : v :: kws.map (·.value) = p :: ps := hk
      cases hk
      rw [evs_cons J.en]
      exact pk_cons' J.pe (Js.pk (tl hn) kws rfl)
  · cases z; cases z'
    exact ⟨J, Js.one _ _ rfl rfl hd⟩
theorem jes_star {e : E} {es : List E} {p : Expr} {q : Pos} {ps : List Expr} (J : JE X g cal e p) (Js : JEs X g cal es ps) : JEs X g cal (.star e :: es) (.Starred p q :: ps) := by
  refine ⟨by rw [evs_star]; exact ja_star J.pe Js.pa, fun kws ok => ?_, by simp [Js.ln], fun hn => (by cases hn), fun hn => (by cases hn), fun hn => (by cases hn), fun hn => (by cases hn), fun e' py' z z' hn => (by cases z'; cases hn), fun a b c d z z' hn => by cases z'; cases hn⟩
  have ok : (false || (ps.isEmpty && kws.isEmpty)) = true := ok
  have hp : ps = [] := by
    simp at ok
    exact ok.1
  subst hp
  have he : es = [] := by
    have := Js.ln
    simpa using this.symm
  subst he
  rw [evs_star, evs_nil]
  exact .lone J.pe
theorem kes_nil {kes : List E} {kws : List Keyword} (J : JEs X g cal kes (kws.map (·.value))) : kws = [] → ∀ γ S, evs cal kes γ S = .ok [] S := fun z γ S => by
  subst z
  have := J.ln
  have : kes = [] := by simpa using this.symm
  subst this
  rw [evs_nil]
theorem kes_len {kes : List E} {kws : List Keyword} (J : JEs X g cal kes (kws.map (·.value))) (hn : (kws.map (·.value)).all noStar = true) : ∀ γ S ds S', evs cal kes γ S = .ok ds S' → ds.length = kws.length := fun γ S ds S' h => by
  rw [J.el hn γ S ds S' h, ← J.ln, List.length_map]
theorem bf_fr {sc : Scope} {b : BF} {es : List E} {f x : Expr} {xs : List Expr} {p : Pos} (z : isFresh (.bf b es) = true) (C : Cok T g cal X n) (hs : ScOk X sc) (h2 : blt T sc b.nm f = true) (h4 : (x :: xs).all noStar = true) (ha : PA X (x :: xs) (tIs X.K g (evs cal es))) :
    PE X (.Call f (x :: xs) [] p) (tFr X.K g (ev cal (.bf b es))) ∧ ∀ γ S d S', ev cal (.bf b es) γ S = .ok d S' → ∃ xs, d = .lst xs := by
  cases b with
  | list =>
    refine ⟨je_listF C hs h2 h4 ha, fun γ S d S' e => ?_⟩
    obtain ⟨ds, S1, k1, k2⟩ := bind_ok (o := evs cal es γ S) (k := fun ds S => ofO (bfD .list ds S) S) e
    cases qb : bfD .list ds S1 with
    | none => rw [qb] at k2; cases k2
    | some d' => rw [qb] at k2; cases k2; exact bfl_lst qb
  | _ => cases z
theorem own_eq {sc : Scope} {tb sb : List (Nat × Nat)} {es : List E} {py : Expr} (neg : Bool) (h : (match pCmp py with
      | some (l, [op], [r]) => decide (op = (if neg then .NotEq else .Eq)) && noSet r && noStar l && noStar r && tb.all (fun p => T.oeq.contains p && T.hasKb p.2 [] ⟨2, false, [.pos 0, .pos 1]⟩) && sbOk T sb && mtEs T X.N es sc [l, r]
      | _ => false) = true) (C : Cok T g cal X n) (hj : ∀ l r (p : Nat), mtEs T X.N es sc [l, r] = true → JEs X g cal es [l, r]) {o : OK} (ho : o = (if neg then .ne else .eq)) : JE X g cal (.own o tb sb es) py := by
  cases q : pCmp py with
  | none => rw [q] at h; cases h
  | some t =>
    obtain ⟨l, ops, rs⟩ := t
    rw [q] at h
    obtain ⟨p, rfl⟩ := pCmp_inv q
    match ops, rs, h with
    | [op], [r], h =>
      simp only [Bool.and_eq_true] at h
      obtain ⟨⟨⟨⟨⟨⟨h1, h2⟩, h3⟩, h4⟩, h5⟩, h6⟩, h7⟩ := h
      have h1 := of_decide_eq_true h1
      subst h1
      have J := hj l r 0 h7
      have hl := J.ln
      match es, J, hl with
      | [e, e'], J, _ =>
        obtain ⟨J1, J2⟩ := J.two e e' l r rfl rfl h3 h4
        have ht : ∀ q ∈ tb, q ∈ T.oeq ∧ (q.2, [], ⟨2, false, [.pos 0, .pos 1]⟩) ∈ T.kb := fun q hq => by
          have := List.all_eq_true.mp h5 q hq
          rw [Bool.and_eq_true] at this
          exact ⟨by simpa using this.1, Tab.hasKb_mem this.2⟩
        have hsb : ∀ c k, c < g.nc → k < g.nc → sb.contains (c, k) = (c != k && g.sub k c) := fun c k hc hk => by
          have hc' := hc
          have hk' := hk
          rw [C.ck.nc] at hc hk
          have := List.all_eq_true.mp (List.all_eq_true.mp h6 c (List.mem_range.mpr hc)) k (List.mem_range.mpr hk)
          rw [C.ck.su k c hk' hc']
          exact eq_of_beq this
        have ee : ev cal (.own o tb sb [e, e']) = fun γ S => (ev cal e γ S).bind fun x S => (ev cal e' γ S).bind fun y S => noX (eqO cal neg tb sb x y S) := by
          funext γ S
          show ((evs cal [e, e'] γ S).bind fun ds S => noX (ownD cal o tb sb ds S)) = _
          rw [evs_cons J1.en, evs_cons J2.en, evs_nil]
          dsimp only
          cases ev cal e γ S with
          | exc => rfl
          | bad => rfl
          | ok d S1 =>
            dsimp only [Out.bind]
            cases ev cal e' γ S1 with
            | exc => rfl
            | bad => rfl
            | ok d' S2 => subst ho; cases neg <;> rfl
        refine ⟨?_, rfl, fun _ => ?_, fun _ _ _ _ _ _ z => (by cases z), rfl, fun z => by cases z⟩
        · rw [ee]; exact je_oeq neg C h2 J1.pe J2.pe ht hsb
        · rw [ee]; exact jt_oeq neg C h2 J1.pe J2.pe ht hsb
end
section
variable (T : Tab) (g : Gb) (cal : Nat → List D → Sto → Out D) (n : Nat)
mutual
theorem jE : ∀ (e : E) (X : Cx) (sc : Scope) (py : Expr), Cok T g cal X n → ScOk X sc → mtE T X.N e sc py = true → JE X g cal e py
  | .var i, X, sc, py, C, hs, h => by
    unfold mtE at h
    cases q : pName py with
    | none => rw [q] at h; cases h
    | some x =>
      rw [q] at h
      simp only [Bool.and_eq_true] at h
      obtain ⟨⟨⟨h1, h2⟩, h3⟩, h4⟩ := h
      obtain ⟨p, rfl⟩ := pName_inv q
      exact je_of (je_var (of_decide_eq_true h1) (hs.vis x h2) (by simpa using h3) (by simpa using h4)) rfl fun _ => rfl
  | .non, X, sc, py, C, hs, h => by
    unfold mtE at h
    cases q : pConst py with
    | none => rw [q] at h; cases h
    | some c =>
      rw [q] at h
      obtain ⟨k, p, rfl⟩ := pConst_inv q
      cases c with
      | none => exact je_of (je_con pe_non fun _ _ => rfl) rfl fun _ => rfl
      | _ => cases h
  | .bl b, X, sc, py, C, hs, h => by
    unfold mtE at h
    cases q : pConst py with
    | none => rw [q] at h; cases h
    | some c =>
      rw [q] at h
      obtain ⟨k, p, rfl⟩ := pConst_inv q
      cases c with
      | bool c => have h := of_decide_eq_true h; subst h; exact je_of (je_con pe_bl fun _ _ => rfl) rfl fun _ => rfl
      | _ => cases h
  | .int i, X, sc, py, C, hs, h => by
    unfold mtE at h
    cases q : pConst py with
    | none => rw [q] at h; cases h
    | some c =>
      rw [q] at h
      obtain ⟨k, p, rfl⟩ := pConst_inv q
      cases c with
      | int c => have h := of_decide_eq_true h; subst h; exact je_of (je_con pe_int fun _ _ => rfl) rfl fun _ => rfl
      | _ => cases h
  | .str x, X, sc, py, C, hs, h => by
    unfold mtE at h
    cases q : pConst py with
    | none => rw [q] at h; cases h
    | some c =>
      rw [q] at h
      obtain ⟨k, p, rfl⟩ := pConst_inv q
      cases c with
      | str c =>
        have h : (decide (c = x) && okS x) = true := h
        rw [Bool.and_eq_true] at h
        have h1 := of_decide_eq_true h.1
        subst h1
        exact je_of (je_con pe_str fun _ _ => ⟨rfl, h.2⟩) rfl fun _ => rfl
      | _ => cases h
  | .gint m i, X, sc, py, C, hs, h => by
    unfold mtE at h
    cases q : pName py with
    | none => rw [q] at h; cases h
    | some x =>
      rw [q] at h
      simp only [Bool.and_eq_true] at h
      obtain ⟨⟨⟨h1, h2⟩, h3⟩, h4⟩ := h
      obtain ⟨p, rfl⟩ := pName_inv q
      have h1 := of_decide_eq_true h1
      subst h1
      obtain ⟨t, ht⟩ := C.ci (x, i) (by simpa using h4)
      exact je_of (je_con (pe_glob (v := .int i) (hs.glo x h2) ht ⟨t, rfl⟩ (by simpa using h3)) fun _ _ => rfl) rfl fun _ => rfl
  | .gstr m z, X, sc, py, C, hs, h => by
    unfold mtE at h
    cases q : pName py with
    | none => rw [q] at h; cases h
    | some x =>
      rw [q] at h
      simp only [Bool.and_eq_true] at h
      obtain ⟨⟨⟨⟨h1, h2⟩, h3⟩, h4⟩, h5⟩ := h
      obtain ⟨p, rfl⟩ := pName_inv q
      have h1 := of_decide_eq_true h1
      subst h1
      obtain ⟨t, ht⟩ := C.cs (x, z) (by simpa using h4)
      exact je_of (je_con (pe_glob (v := .str z) (hs.glo x h2) ht ⟨t, rfl⟩ (by simpa using h3)) fun _ _ => ⟨rfl, h5⟩) rfl fun _ => rfl
  | .bin o a b, X, sc, py, C, hs, h => by
    unfold mtE at h
    cases q : pBin py with
    | none => rw [q] at h; cases h
    | some t =>
      obtain ⟨l, op, r⟩ := t
      rw [q] at h
      simp only [Bool.and_eq_true] at h
      obtain ⟨⟨h1, h2⟩, h3⟩ := h
      obtain ⟨p, rfl⟩ := pBin_inv q
      have h1 := of_decide_eq_true h1
      subst h1
      exact je_of (je_bin o (jE a X sc l C hs h2).pe (jE b X sc r C hs h3).pe) rfl fun _ => rfl
  | .neg a, X, sc, py, C, hs, h => by
    unfold mtE at h
    cases q : pUn py with
    | none => rw [q] at h; cases h
    | some t =>
      obtain ⟨op, r⟩ := t
      rw [q] at h
      simp only [Bool.and_eq_true] at h
      obtain ⟨p, rfl⟩ := pUn_inv q
      have h1 := of_decide_eq_true h.1
      subst h1
      exact je_of (je_neg (jE a X sc r C hs h.2).pe) rfl fun _ => rfl
  | .not a, X, sc, py, C, hs, h => by
    unfold mtE at h
    cases q : pUn py with
    | none => rw [q] at h; cases h
    | some t =>
      obtain ⟨op, r⟩ := t
      rw [q] at h
      simp only [Bool.and_eq_true] at h
      obtain ⟨p, rfl⟩ := pUn_inv q
      have h1 := of_decide_eq_true h.1
      subst h1
      have J := jE a X sc r C hs h.2
      exact ⟨je_not J.pe, rfl, fun ht => jt_not (J.pt ht), fun _ _ _ _ _ _ z => (by cases z), rfl, fun z => by cases z⟩
  | .cmp o a b, X, sc, py, C, hs, h => by
    unfold mtE at h
    cases q : pCmp py with
    | none => rw [q] at h; cases h
    | some t =>
      obtain ⟨l, ops, rs⟩ := t
      rw [q] at h
      obtain ⟨p, rfl⟩ := pCmp_inv q
      match ops, rs, h with
      | [op], [r], h =>
        simp only [Bool.and_eq_true] at h
        obtain ⟨⟨⟨h1, h2⟩, h3⟩, h4⟩ := h
        have h1 := of_decide_eq_true h1
        subst h1
        have Ja := jE a X sc l C hs h3
        have Jb := jE b X sc r C hs h4
        exact ⟨je_cmp C.hu o h2 Ja.pe Jb.pe, rfl, fun _ => jt_cmp C.hu o h2 Ja.pe Jb.pe, fun _ _ _ _ _ _ z => (by cases z), rfl, fun z => by cases z⟩
  | .chn o p a b c, X, sc, py, C, hs, h => by
    unfold mtE at h
    cases q : pCmp py with
    | none => rw [q] at h; cases h
    | some t =>
      obtain ⟨l, ops, rs⟩ := t
      rw [q] at h
      obtain ⟨pp, rfl⟩ := pCmp_inv q
      match ops, rs, h with
      | [op, op'], [r, r'], h =>
        simp only [Bool.and_eq_true] at h
        obtain ⟨⟨⟨⟨⟨h1, h1'⟩, h2⟩, h3⟩, h4⟩, h5⟩ := h
        have h1 := of_decide_eq_true h1
        have h1' := of_decide_eq_true h1'
        subst h1 h1'
        have Ja := jE a X sc l C hs h3
        have Jb := jE b X sc r C hs h4
        have Jc := jE c X sc r' C hs h5
        exact ⟨je_chn C.hu o p h2 Ja.pe Jb.pe Jc.pe, rfl, fun _ => jt_chn C.hu o p h2 Ja.pe Jb.pe Jc.pe, fun _ _ _ _ _ _ z => (by cases z), rfl, fun z => by cases z⟩
  | .bop o es, X, sc, py, C, hs, h => by
    unfold mtE at h
    cases q : pBool py with
    | none => rw [q] at h; cases h
    | some t =>
      obtain ⟨op, vs⟩ := t
      rw [q] at h
      simp only [Bool.and_eq_true] at h
      obtain ⟨p, rfl⟩ := pBool_inv q
      have h1 := of_decide_eq_true h.1.1
      have J := jEs es X sc vs C hs h.2
      have hn := h.1.2
      rw [h1]
      by_cases he : es = []
      · subst he
        refine ⟨⟨fun pins s σ H Q I h => ?_⟩, rfl, fun _ => ⟨fun pins s σ H Q I h => ?_⟩, fun _ _ _ _ _ _ z => (by cases z), rfl, fun z => by cases z⟩
        · obtain ⟨γ, S, α, F, R, s, w, h⟩ := h
          exact False.elim h
        · obtain ⟨γ, S, α, F, R, s, w, h⟩ := h
          exact False.elim h
      · exact ⟨J.pb hn he o p, rfl, fun ht => (J.pw hn he ht o p).pt, fun _ _ _ _ _ _ z => (by cases z), rfl, fun z => by cases z⟩
  | .ite c a b, X, sc, py, C, hs, h => by
    unfold mtE at h
    cases q : pIf py with
    | none => rw [q] at h; cases h
    | some t =>
      obtain ⟨t, l, r⟩ := t
      rw [q] at h
      simp only [Bool.and_eq_true] at h
      obtain ⟨⟨⟨h1, h2⟩, h3⟩, h4⟩ := h
      obtain ⟨p, rfl⟩ := pIf_inv q
      exact ⟨je_ite ((jE c X sc t C hs h2).pt h1) (jE a X sc l C hs h3).pe (jE b X sc r C hs h4).pe, rfl, (fun z => by cases z), fun _ _ _ _ _ _ z => (by cases z), rfl, fun z => by cases z⟩
  | .tup es, X, sc, py, C, hs, h => by
    unfold mtE at h
    cases q : pTup py with
    | none => rw [q] at h; cases h
    | some ps =>
      rw [q] at h
      obtain ⟨k, p, rfl⟩ := pTup_inv q
      have J := jEs es X sc ps C hs h
      exact je_of (je_tup J.pa) rfl fun _ => rfl
  | .lst t es, X, sc, py, C, hs, h => by
    unfold mtE at h
    cases q : pLst py with
    | none => rw [q] at h; cases h
    | some ps =>
      rw [q] at h
      obtain ⟨p, rfl⟩ := pLst_inv q
      have J := jEs es X sc ps C hs h
      exact je_of (je_lst J.pa) rfl fun _ => rfl
  | .idx a b, X, sc, py, C, hs, h => by
    unfold mtE at h
    cases q : pSub py with
    | none => rw [q] at h; cases h
    | some t =>
      obtain ⟨l, r⟩ := t
      rw [q] at h
      simp only [Bool.and_eq_true] at h
      obtain ⟨⟨h1, h2⟩, h3⟩ := h
      obtain ⟨p, rfl⟩ := pSub_inv q
      exact je_of (je_idx (by have := C.hu; omega) h1 (jE a X sc l C hs h2).pe (jE b X sc r C hs h3).pe) rfl fun _ => rfl
  | .slc a lo hi, X, sc, py, C, hs, h => by
    unfold mtE at h
    cases q : pSub py with
    | none => rw [q] at h; cases h
    | some t =>
      obtain ⟨l, r⟩ := t
      rw [q] at h
      dsimp only at h
      cases q2 : pSlc r with
      | none => rw [q2] at h; cases h
      | some t2 =>
        obtain ⟨x, y⟩ := t2
        rw [q2] at h
        simp only [Bool.and_eq_true] at h
        obtain ⟨⟨h1, h2⟩, h3⟩ := h
        obtain ⟨p, rfl⟩ := pSub_inv q
        obtain ⟨p2, rfl⟩ := pSlc_inv q2
        exact je_of (je_slc (jE a X sc l C hs h1).pe (jO lo X sc x C hs h2) (jO hi X sc y C hs h3)) rfl fun _ => rfl
  | .isi e t, X, sc, py, C, hs, h => by
    unfold mtE at h
    cases q : pCall py with
    | none => rw [q] at h; cases h
    | some u =>
      obtain ⟨f, as, ks, p⟩ := u
      rw [q] at h
      have e1 := pCall_inv q
      subst e1
      match as, ks, h with
      | [x, y], [], h =>
        simp only [Bool.and_eq_true] at h
        obtain ⟨⟨h1, h2⟩, h3⟩ := h
        have J := jE e X sc x C hs h2
        exact je_of (je_isi C hs h1 J.ns J.pe h3) rfl fun _ => rfl
  | .isT e ts, X, sc, py, C, hs, h => by
    unfold mtE at h
    cases q : pCall py with
    | none => rw [q] at h; cases h
    | some u =>
      obtain ⟨f, as, ks, p⟩ := u
      rw [q] at h
      have e1 := pCall_inv q
      subst e1
      match as, ks, h with
      | [x, y], [], h =>
        simp only [Bool.and_eq_true] at h
        obtain ⟨⟨h1, h2⟩, h3⟩ := h
        cases q2 : pTup y with
        | none => rw [q2] at h3; cases h3
        | some bs =>
          rw [q2] at h3
          dsimp only at h3
          obtain ⟨k, p2, rfl⟩ := pTup_inv q2
          have J := jE e X sc x C hs h2
          rw [Bool.and_eq_true] at h3
          exact je_of (je_isT (of_decide_eq_true h3.1) C hs h1 J.ns J.pe h3.2) rfl fun _ => rfl
  | .bf b es, X, sc, py, C, hs, h => by
    unfold mtE at h
    cases q : pCall py with
    | none => rw [q] at h; cases h
    | some u =>
      obtain ⟨f, as, ks, p⟩ := u
      rw [q] at h
      have e1 := pCall_inv q
      subst e1
      match as, ks, h with
      | x :: xs, [], h =>
       dsimp only at h
       by_cases hb : b.isLr = true
       · rw [if_pos hb] at h
         rw [Bool.and_eq_true, Bool.and_eq_true] at h
         obtain ⟨⟨h1, h2⟩, h3⟩ := h
         cases xs with
         | cons _ _ => cases h1
         | nil =>
          cases q2 : pCall x with
          | none => rw [q2] at h3; cases h3
          | some u2 =>
            obtain ⟨f2, as2, ks2, p2⟩ := u2
            rw [q2] at h3
            have e2 := pCall_inv q2
            subst e2
            match as2, ks2, h3 with
            | [y], [], h3 =>
              simp only [Bool.and_eq_true] at h3
              obtain ⟨⟨h4, h5⟩, h6⟩ := h3
              have J := jEs es X sc [y] C hs h6
              match es, J, J.ln with
              | [e'], J, _ =>
                have J1 := J.one e' y rfl rfl h5
                have hh := je_lrB (pos := p) (p2 := p2) hb C hs h2 h4 J1.ns J1.pe
                have ee : ev cal (.bf b [e']) = fun γ S => ((ev cal e' γ S).bind fun d S => .ok [d] S).bind fun ds S => ofO (bfD b ds S) S := by
                  funext γ S
                  show ((evs cal [e'] γ S).bind fun ds S => ofO (bfD b ds S) S) = _
                  rw [evs_cons J1.en, evs_nil]
                rw [← ee] at hh
                exact ⟨hh, rfl, fun _ => jt_val hh fun _ => rfl, fun _ _ _ _ _ _ z => (by cases z), rfl, fun z => by rw [lr_fresh hb] at z; cases z⟩
       · rw [if_neg hb] at h
         simp only [Bool.and_eq_true] at h
         obtain ⟨⟨⟨h1, h2⟩, h3⟩, h4⟩ := h
         have J := jEs es X sc (x :: xs) C hs h3
         exact ⟨je_bf b h1 C hs h2 h4 J.pa, rfl, fun _ => jt_val (je_bf b h1 C hs h2 h4 J.pa) fun _ => rfl, fun _ _ _ _ _ _ z => (by cases z), rfl, fun z => bf_fr z C hs h2 h4 J.pa⟩
  | .bm m e es, X, sc, py, C, hs, h => by
    unfold mtE at h
    cases q : pCall py with
    | none => rw [q] at h; cases h
    | some u =>
      obtain ⟨f, as, ks, p⟩ := u
      rw [q] at h
      have e1 := pCall_inv q
      subst e1
      match ks, h with
      | [], h =>
        dsimp only at h
        cases q2 : pAttr f with
        | none => rw [q2] at h; cases h
        | some v =>
          obtain ⟨o, nm, p2⟩ := v
          rw [q2] at h
          simp only [Bool.and_eq_true] at h
          obtain ⟨⟨⟨⟨⟨⟨⟨h0, h1⟩, h2⟩, h3⟩, h4⟩, h5⟩, h6⟩, h7⟩ := h
          have e2 := pAttr_inv q2
          subst e2
          have h1 := of_decide_eq_true h1
          have h2 := of_decide_eq_true h2
          have J := jEs es X sc as C hs h5
          have Jo := jE e X sc o C hs h4
          have hl := J.ln
          cases m with
          | join =>
            subst h1
            match as, es, J, hl, h6, h7 with
            | [x], [e'], J, hl, h6, h7 =>
              have J1 := J.one e' x rfl rfl (by simpa using h6)
              have hh := je_join (pos := p) J1.ns h3 h2 Jo.pe J1.pe
              have ee : ev cal (.bm .join e [e']) = fun γ S => (ev cal e γ S).bind fun x S => if bmOk .join x S then ((ev cal e' γ S).bind fun d S => .ok [d] S).bind fun ds S => bmD .join x ds S else .bad := by
                funext γ S
                show ((ev cal e γ S).bind fun x S => if bmOk .join x S then (evs cal [e'] γ S).bind fun ds S => bmD .join x ds S else .bad) = _
                rw [evs_cons J1.en, evs_nil]
              rw [← ee] at hh
              exact je_of hh rfl fun _ => rfl
          | append =>
            subst h1
            match as, es, J, hl, h6, h7 with
            | [x], [e'], J, hl, h6, h7 =>
              have J1 := J.one e' x rfl rfl (by simpa using h6)
              have hh := je_app (pos := p) J1.ns h3 h2 Jo.pe J1.pe
              have ee : ev cal (.bm .append e [e']) = fun γ S => (ev cal e γ S).bind fun x S => if bmOk .append x S then ((ev cal e' γ S).bind fun d S => .ok [d] S).bind fun ds S => bmD .append x ds S else .bad := by
                funext γ S
                show ((ev cal e γ S).bind fun x S => if bmOk .append x S then (evs cal [e'] γ S).bind fun ds S => bmD .append x ds S else .bad) = _
                rw [evs_cons J1.en, evs_nil]
              rw [← ee] at hh
              exact je_of hh rfl fun _ => rfl
          | insert =>
            subst h1
            match as, es, J, hl, h6, h7 with
            | [x, y], [e1, e2], J, hl, h6, h7 =>
              have h6 : noStar x = true ∧ noStar y = true := by simpa using h6
              exact je_of (je_ins (pos := p) h6.1 h6.2 h3 h2 Jo.pe J.pa (fun γ S ds S' z => by rw [J.el (by simpa using h6) γ S ds S' z, ← J.ln]; rfl)) rfl fun _ => rfl
          | _ => cases h0
  | .call f es kes pl, X, sc, py, C, hs, h => by
    unfold mtE at h
    cases q : pCall py with
    | none => rw [q] at h; cases h
    | some u =>
      obtain ⟨hd, as, kws, p⟩ := u
      rw [q] at h
      have e1 := pCall_inv q
      subst e1
      dsimp only at h
      cases q2 : pName hd with
      | none => rw [q2] at h; cases h
      | some x =>
        rw [q2] at h
        simp only [Bool.and_eq_true] at h
        obtain ⟨⟨⟨⟨⟨⟨⟨⟨h1, h0⟩, h2⟩, h3⟩, h4⟩, h5⟩, h5'⟩, h6⟩, h7⟩ := h
        obtain ⟨p2, rfl⟩ := pName_inv q2
        have J := jEs es X sc as C hs h4
        have Jk := jEs kes X sc (kws.map (·.value)) C hs h5'
        cases q3 : kwNames kws with
        | none => rw [q3] at h7; cases h7
        | some kn =>
          rw [q3] at h7
          exact je_of (je_call C (of_decide_eq_true h1) (by simpa using h0) (hs.glo x h2) (by simpa using h3) (J.ja kws h6) (Jk.pk h5 kws rfl) q3 (kes_nil Jk) (kes_len Jk h5) h6 (Tab.hasKb_mem h7)) rfl fun _ => rfl
  | .mk t c f es kes pl, X, sc, py, C, hs, h => by
    unfold mtE at h
    cases q : pCall py with
    | none => rw [q] at h; cases h
    | some u =>
      obtain ⟨hd, as, kws, p⟩ := u
      rw [q] at h
      have e1 := pCall_inv q
      subst e1
      dsimp only at h
      cases q2 : pName hd with
      | none => rw [q2] at h; cases h
      | some x =>
        rw [q2] at h
        simp only [Bool.and_eq_true] at h
        obtain ⟨⟨⟨⟨⟨⟨⟨⟨h1, h2⟩, h3⟩, h0⟩, h4⟩, h5⟩, h5'⟩, h6⟩, h7⟩ := h
        obtain ⟨p2, rfl⟩ := pName_inv q2
        have J := jEs es X sc as C hs h4
        have Jk := jEs kes X sc (kws.map (·.value)) C hs h5'
        cases q3 : kwNames kws with
        | none => rw [q3] at h7; cases h7
        | some kn =>
          rw [q3] at h7
          exact je_of (je_mk C (of_decide_eq_true h1) (hs.glo x h2) (by simpa using h3) (by simpa using h0) (J.ja kws h6) (Jk.pk h5 kws rfl) q3 (kes_nil Jk) (kes_len Jk h5) h6 (Tab.hasKb_mem h7)) rfl fun _ => rfl
  | .mth e m tb es kes pl, X, sc, py, C, hs, h => by
    unfold mtE at h
    cases q : pCall py with
    | none => rw [q] at h; cases h
    | some u =>
      obtain ⟨hd, as, kws, p⟩ := u
      rw [q] at h
      have e1 := pCall_inv q
      subst e1
      dsimp only at h
      cases q2 : pAttr hd with
      | none => rw [q2] at h; cases h
      | some v =>
        obtain ⟨o, x, p2⟩ := v
        rw [q2] at h
        dsimp only at h
        cases q3 : kwNames kws with
        | none => rw [q3] at h; cases h
        | some kn =>
          rw [q3] at h
          simp only [Bool.and_eq_true] at h
          obtain ⟨⟨⟨⟨⟨⟨⟨⟨h1, h2⟩, h3⟩, h4⟩, h5⟩, h6⟩, h6'⟩, h7⟩, h8⟩ := h
          have e2 := pAttr_inv q2
          subst e2
          have Jo := jE e X sc o C hs h3
          have J := jEs es X sc as C hs h5
          have Jk := jEs kes X sc (kws.map (·.value)) C hs h6'
          exact je_of (je_mth C (of_decide_eq_true h1) h2 Jo.pe (J.ja kws (few_arg h7)) (Jk.pk h6 kws rfl) q3 (kes_nil Jk) (kes_len Jk h6) h7 (of_decide_eq_true h8) fun q hq => by
            have := List.all_eq_true.mp h4 q hq
            rw [Bool.and_eq_true] at this
            exact ⟨by simpa using this.1, Tab.hasKb_mem this.2⟩) rfl fun _ => rfl
  | .smt c m f es kes pl, X, sc, py, C, hs, h => by
    unfold mtE at h
    cases q : pCall py with
    | none => rw [q] at h; cases h
    | some u =>
      obtain ⟨hd, as, kws, p⟩ := u
      rw [q] at h
      have e1 := pCall_inv q
      subst e1
      dsimp only at h
      cases q2 : pAttr hd with
      | none => rw [q2] at h; cases h
      | some v =>
        obtain ⟨o, x, p2⟩ := v
        rw [q2] at h
        dsimp only at h
        cases q4 : pName o with
        | none => rw [q4] at h; cases h
        | some y =>
          cases q3 : kwNames kws with
          | none => rw [q4, q3] at h; cases h
          | some kn =>
            rw [q4, q3] at h
            simp only [Bool.and_eq_true] at h
            obtain ⟨⟨⟨⟨⟨⟨⟨⟨⟨⟨h1, h2⟩, h3⟩, h4⟩, h5⟩, h6⟩, h7⟩, h8⟩, h8'⟩, h9⟩, h10⟩ := h
            have e2 := pAttr_inv q2
            subst e2
            obtain ⟨p3, rfl⟩ := pName_inv q4
            have J := jEs es X sc as C hs h7
            have Jk := jEs kes X sc (kws.map (·.value)) C hs h8'
            exact je_of (je_smt C (of_decide_eq_true h1) (of_decide_eq_true h2) (hs.glo y h3) (by simpa using h4) (by simpa using h5) (J.ja kws (few_arg h9)) (Jk.pk h8 kws rfl) q3 (kes_nil Jk) (kes_len Jk h8) h9 (of_decide_eq_true h10) (Tab.hasKb_mem h6)) rfl fun _ => rfl
  | .cmt c m f es kes pl, X, sc, py, C, hs, h => by
    unfold mtE at h
    cases q : pCall py with
    | none => rw [q] at h; cases h
    | some u =>
      obtain ⟨hd, as, kws, p⟩ := u
      rw [q] at h
      have e1 := pCall_inv q
      subst e1
      dsimp only at h
      cases q2 : pAttr hd with
      | none => rw [q2] at h; cases h
      | some v =>
        obtain ⟨o, x, p2⟩ := v
        rw [q2] at h
        dsimp only at h
        cases q4 : pName o with
        | none => rw [q4] at h; cases h
        | some y =>
          cases q3 : kwNames kws with
          | none => rw [q4, q3] at h; cases h
          | some kn =>
            rw [q4, q3] at h
            simp only [Bool.and_eq_true] at h
            obtain ⟨⟨⟨⟨⟨⟨⟨⟨⟨⟨h1, h2⟩, h3⟩, h4⟩, h5⟩, h6⟩, h7⟩, h8⟩, h8'⟩, h9⟩, h10⟩ := h
            have e2 := pAttr_inv q2
            subst e2
            obtain ⟨p3, rfl⟩ := pName_inv q4
            have J := jEs es X sc as C hs h7
            have Jk := jEs kes X sc (kws.map (·.value)) C hs h8'
            exact je_of (je_cmt C (of_decide_eq_true h1) (of_decide_eq_true h2) (hs.glo y h3) (by simpa using h4) (by simpa using h5) (J.ja kws (few_arg h9)) (Jk.pk h8 kws rfl) q3 (kes_len Jk h8) h9 (of_decide_eq_true h10) (Tab.hasKb_mem h6)) rfl fun _ => rfl
  | .mkv t e tb es kes pl, X, sc, py, C, hs, h => by
    unfold mtE at h
    cases q : pCall py with
    | none => rw [q] at h; cases h
    | some u =>
      obtain ⟨hd, as, kws, p⟩ := u
      rw [q] at h
      have e1 := pCall_inv q
      subst e1
      dsimp only at h
      cases q3 : kwNames kws with
      | none => rw [q3] at h; cases h
      | some kn =>
        rw [q3] at h
        simp only [Bool.and_eq_true] at h
        obtain ⟨⟨⟨⟨⟨⟨h1, h2⟩, h3⟩, h4⟩, h5⟩, h6⟩, h7⟩ := h
        cases q2 : pName hd with
        | none => rw [q2] at h1; cases h1
        | some x =>
          obtain ⟨p2, rfl⟩ := pName_inv q2
          have Jo := jE e X sc _ C hs h2
          have J := jEs es X sc as C hs h4
          have Jk := jEs kes X sc (kws.map (·.value)) C hs h6
          exact je_of (je_mkv (i := 0) C Jo.pe (fun q hq => by
            have := List.all_eq_true.mp h3 q hq
            rw [Bool.and_eq_true] at this
            exact ⟨by simpa using this.1, Tab.hasKb_mem this.2⟩) (J.ja kws h7) (Jk.pk h5 kws rfl) q3 (kes_nil Jk) (kes_len Jk h5) h7) rfl fun _ => rfl
  | .att e i tb, X, sc, py, C, hs, h => by
    unfold mtE at h
    cases q : pAttr py with
    | none => rw [q] at h; cases h
    | some v =>
      obtain ⟨o, x, p⟩ := v
      rw [q] at h
      simp only [Bool.and_eq_true] at h
      obtain ⟨⟨⟨h1, h2⟩, h3⟩, h4⟩ := h
      have e2 := pAttr_inv q
      subst e2
      have Jo := jE e X sc o C hs h3
      refine je_of (je_att C (of_decide_eq_true h1) h2 Jo.pe fun q hq => ?_) rfl fun _ => rfl
      have := List.all_eq_true.mp h4 q hq
      obtain ⟨qc, qa⟩ := q
      cases qa with
      | prp f =>
        have this : (T.pr.contains (qc, i, f) && T.hasKb f [] ⟨1, false, [.pos 0]⟩) = true := this
        rw [Bool.and_eq_true] at this
        exact ⟨by simpa using this.1, Tab.hasKb_mem this.2⟩
      | con d =>
        have this : (T.cn.any fun q => q.1 == qc && q.2.1 == i && sameC q.2.2 d) = true := this
        obtain ⟨⟨a1, a2, a3⟩, hm, hh⟩ := List.any_eq_true.mp this
        simp only [Bool.and_eq_true, beq_iff_eq] at hh
        obtain ⟨⟨e1, e2⟩, e3⟩ := hh
        have e3 := (sameC_eq e3).1
        subst e1 e2 e3
        exact hm
      | fld => simpa using this
  | .cst c i d, X, sc, py, C, hs, h => by
    unfold mtE at h
    cases q : pAttr py with
    | none => rw [q] at h; cases h
    | some v =>
      obtain ⟨o, x, p⟩ := v
      rw [q] at h
      dsimp only at h
      cases q2 : pName o with
      | none => rw [q2] at h; cases h
      | some y =>
        rw [q2] at h
        simp only [Bool.and_eq_true] at h
        obtain ⟨⟨⟨⟨h1, h2⟩, h3⟩, h4⟩, h5⟩ := h
        have e2 := pAttr_inv q
        subst e2
        obtain ⟨p2, rfl⟩ := pName_inv q2
        obtain ⟨⟨a1, a2, a3⟩, hm, hh⟩ := List.any_eq_true.mp h5
        simp only [Bool.and_eq_true, beq_iff_eq] at hh
        obtain ⟨⟨e1, e2⟩, e3⟩ := hh
        have e3 := (sameC_eq e3).1
        subst e1 e2 e3
        exact je_of (je_cst C (of_decide_eq_true h1) (of_decide_eq_true h2) (hs.glo y h3) (by simpa using h4) hm) rfl fun _ => rfl
  | .own o tb sb es, X, sc, py, C, hs, h => by
    unfold mtE at h
    cases o with
    | len =>
      dsimp only at h
      cases q : pCall py with
      | none => rw [q] at h; cases h
      | some u =>
        obtain ⟨f, as, ks, p⟩ := u
        rw [q] at h
        have e1 := pCall_inv q
        subst e1
        match as, ks, h with
        | [a], [], h =>
          simp only [Bool.and_eq_true] at h
          obtain ⟨⟨⟨h1, h2⟩, h3⟩, h4⟩ := h
          have J := jEs es X sc [a] C hs h4
          exact je_of (je_olen C hs h1 h2 J.pa (fun γ S ds S' e => by rw [J.el (by simpa using h2) γ S ds S' e, ← J.ln]; rfl) fun q hq => by
            have := List.all_eq_true.mp h3 q hq
            rw [Bool.and_eq_true] at this
            exact ⟨by simpa using this.1, Tab.hasKb_mem this.2⟩) rfl fun _ => rfl
    | repr =>
      dsimp only at h
      cases q : pCall py with
      | none => rw [q] at h; cases h
      | some u =>
        obtain ⟨f, as, ks, p⟩ := u
        rw [q] at h
        have e1 := pCall_inv q
        subst e1
        match as, ks, h with
        | [a], [], h =>
          simp only [Bool.and_eq_true] at h
          obtain ⟨⟨⟨h1, h2⟩, h3⟩, h4⟩ := h
          have J := jEs es X sc [a] C hs h4
          exact je_of (je_orep C hs h1 h2 J.pa (fun γ S ds S' e => by rw [J.el (by simpa using h2) γ S ds S' e, ← J.ln]; rfl) fun q hq => by
            have := List.all_eq_true.mp h3 q hq
            rw [Bool.and_eq_true] at this
            exact ⟨by simpa using this.1, Tab.hasKb_mem this.2⟩) rfl fun _ => rfl
    | eq => exact own_eq false h C (fun l r p hh => jEs es X sc [l, r] C hs hh) rfl
    | ne => exact own_eq true h C (fun l r p hh => jEs es X sc [l, r] C hs hh) rfl
    | _ => cases h
  | .fst es, X, sc, py, C, hs, h => by
    unfold mtE at h
    cases q : pJoin py with
    | none => rw [q] at h; cases h
    | some vs =>
      rw [q] at h
      obtain ⟨p, rfl⟩ := pJoin_inv q
      match vs, h with
      | v :: u :: vs, h => exact je_of (je_fst (jJs es X sc (v :: u :: vs) C hs h)) rfl fun _ => rfl
  | .trk e, X, sc, py, C, hs, h => by
    unfold mtE at h
    rw [Bool.and_eq_true] at h
    have J := jE e X sc py C hs h.2
    obtain ⟨k1, k2⟩ := J.fr h.1
    exact ⟨je_trk k2 k1, J.ns, (fun z => by cases z), fun _ _ _ _ _ _ z => (by cases z), rfl, fun z => by cases z⟩
  | .nev, X, sc, py, C, hs, h => ⟨je_nev, h, (fun z => by cases z), fun _ _ _ _ _ _ z => (by cases z), rfl, fun z => by cases z⟩
  | .star e, X, sc, py, C, hs, h => by cases h
  | .lc2 .., X, sc, py, C, hs, h => by cases h
  | .scl .., X, sc, py, C, hs, h => by cases h
  | .scl2 .., X, sc, py, C, hs, h => by cases h
  | .dct .., X, sc, py, C, hs, h => by cases h
  | .dct1 .., X, sc, py, C, hs, h => by cases h
  | .dcl .., X, sc, py, C, hs, h => by cases h
  | .rev .., X, sc, py, C, hs, h => by cases h
  | .sup .., X, sc, py, C, hs, h => by cases h
  | .ink neg a c i xs, X, sc, py, C, hs, h => by
    unfold mtE at h
    cases q : pCmp py with
    | none => rw [q] at h; cases h
    | some t =>
      obtain ⟨l, ops, rs⟩ := t
      rw [q] at h
      obtain ⟨p, rfl⟩ := pCmp_inv q
      match ops, rs, h with
      | [op], [r], h =>
        simp only [Bool.and_eq_true] at h
        obtain ⟨⟨⟨h1, h2⟩, h3⟩, h4⟩ := h
        have Ja := jE a X sc l C hs h3
        cases q2 : pAttr r with
        | none => rw [q2] at h4; cases h4
        | some v =>
          obtain ⟨o, x, p2⟩ := v
          rw [q2] at h4
          dsimp only at h4
          cases q3 : pName o with
          | none => rw [q3] at h4; cases h4
          | some y =>
            rw [q3] at h4
            simp only [Bool.and_eq_true] at h4
            obtain ⟨⟨⟨⟨k1, k2⟩, k3⟩, k4⟩, k5⟩ := h4
            have e2 := pAttr_inv q2
            subst e2
            obtain ⟨p3, rfl⟩ := pName_inv q3
            obtain ⟨e1, e3⟩ := je_ink (of_decide_eq_true h1) C (of_decide_eq_true k1) (of_decide_eq_true k2) (hs.glo y k3) (by simpa using k4) (by simpa using k5) Ja.pe
            exact ⟨e1, rfl, fun _ => e3, fun _ _ _ _ _ _ z => (by cases z), rfl, fun z => by cases z⟩
  | .lc tg own k its ifs e, X, sc, py, C, hs, h => by
    unfold mtE at h
    cases q : pLc py with
    | none => rw [q] at h; cases h
    | some u =>
      obtain ⟨elt, gs, scope, p⟩ := u
      rw [q] at h
      have e1 := pLc_inv q
      subst e1
      match gs, h with
      | [⟨t, iter, fs, 0⟩], h =>
        simp only [Bool.and_eq_true] at h
        obtain ⟨⟨⟨⟨⟨⟨h1, h2⟩, h3⟩, h4⟩, h5⟩, h6⟩, h7⟩ := h
        have hk := (blkOk_by h1).kind
        cases q2 : itArgs T k sc t iter with
        | none => rw [q2] at h3; cases h3
        | some as =>
          rw [q2] at h3
          dsimp only at h3
          rw [Bool.and_eq_true] at h3
          have J := jEs its X sc as C hs h3.2
          have L : LcP X g cal tg own k its ifs e (.ListComp elt [⟨t, iter, fs, 0⟩] scope p) :=
            ⟨elt, t, iter, fs, scope, p, rfl, jI C hs q2 h3.1 J, blk_of hs h1, fun s H A cl fp => (jg (X := X.blk s H scope (compEnvC scope cl A X.env) fp) (g := g) C.calm C.nd (scok_blk (own := []) (sc := sc) hk) tg t h4).1,
              fun s H A cl fp => jF ifs (X.blk s H scope (compEnvC scope cl A X.env) fp) scope fs (C.blk s H scope _ fp) (scok_blk (own := []) (sc := sc) hk) h6,
              fun s H A cl fp => (jE e (X.blk s H scope (compEnvC scope cl A X.env) fp) scope elt (C.blk s H scope _ fp) (scok_blk (own := []) (sc := sc) hk) h7).pe, h2, fun i hi => by
                have := List.all_eq_true.mp h5 i hi
                simpa using this⟩
          exact ⟨L.pe C.calm C.nd, rfl, fun _ => jt_val (L.pe C.calm C.nd) fun _ => rfl, fun tg' own' k' its' ifs' e' z => (by cases z; exact L), rfl, fun _ => ⟨L.fr C.calm C.nd, fun γ S d S' z => lc_lst z⟩⟩
  | .frz e, X, sc, py, C, hs, h => by
    have J := jE e X sc py C hs h
    exact ⟨je_frz J.pe, J.ns, (fun z => by cases z), fun _ _ _ _ _ _ z => (by cases z), rfl, fun z => by cases z⟩
theorem jEs : ∀ (es : List E) (X : Cx) (sc : Scope) (pys : List Expr), Cok T g cal X n → ScOk X sc → mtEs T X.N es sc pys = true → JEs X g cal es pys
  | [], X, sc, pys, C, hs, h => by
    have e : pys = [] := by
      have h : pys.isEmpty = true := h
      simpa using h
    subst e
    exact jes_nil
  | e :: es, X, sc, pys, C, hs, h => by
    cases pys with
    | nil => cases h
    | cons p ps =>
      unfold mtEs at h
      dsimp only at h
      rw [Bool.and_eq_true] at h
      obtain ⟨h1, h3⟩ := h
      have Js := jEs es X sc ps C hs h3
      by_cases hst : ∃ e', e = .star e'
      · obtain ⟨e', rfl⟩ := hst
        dsimp only at h1
        cases q : pStar p with
        | none => rw [q] at h1; cases h1
        | some z =>
          rw [q] at h1
          obtain ⟨p2, rfl⟩ := pStar_inv q
          exact jes_star (jE e' X sc z C hs h1) Js
      · have h1 : (noStar p && mtE T X.N e sc p) = true := by
          cases e <;> first | exact h1 | exact absurd ⟨_, rfl⟩ hst
        rw [Bool.and_eq_true] at h1
        exact jes_cons h1.1 (jE e X sc p C hs h1.2) Js
theorem jJs : ∀ (es : List E) (X : Cx) (sc : Scope) (pys : List Expr), Cok T g cal X n → ScOk X sc → mtJs T X.N es sc pys = true → JJ X g cal es pys
  | [], X, sc, pys, C, hs, h => by
    have e : pys = [] := by
      have h : pys.isEmpty = true := h
      simpa using h
    subst e
    exact jj_nil
  | e :: es, X, sc, pys, C, hs, h => by
    cases pys with
    | nil => cases h
    | cons p ps =>
      unfold mtJs at h
      dsimp only at h
      rw [Bool.and_eq_true] at h
      obtain ⟨h1, h3⟩ := h
      have Js := jJs es X sc ps C hs h3
      cases q : pFmt p with
      | some z =>
        rw [q] at h1
        obtain ⟨p2, rfl⟩ := pFmt_inv q
        have J := jE e X sc z C hs h1
        exact jj_cons J.en (pe_fmt J.pe) (fun σ H Q h => h) Js
      | none =>
        rw [q] at h1
        dsimp only at h1
        cases q2 : pConst p with
        | none => rw [q2] at h1; cases h1
        | some c =>
          rw [q2] at h1
          obtain ⟨k, p2, rfl⟩ := pConst_inv q2
          cases c with
          | str z =>
            cases e with
            | str y =>
              have h1 : (decide (z = y) && okS y) = true := h1
              rw [Bool.and_eq_true] at h1
              have h2 := of_decide_eq_true h1.1
              subst h2
              refine jj_cons rfl (pe_str (x := z)) (fun σ H Q h => ?_) Js
              obtain ⟨γ, S, α, F, R, s, w, h⟩ := h
              have h := h (.str z) H α F Ext.refl w ⟨rfl, h1.2⟩
              rcases h with ⟨y, e, _, h⟩ | ⟨i, e, _⟩
              · cases e; exact h
              · cases e
            | _ => cases h1
          | _ => cases h1
theorem jO : ∀ (e : Option E) (X : Cx) (sc : Scope) (py : Option Expr), Cok T g cal X n → ScOk X sc → mtO T X.N e sc py = true → PO X py (tIo X.K g (evO cal e))
  | none, X, sc, py, C, hs, h => by
    cases py with
    | none => exact jo_none
    | some p => cases h
  | some e, X, sc, py, C, hs, h => by
    cases py with
    | none => cases h
    | some p => exact jo_some (jE e X sc p C hs h).pe
theorem jF : ∀ (es : List E) (X : Cx) (sc : Scope) (pys : List Expr), Cok T g cal X n → ScOk X sc → mtFs T X.N es sc pys = true → PTs X pys (tIb X.K g (evF cal es))
  | [], X, sc, pys, C, hs, h => by
    have e : pys = [] := by
      have h : pys.isEmpty = true := h
      simpa using h
    subst e
    refine ⟨fun pins s σ H Q I h => pts_nil.run pins s σ H Q I ?_⟩
    obtain ⟨γ, S, α, F, R, s, w, h⟩ := h
    exact h true H α F Ext.refl w rfl
  | e :: es, X, sc, pys, C, hs, h => by
    match pys, h with
    | [p], h =>
      have h : (es.isEmpty && tst e && mtE T X.N e sc p) = true := h
      simp only [Bool.and_eq_true] at h
      obtain ⟨⟨h1, h2⟩, h3⟩ := h
      have h1 : es = [] := by simpa using h1
      subst h1
      have J := jE e X sc p C hs h3
      refine ⟨fun pins s σ H Q I h => (pts_one (J.pt h2)).run pins s σ H Q I ?_⟩
      obtain ⟨γ, S, α, F, R, s, w, h⟩ := h
      refine ⟨γ, S, α, F, R, s, w, ?_⟩
      have h : Aft X.K g R _ α F ((ev cal e γ S).bind fun x S => match truD x S with | some true => .ok true S | some false => .ok false S | none => .bad) Q := h
      unfold trm
      cases q : ev cal e γ S with
      | exc => rw [q] at h; exact h
      | bad => rw [q] at h; exact h
      | ok d S' =>
        rw [q] at h
        dsimp only [Out.bind] at h ⊢
        cases q2 : truD d S' with
        | none => rw [q2] at h; exact h
        | some b => rw [q2] at h; cases b <;> exact h
end
end
end Itp
namespace Itp
open PySem PySem.Spec PyProof.Rows L2
/-- the names that are stored from the right (swappedStores), as a plain function -/
def swN (ts vs : List Expr) (fn : Bool) (ko : Str → Option NameKind) : Option (Option (List Str)) :=
  if !(ts.length == 2 || ts.length == 3) || vs.length != ts.length || !fn then some none
  else if vs.any (fun | .Starred .. => true | _ => false) then some none
  else
    let line := (ts.head?.map (·.pos.line)).getD 0
    let names := ts.filterMap fun
      | .Name id pos => if ko id == some .local && pos.line == line then some id else none
      | _ => none
    if names.length != ts.length || names.eraseDups.length != names.length then some none
    else if vs.all (foldedForSure 8) then some none
    else if vs.all (constantsAlone 8) then none
    else some (some names)
def swO (tg value : Expr) (sc : Scope) : Option (Option (List Str)) := match pTup tg, pTup value with
  | some ts, some vs => swN ts vs (sc.kind == .function) (fun x => sc.names.lookup x)
  | _, _ => some none
theorem swO_ok {tg value : Expr} {env : Env} {r : Option (List Str)} (hk : env.scope.kind = .function) (hl : ∀ es p, tg ≠ .List es p) (h : swO tg value env.scope = some r) : swappedStores [tg] value env = pure r := by
  unfold swO at h
  have hb : (env.blockKind != ScopeKind.function) = false := by unfold Env.blockKind; rw [hk]; rfl
  cases q : pTup tg with
  | none =>
    rw [q] at h
    have h : some none = some r := h
    cases h
    unfold swappedStores
    cases tg <;> first | (cases q; done) | rfl | exact absurd rfl (hl _ _)
  | some ts =>
    obtain ⟨k, p, rfl⟩ := pTup_inv q
    cases q2 : pTup value with
    | none =>
      rw [q, q2] at h
      have h : some none = some r := h
      cases h
      unfold swappedStores
      cases value <;> first | (cases q2; done) | rfl
    | some vs =>
      obtain ⟨k2, p2, rfl⟩ := pTup_inv q2
      rw [q, q2] at h
      dsimp only at h
      unfold swN at h
      have hf : (env.scope.kind == ScopeKind.function) = true := by rw [hk]; rfl
      rw [hf] at h
      unfold swappedStores
      simp only [hb, Bool.not_true, Bool.or_false] at h ⊢
      split at h
      · rename_i c
        cases h
        simp only [c, if_true]
      · rename_i c
        rw [if_neg c]
        split at h
        · rename_i c2
          cases h
          exact if_pos c2
        · rename_i c2
          refine (if_neg c2).trans ?_
          split at h
          · rename_i c3
            cases h
            exact if_pos c3
          · rename_i c3
            refine (if_neg c3).trans ?_
            split at h
            · rename_i c4
              cases h
              exact if_pos c4
            · rename_i c4
              refine (if_neg c4).trans ?_
              split at h
              · cases h
              · rename_i c5
                cases h
                exact if_neg c5
end Itp
namespace Itp
open PySem PySem.Spec PyProof.Rows L2
/-! ### the parts of a statement -/
def qAsg : Stmt → Option (Expr × Expr × Pos)
  | .Assign [t] v p => some (t, v, p)
  | _ => none
def qExpr : Stmt → Option (Expr × Pos)
  | .Expr v p => some (v, p)
  | _ => none
def qRet : Stmt → Option (Option Expr)
  | .Return v _ => some v
  | _ => none
def qIf : Stmt → Option (Expr × List Stmt × List Stmt)
  | .If c a b _ => some (c, a, b)
  | _ => none
def qFor : Stmt → Option (Expr × Expr × List Stmt)
  | .For t i b [] _ => some (t, i, b)
  | _ => none
def qWhile : Stmt → Option (Expr × List Stmt)
  | .While c b [] _ => some (c, b)
  | _ => none
def qCont : Stmt → Bool
  | .Continue _ => true
  | _ => false
theorem qCont_inv {py : Stmt} (h : qCont py = true) : ∃ p, py = .Continue p := by cases py <;> first | exact ⟨_, rfl⟩ | cases h
def qAug : Stmt → Option (Expr × Operator × Expr × Pos)
  | .AugAssign t o v p => some (t, o, v, p)
  | _ => none
theorem qAug_inv {py : Stmt} {t o v p} (h : qAug py = some (t, o, v, p)) : py = .AugAssign t o v p := by cases py <;> first | (cases h; rfl) | cases h
def augOp : BO → Option Operator
  | .add => some .Add
  | .sub => some .Sub
  | _ => none
def qPass : Stmt → Bool
  | .Pass _ => true
  | _ => false
section
variable {py : Stmt}
theorem qAsg_inv {t v p} (h : qAsg py = some (t, v, p)) : py = .Assign [t] v p := by
  cases py <;> first | (cases h; done) | skip
  rename_i ts v' p'
  match ts, h with
  | [t'], h => cases h; rfl
theorem qExpr_inv {v p} (h : qExpr py = some (v, p)) : py = .Expr v p := by cases py <;> first | (cases h; rfl) | cases h
theorem qRet_inv {v} (h : qRet py = some v) : ∃ p, py = .Return v p := by cases py <;> first | (cases h; exact ⟨_, rfl⟩) | cases h
theorem qIf_inv {c a b} (h : qIf py = some (c, a, b)) : ∃ p, py = .If c a b p := by cases py <;> first | (cases h; exact ⟨_, rfl⟩) | cases h
theorem qFor_inv {t i b} (h : qFor py = some (t, i, b)) : ∃ p, py = .For t i b [] p := by
  cases py <;> first | (cases h; done) | skip
  rename_i t' i' b' o' p'
  match o', h with
  | [], h => cases h; exact ⟨_, rfl⟩
theorem qWhile_inv {c b} (h : qWhile py = some (c, b)) : ∃ p, py = .While c b [] p := by
  cases py <;> first | (cases h; done) | skip
  rename_i t' b' o' p'
  match o', h with
  | [], h => cases h; exact ⟨_, rfl⟩
theorem qPass_inv (h : qPass py = true) : ∃ p, py = .Pass p := by cases py <;> first | exact ⟨_, rfl⟩ | cases h
end
/-- a comprehension -/
def noComp : Expr → Bool
  | .ListComp .. => false
  | .SetComp .. => false
  | .DictComp .. => false
  | _ => true
/-- a comprehension whose list is stored by its own block -/
def swc (sc : Scope) (x : Str) (line : Nat) (v : Expr) : Bool := match v with
  | .ListComp _ _ s p => (match sc.names.lookup x with | some .local => true | _ => false) && line == p.line && !(s.names.any fun (n, k) => n == x && (k == .local || k == .cell))
  | _ => false
theorem swc_false {x : Str} {p : Pos} {v : Expr} {line : Nat} {env : Env} (hk : env.scope.kind = .function) (hv : noComp v = true ∨ ∃ a b c d, v = .ListComp a b c d) (h : swc env.scope x p.line v = false) : swapsWith v (some (.Name x p)) line env = pure false := by
  have hb : (env.blockKind == ScopeKind.function) = true := by unfold Env.blockKind; rw [hk]; rfl
  rcases hv with hv | ⟨a, b, c, d, rfl⟩
  · cases v <;> first | rfl | cases hv
  · unfold swapsWith
    show (pure (env.blockKind == ScopeKind.function && env.kindOf x == some .local && p.line == d.line && !(c.names.any fun (n, k) => n == x && (k == .local || k == .cell))) : Sem Bool) = pure false
    congr 1
    have h : ((match env.scope.names.lookup x with | some .local => true | _ => false) && p.line == d.line && !(c.names.any fun (n, k) => n == x && (k == .local || k == .cell))) = false := h
    rw [hb, Bool.true_and]
    rw [← h]
    congr 2
    show (env.scope.names.lookup x == some .local) = _
    cases env.scope.names.lookup x with
    | none => rfl
    | some k => cases k <;> rfl
theorem swc_true {x : Str} {p : Pos} {a b c d} {line : Nat} {env : Env} (hk : env.scope.kind = .function) (h : swc env.scope x p.line (.ListComp a b c d) = true) : swapsWith (.ListComp a b c d) (some (.Name x p)) line env = pure true ∧ env.scope.names.lookup x = some .local := by
  have hb : (env.blockKind == ScopeKind.function) = true := by unfold Env.blockKind; rw [hk]; rfl
  have h : ((match env.scope.names.lookup x with | some .local => true | _ => false) && p.line == d.line && !(c.names.any fun (n, k) => n == x && (k == .local || k == .cell))) = true := h
  simp only [Bool.and_eq_true] at h
  obtain ⟨⟨h1, h2⟩, h3⟩ := h
  have hl : env.scope.names.lookup x = some .local := by
    cases q : env.scope.names.lookup x with
    | none => rw [q] at h1; cases h1
    | some k => rw [q] at h1; cases k <;> first | rfl | cases h1
  refine ⟨?_, hl⟩
  unfold swapsWith
  show (pure (env.blockKind == ScopeKind.function && env.kindOf x == some .local && p.line == d.line && !(c.names.any fun (n, k) => n == x && (k == .local || k == .cell))) : Sem Bool) = pure true
  congr 1
  have e : (env.kindOf x == some .local) = true := by
    show (env.scope.names.lookup x == some .local) = true
    rw [hl]; rfl
  rw [hb, e, h2, h3]
  rfl
/-! ### the checker of statements -/
section
variable (T : Tab) (N : List Str)
def namesOf : List Expr → Option (List Str)
  | [] => some []
  | p :: ps => match pName p, namesOf ps with
    | some x, some xs => some (x :: xs)
    | _, _ => none
/-- a field as a target -/
def mtF (o : E) (cs : List Nat) (sc : Scope) (i : Nat) (t : Expr) : Bool := match pAttr t with
  | some (a, x, _) => decide (T.nm[i]? = some x) && mtE T N o sc a && cs.all (fun c => T.nf.contains (c, i))
  | none => false
def mtFl (o : E) (cs : List Nat) (sc : Scope) : List Nat → List Expr → Bool
  | [], ts => ts.isEmpty
  | i :: is, ts => (match ts with
    | [] => false
    | t :: ts => mtF T N o cs sc i t && mtFl o cs sc is ts)
mutual
def mtS : St → Scope → Stmt → Bool
  | .set i e, sc, py => (match qAsg py with
    | some (t, v, _) => (match pName t with
      | some x => decide (N[i]? = some x) && stoB sc x && mtE T N e sc v && (noComp v || isLc e) && (!(swc sc x t.pos.line v) || isLc e)
      | none => false)
    | none => false)
  | .asg tg e, sc, py => (match qAsg py with
    | some (t, v, _) => (pTup t).isSome && mtTg N sc tg t && mtE T N e sc v && decide (swO t v sc = some none)
    | none => false)
  | .par is es, sc, py => (match qAsg py with
    | some (t, v, _) => (match pTup t, pTup v with
      | some ts, some vs => (match namesOf ts with
        | some xs => decide (is.map (N[·]?) = xs.map some) && decide is.Nodup && (xs.all fun x => decide (sc.names.lookup x = some .local)) && vs.all noStar && mtEs T N es sc vs && decide (swO t v sc = some (some xs)) && (is.length == 2 || is.length == 3) && vs.length == is.length
        | none => false)
      | _, _ => false)
    | none => false)
  | .idx o i e, sc, py => (match qAsg py with
    | some (t, v, _) => (match pSub t with
      | some (a, b) => noSlc b && mtE T N o sc a && mtE T N i sc b && mtE T N e sc v
      | none => false)
    | none => false)
  | .expr e, sc, py => (match qExpr py with
    | some (v, _) => noComp v && mtE T N e sc v
    | none => false)
  | .ret e, sc, py => (match qRet py with
    | some (some v) => mtE T N e sc v
    | _ => false)
  | .retN, _, py => (match qRet py with
    | some none => true
    | _ => false)
  | .pass, _, py => qPass py
  | .ifs c a b, sc, py => (match qIf py with
    | some (c', a', b') => tst c && mtE T N c sc c' && mtSs a sc a' && mtSs b sc b'
    | none => false)
  | .for tg k its b, sc, py => (match qFor py with
    | some (t, iter, b') => noSet iter && (match itArgs T k sc t iter with | some as => as.all noStar && mtEs T N its sc as | none => false) && mtTg N sc tg t && mtSs b sc b'
    | none => false)
  | .while c b, sc, py => (match qWhile py with
    | some (c', b') => tst c && mtE T N c sc c' && mtSs b sc b'
    | none => false)
  | .never, _, _ => true
  | .aug i o e, sc, py => (match qAug py with
    | some (t, op, v, _) => (match pName t with
      | some x => decide (N[i]? = some x) && stoB sc x && decide (augOp o = some op) && mtE T N e sc v
      | none => false)
    | none => false)
  | .augI o i op e, sc, py => (match qAug py with
    | some (t, p, v, _) => (match pSub t with
      | some (a, b) => noSlc b && decide (augOp op = some p) && mtE T N o sc a && mtE T N i sc b && mtE T N e sc v
      | none => false)
    | none => false)
  | .cont, _, py => qCont py
  | .flds o cs is es, sc, py => (match qAsg py with
    | some (t, v, _) => (match pTup t with
      | none => (match es, is with
        | [e], [i] => mtF T N o cs sc i t && mtE T N e sc v && noComp v
        | _, _ => false)
      | some ts => (match pTup v with
        | some vs => mtFl T N o cs sc is ts && mtEs T N es sc vs && vs.all noStar && decide (swO t v sc = some none) && decide (vs.length ≤ 1000)
        | none => false))
    | none => false)
def mtSs : List St → Scope → List Stmt → Bool
  | [], _, ps => ps.isEmpty
  | s :: ss, sc, ps => (match ps with
    | [] => false
    | p :: ps => mtS s sc p && mtSs ss sc ps)
end
end
/-! ### readings -/
def AftS (K : PySem.W.Frag) (g : Gb) (R : Hp) (α : Nat → Option Addr) (F : Hp) (o : Fl) (D : Ends) : Prop := match o with
  | .nx γ S => ∀ σ H α' F', Ext α F α' F' → Slots K g α' F' γ σ → World K g R α' F' S H → D.nx σ H
  | .ret d S => ∀ v H α' F', Ext α F α' F' → World K g R α' F' S H → Rep K g α' F' d v → D.rt v H
  | .ct γ S => ∀ σ H α' F', Ext α F α' F' → Slots K g α' F' γ σ → World K g R α' F' S H → D.ct σ H
  | _ => False
def tS (K : PySem.W.Frag) (g : Gb) (m : Gm → Sto → Fl) : TS := fun D σ H => ∃ γ S α F R, Slots K g α F γ σ ∧ World K g R α F S H ∧ AftS K g R α F (m γ S) D
theorem AftS.ext {K : PySem.W.Frag} {g : Gb} {R : Hp} {α α' : Nat → Option Addr} {F F' : Hp} {o : Fl} {D : Ends} (e : Ext α F α' F') (h : AftS K g R α F o D) : AftS K g R α' F' o D := by
  cases o with
  | nx γ S => exact fun σ H α2 F2 e2 => h σ H α2 F2 (e.trans e2)
  | ret d S => exact fun v H α2 F2 e2 => h v H α2 F2 (e.trans e2)
  | ct γ S => exact fun σ H α2 F2 e2 => h σ H α2 F2 (e.trans e2)
  | exc => exact h
  | bad => exact h
theorem AftS.of {β ρ : Type} {K : PySem.W.Frag} {g : Gb} {R : Hp} {α : Nat → Option Addr} {F : Hp} {rep : (Nat → Option Addr) → Hp → β → ρ → Prop} {o : Out β} {k : β → Sto → Fl} {D : Ends} {Q1 : ρ → Hp → Prop}
    (h : AftS K g R α F (.of o k) D) (f : ∀ b S r H α' F', Ext α F α' F' → World K g R α' F' S H → rep α' F' b r → AftS K g R α' F' (k b S) D → Q1 r H) : Aft K g R rep α F o Q1 := by
  cases o with
  | ok b S => exact fun r H α2 F2 e2 w2 r2 => f b S r H α2 F2 e2 w2 r2 (AftS.ext e2 h)
  | exc => exact h
  | bad => exact h
theorem tS.of {β ρ : Type} {K : PySem.W.Frag} {g : Gb} {rep : (Nat → Option Addr) → Hp → β → ρ → Prop} {m : Gm → Sto → Out β} {k : Gm → β → Sto → Fl} {D : Ends} {σ : L2.St} {H : Hp} {Q1 : ρ → Hp → Prop}
    (h : tS K g (fun γ S => .of (m γ S) (k γ)) D σ H) (f : ∀ γ b S r H α F R, Slots K g α F γ σ → World K g R α F S H → rep α F b r → AftS K g R α F (k γ b S) D → Q1 r H) : tG K g rep m σ H Q1 := by
  obtain ⟨γ, S, α, F, R, s, w, a⟩ := h
  exact ⟨γ, S, α, F, R, s, w, AftS.of a fun b S r H α' F' e w' r' a' => f γ b S r H α' F' R (s.mono e) w' r' a'⟩
theorem _root_.L2.PS.imp {X : Cx} {e : Stmt} {t t' : TS} (h : PS X e t) (f : ∀ D σ H, t' D σ H → t D σ H) : PS X e t' := ⟨fun pins s σ H D I q => h.run pins s σ H D I (f D σ H q)⟩
theorem _root_.L2.PSs.imp {X : Cx} {e : List Stmt} {t t' : TS} (h : PSs X e t) (f : ∀ D σ H, t' D σ H → t D σ H) : PSs X e t' := ⟨fun pins s σ H D I q => h.run pins s σ H D I (f D σ H q)⟩
section
variable {X : Cx} {g : Gb}
theorem js_set {x : Str} {i : Nat} {v : Expr} {m : Gm → Sto → Out D} {p pos : Pos} (hN : X.N.Nodup) (hi : X.N[i]? = some x) (hl : Loc X.env.scope x) (hf : X.fn x = true ∨ X.env.scope.names.lookup x = some .local) (he : PE X v (tI X.K g m)) (hs : swapsWith v (some (.Name x p)) pos.line X.env = pure false) :
    PS X (.Assign [.Name x p] v pos) (tS X.K g fun γ S => .of (m γ S) fun d S => .nx (γ.set i (some d)) S) :=
  (ps_set hN hi hl he hs hf).imp fun D σ H h => tS.of (k := fun γ d S => .nx (γ.set i (some d)) S) h fun γ d S v H α F R s w r h => h _ H α F Ext.refl (s.set r) w
theorem set_of {i : Nat} {m : Gm → Sto → Out D} {D : Ends} {σ : L2.St} {H : Hp} (h : tS X.K g (fun γ S => .of (m γ S) fun d S => .nx (γ.set i (some d)) S) D σ H) : tAsg (tI X.K g m) (gName i) D σ H :=
  tS.of (k := fun γ d S => .nx (γ.set i (some d)) S) h fun γ d S v H α F R s w r h => h _ H α F Ext.refl (s.set r) w
theorem js_expr {v : Expr} {m : Gm → Sto → Out D} {pos : Pos} (he : PE X v (tI X.K g m)) (hn : noComp v = true) : PS X (.Expr v pos) (tS X.K g fun γ S => .of (m γ S) fun _ S => .nx γ S) :=
  (ps_expr he (by cases v <;> first | rfl | cases hn)).imp fun D σ H h => tS.of (k := fun γ d S => .nx γ S) h fun γ d S v H α F R s w r h => h _ H α F Ext.refl s w
theorem js_ret {v : Expr} {m : Gm → Sto → Out D} {pos : Pos} (he : PE X v (tI X.K g m)) : PS X (.Return (some v) pos) (tS X.K g fun γ S => .of (m γ S) fun d S => .ret d S) :=
  (ps_ret he).imp fun D σ H h => tS.of (k := fun γ d S => .ret d S) h fun γ d S v H α F R s w r h => h _ H α F Ext.refl w r
theorem js_retN {pos : Pos} : PS X (.Return none pos) (tS X.K g fun _ S => .ret .non S) := ps_retN.imp fun D σ H h => by
  obtain ⟨γ, S, α, F, R, s, w, h⟩ := h
  exact h .non H α F Ext.refl w rfl
theorem js_pass {pos : Pos} : PS X (.Pass pos) (tS X.K g fun γ S => .nx γ S) := ps_pass.imp fun D σ H h => by
  obtain ⟨γ, S, α, F, R, s, w, h⟩ := h
  exact h σ H α F Ext.refl s w
theorem js_if {c : Expr} {a b : List Stmt} {mc : Gm → Sto → Out D} {ma mb : Gm → Sto → Fl} {pos : Pos} (hc : PT X c (tT X.K g mc)) (ha : PSs X a (tS X.K g ma)) (hb : PSs X b (tS X.K g mb)) :
    PS X (.If c a b pos) (tS X.K g fun γ S => .of (mc γ S) fun x S => match truD x S with | some true => ma γ S | some false => mb γ S | none => .bad) := by
  refine (ps_if hc ha hb).imp fun D σ H h => ?_
  obtain ⟨γ, S, α, F, R, s, w, h⟩ := h
  refine ⟨γ, S, α, F, R, s, w, ?_⟩
  unfold trm
  dsimp only at h ⊢
  cases q : mc γ S with
  | exc => rw [q] at h; exact h
  | bad => rw [q] at h; exact h
  | ok d S' =>
    rw [q] at h
    dsimp only [Out.bind, Fl.of] at h ⊢
    cases q2 : truD d S' with
    | none => rw [q2] at h; exact h
    | some k =>
      rw [q2] at h
      intro r H' α' F' e w' er
      subst er
      cases k with
      | true => rw [if_pos rfl]; exact ⟨γ, S', α', F', R, s.mono e, w', AftS.ext e h⟩
      | false => rw [if_neg Bool.false_ne_true]; exact ⟨γ, S', α', F', R, s.mono e, w', AftS.ext e h⟩
theorem jss_nil : PSs X [] (tS X.K g fun γ S => .nx γ S) := pss_nil.imp fun D σ H h => by
  obtain ⟨γ, S, α, F, R, s, w, h⟩ := h
  exact h σ H α F Ext.refl s w
theorem jss_cons {a : Stmt} {r : List Stmt} {ma mr : Gm → Sto → Fl} (ha : PS X a (tS X.K g ma)) (hr : PSs X r (tS X.K g mr)) : PSs X (a :: r) (tS X.K g fun γ S => match ma γ S with | .nx γ' S' => mr γ' S' | o => o) := by
  refine (pss_cons ha hr).imp fun D σ H h => ?_
  obtain ⟨γ, S, α, F, R, s, w, h⟩ := h
  refine ⟨γ, S, α, F, R, s, w, ?_⟩
  dsimp only at h
  cases q : ma γ S with
  | exc => rw [q] at h; exact h
  | bad => rw [q] at h; exact h
  | ret d S' => rw [q] at h; exact h
  | ct γ' S' => rw [q] at h; exact h
  | nx γ' S' =>
    rw [q] at h
    exact fun σ' H' α' F' e s' w' => ⟨γ', S', α', F', R, s', w', AftS.ext e h⟩
theorem js_never {st : Stmt} : PS X st (tS X.K g fun _ _ => .bad) := ps_never.imp fun D σ H h => by
  obtain ⟨γ, S, α, F, R, s, w, h⟩ := h
  exact h
theorem js_asg {tg : Tg} {t v : Expr} {m : Gm → Sto → Out D} {pos : Pos} (ht : (pTup t).isSome = true) (hk : X.env.scope.kind = .function) (hg : PG X t (gI X.K g tg)) (he : PE X v (tI X.K g m)) (hw : swO t v X.env.scope = some none) :
    PS X (.Assign [t] v pos) (tS X.K g fun γ S => .of (m γ S) fun d S => match setTg tg d γ with | some γ' => .nx γ' S | none => .bad) := by
  cases q : pTup t with
  | none => rw [q] at ht; cases ht
  | some ts =>
    obtain ⟨k, p, rfl⟩ := pTup_inv q
    refine (ps_asg he hg (by cases v <;> rfl) (swO_ok hk (fun _ _ z => by cases z) hw) rfl).imp fun D σ H h => ?_
    refine tS.of (k := fun γ d S => match setTg tg d γ with | some γ' => .nx γ' S | none => .bad) h fun γ d S v H α F R s w r h => ?_
    cases q2 : setTg tg d γ with
    | none => rw [q2] at h; exact False.elim h
    | some γ' =>
      rw [q2] at h
      exact ⟨d, γ, γ', S, α, F, R, r, s, w, q2, fun σ' s' _ => h σ' H α F Ext.refl s' w⟩
theorem js_cont {pos : Pos} : PS X (.Continue pos) (tS X.K g fun γ S => .ct γ S) := ps_continue.imp fun D σ H h => by
  obtain ⟨γ, S, α, F, R, s, w, h⟩ := h
  exact h σ H α F Ext.refl s w
theorem js_idx {a b v : Expr} {mo mi me : Gm → Sto → Out D} {p pos : Pos} (hk : X.env.scope.kind = .function) (hb : noSlc b = true) (ho : PE X a (tI X.K g mo)) (hi : PE X b (tI X.K g mi)) (he : PE X v (tI X.K g me)) :
    PS X (.Assign [.Subscript a b p] v pos) (tS X.K g fun γ S => .of (me γ S) fun d S => .of (mo γ S) fun x S => .of (mi γ S) fun y S => .of (putL x y d S) fun _ S => .nx γ S) := by
  refine (ps_asg he (pg_sub ho hi set_list (by intro _; cases b <;> first | rfl | cases hb)) (by cases v <;> rfl) (swO_ok hk (fun _ _ z => by cases z) (by unfold swO; rfl)) rfl).imp fun D σ H h => ?_
  refine tS.of (k := fun γ d S => .of (mo γ S) fun x S => .of (mi γ S) fun y S => .of (putL x y d S) fun _ S => .nx γ S) h fun γ d S v H α F R s w r h => ?_
  refine ⟨γ, S, α, F, R, s, w, AftS.of h fun x S vx H α1 F1 e1 w1 rx h => ?_⟩
  refine ⟨γ, S, α1, F1, R, s.mono e1, w1, AftS.of h fun y S vy H α2 F2 e2 w2 ry h => ?_⟩
  unfold putL at h
  cases x with
  | loc n =>
    cases y with
    | int k =>
      cases ry
      dsimp only at h
      cases q : S[n]? with
      | none => rw [q] at h; exact False.elim h
      | some so =>
        cases so with
        | ins => rw [q] at h; exact False.elim h
        | dead => rw [q] at h; exact False.elim h
        | dK => rw [q] at h; exact False.elim h
        | dT => rw [q] at h; exact False.elim h
        | lst xs =>
          rw [q] at h
          dsimp only at h
          cases q2 : ixN xs.length k with
          | none => rw [q2] at h; exact False.elim h
          | some j =>
            rw [q2] at h
            obtain ⟨p', vs, k1, k2, k3, k4⟩ := w2.st n _ q
            obtain ⟨p2, rfl, k0⟩ := rx
            have ka := e2.al _ _ k0
            rw [ka] at k1
            have k1 := Option.some.inj k1
            subst k1
            refine ⟨p2, vs, k, j, rfl, rfl, k3, by rw [← k4.length]; exact q2, ?_⟩
            refine h σ _ α2 F2 Ext.refl (s.mono (e1.trans e2)) (w2.write ka k2 ⟨p2, vs.set j v, ka, k2, upd_same, k4.set j (Rep.mono (e1.trans e2) _ _ r)⟩)
    | _ => exact False.elim h
  | _ => exact False.elim h
/-! ### x += e -/
theorem aug_ip {op : BO} {p : Operator} (h : augOp op = some p) : ∃ f : Int → Int → Int, PIp X p (ipI f) ∧ ∀ i j, augD op (.int i) (.int j) = some (.int (f i j)) := by
  cases op <;> first | (cases h; done) | skip
  · cases h; exact ⟨_, ip_add, fun _ _ => rfl⟩
  · cases h; exact ⟨_, ip_sub, fun _ _ => rfl⟩
theorem aug_int {op : BO} {x y d : D} (h : augD op x y = some d) : ∃ i j, x = .int i ∧ y = .int j := by
  cases op <;> first | (cases h; done) | skip
  · cases x <;> first | (cases h; done) | skip
    cases y <;> first | (cases h; done) | exact ⟨_, _, rfl, rfl⟩
  · cases x <;> first | (cases h; done) | skip
    cases y <;> first | (cases h; done) | exact ⟨_, _, rfl, rfl⟩
theorem aug_no {op : BO} {x y : D} {α : Nat → Option Addr} {F R : Hp} {S : Sto} {k : D → Sto → Fl} {D0 : Ends} (h : AftS X.K g R α F (.of (ofO (augD op x y) S) k) D0) : ∃ d, augD op x y = some d := by
  cases q : augD op x y with
  | some d => exact ⟨d, rfl⟩
  | none => rw [q] at h; exact False.elim h
theorem js_aug {i : Nat} {x : Str} {op : BO} {p : Operator} {v : Expr} {me : Gm → Sto → Out D} {pt pos : Pos} (hN : X.N.Nodup) (hi : X.N[i]? = some x) (hl : Loc X.env.scope x) (hf : X.fn x = true ∨ X.env.scope.names.lookup x = some .local) (ho : augOp op = some p) (he : PE X v (tI X.K g me)) :
    PS X (.AugAssign (.Name x pt) p v pos) (tS X.K g fun γ S => match γ[i]? with
      | some (some x) => .of (me γ S) fun y S => .of (ofO (augD op x y) S) fun d S => .nx (γ.set i (some d)) S
      | _ => .bad) := by
  obtain ⟨f, hp, hd⟩ := aug_ip (X := X) ho
  refine (ps_aug hN hi hl he hp hf).imp fun D σ H h => ?_
  obtain ⟨γ, S, α, F, R, s, w, h⟩ := h
  dsimp only at h
  cases q : γ[i]? with
  | none => rw [q] at h; exact False.elim h
  | some o =>
    cases o with
    | none => rw [q] at h; exact False.elim h
    | some d =>
      rw [q] at h
      obtain ⟨v, e, r⟩ := s.2 i d q
      refine ⟨v, e, γ, S, α, F, R, s, w, AftS.of h fun y S vy H α1 F1 e1 w1 ry h => ?_⟩
      obtain ⟨d', h2⟩ := aug_no h
      obtain ⟨a, b, rfl, rfl⟩ := aug_int h2
      cases r
      cases ry
      refine ⟨a, b, rfl, rfl, ?_⟩
      rw [hd] at h
      have h : AftS X.K g R α1 F1 (.nx (γ.set i (some (.int (f a b)))) S) D := h
      exact h _ _ α1 F1 Ext.refl ((s.mono e1).set rfl) w1
theorem aug_getL : PGet X fun o i H Q => ∃ l xs k v, o = .ref l ∧ i = .int k ∧ H l = some (.lst xs) ∧ atI xs k = some v ∧ Q v H := by
  intro pins s σ H o i ov iv Q I ro ri h
  obtain ⟨l, xs, k, z, rfl, rfl, hq, he, q⟩ := h
  cases ro
  obtain ⟨t, rfl⟩ := ri
  obtain ⟨its, r, pl, hz⟩ := I.list (SqL.of (K := X.K) hq)
  obtain ⟨j, h1, h2, h3, h4, h5⟩ := atI_get he
  obtain ⟨w, ew, rw'⟩ := r.get h2
  have hl := r.length
  have hn := line63
  have fin : EP X pins σ Q w s := ⟨z, H, I, rw', q⟩
  by_cases h0 : 0 ≤ k
  · have hj : k.toNat = j := by
      rw [seqIndex_of h0 h5] at h1
      exact Option.some.inj h1
    exact wpAny_getItem_list pl.isList h0 (by omega) (by rw [hj]; simpa using ew) fin
  · have hj : (k + (its.toArray.size : Int)).toNat = j := by
      rw [seqIndex_neg (by omega) h4] at h1
      rw [List.size_toArray, ← hl]
      exact Option.some.inj h1
    exact wpAny_getItem_list_neg pl.isList (by omega) (by rw [List.size_toArray] <;> omega) (by omega) (by rw [hj]; simpa using ew) fin
theorem js_augI {a b v : Expr} {op : BO} {p : Operator} {mo mi me : Gm → Sto → Out D} {pt pos : Pos} (hb : noSlc b = true) (hop : augOp op = some p) (ho : PE X a (tI X.K g mo)) (hi : PE X b (tI X.K g mi)) (he : PE X v (tI X.K g me)) :
    PS X (.AugAssign (.Subscript a b pt) p v pos) (tS X.K g fun γ S => .of (mo γ S) fun x S => .of (mi γ S) fun y S => .of (ofO (getL x y S) S) fun a S => .of (me γ S) fun b S => .of (ofO (augD op a b) S) fun d S => .of (putL x y d S) fun _ S => .nx γ S) := by
  obtain ⟨f, hp, hd⟩ := aug_ip (X := X) hop
  refine (ps_augS ho hi aug_getL he hp set_list (by intro _ _ _; cases b <;> first | rfl | cases hb)).imp fun D σ H h => ?_
  refine tS.of (k := fun γ x S => .of (mi γ S) fun y S => .of (ofO (getL x y S) S) fun a S => .of (me γ S) fun b S => .of (ofO (augD op a b) S) fun d S => .of (putL x y d S) fun _ S => .nx γ S) h fun γ x S vx H α F R s w rx h => ?_
  refine ⟨γ, S, α, F, R, s, w, AftS.of h fun y S vy H α1 F1 e1 w1 ry h => ?_⟩
  unfold getL at h
  cases x with
  | loc n =>
    cases y with
    | int k =>
      cases ry
      dsimp only at h
      cases q : S[n]? with
      | none => rw [q] at h; exact False.elim h
      | some so =>
        cases so with
        | lst xs =>
          rw [q] at h
          dsimp only at h
          cases q2 : atI xs k with
          | none => rw [q2] at h; exact False.elim h
          | some d0 =>
            rw [q2] at h
            obtain ⟨p', vs, k1, k2, k3, k4⟩ := w1.st n _ q
            obtain ⟨p2, rfl, k0⟩ := rx
            have ka := e1.al _ _ k0
            rw [ka] at k1
            have k1 := Option.some.inj k1
            subst k1
            obtain ⟨z, z1, z2⟩ := atI_rep k4 q2
            refine ⟨p2, vs, k, z, rfl, rfl, k3, z1, ?_⟩
            have h : AftS X.K g R α1 F1 (.of (me γ S) fun b S => .of (ofO (augD op d0 b) S) fun d S => .of (putL (.loc n) (.int k) d S) fun _ S => .nx γ S) D := h
            refine ⟨γ, S, α1, F1, R, s.mono e1, w1, AftS.of h fun b S vb H α2 F2 e2 w2 rb h => ?_⟩
            obtain ⟨d', h2⟩ := aug_no h
            obtain ⟨i, j, rfl, rfl⟩ := aug_int h2
            cases z2
            cases rb
            refine ⟨i, j, rfl, rfl, ?_⟩
            rw [hd] at h
            have h : AftS X.K g R α2 F2 (.of (putL (.loc n) (.int k) (.int (f i j)) S) fun _ S => .nx γ S) D := h
            unfold putL at h
            dsimp only at h
            cases q3 : S[n]? with
            | none => rw [q3] at h; exact False.elim h
            | some so =>
              cases so with
              | lst xs' =>
                rw [q3] at h
                dsimp only at h
                cases q4 : ixN xs'.length k with
                | none => rw [q4] at h; exact False.elim h
                | some jj =>
                  rw [q4] at h
                  obtain ⟨p'', vs', l1, l2, l3, l4⟩ := w2.st n _ q3
                  have kb := e2.al _ _ ka
                  rw [kb] at l1
                  have l1 := Option.some.inj l1
                  subst l1
                  refine ⟨p2, vs', k, jj, rfl, rfl, l3, by rw [← l4.length]; exact q4, ?_⟩
                  exact h σ _ α2 F2 Ext.refl (s.mono (e1.trans e2)) (w2.write kb l2 ⟨p2, vs'.set jj (.int (f i j)), kb, l2, upd_same, l4.set jj rfl⟩)
              | _ => rw [q3] at h; exact False.elim h
        | _ => rw [q] at h; exact False.elim h
    | _ => exact False.elim h
  | _ => exact False.elim h
/-! ### fields -/
theorem put_rep {K : PySem.W.Frag} {α : Nat → Option Addr} {F : Hp} (hj : ∀ i j, g.nm i = g.nm j → i = j) {i : Nat} {d : D} {v : V} (rd : Rep K g α F d v) : ∀ {ns : List Nat} {ds : List D} {vs : List V}, Reps K g α F ds vs → ns.length = ds.length →
    ∃ vs', L2.putF (g.nm i) v ((ns.map g.nm).zip vs) = ((putF i d ns ds).1.map g.nm).zip vs' ∧ (putF i d ns ds).1.length = (putF i d ns ds).2.length ∧ Reps K g α F (putF i d ns ds).2 vs'
  | [], ds, vs, r, hl => by
    cases ds with
    | nil => cases r; exact ⟨[v], rfl, rfl, ⟨v, [], rfl, rd, rfl⟩⟩
    | cons _ _ => cases hl
  | m :: ns, ds, vs, r, hl => by
    cases ds with
    | nil => cases hl
    | cons d' ds =>
      obtain ⟨v', r', rfl, r1, r2⟩ := r
      have hl : ns.length = ds.length := by simpa using hl
      obtain ⟨vs', h1, h2, h3⟩ := put_rep hj rd r2 hl
      unfold putF
      by_cases q : m = i
      · subst q
        simp only [if_true]
        refine ⟨v :: r', ?_, by simp [hl], ⟨v, r', rfl, rd, r2⟩⟩
        show (if g.nm m = g.nm m then _ else _) = _
        rw [if_pos rfl]
        rfl
      · simp only [if_neg q]
        refine ⟨v' :: vs', ?_, by simp [h2], ⟨v', vs', rfl, r1, h3⟩⟩
        show (if g.nm m = g.nm i then _ else _) = _
        rw [if_neg fun z => q (hj _ _ z)]
        show (g.nm m, v') :: L2.putF (g.nm i) v ((ns.map g.nm).zip r') = _
        rw [h1]
        rfl
def gFld (K : PySem.W.Frag) (ta : TE) (f : Str) : TG := fun v σ H Q => ta σ H fun x H2 => ∃ a C dx fs, x = .ref a ∧ H2 a = some (.ins C dx fs) ∧ Cls K C ∧ NoAttr K C f ∧ fs.length < 1000 ∧ Q σ (upd H2 a (.ins C dx (L2.putF f v fs)))
theorem pg_fld {o : Expr} {ta : TE} {f : Str} {pos : Pos} (ho : PE X o ta) : PG X (.Attribute o f pos) (gFld X.K ta f) := by
  refine ⟨fun pins s σ H v u Q I r h => ?_⟩
  rw [arm_assign_Attribute]
  refine wpAny_bind (wpAny_holding (thn (ho.run pins s σ H _ I h) fun ov s1 ⟨x, H1, I1, r1, a, C, dx, fs, ex, ea, c, n, l, q1⟩ => ?_))
  subst ex
  obtain rfl : ov = Value.ref a := r1
  refine wpAny_bind (wpAny_standAt (wpAny_bind (wpAny_holding (setattr_ok I1 ea c n l r fun s2 I2 => ?_))))
  exact wpAny_release ⟨σ, _, I2, q1⟩
/-- fields are set: the world behind it -/
def AftP (K : PySem.W.Frag) (g : Gb) (R : Hp) (α : Nat → Option Addr) (F : Hp) (σ : L2.St) (o : Out Unit) (Q : L2.St → Hp → Prop) : Prop := match o with
  | .ok _ S => ∀ H α' F', Ext α F α' F' → World K g R α' F' S H → Q σ H
  | _ => False
theorem AftP.ext {K : PySem.W.Frag} {R : Hp} {α α' : Nat → Option Addr} {F F' : Hp} {σ : L2.St} {o : Out Unit} {Q : L2.St → Hp → Prop} (e : Ext α F α' F') (h : AftP K g R α F σ o Q) : AftP K g R α' F' σ o Q := by
  cases o with
  | ok u S => exact fun H α2 F2 e2 => h H α2 F2 (e.trans e2)
  | exc => exact h
  | bad => exact h
def gFs (K : PySem.W.Frag) (g : Gb) (mo : Gm → Sto → Out D) (cs is : List Nat) : TGs := fun vs σ H Q => ∃ ds γ S α F R, Reps K g α F ds vs ∧ Slots K g α F γ σ ∧ World K g R α F S H ∧ AftP K g R α F σ (putAll (fun S => mo γ S) cs is ds S) Q
theorem fld_put {T : Tab} {i : Nat} {is cs : List Nat} {mo : Gm → Sto → Out D} {d : D} {ds : List D} {v : V} {γ : Gm} {S : Sto} {α : Nat → Option Addr} {F R H : Hp} {σ : L2.St} {Q : L2.St → Hp → Prop} (hc : ClsOk T g X.K) (hi : ∀ c, cs.contains c = true → (c, i) ∈ T.nf) (rd : Rep X.K g α F d v) (s : Slots X.K g α F γ σ) (w : World X.K g R α F S H)
    {Q2 : L2.St → Hp → Prop} (hQ : ∀ S' H' α' F', Ext α F α' F' → World X.K g R α' F' S' H' → AftP X.K g R α' F' σ (putAll (fun S => mo γ S) cs is ds S') Q → Q2 σ H') (h : AftP X.K g R α F σ (putAll (fun S => mo γ S) cs (i :: is) (d :: ds) S) Q) : gFld X.K (tI X.K g mo) (g.nm i) v σ H Q2 := by
  unfold putAll at h
  refine ⟨γ, S, α, F, R, s, w, ?_⟩
  cases q : mo γ S with
  | exc => rw [q] at h; exact False.elim h
  | bad => rw [q] at h; exact False.elim h
  | ok x S1 =>
    rw [q] at h
    intro vx H1 α1 F1 e1 w1 rx
    dsimp only [Out.bind] at h
    cases x with
    | loc m =>
      dsimp only at h
      cases q1 : S1[m]? with
      | none => rw [q1] at h; exact False.elim h
      | some so =>
        cases so with
        | ins c ns fs =>
          rw [q1] at h
          dsimp only at h
          split at h
          · rename_i hz
            obtain ⟨a, dx, vs, k1, k2, k3, hl, k4⟩ := w1.st m _ q1
            obtain ⟨a', e2, k0⟩ := rx
            subst e2
            rw [k0] at k1; cases k1
            obtain ⟨c1, c2⟩ := hc.nf _ _ (hi c hz.1)
            obtain ⟨vs', h1, h2, h3⟩ := put_rep hc.nj (Rep.mono e1 _ _ rd) k4 hl.1
            refine ⟨a, g.cA c, dx, _, rfl, k3, c1, c2, by rw [List.length_zip, List.length_map]; omega, ?_⟩
            rw [h1]
            exact hQ _ _ α1 F1 e1 (w1.write (so := .ins c (putF i d ns fs).1 (putF i d ns fs).2) k0 k2 ⟨a, dx, vs', k0, k2, upd_same, ⟨h2, hl.2⟩, h3⟩) (AftP.ext e1 h)
          · exact False.elim h
        | _ => rw [q1] at h; exact False.elim h
    | _ => exact False.elim h
theorem namesOf_inv : ∀ {ts : List Expr} {xs : List Str}, namesOf ts = some xs → ∃ ps : List Pos, ps.length = xs.length ∧ ts = (xs.zip ps).map fun p => Expr.Name p.1 p.2
  | [], xs, h => by cases h; exact ⟨[], rfl, rfl⟩
  | t :: ts, xs, h => by
    have h : (match pName t, namesOf ts with | some x, some xs => some (x :: xs) | _, _ => none) = some xs := h
    cases q : pName t with
    | none => rw [q] at h; cases h
    | some x =>
      cases q2 : namesOf ts with
      | none => rw [q, q2] at h; cases h
      | some xs' =>
        rw [q, q2] at h
        cases h
        obtain ⟨p, rfl⟩ := pName_inv q
        obtain ⟨ps, h1, h2⟩ := namesOf_inv q2
        exact ⟨p :: ps, by simp [h1], by rw [h2]; rfl⟩
theorem par_of {is : List Nat} {ml : Gm → Sto → Out (List D)} {D : Ends} {σ : L2.St} {H : Hp} (h : tS X.K g (fun γ S => .of (ml γ S) fun ds S => if is.length = ds.length then .nx (setAll is ds γ) S else .bad) D σ H) :
    tIs X.K g ml σ H fun us H1 => us.length = is.length ∧ ∀ σ', (∀ γ ds α F, Slots X.K g α F γ σ → Reps X.K g α F ds us → Slots X.K g α F (setAll is ds γ) σ') → D.nx σ' H1 := by
  refine tS.of (k := fun γ ds S => if is.length = ds.length then .nx (setAll is ds γ) S else .bad) h fun γ ds S us H α F R s w r h => ?_
  split at h
  · rename_i hl
    exact ⟨by rw [← r.length]; exact hl.symm, fun σ' k => h σ' H α F Ext.refl (k γ ds α F s r) w⟩
  · exact False.elim h
theorem js_par2 {i j : Nat} {x y : Str} {a b : Expr} {kt kv : Nat} {px py pt pv pos : Pos} {ml : Gm → Sto → Out (List D)} (hc : X.calm = true) (hN : X.N.Nodup) (hk : X.env.scope.kind = .function) (hi : X.N[i]? = some x) (hj : X.N[j]? = some y) (hij : i ≠ j)
    (hx : X.env.scope.names.lookup x = some .local) (hy : X.env.scope.names.lookup y = some .local) (ha : PA X [a, b] (tIs X.K g ml)) (hw : swO (.Tuple [.Name x px, .Name y py] kt pt) (.Tuple [a, b] kv pv) X.env.scope = some (some [x, y])) :
    PS X (.Assign [.Tuple [.Name x px, .Name y py] kt pt] (.Tuple [a, b] kv pv) pos) (tS X.K g fun γ S => .of (ml γ S) fun ds S => if [i, j].length = ds.length then .nx (setAll [i, j] ds γ) S else .bad) := by
  refine (ps_par hc hN hi hj hij hx hy ha (swO_ok hk (fun _ _ z => by cases z) hw) rfl).imp fun D σ H h => ?_
  obtain ⟨γ, S, α, F, R, s, w, h⟩ := par_of h
  refine ⟨γ, S, α, F, R, s, w, Aft.mono h fun us H1 ⟨hu, k⟩ => ?_⟩
  match us, hu, k with
  | [u, v], _, k =>
    refine ⟨u, v, rfl, k _ fun γ ds α F s r => ?_⟩
    have hl := r.length
    match ds, hl, r with
    | [d1, d2], _, r =>
      obtain ⟨v1, v2, e, r1, r2⟩ := reps_two r
      cases e
      exact (s.set r1).set r2
theorem js_par3 {i j l : Nat} {x y z : Str} {a b c : Expr} {kt kv : Nat} {px py pz pt pv pos : Pos} {ml : Gm → Sto → Out (List D)} (hc : X.calm = true) (hN : X.N.Nodup) (hk : X.env.scope.kind = .function) (hi : X.N[i]? = some x) (hj : X.N[j]? = some y) (hl : X.N[l]? = some z) (hij : i ≠ j) (hil : i ≠ l) (hjl : j ≠ l)
    (hx : X.env.scope.names.lookup x = some .local) (hy : X.env.scope.names.lookup y = some .local) (hz : X.env.scope.names.lookup z = some .local) (ha : PA X [a, b, c] (tIs X.K g ml)) (hw : swO (.Tuple [.Name x px, .Name y py, .Name z pz] kt pt) (.Tuple [a, b, c] kv pv) X.env.scope = some (some [x, y, z])) :
    PS X (.Assign [.Tuple [.Name x px, .Name y py, .Name z pz] kt pt] (.Tuple [a, b, c] kv pv) pos) (tS X.K g fun γ S => .of (ml γ S) fun ds S => if [i, j, l].length = ds.length then .nx (setAll [i, j, l] ds γ) S else .bad) := by
  refine (ps_par3 hc hN hi hj hl hij hil hjl hx hy hz ha (swO_ok hk (fun _ _ z => by cases z) hw) rfl).imp fun D σ H h => ?_
  obtain ⟨γ, S, α, F, R, s, w, h⟩ := par_of h
  refine ⟨γ, S, α, F, R, s, w, Aft.mono h fun us H1 ⟨hu, k⟩ => ?_⟩
  match us, hu, k with
  | [u, v, w'], _, k =>
    refine ⟨u, v, w', rfl, k _ fun γ ds α F s r => ?_⟩
    have hl := r.length
    match ds, hl, r with
    | [d1, d2, d3], _, r =>
      obtain ⟨v1, r', e, r1, r2⟩ := r
      cases e
      obtain ⟨v2, v3, e, r2, r3⟩ := reps_two r2
      cases e
      exact ((s.set r1).set r2).set r3
/-! ### loops -/
theorem loopF_eq {body : Gm → Sto → Fl} {tg : Tg} {xs : List D} : ∀ (m i : Nat) (γ : Gm) (S : Sto), m + i = xs.length → loopF body tg (xs.drop i) γ S = loopFL body tg (statI xs) (m + 1) i γ S
  | 0, i, γ, S, h => by
    have hi : i = xs.length := by omega
    subst hi
    rw [List.drop_length]
    unfold loopFL statI
    rw [List.getElem?_eq_none_iff.mpr (Nat.le_refl _)]
    rfl
  | m + 1, i, γ, S, h => by
    have hi : i < xs.length := by omega
    rw [List.drop_eq_getElem_cons hi]
    unfold loopF loopFL
    have e : statI xs S i = some (some xs[i]) := by unfold statI; rw [List.getElem?_eq_getElem hi]
    rw [e]
    dsimp only
    cases setTg tg xs[i] γ with
    | none => rfl
    | some γ' =>
      dsimp only
      cases body γ' S with
      | bad => rfl
      | exc => rfl
      | ret => rfl
      | nx γ2 S2 => exact loopF_eq m (i + 1) γ2 S2 (by omega)
      | ct γ2 S2 => exact loopF_eq m (i + 1) γ2 S2 (by omega)
theorem js_for {t iter : Expr} {k : IK} {tg : Tg} {ml : Gm → Sto → Out (List D)} {body : List Stmt} {mb : Gm → Sto → Fl} {pos : Pos} (hp : PassesOwn (model X.prog X.w) X.A X.env X.xe) (hc : X.calm = true) (hi : PI X t iter (iI X.K g k ml)) (hg : PG X t (gI X.K g tg)) (hb : PSs X body (tS X.K g mb)) (hn : noSet iter = true) :
    PS X (.For t iter body [] pos) (tS X.K g fun γ S => .of (ml γ S) fun ds S => match itD k ds S with | some xs => loopF mb tg xs γ S | none => loopFL mb tg (liveD k ds) 16777217 0 γ S) := by
  refine (ps_for hp hc hi hg hb (fun x => fold_of hn)).imp fun D σ H h => ?_
  obtain ⟨γ, S, α, F, R, s, w, h⟩ := h
  refine ⟨γ, S, α, F, R, s, w, ?_⟩
  dsimp only at h
  cases q : ml γ S with
  | exc => rw [q] at h; exact h
  | bad => rw [q] at h; exact h
  | ok ds S' =>
    rw [q] at h
    dsimp only [Fl.of] at h ⊢
    have hf : ∃ fuel, AftS X.K g R α F (loopFL mb tg (itF k ds S') fuel 0 γ S') D := by
      cases q2 : itD k ds S' with
      | none => rw [q2] at h; rw [itF_no q2]; exact ⟨_, h⟩
      | some xs =>
        rw [q2] at h
        dsimp only at h
        have e := loopF_eq (body := mb) (tg := tg) (xs := xs) xs.length 0 γ S' (by omega)
        rw [List.drop_zero] at e
        rw [e] at h
        rw [itF_of q2]
        exact ⟨xs.length + 1, h⟩
    clear h
    obtain ⟨fuel, h⟩ := hf
    generalize hit : itF k ds S' = it at h
    refine ⟨fun z => ?_, fun H' α' F' J e' w' lv => ?_⟩
    · cases fuel with
      | zero => exact False.elim h
      | succ m =>
        unfold loopFL at h
        rw [z] at h
        exact False.elim h
    refine ⟨fun i m σ H => ∃ γ1 S1 α1 F1, Ext α' F' α1 F1 ∧ Slots X.K g α1 F1 γ1 σ ∧ World X.K g R α1 F1 S1 H ∧ Reach it i ∧ AftS X.K g R α1 F1 (loopFL mb tg it m i γ1 S1) D, ⟨fuel, γ, S', α', F', Ext.refl, s.mono e', w', .inl rfl, AftS.ext e' h⟩, ?_⟩
    rintro i m σ1 H1 ⟨γ1, S1, α1, F1, e1, s1, w1, hr, ha⟩
    cases m with
    | zero => exact False.elim ha
    | succ m =>
      obtain ⟨stop, go⟩ := lv i S1 H1 R α1 F1 hr e1 w1
      unfold loopFL at ha
      cases qi : it S1 i with
      | none => rw [qi] at ha; exact False.elim ha
      | some o =>
        cases o with
        | none =>
          rw [qi] at ha
          exact .inl ⟨stop qi, ha σ1 H1 α1 F1 Ext.refl s1 w1⟩
        | some d =>
          obtain ⟨g1, g2⟩ := go d qi
          rw [qi] at ha
          dsimp only at ha
          have hr' : Reach it (i + 1) := .inr ⟨S1, d, qi⟩
          refine .inr ⟨g1, fun σ H => ∃ γ1 S1 α1 F1, Ext α' F' α1 F1 ∧ Slots X.K g α1 F1 γ1 σ ∧ World X.K g R α1 F1 S1 H ∧ Reach it (i + 1) ∧ AftS X.K g R α1 F1 (loopFL mb tg it m (i + 1) γ1 S1) D, fun σ' H' z => ⟨m, Nat.lt_succ_self m, z⟩, fun x H2 y => ?_⟩
          obtain ⟨α2, F2, e2, w2, rd⟩ := g2 x H2 y
          cases qg : setTg tg d γ1 with
          | none => rw [qg] at ha; exact False.elim ha
          | some γ' =>
            rw [qg] at ha
            dsimp only at ha
            refine ⟨d, γ1, γ', S1, α2, F2, R, rd, s1.mono e2, w2, qg, fun σ' s' _ => ?_⟩
            refine ⟨γ', S1, α2, F2, R, s', w2, ?_⟩
            cases qb : mb γ' S1 with
            | exc => rw [qb] at ha; exact ha
            | bad => rw [qb] at ha; exact ha
            | ret d S2 => rw [qb] at ha; exact AftS.ext (o := .ret d S2) e2 ha
            | nx γ2 S2 =>
              rw [qb] at ha
              exact fun σ3 H3 α3 F3 e3 s3 w3 => ⟨γ2, S2, α3, F3, (e1.trans e2).trans e3, s3, w3, hr', AftS.ext (e2.trans e3) ha⟩
            | ct γ2 S2 =>
              rw [qb] at ha
              exact fun σ3 H3 α3 F3 e3 s3 w3 => ⟨γ2, S2, α3, F3, (e1.trans e2).trans e3, s3, w3, hr', AftS.ext (e2.trans e3) ha⟩
theorem js_while {c : Expr} {mc : Gm → Sto → Out D} {body : List Stmt} {mb : Gm → Sto → Fl} {pos : Pos} {fuel : Nat} (hp : PassesOwn (model X.prog X.w) X.A X.env X.xe) (hc : PT X c (tT X.K g mc)) (hb : PSs X body (tS X.K g mb)) :
    PS X (.While c body [] pos) (tS X.K g fun γ S => loopW mc mb fuel γ S) := by
  refine (ps_while hp hc hb).imp fun D σ H h => ?_
  obtain ⟨γ, S, α, F, R, s, w, h⟩ := h
  refine ⟨fun m σ H => ∃ γ1 S1 α1 F1, Slots X.K g α1 F1 γ1 σ ∧ World X.K g R α1 F1 S1 H ∧ AftS X.K g R α1 F1 (loopW mc mb m γ1 S1) D, ⟨fuel, γ, S, α, F, s, w, h⟩, ?_⟩
  rintro m σ1 H1 ⟨γ1, S1, α1, F1, s1, w1, ha⟩
  cases m with
  | zero => exact False.elim ha
  | succ m =>
    have ha : AftS X.K g R α1 F1 (.of (mc γ1 S1) fun x S => match truD x S with
      | some true => (match mb γ1 S with
        | .nx γ' S' => loopW mc mb m γ' S'
        | .ct γ' S' => loopW mc mb m γ' S'
        | o => o)
      | some false => .nx γ1 S
      | none => .bad) D := ha
    refine ⟨γ1, S1, α1, F1, R, s1, w1, ?_⟩
    unfold trm
    cases q : mc γ1 S1 with
    | exc => rw [q] at ha; exact ha
    | bad => rw [q] at ha; exact ha
    | ok d S2 =>
      rw [q] at ha
      dsimp only [Out.bind, Fl.of] at ha ⊢
      cases q2 : truD d S2 with
      | none => rw [q2] at ha; exact ha
      | some k =>
        rw [q2] at ha
        intro r H2 α2 F2 e2 w2 er
        subst er
        cases k with
        | false =>
          rw [if_neg Bool.false_ne_true]
          exact ha σ1 H2 α2 F2 e2 (s1.mono e2) w2
        | true =>
          rw [if_pos rfl]
          dsimp only at ha
          refine ⟨fun σ H => ∃ γ1 S1 α1 F1, Slots X.K g α1 F1 γ1 σ ∧ World X.K g R α1 F1 S1 H ∧ AftS X.K g R α1 F1 (loopW mc mb m γ1 S1) D, fun σ' H' k => ⟨m, Nat.lt_succ_self m, k⟩, γ1, S2, α2, F2, R, s1.mono e2, w2, ?_⟩
          cases qb : mb γ1 S2 with
          | exc => rw [qb] at ha; exact ha
          | bad => rw [qb] at ha; exact ha
          | ret d S3 => rw [qb] at ha; exact AftS.ext (o := .ret d S3) e2 ha
          | nx γ3 S3 =>
            rw [qb] at ha
            exact fun σ3 H3 α3 F3 e3 s3 w3 => ⟨γ3, S3, α3, F3, s3, w3, AftS.ext (e2.trans e3) ha⟩
          | ct γ3 S3 =>
            rw [qb] at ha
            exact fun σ3 H3 α3 F3 e3 s3 w3 => ⟨γ3, S3, α3, F3, s3, w3, AftS.ext (e2.trans e3) ha⟩
end
end Itp
namespace Itp
open PySem PySem.Spec PyProof.Rows L2
theorem LcP.set {X : Cx} {g : Gb} {cal : Nat → List D → Sto → Out D} {tg : Tg} {own : List Nat} {k : IK} {its ifs : List E} {e : E} {v : Expr} {x : Str} {i : Nat} {p pos : Pos} (L : LcP X g cal tg own k its ifs e v) (hc : X.calm = true) (hN : X.N.Nodup) (hk : X.env.scope.kind = .function) (hi : X.N[i]? = some x) (hw : swc X.env.scope x p.line v = true) :
    PS X (.Assign [.Name x p] v pos) (tS X.K g fun γ S => .of (ev cal (.lc tg own k its ifs e) γ S) fun d S => .nx (γ.set i (some d)) S) := by
  obtain ⟨elt, t, iter, fs, scope, p2, rfl, hI, ok, hg, ht, he, hn, hs⟩ := L
  obtain ⟨h1, h2⟩ := swc_true (line := pos.line) hk hw
  have := ps_setLc (elt := elt) (te := tI X.K g (ev cal e)) (tt := tIb X.K g (evF cal ifs)) (g := gI X.K g tg) (spos := pos) hc hN hi h2 h1 hI ok hg ht he (fun x => fold_of hn)
  rw [own_snd] at this
  refine this.imp fun D σ H h => ?_
  have h := set_of h
  exact lc_ofF hs (tFr_of (fun γ S d S' z => lcM_lst (k := k) (tg := tg) (own := own) (ml := evs cal its) (mf := evF cal ifs) (me := ev cal e) (γ := γ) (S := S) z) h)
theorem isLc_inv {e : E} (h : isLc e = true) : ∃ tg own k its ifs e', e = .lc tg own k its ifs e' := by
  cases e <;> first | exact ⟨_, _, _, _, _, _, rfl⟩ | cases h
theorem pAttr_ns {t a : Expr} {x : Str} {p : Pos} (h : pAttr t = some (a, x, p)) : noStar t = true := by
  have := pAttr_inv h
  subst this
  rfl
section
variable {T : Tab} {g : Gb} {cal : Nat → List D → Sto → Out D} {n : Nat} {X : Cx} {sc : Scope}
theorem mtF_inv {o : E} {cs : List Nat} {i : Nat} {t : Expr} (C : Cok T g cal X n) (h : mtF T X.N o cs sc i t = true) : ∃ a x p, t = .Attribute a x p ∧ g.nm i = x ∧ mtE T X.N o sc a = true ∧ ∀ c, cs.contains c = true → (c, i) ∈ T.nf := by
  unfold mtF at h
  cases q : pAttr t with
  | none => rw [q] at h; cases h
  | some u =>
    obtain ⟨a, x, p⟩ := u
    rw [q] at h
    simp only [Bool.and_eq_true] at h
    obtain ⟨⟨h1, h2⟩, h3⟩ := h
    refine ⟨a, x, p, pAttr_inv q, C.ck.nm i x (of_decide_eq_true h1), h2, fun c hc => ?_⟩
    have := List.all_eq_true.mp h3 c (by simpa using hc)
    simpa using this
theorem jfl (C : Cok T g cal X n) (hs : ScOk X sc) {o : E} {cs : List Nat} : ∀ (is : List Nat) (ts : List Expr), mtFl T X.N o cs sc is ts = true → PGs X ts (gFs X.K g (ev cal o) cs is) ∧ ts.all noStar = true ∧ ts.length = is.length
  | [], ts, h => by
    have e : ts = [] := by
      have h : ts.isEmpty = true := h
      simpa using h
    subst e
    refine ⟨pgs_nil.imp fun vs σ H Q h => ?_, rfl, rfl⟩
    obtain ⟨ds, γ, S, α, F, R, r, s, w, k⟩ := h
    cases ds with
    | nil =>
      cases r
      exact ⟨rfl, k H α F Ext.refl w⟩
    | cons d ds => exact False.elim k
  | i :: is, ts, h => by
    cases ts with
    | nil => cases h
    | cons t ts =>
      have h : (mtF T X.N o cs sc i t && mtFl T X.N o cs sc is ts) = true := h
      rw [Bool.and_eq_true] at h
      obtain ⟨a, x, p, rfl, h1, h2, h3⟩ := mtF_inv C h.1
      obtain ⟨j1, j2, j3⟩ := jfl C hs is ts h.2
      have P := pg_fld (f := x) (pos := p) (jE T g cal n o X sc a C hs h2).pe
      refine ⟨(pgs_cons P j1 (by rw [each_cons rfl]; rfl)).imp fun vs σ H Q h => ?_, by rw [List.all_cons, j2]; rfl, by simp [j3]⟩
      obtain ⟨ds, γ, S, α, F, R, r, s, w, k⟩ := h
      cases ds with
      | nil => exact False.elim k
      | cons d ds =>
        obtain ⟨v, rs, rfl, r1, r2⟩ := r
        subst h1
        exact ⟨v, rs, rfl, fld_put C.ck h3 r1 s w (fun S' H' α' F' e w' k' => ⟨ds, γ, S', α', F', R, Reps.mono e _ _ r2, s.mono e, w', k'⟩) k⟩
theorem aftP_of {α : Nat → Option Addr} {F R : Hp} {γ : Gm} {σ : L2.St} {o : Out Unit} {D : Ends} (s : Slots X.K g α F γ σ) (h : AftS X.K g R α F (.of o fun _ S => .nx γ S) D) : AftP X.K g R α F σ o D.nx := by
  cases o with
  | ok u S => exact fun H α' F' e w => h σ H α' F' e (s.mono e) w
  | exc => exact h
  | bad => exact h
theorem js_fld {o e : E} {i : Nat} {cs : List Nat} {t v : Expr} {pos : Pos} (C : Cok T g cal X n) (hs : ScOk X sc) (hk : X.env.scope.kind = .function) (ht : mtF T X.N o cs sc i t = true) (he : PE X v (tI X.K g (ev cal e))) (hn : e.ns = true) :
    PS X (.Assign [t] v pos) (tS X.K g (ex cal (.flds o cs [i] [e]))) := by
  obtain ⟨a, x, p, rfl, h1, h2, h3⟩ := mtF_inv C ht
  have P := pg_fld (f := x) (pos := p) (jE T g cal n o X sc a C hs h2).pe
  refine (ps_asg he P (by cases v <;> rfl) (swO_ok hk (fun _ _ z => by cases z) (by unfold swO; rfl)) rfl).imp fun D σ H h => ?_
  have h : tS X.K g (fun γ S => .of (ev cal e γ S) fun d S => .of (putAll (fun S => ev cal o γ S) cs [i] [d] S) fun _ S => .nx γ S) D σ H := by
    obtain ⟨γ, S, α, F, R, s, w, h⟩ := h
    refine ⟨γ, S, α, F, R, s, w, ?_⟩
    unfold ex at h
    rw [evs_cons hn, evs_nil] at h
    dsimp only at h ⊢
    cases q : ev cal e γ S with
    | ok d S' => rw [q] at h; exact h
    | exc => rw [q] at h; exact h
    | bad => rw [q] at h; exact h
  refine tS.of (k := fun γ d S => .of (putAll (fun S => ev cal o γ S) cs [i] [d] S) fun _ S => .nx γ S) h fun γ d S v H α F R s w r h => ?_
  subst h1
  refine fld_put (Q := D.nx) C.ck h3 r s w (fun S' H' α' F' e w' k' => ?_) (aftP_of s h)
  exact k' H' α' F' Ext.refl w'
theorem js_flds {o : E} {es : List E} {is cs : List Nat} {ts vs : List Expr} {kt kv : Nat} {pt pv pos : Pos} (C : Cok T g cal X n) (hs : ScOk X sc) (hk : X.env.scope.kind = .function) (ht : mtFl T X.N o cs sc is ts = true) (J : JEs X g cal es vs) (hv : vs.all noStar = true) (hl : vs.length ≤ 1000) (hw : swO (.Tuple ts kt pt) (.Tuple vs kv pv) X.env.scope = some none) :
    PS X (.Assign [.Tuple ts kt pt] (.Tuple vs kv pv) pos) (tS X.K g (ex cal (.flds o cs is es))) := by
  obtain ⟨k1, k2, k3⟩ := jfl C hs is ts ht
  obtain ⟨l1, l2⟩ := each_len (env := X.env) k2
  refine (ps_asg (je_tup J.pa) (pg_tup C.calm k1 l1 l2) rfl (swO_ok hk (fun _ _ z => by cases z) hw) rfl).imp fun D σ H h => ?_
  obtain ⟨γ, S, α, F, R, s, w, h⟩ := h
  refine ⟨γ, S, α, F, R, s, w, ?_⟩
  unfold ex at h
  dsimp only
  cases q : evs cal es γ S with
  | exc => rw [q] at h; exact h
  | bad => rw [q] at h; exact h
  | ok ds S' =>
    rw [q] at h
    have hd := J.el hv γ S ds S' q
    have hz : ds.length ≤ 16777216 := by rw [hd, ← J.ln]; omega
    dsimp only [Out.bind]
    rw [if_pos hz]
    intro v H' α' F' e' w' r'
    obtain ⟨a, us, rfl, h2, h3⟩ := r'
    have h := AftS.ext e' h
    have h := aftP_of (s.mono e') h
    have hu : us.length = ts.length := by
      have hdi : ds.length = is.length := by
        apply Classical.byContradiction
        intro z
        have go : ∀ (is : List Nat) (ds : List Itp.D) (S : Sto), ds.length ≠ is.length → ∀ u S', putAll (fun S => ev cal o γ S) cs is ds S ≠ .ok u S' := by
          intro is
          induction is with
          | nil =>
            intro ds S hne u S'
            cases ds with
            | nil => exact absurd rfl hne
            | cons => intro z; cases z
          | cons i is ih =>
            intro ds S hne u S' z
            cases ds with
            | nil => cases z
            | cons d ds =>
              unfold putAll at z
              obtain ⟨b, S1, _, z⟩ := bind_ok z
              split at z
              · split at z
                · split at z
                  · exact ih ds _ (by simpa using hne) u S' z
                  · cases z
                · cases z
              · cases z
        cases qq : putAll (fun S => ev cal o γ S) cs is ds S' with
        | ok u S2 => exact go is ds S' z u S2 qq
        | exc => rw [qq] at h; exact h
        | bad => rw [qq] at h; exact h
      rw [← h3.length, hdi, k3]
    exact ⟨a, us, rfl, SqT.of (w'.fz _ _ h2), by rw [hu], ds, γ, S', α', F', R, h3, s.mono e', w', h⟩
end
section
variable (T : Tab) (g : Gb) (cal : Nat → List D → Sto → Out D) (n : Nat)
mutual
theorem jS (X : Cx) (hp : PassesOwn (model X.prog X.w) X.A X.env X.xe) (C : Cok T g cal X n) (hs : ScOk X X.env.scope) (hk : X.env.scope.kind = .function) : ∀ (s : St) (py : Stmt), mtS T X.N s X.env.scope py = true → PS X py (tS X.K g (ex cal s))
  | .set i e, py, h => by
    unfold mtS at h
    cases q : qAsg py with
    | none => rw [q] at h; cases h
    | some u =>
      obtain ⟨t, v, p⟩ := u
      rw [q] at h
      have e1 := qAsg_inv q
      subst e1
      dsimp only at h
      cases q2 : pName t with
      | none => rw [q2] at h; cases h
      | some x =>
        rw [q2] at h
        simp only [Bool.and_eq_true, Bool.or_eq_true] at h
        obtain ⟨⟨⟨⟨h1, h2⟩, h3⟩, h4⟩, h5⟩ := h
        obtain ⟨p2, rfl⟩ := pName_inv q2
        obtain ⟨k1, k2⟩ := hs.sto x h2
        have h1 := of_decide_eq_true h1
        have J := jE T g cal n e X _ v C hs h3
        cases hw : swc X.env.scope x p2.line v with
        | true =>
          have hl : isLc e = true := by
            rcases h5 with h5 | h5
            · have h5 : (!swc X.env.scope x p2.line v) = true := h5
              have : swc X.env.scope x p2.line v = false := by simpa using h5
              rw [hw] at this; cases this
            · exact h5
          obtain ⟨tg, own, k, its, ifs, e', rfl⟩ := isLc_inv hl
          exact (J.lc _ _ _ _ _ _ rfl).set C.calm C.nd hk h1 hw
        | false =>
          refine js_set C.nd h1 k1 k2 J.pe (swc_false hk ?_ hw)
          rcases h4 with h4 | h4
          · exact .inl h4
          · obtain ⟨tg, own, k, its, ifs, e', rfl⟩ := isLc_inv h4
            obtain ⟨elt, t, iter, fs, scope, p3, e2, _⟩ := J.lc _ _ _ _ _ _ rfl
            exact .inr ⟨_, _, _, _, e2⟩
  | .asg tg e, py, h => by
    unfold mtS at h
    cases q : qAsg py with
    | none => rw [q] at h; cases h
    | some u =>
      obtain ⟨t, v, p⟩ := u
      rw [q] at h
      have e1 := qAsg_inv q
      subst e1
      simp only [Bool.and_eq_true] at h
      obtain ⟨⟨⟨h1, h2⟩, h3⟩, h4⟩ := h
      exact js_asg h1 hk (jg C.calm C.nd hs tg t h2).1 (jE T g cal n e X _ v C hs h3).pe (of_decide_eq_true h4)
  | .par is es, py, h => by
    unfold mtS at h
    cases q : qAsg py with
    | none => rw [q] at h; cases h
    | some u =>
      obtain ⟨t, v, p⟩ := u
      rw [q] at h
      have e1 := qAsg_inv q
      subst e1
      dsimp only at h
      cases q2 : pTup t with
      | none => rw [q2] at h; cases h
      | some ts =>
        cases q3 : pTup v with
        | none => rw [q2, q3] at h; cases h
        | some vs =>
          rw [q2, q3] at h
          dsimp only at h
          cases q4 : namesOf ts with
          | none => rw [q4] at h; cases h
          | some xs =>
            rw [q4] at h
            simp only [Bool.and_eq_true, Bool.or_eq_true, beq_iff_eq] at h
            obtain ⟨⟨⟨⟨⟨⟨⟨h1, h2⟩, h3⟩, h4s⟩, h4⟩, h5⟩, h6⟩, h7⟩ := h
            obtain ⟨kt, pt, rfl⟩ := pTup_inv q2
            obtain ⟨kv, pv, rfl⟩ := pTup_inv q3
            obtain ⟨ps, hps, rfl⟩ := namesOf_inv q4
            have h1 := of_decide_eq_true h1
            have h2 := of_decide_eq_true h2
            have h5 := of_decide_eq_true h5
            have J := jEs T g cal n es X _ vs C hs h4
            have hl : ∀ x ∈ xs, X.env.scope.names.lookup x = some .local := fun x hx => of_decide_eq_true (List.all_eq_true.mp h3 x hx)
            have hlen : is.length = xs.length := by simpa using congrArg List.length h1
            match is, xs, ps, vs, h6, h7, hlen, hps, h1, h2, h5, hl, J with
            | [i, j], [x, y], [px, py], [a, b], _, _, _, _, h1, h2, h5, hl, J =>
              have k : X.N[i]? = some x ∧ X.N[j]? = some y := by simpa using h1
              exact js_par2 C.calm C.nd hk k.1 k.2 (by simpa using h2) (hl x (by simp)) (hl y (by simp)) J.pa h5
            | [i, j, l], [x, y, z], [px, py, pz], [a, b, c], _, _, _, _, h1, h2, h5, hl, J =>
              have k : X.N[i]? = some x ∧ X.N[j]? = some y ∧ X.N[l]? = some z := by simpa using h1
              have d : (i ≠ j ∧ i ≠ l) ∧ j ≠ l := by simpa using h2
              exact js_par3 C.calm C.nd hk k.1 k.2.1 k.2.2 d.1.1 d.1.2 d.2 (hl x (by simp)) (hl y (by simp)) (hl z (by simp)) J.pa h5
  | .idx o i e, py, h => by
    unfold mtS at h
    cases q : qAsg py with
    | none => rw [q] at h; cases h
    | some u =>
      obtain ⟨t, v, p⟩ := u
      rw [q] at h
      have e1 := qAsg_inv q
      subst e1
      dsimp only at h
      cases q2 : pSub t with
      | none => rw [q2] at h; cases h
      | some ab =>
        obtain ⟨a, b⟩ := ab
        rw [q2] at h
        simp only [Bool.and_eq_true] at h
        obtain ⟨⟨⟨h1, h2⟩, h3⟩, h4⟩ := h
        obtain ⟨p2, rfl⟩ := pSub_inv q2
        exact js_idx hk h1 (jE T g cal n o X _ a C hs h2).pe (jE T g cal n i X _ b C hs h3).pe (jE T g cal n e X _ v C hs h4).pe
  | .expr e, py, h => by
    unfold mtS at h
    cases q : qExpr py with
    | none => rw [q] at h; cases h
    | some u =>
      obtain ⟨v, p⟩ := u
      rw [q] at h
      simp only [Bool.and_eq_true] at h
      have e1 := qExpr_inv q
      subst e1
      exact js_expr (jE T g cal n e X _ v C hs h.2).pe h.1
  | .ret e, py, h => by
    unfold mtS at h
    cases q : qRet py with
    | none => rw [q] at h; cases h
    | some u =>
      cases u with
      | none => rw [q] at h; cases h
      | some v =>
        rw [q] at h
        obtain ⟨p, rfl⟩ := qRet_inv q
        exact js_ret (jE T g cal n e X _ v C hs h).pe
  | .retN, py, h => by
    unfold mtS at h
    cases q : qRet py with
    | none => rw [q] at h; cases h
    | some u =>
      cases u with
      | none =>
        obtain ⟨p, rfl⟩ := qRet_inv q
        exact js_retN
      | some v => rw [q] at h; cases h
  | .pass, py, h => by
    obtain ⟨p, rfl⟩ := qPass_inv h
    exact js_pass
  | .ifs c a b, py, h => by
    unfold mtS at h
    cases q : qIf py with
    | none => rw [q] at h; cases h
    | some u =>
      obtain ⟨c', a', b'⟩ := u
      rw [q] at h
      simp only [Bool.and_eq_true] at h
      obtain ⟨⟨⟨h1, h2⟩, h3⟩, h4⟩ := h
      obtain ⟨p, rfl⟩ := qIf_inv q
      exact js_if ((jE T g cal n c X _ c' C hs h2).pt h1) (jSs X hp C hs hk a a' h3) (jSs X hp C hs hk b b' h4)
  | .for tg k its b, py, h => by
    unfold mtS at h
    cases q : qFor py with
    | none => rw [q] at h; cases h
    | some u =>
      obtain ⟨t, iter, b'⟩ := u
      rw [q] at h
      simp only [Bool.and_eq_true] at h
      obtain ⟨⟨⟨h1, h2⟩, h3⟩, h4⟩ := h
      obtain ⟨p, rfl⟩ := qFor_inv q
      cases q2 : itArgs T k X.env.scope t iter with
      | none => rw [q2] at h2; cases h2
      | some as =>
        rw [q2] at h2
        have h2 := Bool.and_eq_true_iff.mp h2
        exact js_for hp C.calm (jI C hs q2 h2.1 (jEs T g cal n its X _ as C hs h2.2)) (jg C.calm C.nd hs tg t h3).1 (jSs X hp C hs hk b b' h4) h1
  | .while c b, py, h => by
    unfold mtS at h
    cases q : qWhile py with
    | none => rw [q] at h; cases h
    | some u =>
      obtain ⟨c', b'⟩ := u
      rw [q] at h
      simp only [Bool.and_eq_true] at h
      obtain ⟨⟨h1, h2⟩, h3⟩ := h
      obtain ⟨p, rfl⟩ := qWhile_inv q
      exact js_while hp ((jE T g cal n c X _ c' C hs h2).pt h1) (jSs X hp C hs hk b b' h3)
  | .never, py, h => js_never
  | .aug i o e, py, h => by
    unfold mtS at h
    cases q : qAug py with
    | none => rw [q] at h; cases h
    | some u =>
      obtain ⟨t, op, v, p⟩ := u
      rw [q] at h
      have e1 := qAug_inv q
      subst e1
      dsimp only at h
      cases q2 : pName t with
      | none => rw [q2] at h; cases h
      | some x =>
        rw [q2] at h
        simp only [Bool.and_eq_true] at h
        obtain ⟨⟨⟨h1, h2⟩, h3⟩, h4⟩ := h
        obtain ⟨p2, rfl⟩ := pName_inv q2
        obtain ⟨k1, k2⟩ := hs.sto x h2
        exact js_aug C.nd (of_decide_eq_true h1) k1 k2 (of_decide_eq_true h3) (jE T g cal n e X _ v C hs h4).pe
  | .augI o i op e, py, h => by
    unfold mtS at h
    cases q : qAug py with
    | none => rw [q] at h; cases h
    | some u =>
      obtain ⟨t, oo, v, p⟩ := u
      rw [q] at h
      have e1 := qAug_inv q
      subst e1
      dsimp only at h
      cases q2 : pSub t with
      | none => rw [q2] at h; cases h
      | some u2 =>
        obtain ⟨a, b⟩ := u2
        rw [q2] at h
        simp only [Bool.and_eq_true] at h
        obtain ⟨⟨⟨⟨h1, h2⟩, h3⟩, h4⟩, h5⟩ := h
        obtain ⟨p2, rfl⟩ := pSub_inv q2
        exact js_augI h1 (of_decide_eq_true h2) (jE T g cal n o X _ a C hs h3).pe (jE T g cal n i X _ b C hs h4).pe (jE T g cal n e X _ v C hs h5).pe
  | .cont, py, h => by
    obtain ⟨p, rfl⟩ := qCont_inv h
    exact js_cont
  | .flds o cs is es, py, h => by
    unfold mtS at h
    cases q : qAsg py with
    | none => rw [q] at h; cases h
    | some u =>
      obtain ⟨t, v, p⟩ := u
      rw [q] at h
      have e1 := qAsg_inv q
      subst e1
      dsimp only at h
      cases q2 : pTup t with
      | none =>
        rw [q2] at h
        dsimp only at h
        split at h
        · simp only [Bool.and_eq_true] at h
          have J := jE T g cal n _ X _ v C hs h.1.2
          exact js_fld C hs hk h.1.1 J.pe J.en
        · cases h
      | some ts =>
        rw [q2] at h
        dsimp only at h
        cases q3 : pTup v with
        | none => rw [q3] at h; cases h
        | some vs =>
          rw [q3] at h
          simp only [Bool.and_eq_true] at h
          obtain ⟨⟨⟨⟨h1, h2⟩, h3⟩, h4⟩, h5⟩ := h
          obtain ⟨kt, pt, rfl⟩ := pTup_inv q2
          obtain ⟨kv, pv, rfl⟩ := pTup_inv q3
          exact js_flds C hs hk h1 (jEs T g cal n es X _ vs C hs h2) h3 (of_decide_eq_true h5) (of_decide_eq_true h4)
theorem jSs (X : Cx) (hp : PassesOwn (model X.prog X.w) X.A X.env X.xe) (C : Cok T g cal X n) (hs : ScOk X X.env.scope) (hk : X.env.scope.kind = .function) : ∀ (ss : List St) (pys : List Stmt), mtSs T X.N ss X.env.scope pys = true → PSs X pys (tS X.K g (exs cal ss))
  | [], pys, h => by
    have e : pys = [] := by
      have h : pys.isEmpty = true := h
      simpa using h
    subst e
    exact jss_nil
  | s :: ss, pys, h => by
    cases pys with
    | nil => cases h
    | cons p ps =>
      have h : (mtS T X.N s X.env.scope p && mtSs T X.N ss X.env.scope ps) = true := h
      rw [Bool.and_eq_true] at h
      exact jss_cons (jS X hp C hs hk s p h.1) (jSs X hp C hs hk ss ps h.2)
end
end
end Itp
namespace Itp
open PySem PySem.Spec PyProof.Rows L2
/-! ### the store is cut back -/
section
variable {K : PySem.W.Frag} {g : Gb} {α : Nat → Option Addr} {F H R : Hp} {S : Sto}
def cutA (α : Nat → Option Addr) (n : Nat) : Nat → Option Addr := fun m => if m < n then α m else none
mutual
theorem Rep.cut {n : Nat} : ∀ (d : D) (v : V), d.low n = true → Rep K g α F d v → Rep K g (cutA α n) F d v
  | .non, v, _, h => h
  | .bl b, v, _, h => h
  | .int i, v, _, h => h
  | .str x, v, _, h => h
  | .lst xs, v, l, h => by
    obtain ⟨a, vs, e1, h1, h2⟩ := h
    exact ⟨a, vs, e1, h1, Reps.cut xs vs l h2⟩
  | .tup xs, v, l, h => by
    obtain ⟨a, vs, e1, h1, h2⟩ := h
    exact ⟨a, vs, e1, h1, Reps.cut xs vs l h2⟩
  | .obj c ns ds, v, l, h => by
    obtain ⟨a, dx, vs, e1, h1, hl, h2⟩ := h
    exact ⟨a, dx, vs, e1, h1, hl, Reps.cut ds vs l h2⟩
  | .loc m, v, l, h => by
    obtain ⟨a, e1, h1⟩ := h
    refine ⟨a, e1, ?_⟩
    unfold cutA
    rw [if_pos (of_decide_eq_true l)]
    exact h1
  | .scr ns, v, _, h => h
  | .cls c, v, _, h => h
  | .dK ks ds, v, l, h => by
    obtain ⟨a, vs, e1, h1, hl, h2⟩ := h
    exact ⟨a, vs, e1, h1, hl, Reps.cut ds vs l h2⟩
  | .dT ks ds, v, l, h => by
    obtain ⟨a, vs, e1, h1, hl, h2⟩ := h
    exact ⟨a, vs, e1, h1, hl, Reps.cut ds vs l h2⟩
theorem Reps.cut {n : Nat} : ∀ (ds : List D) (vs : List V), D.lows n ds = true → Reps K g α F ds vs → Reps K g (cutA α n) F ds vs
  | [], vs, _, h => h
  | d :: ds, vs, l, h => by
    obtain ⟨v, r, e1, h1, h2⟩ := h
    have l : (d.low n && D.lows n ds) = true := l
    rw [Bool.and_eq_true] at l
    exact ⟨v, r, e1, Rep.cut d v l.1 h1, Reps.cut ds r l.2 h2⟩
end
theorem World.cut (w : World K g R α F S H) {n : Nat} (hn : n ≤ S.length) (l : (S.take n).all (SO.low n) = true) : World K g R (cutA α n) F (S.take n) H := by
  have sub : ∀ m a, cutA α n m = some a → α m = some a := fun m a h => by
    unfold cutA at h
    split at h
    · exact h
    · cases h
  refine ⟨w.fz, fun m o h => ?_, fun m m' a h h' => w.inj m m' a (sub _ _ h) (sub _ _ h'), fun m a h => w.occ m a (sub _ _ h), fun m h => ?_, fun a o h => ?_⟩
  · have hm : m < n := by
      have := (List.getElem?_eq_some_iff.mp h).1
      rw [List.length_take] at this
      omega
    have lo : o.low n = true := List.all_eq_true.mp l o (List.mem_of_getElem? h)
    rw [List.getElem?_take_of_lt hm] at h
    have k := w.st m o h
    have ca : ∀ a, α m = some a → cutA α n m = some a := fun a e => by unfold cutA; rw [if_pos hm]; exact e
    cases o with
    | lst xs =>
      obtain ⟨a, vs, h1, h2, h3, h4⟩ := k
      exact ⟨a, vs, ca a h1, h2, h3, Reps.cut _ _ lo h4⟩
    | ins c ns ds =>
      obtain ⟨a, dx, vs, h1, h2, h3, hl, h4⟩ := k
      exact ⟨a, dx, vs, ca a h1, h2, h3, hl, Reps.cut _ _ lo h4⟩
    | dead => trivial
    | dK ks ds =>
      obtain ⟨a, vs, h1, h2, h3, hl, h4⟩ := k
      exact ⟨a, vs, ca a h1, h2, h3, hl, Reps.cut _ _ lo h4⟩
    | dT ks ds =>
      obtain ⟨a, vs, h1, h2, h3, hl, h4⟩ := k
      exact ⟨a, vs, ca a h1, h2, h3, hl, Reps.cut _ _ lo h4⟩
  · rw [List.length_take, Nat.min_eq_left hn] at h
    unfold cutA
    rw [if_neg (by omega)]
  · obtain ⟨h1, h2, h3⟩ := w.fr a o h
    exact ⟨h1, h2, fun m e => h3 m (sub _ _ e)⟩
/-- behind a call -/
theorem Aft.trim {α0 : Nat → Option Addr} {F0 : Hp} {n : Nat} {d : D} {Q : VK} (hb : ∀ m, n ≤ m → α0 m = none) (h : Aft K g R (Rep K g) α0 F0 (.ok d (trim n d S)) Q) (e : Ext α0 F0 α F) (w : World K g R α F S H) {v : V} (r : Rep K g α F d v) : Q v H := by
  unfold Itp.trim at h
  split at h
  · exact h v H α F e w r
  · rename_i hn
    split at h
    · rename_i hl
      rw [Bool.and_eq_true] at hl
      refine h v H (cutA α n) F ⟨fun m a q => ?_, e.fr⟩ (w.cut (by omega) hl.2) (Rep.cut d v hl.1 r)
      have hm : m < n := by
        apply Classical.byContradiction
        intro hm
        rw [hb m (by omega)] at q
        cases q
      unfold cutA
      rw [if_pos hm]
      exact e.al m a q
    · exact h v H α F e w r
end
/-! ### a def of the text -/
structure Df where
  d : He5.DefA
  N : List Str
  ps : List Str
  fn : Fn
def Df.ok (T : Tab) (f : Df) : Bool := decide (f.d.scope.kind = .function) && !f.d.scope.isCoroutine && !f.d.scope.isGenerator && decide f.N.Nodup && decide (f.N.take f.ps.length = f.ps) && f.ps.all (stoB f.d.scope) &&
  (f.d.scope.names.all fun y => decide (y.2 ≠ .free)) && decide (f.fn.np = f.ps.length) && decide (f.fn.nv = f.N.length) && mtSs T f.N f.fn.body f.d.scope f.d.body
theorem Df.scope {T : Tab} {f : Df} (h : f.ok T = true) : FnScope f.N f.ps f.d.scope ∧ f.fn.np = f.ps.length ∧ f.fn.nv = f.N.length ∧ mtSs T f.N f.fn.body f.d.scope f.d.body = true := by
  unfold Df.ok at h
  simp only [Bool.and_eq_true] at h
  obtain ⟨⟨⟨⟨⟨⟨⟨⟨⟨h1, h2⟩, h3⟩, h4⟩, h5⟩, h6⟩, h7⟩, h8⟩, h9⟩, h10⟩ := h
  refine ⟨⟨of_decide_eq_true h1, by simpa using h2, by simpa using h3, of_decide_eq_true h4, of_decide_eq_true h5, fun x hx => ?_, fun y hy => of_decide_eq_true (List.all_eq_true.mp h7 y hy)⟩, of_decide_eq_true h8, of_decide_eq_true h9, h10⟩
  have := List.all_eq_true.mp h6 x hx
  unfold stoB at this
  split at this
  · exact .inl (by assumption)
  · exact .inr (by assumption)
  · cases this
/-- what the head has told, of every context -/
structure Hd (T : Tab) (g : Gb) (K : PySem.W.Frag) (mg : Str → Option Value) (dfs : List Df) : Prop where
  fr : ∀ x ∈ T.free, mg x = none
  fo : ∀ x ∈ T.free, x ≠ "__name__" ∧ (x == ("__debug__" : Str)) = false
  ci : ∀ p ∈ T.ci, ∃ t, mg p.1 = some (.int p.2 t)
  cs : ∀ p ∈ T.cs, ∃ t, mg p.1 = some (.str p.2 t)
  cl : ∀ (c : Nat) x, T.cls[c]? = some x → mg x = some (.ref (g.cA c)) ∧ c < g.nc
  is : IsOk K g g.nc
  ck : ClsOk T g K
  mf : ∀ (f : Nat) x, T.fn[f]? = some x → x ≠ "" → mg x = some (.ref (g.fA f))
  ln : T.fn.length = dfs.length
  ok : ∀ f ∈ dfs, f.ok T = true
  fd : ∀ (f : Nat) df, dfs[f]? = some df → ∃ fd dv kw, FunD K df.d.name df.d.qual df.d.params df.d.body df.d.scope dv kw (g.fA f) fd ∧ ∀ ks pl, (f, ks, pl) ∈ T.kb → BndOk K fd df.ps ks pl
section
variable {T : Tab} {g : Gb} {K : PySem.W.Frag} {mg : Str → Option Value} {dfs : List Df} {P : Program} {w : PySem.World} {base : Heap}
theorem _root_.L2.FunD.uniq {x q : Str} {a : Arguments} {b : List Stmt} {sc : Scope} {dv : List V} {kw : List (Str × V)} {x' q' : Str} {a' : Arguments} {b' : List Stmt} {sc' : Scope} {dv' : List V} {kw' : List (Str × V)} {f : Addr} {fd fd' : FuncData} (F : FunD K x q a b sc dv kw f fd) (F' : FunD K x' q' a' b' sc' dv' kw' f fd') : fd' = fd := by
  obtain ⟨_, _, _, _, _, _, _, _, _, _, _, l1, _⟩ := F.ex
  obtain ⟨_, _, _, _, _, _, _, _, _, _, _, l2, _⟩ := F'.ex
  rw [l1] at l2
  cases l2
  rfl
theorem start_slots {α : Nat → Option Addr} {F : Hp} {N : List Str} {ds : List D} {vs : List V} {nv np : Nat} (hl : ds.length = np) (hv : nv = N.length) (r : Reps K g α F ds vs) : Slots K g α F (ds.map some ++ List.replicate (nv - np) none) (L2.start N vs) := by
  have e := r.length
  refine ⟨?_, fun i d q => ?_⟩
  · unfold L2.start
    simp [hl, hv, ← e]
  · by_cases hi : i < ds.length
    · rw [List.getElem?_append_left (by simpa using hi), List.getElem?_map] at q
      cases q2 : ds[i]? with
      | none => rw [q2] at q; cases q
      | some d' =>
        rw [q2] at q
        have q := Option.some.inj (Option.some.inj q)
        subst q
        obtain ⟨v, h1, h2⟩ := r.get q2
        refine ⟨v, ?_, h2⟩
        unfold L2.start
        rw [List.getElem?_append_left (by rw [List.length_map, ← e]; exact hi), List.getElem?_map, h1]
        rfl
    · rw [List.getElem?_append_right (by simpa using hi), List.getElem?_replicate] at q
      split at q <;> cases q
theorem fns_ok (h : Hd T g K mg dfs) : ∀ (n : Nat) (f : Nat) (df : Df), dfs[f]? = some df → ∃ fd dv kw, FunD K df.d.name df.d.qual df.d.params df.d.body df.d.scope dv kw (g.fA f) fd ∧ FnB P w K mg base CX0 (2 * n) (g.fA f) fd df.ps (spI K g (callN (dfs.map (·.fn)) n) f df.ps.length) ∧ PySem.W.keepIn K (.ref (g.fA f)) = true ∧ ∀ ks pl, (f, ks, pl) ∈ T.kb → BndOk K fd df.ps ks pl
  | 0, f, df, hf => by
    obtain ⟨fd, dv, kw, F1, KB1⟩ := h.fd f df hf
    refine ⟨fd, dv, kw, F1, fun A outer s H args Q E G hr e0 hb hG => ?_, F1.kp, KB1⟩
    obtain ⟨hsc, hnp, hnv, hmt⟩ := Df.scope (h.ok df (List.mem_of_getElem? hf))
    obtain ⟨oc, od, dV, kV, doc, pm, an, cdv, ct, osl, rfl, lk, hcd, _, _⟩ := F1.ex
    have KX : K.In s.heap := e0.mod.kin.keeps fun b o e => (e0.bs b o e).1
    refine codeAny_call_function hr.depth (KX _ _ lk) rfl hsc.co hsc.gen rfl (PySem.W.codeRec_of KX hcd) ?_
    refine hb _ _ _ fun s2 H2 vs us e2 un ho hx r hl g1 => ?_
    obtain ⟨_, _, _, _, _, _, _, _, k⟩ := hG vs H2 g1
    exact False.elim k
  | n + 1, f, df, hf => by
    obtain ⟨fd, dv, kw, F1, KB1⟩ := h.fd f df hf
    obtain ⟨hsc, hnp, hnv, hmt⟩ := Df.scope (h.ok df (List.mem_of_getElem? hf))
    refine ⟨fd, dv, kw, F1, ?_, F1.kp, KB1⟩
    obtain ⟨oc, od, dV, kV, doc, pm, an, cdv, ct, osl, rfl, lk, hcd, _, _⟩ := F1.ex
    intro A outer s H args Q E G hr e0 hb hG
    refine StX.run_bnd (k := 2 * n + 1) lk hcd hsc hr e0 hb fun s2 H2 vs hg hr' => ?_
    obtain ⟨ds, S, α, F, R, hl, r, w1, k⟩ := hG vs H2 hg
    refine ⟨tS K g (exs (callN (dfs.map (·.fn)) n) df.fn.body), PSs.nox (jSs T g (callN (dfs.map (·.fn)) n) n _ PassesOwn.never ?_ ?_ hsc.kind df.fn.body df.d.body hmt), ?_⟩
    · refine ⟨rfl, hsc.nd, hr', h.fr, h.fo, h.ci, h.cs, h.cl, h.is, h.ck, h.mf, fun f' hf' => ?_⟩
      rw [h.ln] at hf'
      obtain ⟨df', hdf'⟩ : ∃ df', dfs[f']? = some df' := ⟨dfs[f'], by simp [hf']⟩
      obtain ⟨fd', dv', kw', _, G1, G2, G3⟩ := fns_ok h n f' df' hdf'
      exact ⟨G2, fd', df'.ps, G1, G3⟩
    · refine ⟨fun x hx => ?_, fun x hx => ?_, fun x hx => ?_, fun x hx => hx, fun x hx => hx⟩
      · unfold visB at hx
        split at hx
        · exact .inl (by assumption)
        · exact .inr (.inl (by assumption))
        · exact .inr (.inr (by assumption))
        · cases hx
      · unfold gloB at hx
        split at hx
        · rename_i q
          exact q
        · cases hx
      · unfold stoB at hx
        split at hx
        · rename_i q
          exact ⟨.inl q, .inl rfl⟩
        · rename_i q
          exact ⟨.inr q, .inl rfl⟩
        · cases hx
    · refine ⟨ds.map some ++ List.replicate (df.fn.nv - df.fn.np) none, S, α, F, R, start_slots (by rw [hnp]; exact hl) hnv r, w1, ?_⟩
      unfold callN at k
      have e : (dfs.map (·.fn))[f]? = some df.fn := by rw [List.getElem?_map, hf]; rfl
      rw [e] at k
      dsimp only at k
      rw [if_pos (by rw [hnp]; exact hl)] at k
      cases q : exs (callN (dfs.map (·.fn)) n) df.fn.body (ds.map some ++ List.replicate (df.fn.nv - df.fn.np) none) S with
      | exc => rw [q] at k; exact k
      | bad => rw [q] at k; exact k
      | ct => rw [q] at k; exact False.elim k
      | nx γ S' =>
        rw [q] at k
        exact fun σ H' α' F' e' _ w' => Aft.trim (d := .non) w1.bd k e' w' rfl
      | ret d S' =>
        rw [q] at k
        exact fun v H' α' F' e' w' rv => Aft.trim w1.bd k e' w' rv
end
end Itp
namespace Itp
open PySem PySem.Spec PyProof.Rows L2
/-- the law's own promise -/
theorem law_sp {K : PySem.W.Frag} {g : Gb} {P : List Fn} {n f : Nat} (hl : ∀ ns : List Int, ns.length ≤ 63 → ∃ S, callN P n f [.scr ns] [] = .ok (.bl true) S) (H : Hp) (a : Addr) (ns : List Int) (hn : ns.length ≤ 63) (hq : SqL K H a (ns.map V.int)) :
    spI K g (callN P n) f 1 [.ref a] H (fun v _ => v = .bl true) fun _ _ _ => False := by
  refine ⟨[.scr ns], [], fun _ => none, H, fun _ => none, rfl, ⟨.ref a, [], rfl, ⟨a, rfl, hq⟩, rfl⟩, ⟨fun _ _ h => h, fun n o h => by simp at h, fun _ _ _ h => (nomatch h), fun _ _ h => (nomatch h), fun _ _ => rfl, fun _ _ h => (nomatch h)⟩, ?_⟩
  obtain ⟨S, e⟩ := hl ns hn
  rw [e]
  exact fun v H' α' F' _ _ r => r
end Itp
namespace Itp
open PySem PySem.Spec PyProof.Rows L2 He
/-! ### the head: one Bool of the objects that the module's names reach -/
inductive Wh where | glo (x : Str) | mth (x m : Str) | prp (x m : Str) | stm (x m : Str) | clm (x m : Str)
def Wh.at_ : Wh → PySem.W.Frag → Addr
  | .glo x, K => ga K x
  | .mth x m, K => ma K (ga K x) m
  | .prp x m, K => He5.wf K (ga K x) "property" m
  | .stm x m, K => He5.wf K (ga K x) "staticmethod" m
  | .clm x m, K => He5.wf K (ga K x) "classmethod" m
def nmF (l : List Str) (i : Nat) : Str := match l[i]? with
  | some x => x
  | none => ⟨(List.replicate (200 + i) 97).toArray⟩
theorem nmF_len {l : List Str} {i : Nat} (h : l[i]? = none) : (nmF l i).length = 200 + i := by
  unfold nmF
  rw [h]
  show (List.replicate (200 + i) 97).toArray.size = _
  simp
theorem nmF_inj {l : List Str} (hn : l.Nodup) (hl : ∀ x ∈ l, x.length < 200) {i j : Nat} (h : nmF l i = nmF l j) : i = j := by
  cases q : l[i]? with
  | none =>
    have e1 := nmF_len q
    cases q2 : l[j]? with
    | none =>
      have e2 := nmF_len q2
      rw [h] at e1
      omega
    | some y =>
      have e2 : nmF l j = y := by unfold nmF; rw [q2]
      have := hl y (List.mem_of_getElem? q2)
      rw [h, e2] at e1
      omega
  | some x =>
    have e1 : nmF l i = x := by unfold nmF; rw [q]
    cases q2 : l[j]? with
    | none =>
      have e2 := nmF_len q2
      have := hl x (List.mem_of_getElem? q)
      rw [← h, e1] at e2
      omega
    | some y =>
      have e2 : nmF l j = y := by unfold nmF; rw [q2]
      have e : x = y := by rw [← e1, ← e2]; exact h
      subst e
      exact (List.getElem?_inj (List.getElem?_eq_some_iff.mp q).1 hn).mp (by rw [q, q2])
def gbOf (T : Tab) (dfs : List Df) (K : PySem.W.Frag) : Gb where
  nc := T.cls.length
  cA := fun c => ga K (T.cls.getD c "")
  fA := fun f => match dfs[f]? with
    | some d => d.d.at_ K
    | none => 0
  nm := nmF T.nm
  sub := fun c k => T.sub.contains (c, k)
def clsB (K : PySem.W.Frag) (C : Addr) : Bool := PySem.W.plainGet K C Str.empty && (PySem.W.hasDictIn K C && (PySem.W.plainOver K C && He.eqO (PySem.W.findIn K (.ref C) "__setattr__") (some (some (.builtin "object.__setattr__")))))
theorem clsB_ok {K : PySem.W.Frag} {C : Addr} (h : clsB K C = true) : Cls K C := by
  obtain ⟨c1, c⟩ := ba h
  obtain ⟨c2, c⟩ := ba c
  obtain ⟨c3, c4⟩ := ba c
  exact ⟨c1, c2, c3, He.eqO_ok c4⟩
def methB (K : PySem.W.Frag) (C : Addr) (m : Str) (f : Addr) : Bool := He.eqO (PySem.W.findIn K (.ref C) m) (some (some (.ref f))) && (PySem.W.isFn K (.ref f) && PySem.W.keepIn K (.ref f))
theorem methB_ok {K : PySem.W.Frag} {C : Addr} {m : Str} {f : Addr} (h : methB K C m f = true) : Meth K C m f := by
  obtain ⟨c1, c⟩ := ba h
  obtain ⟨c2, c3⟩ := ba c
  exact ⟨He.eqO_ok c1, c2, c3⟩
def recB (K : PySem.W.Frag) (p : Addr) (t : String) (f : Addr) : Bool := match PySem.W.recIn K p t with
  | some (.ref g :: _) => decide (g = f)
  | _ => false
theorem recB_ok {K : PySem.W.Frag} {p : Addr} {t : String} {f : Addr} (h : recB K p t f = true) : ∃ rest, PySem.W.recIn K p t = some (.ref f :: rest) := by
  unfold recB at h
  split at h
  · rename_i g r e
    have := of_decide_eq_true h
    subst this
    exact ⟨r, e⟩
  · cases h
def propB (K : PySem.W.Frag) (C : Addr) (m : Str) (f : Addr) : Bool := He.eqO (PySem.W.findIn K (.ref C) m) (some (some (.ref (ma K C m)))) && (He.eqO (PySem.W.specialIn K (.ref (ma K C m)) "__get__") (some (some (.builtin "property.__get__"))) && (decide (PySem.W.takesIn K (.ref (ma K C m)) = some true) && recB K (ma K C m) "property" f))
theorem propB_ok {K : PySem.W.Frag} {C : Addr} {m : Str} {f : Addr} (h : propB K C m f = true) : PropOf K C m (ma K C m) f := by
  obtain ⟨c1, c⟩ := ba h
  obtain ⟨c2, c⟩ := ba c
  obtain ⟨c3, c4⟩ := ba c
  exact ⟨He.eqO_ok c1, He.eqO_ok c2, of_decide_eq_true c3, recB_ok c4⟩
def conB (K : PySem.W.Frag) (C : Addr) (m : Str) (v : V) : Bool := match PySem.W.findIn K (.ref C) m with
  | some (some u) => relB v u && (He.eqO (PySem.W.specialIn K u "__get__") (some none) && !PySem.W.copiedNames.contains m)
  | _ => false
theorem conB_ok {K : PySem.W.Frag} {C : Addr} {m : Str} {v : V} (h : conB K C m v = true) : ∃ u, Con K C m v u := by
  unfold conB at h
  split at h
  · rename_i u e
    obtain ⟨c1, c⟩ := ba h
    obtain ⟨c2, c3⟩ := ba c
    exact ⟨u, e, relB_ok c1, He.eqO_ok c2, by simpa using c3⟩
  · cases h
def creadB (K : PySem.W.Frag) (C : Addr) : Bool := PySem.W.readsIn K C (.type "type") && He.eqO (PySem.W.specialIn K (.ref C) "__getattribute__") (some (some (.builtin "type.__getattribute__")))
theorem creadB_ok {K : PySem.W.Frag} {C : Addr} (h : creadB K C = true) : ClX.CRead K C (.type "type") := by
  obtain ⟨c1, c2⟩ := ba h
  exact ⟨c1, He.eqO_ok c2⟩
def cvalB (K : PySem.W.Frag) (C : Addr) (m : Str) (v : V) : Bool := match PySem.W.findCls K (.ref C) (.type "type") m with
  | some (.val u) => relB v u
  | _ => false
theorem cvalB_ok {K : PySem.W.Frag} {C : Addr} {m : Str} {v : V} (h : cvalB K C m v = true) : ∃ u, ClX.CVal K C (.type "type") m v u := by
  unfold cvalB at h
  split at h
  · rename_i u e
    exact ⟨u, e, relB_ok h⟩
  · cases h
def wrB (K : PySem.W.Frag) (C : Addr) (t gid : String) (m : Str) (f : Addr) : Bool := (match PySem.W.findCls K (.ref C) (.type "type") m with
    | some (.get (.builtin g) (.ref p) .none (.ref D)) => decide (g = gid) && (decide (p = ma K C m) && decide (D = C))
    | _ => false) && recB K (ma K C m) t f
theorem wrB_ok {K : PySem.W.Frag} {C : Addr} {t gid : String} {m : Str} {f : Addr} (h : wrB K C t gid m f = true) : PySem.W.findCls K (.ref C) (.type "type") m = some (.get (.builtin gid) (.ref (ma K C m)) .none (.ref C)) ∧ ∃ rest, PySem.W.recIn K (ma K C m) t = some (.ref f :: rest) := by
  obtain ⟨h1, h2⟩ := ba h
  refine ⟨?_, recB_ok h2⟩
  split at h1
  · rename_i g p D e
    obtain ⟨k1, k⟩ := ba h1
    obtain ⟨k2, k3⟩ := ba k
    rw [e, of_decide_eq_true k1, of_decide_eq_true k2, of_decide_eq_true k3]
  · cases h1
def tys5 : List Ty := [.int, .bool, .str, .list, .tuple]
/-- the classes, as isinstance asks -/
def isB (T : Tab) (g : Gb) (K : PySem.W.Frag) (c : Nat) : Bool := clsB K (g.cA c) && (He.eqO (PySem.W.findIn K (.ref (g.cA c)) "__class__") (some (some (.builtin "object.__class__"))) && (He.eqO (PySem.W.specialIn K (.builtin "object.__class__") "__get__") (some (some (.builtin "getset_descriptor.__get__"))) &&
  (decide (PySem.W.takesIn K (.builtin "object.__class__") = some true) && (decide (PySem.W.mroIn K (g.cA c) (.type "object") = some true) && ((tys5.all fun t => decide (PySem.W.kitOne K (.ref (g.cA c)) (t.py g) = some false)) &&
  (((List.range T.cls.length).all fun k => decide (PySem.W.kitOne K (.ref (g.cA c)) (.ref (g.cA k)) = some (g.sub c k)) && (decide (PySem.W.mroIn K (g.cA c) (.ref (g.cA k)) = some (g.sub c k)) && (decide (g.cA c ≠ g.cA k) || c == k))) &&
  ((["NoneType", "bool", "int", "str", "list", "tuple"] : List String).all fun n => decide (PySem.W.kitOne K (.type n) (.ref (g.cA c)) = some false))))))))
structure IsC (T : Tab) (g : Gb) (K : PySem.W.Frag) (c : Nat) : Prop where
  cl : Cls K (g.cA c)
  ha : PySem.W.findIn K (.ref (g.cA c)) "__class__" = some (some (.builtin "object.__class__"))
  hn : PySem.W.specialIn K (.builtin "object.__class__") "__get__" = some (some (.builtin "getset_descriptor.__get__"))
  ht : PySem.W.takesIn K (.builtin "object.__class__") = some true
  hm : PySem.W.mroIn K (g.cA c) (.type "object") = some true
  kB : ∀ t ∈ tys5, PySem.W.kitOne K (.ref (g.cA c)) (t.py g) = some false
  kO : ∀ k, k < T.cls.length → PySem.W.kitOne K (.ref (g.cA c)) (.ref (g.cA k)) = some (g.sub c k) ∧ PySem.W.mroIn K (g.cA c) (.ref (g.cA k)) = some (g.sub c k) ∧ (g.cA c = g.cA k → c = k)
  kT : ∀ n ∈ (["NoneType", "bool", "int", "str", "list", "tuple"] : List String), PySem.W.kitOne K (.type n) (.ref (g.cA c)) = some false
theorem isB_ok {T : Tab} {g : Gb} {K : PySem.W.Frag} {c : Nat} (h : isB T g K c = true) : IsC T g K c := by
  obtain ⟨h1, h⟩ := ba h
  obtain ⟨h2, h⟩ := ba h
  obtain ⟨h3, h⟩ := ba h
  obtain ⟨h4, h⟩ := ba h
  obtain ⟨h5, h⟩ := ba h
  obtain ⟨h6, h⟩ := ba h
  obtain ⟨h7, h8⟩ := ba h
  refine ⟨clsB_ok h1, He.eqO_ok h2, He.eqO_ok h3, of_decide_eq_true h4, of_decide_eq_true h5, fun t ht => of_decide_eq_true (List.all_eq_true.mp h6 t ht), fun k hk => ?_, fun n hn => of_decide_eq_true (List.all_eq_true.mp h8 n hn)⟩
  have h7 := List.all_eq_true.mp h7 k (List.mem_range.mpr hk)
  obtain ⟨k1, k2⟩ := ba h7
  obtain ⟨k2, k3⟩ := ba k2
  refine ⟨of_decide_eq_true k1, of_decide_eq_true k2, fun e => ?_⟩
  rcases Bool.or_eq_true_iff.mp k3 with z | z
  · exact absurd e (of_decide_eq_true z)
  · exact beq_iff_eq.mp z
def conTB (g : Gb) (K : PySem.W.Frag) (q : Nat × Nat × D) : Bool := okC q.2.2 && (clsB K (g.cA q.1) && conB K (g.cA q.1) (g.nm q.2.1) (cV q.2.2))
def ccTB (g : Gb) (K : PySem.W.Frag) (q : Nat × Nat × D) : Bool := okC q.2.2 && (creadB K (g.cA q.1) && cvalB K (g.cA q.1) (g.nm q.2.1) (cV q.2.2))
def strsB : List Str → List Value → Bool
  | [], [] => true
  | x :: xs, .str y _ :: us => decide (x = y) && strsB xs us
  | _, _ => false
theorem strsB_ok : ∀ {xs : List Str} {us : List Value}, strsB xs us = true → Vals (xs.map V.str) us
  | [], [], _ => .nil
  | x :: xs, u :: us, h => by
    cases u with
    | str y t =>
      have h : (decide (x = y) && strsB xs us) = true := h
      obtain ⟨h1, h2⟩ := ba h
      have := of_decide_eq_true h1
      subst this
      exact .cons ⟨t, rfl⟩ (strsB_ok h2)
    | _ => cases h
  | [], _ :: _, h => by cases h
  | _ :: _, [], h => by cases h
def tupSB (K : PySem.W.Frag) (C : Addr) (m : Str) (xs : List Str) : Bool := match PySem.W.findCls K (.ref C) (.type "type") m with
  | some (.val (.ref a)) => (match K.lookup a with
    | some ⟨.type t, _, .seq its _, _⟩ => decide (t = "tuple") && (decide (its.size ≤ sizeLine) && strsB xs its.toList)
    | _ => false)
  | _ => false
theorem tupSB_ok {K : PySem.W.Frag} {C : Addr} {m : Str} {xs : List Str} (h : tupSB K C m xs = true) : ∃ a, ClX.CVal K C (.type "type") m (.ref a) (.ref a) ∧ ∀ H, SqT K H a (xs.map V.str) := by
  unfold tupSB at h
  split at h
  · rename_i a e
    split at h
    · rename_i t dd its k sl e2
      obtain ⟨h1, h⟩ := ba h
      obtain ⟨h2, h3⟩ := ba h
      have h1 := of_decide_eq_true h1
      subst h1
      exact ⟨a, ⟨e, rfl⟩, fun H => .inr ⟨_, its, k, e2, rfl, rfl, of_decide_eq_true h2, strsB_ok h3⟩⟩
    · cases h
  · cases h
def headB (T : Tab) (dfs : List Df) (K : PySem.W.Frag) : Bool :=
  (T.free.all fun x => He.eqO (PySem.W.nsIn K mainGlobals x) (some none)) && ((T.ci.all fun p => (Fa.int p.1 p.2).ok K) && ((T.cs.all fun p => (Fa.str p.1 p.2).ok K) &&
  ((T.cls.all fun x => (Fa.glo x).ok K) && (((List.range T.fn.length).all fun f => match T.fn[f]? with | some x => x == "" || ((Fa.glo x).ok K && decide ((gbOf T dfs K).fA f = ga K x)) | none => true) &&
  (((List.range T.cls.length).all fun c => isB T (gbOf T dfs K) K c) &&
  ((T.mt.all fun q => clsB K ((gbOf T dfs K).cA q.1) && methB K ((gbOf T dfs K).cA q.1) ((gbOf T dfs K).nm q.2.1) ((gbOf T dfs K).fA q.2.2)) &&
  ((T.pr.all fun q => clsB K ((gbOf T dfs K).cA q.1) && propB K ((gbOf T dfs K).cA q.1) ((gbOf T dfs K).nm q.2.1) ((gbOf T dfs K).fA q.2.2)) &&
  ((T.cn.all fun q => conTB (gbOf T dfs K) K q) && ((T.cc.all fun q => ccTB (gbOf T dfs K) K q) && ((T.ck.all fun q => creadB K ((gbOf T dfs K).cA q.1) && tupSB K ((gbOf T dfs K).cA q.1) ((gbOf T dfs K).nm q.2.1) q.2.2) &&
  ((T.nf.all fun q => clsB K ((gbOf T dfs K).cA q.1) && He.eqO (PySem.W.findIn K (.ref ((gbOf T dfs K).cA q.1)) ((gbOf T dfs K).nm q.2)) (some none)) &&
  ((T.ini.all fun q => decide (q.1 < T.cls.length) && (PySem.W.makesIn K ((gbOf T dfs K).cA q.1) && (He.eqO (PySem.W.findIn K (.ref ((gbOf T dfs K).cA q.1)) "__init__") (some (some (.ref ((gbOf T dfs K).fA q.2)))) && (PySem.W.isFn K (.ref ((gbOf T dfs K).fA q.2)) && PySem.W.keepIn K (.ref ((gbOf T dfs K).cA q.1)))))) &&
  ((T.cm.all fun q => decide (q.1 < T.cls.length) && (creadB K ((gbOf T dfs K).cA q.1) && (wrB K ((gbOf T dfs K).cA q.1) "classmethod" "classmethod.__get__" ((gbOf T dfs K).nm q.2.1) ((gbOf T dfs K).fA q.2.2) && PySem.W.fnIn K ((gbOf T dfs K).fA q.2.2)))) &&
  ((T.sm.all fun q => creadB K ((gbOf T dfs K).cA q.1) && wrB K ((gbOf T dfs K).cA q.1) "staticmethod" "staticmethod.__get__" ((gbOf T dfs K).nm q.2.1) ((gbOf T dfs K).fA q.2.2)) &&
  ((T.olen.all fun q => methB K ((gbOf T dfs K).cA q.1) "__len__" ((gbOf T dfs K).fA q.2)) && ((T.orep.all fun q => methB K ((gbOf T dfs K).cA q.1) "__repr__" ((gbOf T dfs K).fA q.2)) &&
  ((T.obool.all fun q => methB K ((gbOf T dfs K).cA q.1) "__bool__" ((gbOf T dfs K).fA q.2)) &&
  (T.oeq.all fun q => methB K ((gbOf T dfs K).cA q.1) "__eq__" ((gbOf T dfs K).fA q.2) && He.eqO (PySem.W.findIn K (.ref ((gbOf T dfs K).cA q.1)) "__ne__") (some (some (.builtin "object.__ne__")))))))))))))))))))))
/-- what needs no object -/
def pureB (T : Tab) (dfs : List Df) : Bool := (T.free.all fun x => decide (x ≠ "__name__") && !(x == "__debug__")) && (decide T.nm.Nodup && ((T.nm.all fun x => decide (x.length < 200)) && ((T.kb.all fun q => decide (q.1 < T.fn.length)) && (decide (T.fn.length = dfs.length) && dfs.all (Df.ok T)))))
section
variable {T : Tab} {dfs : List Df} {K : PySem.W.Frag} {h : Heap} {mg : Str → Option Value}
theorem mem_all {β : Type} {l : List β} {f : β → Bool} (h : l.all f = true) {q : β} (m : q ∈ l) : f q = true := List.all_eq_true.mp h q m
theorem hd_of (X : K.In h) (G : h.Ns mainGlobals mg) (hp : pureB T dfs = true) (hb : headB T dfs K = true) (hf : ∀ (f : Nat) df, dfs[f]? = some df → ∃ fd dv kw, FunD K df.d.name df.d.qual df.d.params df.d.body df.d.scope dv kw ((gbOf T dfs K).fA f) fd ∧ ∀ ks pl, (f, ks, pl) ∈ T.kb → BndOk K fd df.ps ks pl) : Hd T (gbOf T dfs K) K mg dfs := by
  obtain ⟨p1, hp⟩ := ba hp
  obtain ⟨p2, hp⟩ := ba hp
  obtain ⟨p3, hp⟩ := ba hp
  obtain ⟨p4, hp⟩ := ba hp
  obtain ⟨p5, p6⟩ := ba hp
  obtain ⟨b1, hb⟩ := ba hb
  obtain ⟨b2, hb⟩ := ba hb
  obtain ⟨b3, hb⟩ := ba hb
  obtain ⟨b4, hb⟩ := ba hb
  obtain ⟨b5, hb⟩ := ba hb
  obtain ⟨b6, hb⟩ := ba hb
  obtain ⟨b7, hb⟩ := ba hb
  obtain ⟨b8, hb⟩ := ba hb
  obtain ⟨b9, hb⟩ := ba hb
  obtain ⟨b10, hb⟩ := ba hb
  obtain ⟨b10', hb⟩ := ba hb
  obtain ⟨b11, hb⟩ := ba hb
  obtain ⟨b12, hb⟩ := ba hb
  obtain ⟨b13, hb⟩ := ba hb
  obtain ⟨b14, hb⟩ := ba hb
  obtain ⟨b15, hb⟩ := ba hb
  obtain ⟨b16, hb⟩ := ba hb
  obtain ⟨b17, b18⟩ := ba hb
  have is : ∀ c, c < T.cls.length → IsC T (gbOf T dfs K) K c := fun c hc => isB_ok (mem_all b6 (List.mem_range.mpr hc))
  have nj : ∀ i j, (gbOf T dfs K).nm i = (gbOf T dfs K).nm j → i = j := fun i j e => nmF_inj (of_decide_eq_true p2) (fun x hx => of_decide_eq_true (mem_all p3 hx)) e
  refine ⟨fun x hx => PySem.W.mg_none_of X G (He.eqO_ok (mem_all b1 hx)), fun x hx => ?_, fun p hp => He.int_ok X G (mem_all b2 hp), fun p hp => He.str_ok X G (mem_all b3 hp), fun c x hx => ?_, ?_, ?_, fun f x hx hne => ?_, of_decide_eq_true p5, List.all_eq_true.mp p6, hf⟩
  · obtain ⟨z1, z2⟩ := ba (mem_all p1 hx)
    exact ⟨of_decide_eq_true z1, by simpa using z2⟩
  · have hc : c < T.cls.length := (List.getElem?_eq_some_iff.mp hx).1
    refine ⟨?_, hc⟩
    have e : (gbOf T dfs K).cA c = ga K x := by
      show ga K (T.cls.getD c "") = ga K x
      rw [List.getD_eq_getElem?_getD, hx]
      rfl
    rw [e]
    exact He.glo_ok X G (mem_all b4 (List.mem_of_getElem? hx))
  · refine ⟨fun c hc => (is c hc).cl, fun c hc => (is c hc).ha, fun hc => (is 0 hc).hn, fun hc => (is 0 hc).ht, fun c hc => (is c hc).hm, fun c t hc ht => ?_, fun c k hc hk => ((is c hc).kO k hk).1, fun n k hk hn => (is k hk).kT n hn⟩
    cases t with
    | own => exact False.elim ht
    | _ => exact (is c hc).kB _ (by unfold tys5; simp)
  · refine ⟨fun i x hx => ?_, nj, fun c m f hq => ?_, fun c m f hq => ?_, fun c m d hq => ?_, fun c m d hq => ?_, fun c m xs hq => ?_, fun c m hq => ?_, fun c f hq => ?_, fun c m f hq => ?_, fun c m f hq => ?_, fun c f hq => methB_ok (mem_all b15 hq), fun c f hq => methB_ok (mem_all b16 hq), fun c f hq => methB_ok (mem_all b17 hq), fun c f hq => ?_, fun c k hc hk => ((is c hc).kO k hk).2.1, fun c k hc hk => ((is c hc).kO k hk).2.2, fun c k _ _ => rfl, rfl, fun q hq => of_decide_eq_true (mem_all p4 hq)⟩
    · show nmF T.nm i = x
      unfold nmF
      rw [hx]
    · obtain ⟨z1, z2⟩ := ba (mem_all b7 hq)
      exact ⟨clsB_ok z1, methB_ok z2⟩
    · obtain ⟨z1, z2⟩ := ba (mem_all b8 hq)
      exact ⟨clsB_ok z1, _, propB_ok z2⟩
    · obtain ⟨z1, z2⟩ := ba (mem_all b9 hq)
      obtain ⟨z2, z3⟩ := ba z2
      exact ⟨z1, clsB_ok z2, conB_ok z3⟩
    · obtain ⟨z1, z2⟩ := ba (mem_all b10 hq)
      obtain ⟨z2, z3⟩ := ba z2
      obtain ⟨u, z3⟩ := cvalB_ok z3
      exact ⟨z1, _, u, creadB_ok z2, z3⟩
    · obtain ⟨z1, z2⟩ := ba (mem_all b10' hq)
      obtain ⟨a, z3, z4⟩ := tupSB_ok z2
      exact ⟨_, a, creadB_ok z1, z3, z4⟩
    · obtain ⟨z1, z2⟩ := ba (mem_all b11 hq)
      exact ⟨clsB_ok z1, He.eqO_ok z2⟩
    · obtain ⟨z1, z⟩ := ba (mem_all b12 hq)
      obtain ⟨z2, z⟩ := ba z
      obtain ⟨z3, z⟩ := ba z
      obtain ⟨z4, z5⟩ := ba z
      exact ⟨⟨z2, He.eqO_ok z3, z4, z5⟩, of_decide_eq_true z1⟩
    · obtain ⟨z1, z⟩ := ba (mem_all b13 hq)
      obtain ⟨z2, z⟩ := ba z
      obtain ⟨z3, z4⟩ := ba z
      obtain ⟨k1, k2⟩ := wrB_ok z3
      exact ⟨of_decide_eq_true z1, _, _, creadB_ok z2, k1, k2, z4⟩
    · obtain ⟨z2, z3⟩ := ba (mem_all b14 hq)
      obtain ⟨k1, rest, k2⟩ := wrB_ok z3
      exact ⟨_, _, rest, creadB_ok z2, k1, k2⟩
    · obtain ⟨z1, z2⟩ := ba (mem_all b18 hq)
      exact ⟨methB_ok z1, He.eqO_ok z2⟩
  · have z := mem_all b5 (List.mem_range.mpr (List.getElem?_eq_some_iff.mp hx).1)
    rw [hx] at z
    rcases Bool.or_eq_true_iff.mp z with z | z
    · exact absurd (beq_iff_eq.mp z) hne
    · obtain ⟨z1, z2⟩ := ba z
      have e : (gbOf T dfs K).fA f = ga K x := of_decide_eq_true z2
      rw [e]
      exact He.glo_ok X G z1
end
/-! ### the Hook -/
def obsB (b : PySem.W.Frag → Bool) (fn : List He5.DefA) (K : PySem.W.Frag) : He.AlD := (b K && fn.all fun d => d.ok K, fn.map fun d => He5.fnA K (d.at_ K))
def SaysB (b : PySem.W.Frag → Bool) (fn : List He5.DefA) (K : PySem.W.Frag) : Prop := obsB b fn K = He5.valA fn
def obsBG (n : Nat) (b : PySem.W.Frag → Bool) (fn : List He5.DefA) (g : Addr → Option Obj) : He.AlD := obsB b fn (frG g (He5.asA g n))
def hookB (n : Nat) (b : PySem.W.Frag → Bool) (fn : List He5.DefA) : PySem.W.Hook where
  α := He.AlD
  obs := fun s => obsBG n b fn s.heap.get?
  val := fun _ => He5.valA fn
  says := fun _ h => ∃ K : PySem.W.Frag, K.In h ∧ SaysB b fn K
  of := fun _ _ e => ⟨_, frG_in, e⟩
  keeps := fun _ _ _ ⟨K, hK, c⟩ k => ⟨K, PySem.W.Frag.In.keeps hK k, c⟩
theorem obsBG_eq {n : Nat} {b : PySem.W.Frag → Bool} {fn : List He5.DefA} {g : Addr → Option Obj} {s : Shared} (h : ∀ a, g a = s.heap.get? a) : obsBG n b fn g = (hookB n b fn).obs s := by
  have e : g = s.heap.get? := funext h
  rw [e] <;> rfl
theorem SaysB.bool {b : PySem.W.Frag → Bool} {fn : List He5.DefA} {K : PySem.W.Frag} (c : SaysB b fn K) : b K = true := (ba (show (b K && fn.all fun d => d.ok K) = true from congrArg (fun z : He.AlD => z.1) c)).1
theorem SaysB.def_ {b : PySem.W.Frag → Bool} {fn : List He5.DefA} {K : PySem.W.Frag} (c : SaysB b fn K) (i : Nat) {d : He5.DefA} (h : fn[i]? = some d := by rfl) : ∃ fd, FunD K d.name d.qual d.params d.body d.scope (d.dvs K) (d.kws K) (d.at_ K) fd := by
  have c2 := (ba (show (b K && fn.all fun d => d.ok K) = true from congrArg (fun z : He.AlD => z.1) c)).2
  have e : fn.map (fun d => He5.fnA K (d.at_ K)) = fn.map He5.DefA.val := congrArg (fun z : He.AlD => z.2) c
  have e2 : (fn.map fun d => He5.fnA K (d.at_ K))[i]? = (fn.map He5.DefA.val)[i]? := by rw [e]
  rw [List.getElem?_map, List.getElem?_map, h] at e2
  exact He5.DefA.funD (Option.some.inj e2) (List.all_eq_true.mp c2 d (List.mem_of_getElem? h))
end Itp
namespace Itp
open PySem L2
/-! ### what must hold ahead -/
def WP {β : Type} (o : Out β) (Q : β → Sto → Prop) : Prop := match o with
  | .ok b S => Q b S
  | _ => False
def WF (o : Fl) (N : Gm → Sto → Prop) (R : D → Sto → Prop) (C : Gm → Sto → Prop) : Prop := match o with
  | .nx γ S => N γ S
  | .ret d S => R d S
  | .ct γ S => C γ S
  | _ => False
theorem WP.ex {β : Type} {o : Out β} {Q : β → Sto → Prop} (h : WP o Q) : ∃ b S, o = .ok b S ∧ Q b S := by
  cases o with
  | ok b S => exact ⟨b, S, rfl, h⟩
  | exc => exact h.elim
  | bad => exact h.elim
theorem WP.imp {β : Type} {o : Out β} {Q R : β → Sto → Prop} (h : WP o Q) (k : ∀ b S, Q b S → R b S) : WP o R := by
  cases o with
  | ok b S => exact k b S h
  | exc => exact h.elim
  | bad => exact h.elim
theorem WP.bind {β δ : Type} {o : Out β} {k : β → Sto → Out δ} {Q : δ → Sto → Prop} (h : WP o fun b S => WP (k b S) Q) : WP (o.bind k) Q := by
  cases o with
  | ok b S => exact h
  | exc => exact h.elim
  | bad => exact h.elim
theorem WF.of {β : Type} {o : Out β} {k : β → Sto → Fl} {N : Gm → Sto → Prop} {R : D → Sto → Prop} {C : Gm → Sto → Prop} (h : WP o fun b S => WF (k b S) N R C) : WF (Fl.of o k) N R C := by
  cases o with
  | ok b S => exact h
  | exc => exact h.elim
  | bad => exact h.elim
theorem WF.imp {o : Fl} {N N' : Gm → Sto → Prop} {R R' : D → Sto → Prop} {C C' : Gm → Sto → Prop} (h : WF o N R C) (k : ∀ γ S, N γ S → N' γ S) (k2 : ∀ d S, R d S → R' d S) (k3 : ∀ γ S, C γ S → C' γ S) : WF o N' R' C' := by
  cases o with
  | nx γ S => exact k γ S h
  | ret d S => exact k2 d S h
  | ct γ S => exact k3 γ S h
  | exc => exact h.elim
  | bad => exact h.elim
theorem wp_eq {β : Type} {o : Out β} {b : β} {S : Sto} {Q : β → Sto → Prop} (h : o = .ok b S) (q : Q b S) : WP o Q := by rw [h]; exact q
theorem eq_of_wp {β : Type} {o : Out β} {b : β} {S : Sto} (h : WP o fun c S' => c = b ∧ S' = S) : o = .ok b S := by
  obtain ⟨c, S', e, rfl, rfl⟩ := h.ex
  exact e
theorem wp_ofO {β : Type} {o : Option β} {S : Sto} {Q : β → Sto → Prop} (h : ∃ z, o = some z ∧ Q z S) : WP (ofO o S) Q := by
  obtain ⟨z, rfl, q⟩ := h
  exact q
section
variable {cal : Nat → List D → Sto → Out D} {γ γ1 : Gm} {S : Sto} {a b c e : E} {d : D} {es kes : List E} {pl : Plan} {Q : D → Sto → Prop} {Qs : List D → Sto → Prop}
theorem wp_var {i : Nat} (h : γ[i]? = some (some d)) (q : Q d S) : WP (ev cal (.var i) γ S) Q := by
  have e : ev cal (.var i) γ S = .ok d S := by
    show (match γ[i]? with | some (some d) => Out.ok d S | _ => .bad) = _
    rw [h]
  rw [e]; exact q
theorem wp_non (q : Q .non S) : WP (ev cal .non γ S) Q := q
theorem wp_bl {k : Bool} (q : Q (.bl k) S) : WP (ev cal (.bl k) γ S) Q := q
theorem wp_int {k : Int} (q : Q (.int k) S) : WP (ev cal (.int k) γ S) Q := q
theorem wp_str {k : Str} (q : Q (.str k) S) : WP (ev cal (.str k) γ S) Q := q
theorem wp_gint {n : Str} {k : Int} (q : Q (.int k) S) : WP (ev cal (.gint n k) γ S) Q := q
theorem wp_gstr {n k : Str} (q : Q (.str k) S) : WP (ev cal (.gstr n k) γ S) Q := q
theorem wp_cst {n k : Nat} (q : Q d S) : WP (ev cal (.cst n k d) γ S) Q := q
theorem wp_bin {o : BO} (h : WP (ev cal a γ S) fun x S => WP (ev cal b γ S) fun y S => ∃ z, binD o x y S = some z ∧ Q z S) : WP (ev cal (.bin o a b) γ S) Q :=
  WP.bind (h.imp fun _ _ h => WP.bind (h.imp fun _ _ h => wp_ofO h))
theorem wp_neg (h : WP (ev cal a γ S) fun x S => ∃ i, x = .int i ∧ Q (.int (-i)) S) : WP (ev cal (.neg a) γ S) Q :=
  WP.bind (h.imp fun _ _ ⟨i, e, q⟩ => by subst e; exact q)
theorem wp_not (h : WP (ev cal a γ S) fun x S => ∃ k, truD x S = some k ∧ Q (.bl !k) S) : WP (ev cal (.not a) γ S) Q :=
  WP.bind (h.imp fun _ _ ⟨i, e, q⟩ => by rw [e]; exact q)
theorem wp_cmp {o : CO} (h : WP (ev cal a γ S) fun x S => WP (ev cal b γ S) fun y S => ∃ z, cmpD o x y S = some z ∧ Q (.bl z) S) : WP (ev cal (.cmp o a b) γ S) Q :=
  WP.bind (h.imp fun _ _ h => WP.bind (h.imp fun _ _ ⟨i, e, q⟩ => by rw [e]; exact q))
/-- a chain whose last part leaves the store -/
theorem wp_chn {o p : CO} (h : WP (ev cal a γ S) fun x S => WP (ev cal b γ S) fun y S => ∃ k, cmpD o x y S = some k ∧ ∃ z k2, ev cal c γ S = .ok z S ∧ cmpD p y z S = some k2 ∧ Q (.bl (k && k2)) S) : WP (ev cal (.chn o p a b c) γ S) Q :=
  WP.bind (h.imp fun _ _ h => WP.bind (h.imp fun _ _ ⟨k, e1, z, k2, e2, e3, q⟩ => by
    rw [e1]
    cases k with
    | true => dsimp only; rw [e2]; dsimp only [Out.bind]; rw [e3]; exact q
    | false => exact q))
theorem wp_ite (h : WP (ev cal c γ S) fun x S => ∃ k, truD x S = some k ∧ (k = true → WP (ev cal a γ S) Q) ∧ (k = false → WP (ev cal b γ S) Q)) : WP (ev cal (.ite c a b) γ S) Q :=
  WP.bind (h.imp fun _ _ ⟨k, e, q1, q2⟩ => by
    rw [e]
    cases k with
    | true => exact q1 rfl
    | false => exact q2 rfl)
theorem wp_tup (h : WP (evs cal es γ S) fun ds S => ds.length ≤ 16777216 ∧ Q (.tup ds) S) : WP (ev cal (.tup es) γ S) Q :=
  WP.bind (h.imp fun _ _ ⟨e, q⟩ => by rw [if_pos e]; exact q)
theorem wp_lst (h : WP (evs cal es γ S) fun ds S => ds.length ≤ 16777216 ∧ Q (.lst ds) S) : WP (ev cal (.lst false es) γ S) Q :=
  WP.bind (h.imp fun _ _ ⟨e, q⟩ => by rw [if_pos e]; exact q)
theorem wp_new (h : WP (evs cal es γ S) fun ds S => ds.length ≤ 16777216 ∧ Q (.loc S.length) (S ++ [.lst ds])) : WP (ev cal (.lst true es) γ S) Q :=
  WP.bind (h.imp fun _ _ ⟨e, q⟩ => by rw [if_pos e]; exact q)
theorem wp_trk (h : WP (ev cal e γ S) fun x S => WP (trkD x S) Q) : WP (ev cal (.trk e) γ S) Q := WP.bind h
theorem wp_trkL {xs : List D} (q : Q (.loc S.length) (S ++ [.lst xs])) : WP (trkD (.lst xs) S) Q := q
theorem wp_idx (h : WP (ev cal a γ S) fun x S => WP (ev cal b γ S) fun y S => ∃ z, idxD x y S = some z ∧ Q z S) : WP (ev cal (.idx a b) γ S) Q :=
  WP.bind (h.imp fun _ _ h => WP.bind (h.imp fun _ _ h => wp_ofO h))
theorem wpO_none {Q : Option Int → Sto → Prop} (q : Q none S) : WP (evO cal none γ S) Q := q
theorem wpO_some {Q : Option Int → Sto → Prop} (h : WP (ev cal e γ S) fun x S => ∃ i, x = .int i ∧ Q (some i) S) : WP (evO cal (some e) γ S) Q :=
  WP.bind (h.imp fun _ _ ⟨i, e, q⟩ => by subst e; exact q)
theorem wp_slc {lo hi : Option E} (h : WP (ev cal a γ S) fun x S => WP (evO cal lo γ S) fun l S => WP (evO cal hi γ S) fun r S => ∃ z, slcD x l r S = some z ∧ Q z S) : WP (ev cal (.slc a lo hi) γ S) Q :=
  WP.bind (h.imp fun _ _ h => WP.bind (h.imp fun _ _ h => WP.bind (h.imp fun _ _ h => wp_ofO h)))
theorem wp_rev (h : WP (ev cal a γ S) fun x S => ∃ z, revD x S = some z ∧ Q z S) : WP (ev cal (.rev a) γ S) Q := WP.bind (h.imp fun _ _ h => wp_ofO h)
theorem wp_isi {t : Ty} (h : WP (ev cal a γ S) fun x S => ∃ k, isD x t S = some k ∧ Q (.bl k) S) : WP (ev cal (.isi a t) γ S) Q :=
  WP.bind (h.imp fun _ _ ⟨i, e, q⟩ => by rw [e]; exact q)
theorem wp_ink {neg : Bool} {c i : Nat} {xs : List Str} (h : WP (ev cal a γ S) fun x S => ∃ z, x = .str z ∧ Q (.bl (xs.contains z != neg)) S) : WP (ev cal (.ink neg a c i xs) γ S) Q :=
  WP.bind (h.imp fun _ _ ⟨i, e, q⟩ => by subst e; exact q)
theorem wp_isT {t : List Ty} (h : WP (ev cal a γ S) fun x S => ∃ k, isAny x t S = some k ∧ Q (.bl k) S) : WP (ev cal (.isT a t) γ S) Q :=
  WP.bind (h.imp fun _ _ ⟨i, e, q⟩ => by rw [e]; exact q)
theorem wp_bf {f : BF} (h : WP (evs cal es γ S) fun ds S => ∃ z, bfD f ds S = some z ∧ Q z S) : WP (ev cal (.bf f es) γ S) Q :=
  WP.bind (h.imp fun _ _ h => wp_ofO h)
theorem wp_bm {m : BM} (h : WP (ev cal a γ S) fun x S => bmOk m x S = true ∧ WP (evs cal es γ S) fun ds S => WP (bmD m x ds S) Q) : WP (ev cal (.bm m a es) γ S) Q :=
  WP.bind (h.imp fun _ _ ⟨e, h⟩ => by rw [if_pos e]; exact WP.bind h)
theorem wp_args {f : Nat} {o : Option (List D)} (h : ∃ as, o = some as ∧ WP (cal f as S) Q) : WP (match o with | some as => cal f as S | none => .bad) Q := by
  obtain ⟨as, rfl, q⟩ := h
  exact q
theorem wp_call {f : Nat} (h : WP (evs cal es γ S) fun ds S => WP (evs cal kes γ S) fun ks S => ∃ as, bindP pl ds ks = some as ∧ WP (cal f as S) Q) : WP (ev cal (.call f es kes pl) γ S) Q :=
  WP.bind (h.imp fun _ _ h => WP.bind (h.imp fun _ _ h => wp_args h))
theorem wp_smt {c m f : Nat} (h : WP (evs cal es γ S) fun ds S => WP (evs cal kes γ S) fun ks S => ∃ as, bindP pl ds ks = some as ∧ WP (cal f as S) Q) : WP (ev cal (.smt c m f es kes pl) γ S) Q :=
  WP.bind (h.imp fun _ _ h => WP.bind (h.imp fun _ _ h => wp_args h))
theorem wp_cmt {c m f : Nat} (h : WP (evs cal es γ S) fun ds S => WP (evs cal kes γ S) fun ks S => ∃ as, bindP pl (.cls c :: ds) ks = some as ∧ WP (cal f as S) Q) : WP (ev cal (.cmt c m f es kes pl) γ S) Q :=
  WP.bind (h.imp fun _ _ h => WP.bind (h.imp fun _ _ h => wp_args h))
theorem wp_mkv {t : Bool} {tb : List (Nat × Nat)} (h : WP (ev cal e γ S) fun x S => ∃ c f, x = .cls c ∧ tb.lookup c = some f ∧ WP (evs cal es γ S) fun ds S => WP (evs cal kes γ S) fun ks S => WP (mkD cal t c f pl ds ks S) Q) : WP (ev cal (.mkv t e tb es kes pl) γ S) Q :=
  WP.bind (h.imp fun _ _ ⟨c, f, e1, e2, h⟩ => by
    subst e1
    dsimp only
    rw [e2]
    exact WP.bind (h.imp fun _ _ h => WP.bind (h.imp fun _ _ h => h)))
theorem wp_mth {m : Nat} {tb : List (Nat × Nat)} (h : WP (ev cal e γ S) fun x S => ∃ p, insOf x S = some p ∧ p.2.1.contains m = false ∧ ∃ f, tb.lookup p.1 = some f ∧ WP (evs cal es γ S) fun ds S => WP (evs cal kes γ S) fun ks S => ∃ as, bindP pl (x :: ds) ks = some as ∧ WP (cal f as S) Q) : WP (ev cal (.mth e m tb es kes pl) γ S) Q :=
  WP.bind (h.imp fun _ _ ⟨⟨c, ns, vs⟩, e1, e2, f, e3, h⟩ => by
    rw [e1]
    dsimp only at e2 e3 ⊢
    rw [if_neg (by rw [e2]; exact Bool.false_ne_true), e3]
    exact WP.bind (h.imp fun _ _ h => WP.bind (h.imp fun _ _ h => wp_args h)))
theorem wp_mk {t : Bool} {c f : Nat} (h : WP (evs cal es γ S) fun ds S => WP (evs cal kes γ S) fun ks S => WP (mkD cal t c f pl ds ks S) Q) : WP (ev cal (.mk t c f es kes pl) γ S) Q :=
  WP.bind (h.imp fun _ _ h => WP.bind (h.imp fun _ _ h => h))
theorem wp_mkD {c f : Nat} {ds ks : List D} (h : ∃ as, bindP pl (.loc S.length :: ds) ks = some as ∧ WP (cal f as (S ++ [.ins c [] []])) fun v S' => v = .non ∧ ∃ c' ns fs, S'[S.length]? = some (.ins c' ns fs) ∧ Q (.obj c' ns fs) (S'.set S.length .dead)) : WP (mkD cal false c f pl ds ks S) Q := by
  obtain ⟨as, e, h⟩ := h
  unfold mkD
  rw [e]
  exact WP.bind (h.imp fun v S' ⟨e1, c', ns, fs, e2, q⟩ => by
    subst e1
    dsimp only
    rw [if_neg Bool.false_ne_true, e2]
    exact q)
theorem wp_att {i : Nat} {tb : List (Nat × AK)} (h : WP (ev cal e γ S) fun x S => WP (attD cal i tb x S) Q) : WP (ev cal (.att e i tb) γ S) Q := WP.bind h
theorem wp_fld {i c : Nat} {tb : List (Nat × AK)} {x : D} {ns : List Nat} {ds : List D} (h1 : insOf x S = some (c, ns, ds)) (h2 : tb.lookup c = some .fld) (h3 : fldOf i ns ds = some d) (q : Q d S) : WP (attD cal i tb x S) Q := by
  unfold attD
  rw [h1]
  dsimp only
  rw [h2]
  dsimp only
  rw [h3]
  exact q
theorem wp_acon {i c : Nat} {tb : List (Nat × AK)} {x : D} {ns : List Nat} {ds : List D} (h1 : insOf x S = some (c, ns, ds)) (h2 : tb.lookup c = some (.con d)) (h3 : ns.contains i = false) (q : Q d S) : WP (attD cal i tb x S) Q := by
  unfold attD
  rw [h1]
  dsimp only
  rw [h2]
  dsimp only
  rw [if_neg (by rw [h3]; exact Bool.false_ne_true)]
  exact q
theorem wp_noX {β : Type} {o : Out β} {Q : β → Sto → Prop} (h : WP o Q) : WP (noX o) Q := by
  cases o with
  | ok b S => exact h
  | exc => exact h.elim
  | bad => exact h.elim
theorem wp_prp {i c f : Nat} {tb : List (Nat × AK)} {x : D} {ns : List Nat} {ds : List D} (h1 : insOf x S = some (c, ns, ds)) (h2 : tb.lookup c = some (.prp f)) (h : WP (cal f [x] S) Q) : WP (attD cal i tb x S) Q := by
  unfold attD
  rw [h1]
  dsimp only
  rw [h2]
  exact wp_noX h
theorem wp_own {o : OK} {tb sb : List (Nat × Nat)} (h : WP (evs cal es γ S) fun ds S => WP (ownD cal o tb sb ds S) Q) : WP (ev cal (.own o tb sb es) γ S) Q :=
  WP.bind (h.imp fun _ _ h => wp_noX h)
theorem wp_len {c f : Nat} {tb sb : List (Nat × Nat)} {x : D} {p : List Nat × List D} (h1 : insOf x S = some (c, p)) (h2 : tb.lookup c = some f) (h : WP (cal f [x] S) fun v S => ∃ i, v = .int i ∧ 0 ≤ i ∧ i < 2 ^ 63 ∧ Q (.int i) S) : WP (ownD cal .len tb sb [x] S) Q := by
  unfold ownD
  dsimp only
  rw [h1]
  dsimp only
  rw [h2]
  exact WP.bind (h.imp fun _ _ ⟨i, e, e1, e2, q⟩ => by
    subst e
    dsimp only
    rw [if_pos ⟨e1, e2⟩]
    exact q)
theorem wp_repr {c f : Nat} {tb sb : List (Nat × Nat)} {x : D} {p : List Nat × List D} (h1 : insOf x S = some (c, p)) (h2 : tb.lookup c = some f) (h : WP (cal f [x] S) fun v S => ∃ z, v = .str z ∧ Q (.str z) S) : WP (ownD cal .repr tb sb [x] S) Q := by
  unfold ownD
  dsimp only
  rw [h1]
  dsimp only
  rw [h2]
  exact WP.bind (h.imp fun _ _ ⟨i, e, q⟩ => by
    subst e
    exact q)
/-- == by the left side's own __eq__ -/
theorem wp_eqO {neg : Bool} {c f : Nat} {tb sb : List (Nat × Nat)} {x y : D} {p : List Nat × List D} {k : TK} (h1 : insOf x S = some (c, p)) (h3 : tkD y S = some k) (h4 : ∀ c', k = .obj c' → sb.contains (c, c') = false) (h2 : tb.lookup c = some f) (h : WP (cal f [x, y] S) fun v S => ∃ b, v = .bl b ∧ Q (.bl (b != neg)) S) : WP (eqO cal neg tb sb x y S) Q := by
  have go : WP ((cal f [x, y] S).bind (asBl neg)) Q := WP.bind (h.imp fun _ _ ⟨i, e, q⟩ => by subst e; exact q)
  unfold eqO
  rw [h1, h3]
  cases k with
  | obj c' =>
    dsimp only
    rw [if_neg (by rw [h4 c' rfl]; exact Bool.false_ne_true), h2]
    exact go
  | _ => dsimp only; rw [h2]; exact go
theorem wp_oeq {tb sb : List (Nat × Nat)} {x y : D} (h : WP (eqO cal false tb sb x y S) Q) : WP (ownD cal .eq tb sb [x, y] S) Q := h
theorem wp_one {tb sb : List (Nat × Nat)} {x y : D} (h : WP (eqO cal true tb sb x y S) Q) : WP (ownD cal .ne tb sb [x, y] S) Q := h
theorem wp_fst (h : WP (evs cal es γ S) fun ds S => ∃ z, fstD ds Str.empty = some z ∧ Q (.str z) S) : WP (ev cal (.fst es) γ S) Q :=
  WP.bind (h.imp fun _ _ ⟨z, e, q⟩ => by rw [e]; exact q)
theorem wps_nil (q : Qs [] S) : WP (evs cal [] γ S) Qs := q
def E.plain : E → Bool
  | .star _ => false
  | _ => true
theorem wps_cons (hp : e.plain = true) (h : WP (ev cal e γ S) fun d S => WP (evs cal es γ S) fun ds S => Qs (d :: ds) S) : WP (evs cal (e :: es) γ S) Qs := by
  have go : WP ((ev cal e γ S).bind fun d S => (evs cal es γ S).bind fun ds S => .ok (d :: ds) S) Qs := WP.bind (h.imp fun _ _ h => WP.bind (h.imp fun _ _ h => h))
  cases e <;> first | (cases hp; done) | exact go
theorem wps_star (h : WP (ev cal e γ S) fun d S => ∃ xs, seqOf d S = some xs ∧ WP (evs cal es γ S) fun ds S => Qs (xs ++ ds) S) : WP (evs cal (.star e :: es) γ S) Qs :=
  WP.bind (h.imp fun _ _ ⟨xs, e, h⟩ => by
    rw [e]
    exact WP.bind (o := .ok xs _) (WP.bind (h.imp fun _ _ h => h)))
theorem wp_frz (h : WP (ev cal e γ S) fun x S => WP (frzD x S) Q) : WP (ev cal (.frz e) γ S) Q := WP.bind h
theorem wp_frzL {n : Nat} {xs : List D} (h : S[n]? = some (.lst xs)) (q : Q (.lst xs) (S.set n .dead)) : WP (frzD (.loc n) S) Q := by
  unfold frzD
  dsimp only
  rw [h]
  exact q
abbrev turnE (cal : Nat → List D → Sto → Out D) (ifs : List E) (e : E) : Gm → Sto → Out (Option D) := fun γ' S => match evF cal ifs γ' S with
  | .ok true S => (match ev cal e γ' S with | .ok d S => .ok (some d) S | _ => .bad)
  | .ok false S => .ok none S
  | _ => .bad
theorem wp_lc {tg : Tg} {own : List Nat} {ik : IK} {its ifs : List E} (h : WP (evs cal its γ S) fun ds S => ∃ xs, itD ik ds S = some xs ∧ xs.length ≤ 16777216 ∧ WP (loopC (turnE cal ifs e) tg (wipeG γ own) xs [] S) fun ys S => Q (.lst ys) S) : WP (ev cal (.lc tg own ik its ifs e) γ S) Q :=
  WP.bind (h.imp fun _ _ ⟨xs, e1, e2, h⟩ => by
    rw [e1]
    dsimp only
    rw [if_pos e2]
    exact WP.bind h)
theorem wp_lcL {tg : Tg} {own : List Nat} {ik : IK} {its ifs : List E} (h : WP (evs cal its γ S) fun ds S => itD ik ds S = none ∧ WP (loopCL (turnE cal ifs e) tg (wipeG γ own) (liveD ik ds) 16777217 0 [] S) fun ys S => Q (.lst ys) S) : WP (ev cal (.lc tg own ik its ifs e) γ S) Q :=
  WP.bind (h.imp fun _ _ ⟨e1, h⟩ => by
    rw [e1]
    exact WP.bind h)
theorem wpB_one {o : Bool} (h : WP (ev cal e γ S) Q) : WP (evB cal o [e] γ S) Q := h
theorem wpB_cons {o : Bool} {e2 : E} (h : WP (ev cal e γ S) fun x S => ∃ k, truD x S = some k ∧ (k = o → WP (evB cal o (e2 :: es) γ S) Q) ∧ (k = !o → Q x S)) : WP (evB cal o (e :: e2 :: es) γ S) Q :=
  WP.bind (h.imp fun _ _ ⟨k, e1, q1, q2⟩ => by
    rw [e1]
    dsimp only
    by_cases hk : k = o
    · rw [if_pos hk]; exact q1 hk
    · rw [if_neg hk]; exact q2 (by revert hk; cases k <;> cases o <;> decide))
theorem wpB_a {e2 : E} (h : WP (ev cal e γ S) fun x S => ∃ k, truD x S = some k ∧ (k = true → WP (evB cal true (e2 :: es) γ S) Q) ∧ (k = false → Q x S)) : WP (evB cal true (e :: e2 :: es) γ S) Q := wpB_cons h
theorem wpB_o {e2 : E} (h : WP (ev cal e γ S) fun x S => ∃ k, truD x S = some k ∧ (k = true → Q x S) ∧ (k = false → WP (evB cal false (e2 :: es) γ S) Q)) : WP (evB cal false (e :: e2 :: es) γ S) Q := wpB_cons (h.imp fun _ _ ⟨k, a, b, c⟩ => ⟨k, a, c, b⟩)
theorem two_t {k : Bool} {A B : Prop} (hk : k = true) (h : A) : (k = true → A) ∧ (k = false → B) := by subst hk; exact ⟨(fun _ => h), (fun h => nomatch h)⟩
theorem two_f {k : Bool} {A B : Prop} (hk : k = false) (h : B) : (k = true → A) ∧ (k = false → B) := by subst hk; exact ⟨(fun h => nomatch h), (fun _ => h)⟩
theorem wp_bop {o : Bool} (h : WP (evB cal o es γ S) Q) : WP (ev cal (.bop o es) γ S) Q := h
theorem wpF_nil {Q : Bool → Sto → Prop} (q : Q true S) : WP (evF cal [] γ S) Q := q
theorem wpF_cons {Q : Bool → Sto → Prop} (h : WP (ev cal e γ S) fun x S => ∃ k, truD x S = some k ∧ (k = true → WP (evF cal es γ S) Q) ∧ (k = false → Q false S)) : WP (evF cal (e :: es) γ S) Q :=
  WP.bind (h.imp fun _ _ ⟨k, e1, q1, q2⟩ => by
    rw [e1]
    cases k with
    | true => exact q1 rfl
    | false => exact q2 rfl)
/-- a turn of a comprehension -/
theorem wp_turn {ifs : List E} {Q : Option D → Sto → Prop} (h : WP (evF cal ifs γ S) fun k S => (k = true → WP (ev cal e γ S) fun d S => Q (some d) S) ∧ (k = false → Q none S)) : WP (turnE cal ifs e γ S) Q := by
  obtain ⟨k, S1, e1, h1, h2⟩ := h.ex
  unfold turnE
  rw [e1]
  cases k with
  | true =>
    obtain ⟨d, S2, e2, q⟩ := (h1 rfl).ex
    dsimp only
    rw [e2]
    exact q
  | false => exact h2 rfl
theorem wp_turn0 {Q : Option D → Sto → Prop} (h : WP (ev cal e γ S) fun d S => Q (some d) S) : WP (turnE cal [] e γ S) Q := wp_turn (wpF_nil ⟨fun _ => h, fun h => nomatch h⟩)
theorem wp_turn1 {c : E} {Q : Option D → Sto → Prop} (h : WP (ev cal c γ S) fun x S => ∃ k, truD x S = some k ∧ (k = true → WP (ev cal e γ S) fun d S => Q (some d) S) ∧ (k = false → Q none S)) : WP (turnE cal [c] e γ S) Q :=
  wp_turn (wpF_cons (h.imp fun _ _ ⟨k, e1, q1, q2⟩ => ⟨k, e1, fun hk => wpF_nil ⟨fun _ => q1 hk, fun h => nomatch h⟩, fun hk => ⟨(fun h => nomatch h), (fun _ => q2 hk)⟩⟩))
/-! statements -/
variable {st : St} {ss A B : List St} {N C : Gm → Sto → Prop} {R : D → Sto → Prop}
theorem wfs_nil (h : N γ S) : WF (exs cal [] γ S) N R C := h
theorem wfs_cons (h : WF (ex cal st γ S) (fun γ S => WF (exs cal ss γ S) N R C) R C) : WF (exs cal (st :: ss) γ S) N R C := by
  show WF (match ex cal st γ S with | .nx γ' S' => exs cal ss γ' S' | o => o) N R C
  cases ho : ex cal st γ S with
  | nx γ' S' => rw [ho] at h; exact h
  | ret d S' => rw [ho] at h; exact h
  | ct γ S' => rw [ho] at h; exact h
  | exc => rw [ho] at h; exact h.elim
  | bad => rw [ho] at h; exact h.elim
theorem wfs_cut (I : Gm → Sto → Prop) (h : WF (ex cal st γ S) I R C) (h2 : ∀ γ S, I γ S → WF (exs cal ss γ S) N R C) : WF (exs cal (st :: ss) γ S) N R C := wfs_cons (h.imp h2 (fun _ _ h => h) fun _ _ h => h)
theorem wf_set {i : Nat} (h : WP (ev cal e γ S) fun d S => N (γ.set i (some d)) S) : WF (ex cal (.set i e) γ S) N R C := WF.of h
theorem wf_asg {tg : Tg} (h : WP (ev cal e γ S) fun d S => ∃ γ1, setTg tg d γ = some γ1 ∧ N γ1 S) : WF (ex cal (.asg tg e) γ S) N R C :=
  WF.of (h.imp fun _ _ ⟨γ1, e, q⟩ => by rw [e]; exact q)
theorem wf_par {is : List Nat} (h : WP (evs cal es γ S) fun ds S => is.length = ds.length ∧ N (setAll is ds γ) S) : WF (ex cal (.par is es) γ S) N R C :=
  WF.of (h.imp fun _ _ ⟨e, q⟩ => by rw [if_pos e]; exact q)
theorem wf_idx (h : WP (ev cal e γ S) fun d S => WP (ev cal a γ S) fun x S => WP (ev cal b γ S) fun y S => ∃ n i xs j, x = .loc n ∧ y = .int i ∧ S[n]? = some (.lst xs) ∧ ixN xs.length i = some j ∧ N γ (S.set n (.lst (xs.set j d)))) : WF (ex cal (.idx a b e) γ S) N R C :=
  WF.of (h.imp fun _ _ h => WF.of (h.imp fun _ _ h => WF.of (h.imp fun _ _ ⟨n, i, xs, j, e1, e2, e3, e4, q⟩ => by
    subst e1 e2
    unfold putL
    dsimp only
    rw [e3]
    dsimp only
    rw [e4]
    exact q)))
theorem wf_expr (h : WP (ev cal e γ S) fun _ S => N γ S) : WF (ex cal (.expr e) γ S) N R C := WF.of h
theorem wf_ret (h : WP (ev cal e γ S) fun d S => R d S) : WF (ex cal (.ret e) γ S) N R C := WF.of h
theorem wf_retN (h : R .non S) : WF (ex cal .retN γ S) N R C := h
theorem wf_cont (h : C γ S) : WF (ex cal .cont γ S) N R C := h
theorem wf_pass (h : N γ S) : WF (ex cal .pass γ S) N R C := h
theorem wf_if (h : WP (ev cal c γ S) fun x S => ∃ k, truD x S = some k ∧ (k = true → WF (exs cal A γ S) N R C) ∧ (k = false → WF (exs cal B γ S) N R C)) : WF (ex cal (.ifs c A B) γ S) N R C :=
  WF.of (h.imp fun _ _ ⟨k, e, q1, q2⟩ => by
    rw [e]
    cases k with
    | true => exact q1 rfl
    | false => exact q2 rfl)
theorem wf_for {tg : Tg} {ik : IK} (h : WP (evs cal es γ S) fun ds S => ∃ xs, itD ik ds S = some xs ∧ WF (loopF (fun γ S => exs cal ss γ S) tg xs γ S) N R C) : WF (ex cal (.for tg ik es ss) γ S) N R C :=
  WF.of (h.imp fun _ _ ⟨xs, e, q⟩ => by rw [e]; exact q)
theorem wf_forL {tg : Tg} {ik : IK} (h : WP (evs cal es γ S) fun ds S => itD ik ds S = none ∧ WF (loopFL (fun γ S => exs cal ss γ S) tg (liveD ik ds) 16777217 0 γ S) N R C) : WF (ex cal (.for tg ik es ss) γ S) N R C :=
  WF.of (h.imp fun _ _ ⟨e, q⟩ => by rw [e]; exact q)
theorem wf_ofO {β : Type} {o : Option β} {k : β → Sto → Fl} (h : ∃ z, o = some z ∧ WF (k z S) N R C) : WF (Fl.of (ofO o S) k) N R C := by
  obtain ⟨z, rfl, q⟩ := h
  exact q
theorem wf_aug {i : Nat} {op : BO} {x : D} (h1 : γ[i]? = some (some x)) (h : WP (ev cal e γ S) fun y S => ∃ d, augD op x y = some d ∧ N (γ.set i (some d)) S) : WF (ex cal (.aug i op e) γ S) N R C := by
  show WF (match γ[i]? with | some (some x) => Fl.of (ev cal e γ S) fun y S => .of (ofO (augD op x y) S) fun d S => .nx (γ.set i (some d)) S | _ => .bad) N R C
  rw [h1]
  exact WF.of (h.imp fun _ _ ⟨d, e, q⟩ => by rw [e]; exact q)
theorem wf_augI {op : BO} (h : WP (ev cal a γ S) fun x S => WP (ev cal b γ S) fun y S => ∃ z, getL x y S = some z ∧ WP (ev cal e γ S) fun w S => ∃ d, augD op z w = some d ∧ ∃ n i xs j, x = .loc n ∧ y = .int i ∧ S[n]? = some (.lst xs) ∧ ixN xs.length i = some j ∧ N γ (S.set n (.lst (xs.set j d)))) : WF (ex cal (.augI a b op e) γ S) N R C :=
  WF.of (h.imp fun _ _ h => WF.of (h.imp fun _ _ h => wf_ofO (by
    obtain ⟨z, e1, h⟩ := h
    exact ⟨z, e1, WF.of (h.imp fun _ _ ⟨d, e2, n, i, xs, j, e3, e4, e5, e6, q⟩ => wf_ofO ⟨d, e2, by
      subst e3 e4
      unfold putL
      dsimp only
      rw [e5]
      dsimp only
      rw [e6]
      exact q⟩)⟩)))
/-- fields of one object of the store -/
theorem wf_flds {o : E} {cs is : List Nat} (h : WP (evs cal es γ S) fun ds S => WP (putAll (fun S => ev cal o γ S) cs is ds S) fun _ S => N γ S) : WF (ex cal (.flds o cs is es) γ S) N R C :=
  WF.of (h.imp fun _ _ h => WF.of (h.imp fun _ _ h => h))
theorem wp_put {o : Sto → Out D} {cs is : List Nat} {i n c : Nat} {d : D} {ds vs : List D} {ns : List Nat} {Q : Unit → Sto → Prop} (h1 : o S = .ok (.loc n) S) (h2 : S[n]? = some (.ins c ns vs)) (h3 : cs.contains c = true) (h4 : ns.length < 1000) (h : WP (putAll o cs is ds (S.set n (.ins c (putF i d ns vs).1 (putF i d ns vs).2))) Q) : WP (putAll o cs (i :: is) (d :: ds) S) Q := by
  unfold putAll
  rw [h1]
  dsimp only [Out.bind]
  rw [h2]
  dsimp only
  rw [if_pos ⟨h3, h4⟩]
  exact h
theorem wp_put0 {o : Sto → Out D} {cs : List Nat} {Q : Unit → Sto → Prop} (q : Q () S) : WP (putAll o cs [] [] S) Q := q
/-- a for loop, by what holds ahead of each turn -/
theorem wf_loop {body : Gm → Sto → Fl} {tg : Tg} (I : Nat → Gm → Sto → Prop) : ∀ {xs : List D} {i : Nat} {γ : Gm} {S : Sto}, I i γ S → (∀ j x γ S, xs[j]? = some x → I (i + j) γ S → ∃ γ', setTg tg x γ = some γ' ∧ WF (body γ' S) (I (i + j + 1)) R (I (i + j + 1))) → (∀ γ S, I (i + xs.length) γ S → N γ S) → WF (loopF body tg xs γ S) N R C
  | [], i, γ, S, h0, _, h => h γ S h0
  | x :: xs, i, γ, S, h0, h, hN => by
    obtain ⟨γ', h1, h2⟩ := h 0 x γ S rfl h0
    have go : ∀ γ2 S2, I (i + 0 + 1) γ2 S2 → WF (loopF body tg xs γ2 S2) N R C := fun γ2 S2 h2 => by
      refine wf_loop (i := i + 1) I h2 (fun j y γ S hj hP => ?_) (fun γ S hI => hN γ S ?_)
      · have := h (j + 1) y γ S (by simpa using hj) (by rw [show i + (j + 1) = i + 1 + j by omega]; exact hP)
        rw [show i + (j + 1) + 1 = i + 1 + j + 1 by omega] at this
        exact this
      · rw [List.length_cons, show i + (xs.length + 1) = i + 1 + xs.length by omega]; exact hI
    unfold loopF
    rw [h1]
    dsimp only
    cases ho : body γ' S with
    | nx γ2 S2 => rw [ho] at h2; exact go γ2 S2 h2
    | ct γ2 S2 => rw [ho] at h2; exact go γ2 S2 h2
    | ret d S' => rw [ho] at h2; exact h2
    | exc => rw [ho] at h2; exact h2.elim
    | bad => rw [ho] at h2; exact h2.elim
/-- .. over a list that stands in the store -/
theorem wf_loopL {body : Gm → Sto → Fl} {tg : Tg} {it : Sto → Nat → Option (Option D)} (xs : List D) (I : Nat → Gm → Sto → Prop) (hit : ∀ j γ S, I j γ S → it S j = some xs[j]?) : ∀ {m i : Nat} {γ : Gm} {S : Sto}, xs.length < m + i → i ≤ xs.length → I i γ S → (∀ j x γ S, xs[j]? = some x → I j γ S → ∃ γ', setTg tg x γ = some γ' ∧ WF (body γ' S) (I (j + 1)) R (I (j + 1))) → (∀ γ S, I xs.length γ S → N γ S) → WF (loopFL body tg it m i γ S) N R C
  | 0, i, γ, S, hm, hi, _, _, _ => by omega
  | m + 1, i, γ, S, hm, hi, h0, h, hN => by
    unfold loopFL
    rw [hit i γ S h0]
    by_cases hq : i < xs.length
    · rw [List.getElem?_eq_getElem hq]
      dsimp only
      obtain ⟨γ', h1, h2⟩ := h i xs[i] γ S (List.getElem?_eq_getElem hq) h0
      rw [h1]
      dsimp only
      cases ho : body γ' S with
      | nx γ2 S2 => rw [ho] at h2; exact wf_loopL xs I hit (by omega) (by omega) h2 h hN
      | ct γ2 S2 => rw [ho] at h2; exact wf_loopL xs I hit (by omega) (by omega) h2 h hN
      | ret d S' => rw [ho] at h2; exact h2
      | exc => rw [ho] at h2; exact h2.elim
      | bad => rw [ho] at h2; exact h2.elim
    · have e : i = xs.length := by omega
      subst e
      rw [List.getElem?_eq_none_iff.mpr (Nat.le_refl _)]
      exact hN γ S h0
theorem wp_loopC {turn : Gm → Sto → Out (Option D)} {tg : Tg} {γ : Gm} {Q : List D → Sto → Prop} (I : Nat → List D → Sto → Prop) : ∀ {xs acc : List D} {i : Nat} {S : Sto}, I i acc S → (∀ j x acc S, xs[j]? = some x → I (i + j) acc S → ∃ γ', setTg tg x γ = some γ' ∧ WP (turn γ' S) fun o S' => I (i + j + 1) (acc ++ o.toList) S') → (∀ acc S, I (i + xs.length) acc S → Q acc S) → WP (loopC turn tg γ xs acc S) Q
  | [], acc, i, S, h0, _, q => q acc S h0
  | x :: xs, acc, i, S, h0, h, q => by
    obtain ⟨γ', h1, h2⟩ := h 0 x acc S rfl h0
    obtain ⟨o, S', e, h3⟩ := h2.ex
    unfold loopC
    rw [h1]
    dsimp only
    rw [e]
    have go : ∀ acc, I (i + 0 + 1) acc S' → WP (loopC turn tg γ xs acc S') Q := fun acc h3 => by
      refine wp_loopC (i := i + 1) I h3 (fun j y acc S hj hP => ?_) (fun acc S hI => q acc S ?_)
      · have := h (j + 1) y acc S (by simpa using hj) (by rw [show i + (j + 1) = i + 1 + j by omega]; exact hP)
        rw [show i + (j + 1) + 1 = i + 1 + j + 1 by omega] at this
        exact this
      · rw [List.length_cons, show i + (xs.length + 1) = i + 1 + xs.length by omega]; exact hI
    cases o with
    | some d => exact go _ h3
    | none => exact go _ (by simpa using h3)
/-- a comprehension whose turns leave the store -/
theorem wp_loopC_pure {turn : Gm → Sto → Out (Option D)} {tg : Tg} {γ : Gm} {S : Sto} {Q : List D → Sto → Prop} (f : D → Option D) : ∀ {xs acc : List D}, (∀ x ∈ xs, ∃ γ', setTg tg x γ = some γ' ∧ turn γ' S = .ok (f x) S) → Q (acc ++ xs.filterMap f) S → WP (loopC turn tg γ xs acc S) Q
  | [], acc, _, q => by rw [List.filterMap_nil, List.append_nil] at q; exact q
  | x :: xs, acc, h, q => by
    obtain ⟨γ', h1, h2⟩ := h x List.mem_cons_self
    unfold loopC
    rw [h1]
    dsimp only
    rw [h2]
    cases hf : f x with
    | some d =>
      refine wp_loopC_pure f (fun y hy => h y (List.mem_cons_of_mem _ hy)) ?_
      rw [List.filterMap_cons, hf] at q
      rw [List.append_assoc]
      exact q
    | none =>
      refine wp_loopC_pure f (fun y hy => h y (List.mem_cons_of_mem _ hy)) ?_
      rw [List.filterMap_cons, hf] at q
      exact q
/-- .. over what stands in the store -/
theorem wp_loopCL_pure {turn : Gm → Sto → Out (Option D)} {tg : Tg} {γ : Gm} {S : Sto} {Q : List D → Sto → Prop} {it : Sto → Nat → Option (Option D)} (xs : List D) (hit : ∀ j, it S j = some xs[j]?) (f : D → Option D) (h : ∀ x ∈ xs, ∃ γ', setTg tg x γ = some γ' ∧ turn γ' S = .ok (f x) S) : ∀ {m i : Nat} {acc : List D}, xs.length < m + i → i ≤ xs.length → Q (acc ++ (xs.drop i).filterMap f) S → WP (loopCL turn tg γ it m i acc S) Q
  | 0, i, acc, hm, hi, q => by omega
  | m + 1, i, acc, hm, hi, q => by
    unfold loopCL
    rw [hit i]
    by_cases hq : i < xs.length
    · rw [List.getElem?_eq_getElem hq]
      dsimp only
      obtain ⟨γ', h1, h2⟩ := h xs[i] (List.getElem_mem hq)
      rw [h1]
      dsimp only
      rw [h2]
      rw [List.drop_eq_getElem_cons hq] at q
      cases hf : f xs[i] with
      | some d =>
        refine wp_loopCL_pure xs hit f h (by omega) (by omega) ?_
        rw [List.filterMap_cons, hf] at q
        rw [List.append_assoc]
        exact q
      | none =>
        refine wp_loopCL_pure xs hit f h (by omega) (by omega) ?_
        rw [List.filterMap_cons, hf] at q
        exact q
    · rw [List.getElem?_eq_none_iff.mpr (by omega)]
      rw [List.drop_eq_nil_of_le (by omega), List.filterMap_nil, List.append_nil] at q
      exact q
/-! the calls by a name of their own -/
theorem of_cal {c cal : Nat → List D → Sto → Out D} (h : c = cal) {f : Nat} {as : List D} {S : Sto} {Q : D → Sto → Prop} (w : WP (c f as S) Q) : WP (cal f as S) Q := by subst h; exact w
theorem of_eqO {c cal : Nat → List D → Sto → Out D} (h : c = cal) {neg : Bool} {tb sb : List (Nat × Nat)} {x y : D} {S : Sto} {Q : D → Sto → Prop} (w : WP (eqO c neg tb sb x y S) Q) : WP (eqO cal neg tb sb x y S) Q := by subst h; exact w
theorem of_mkD {k cal : Nat → List D → Sto → Out D} (h : k = cal) {t : Bool} {c f : Nat} {pl : Plan} {ds ks : List D} {S : Sto} {Q : D → Sto → Prop} (w : WP (mkD k t c f pl ds ks S) Q) : WP (mkD cal t c f pl ds ks S) Q := by subst h; exact w
/-! calls -/
theorem wp_fn {P : List Fn} {n f : Nat} {fn : Fn} {ds : List D} (h : P[f]? = some fn) (hl : ds.length = fn.np) (w : WF (exs (callN P n) fn.body (ds.map some ++ List.replicate (fn.nv - fn.np) none) S) (fun _ S' => Q .non (trim S.length .non S')) (fun d S' => Q d (trim S.length d S')) (fun _ _ => False)) : WP (callN P (n + 1) f ds S) Q := by
  rw [callN_eq h hl]
  revert w
  cases exs (callN P n) fn.body (ds.map some ++ List.replicate (fn.nv - fn.np) none) S with
  | nx γ' S' => exact fun w => w
  | ret d S' => exact fun w => w
  | ct => exact fun w => w.elim
  | exc => exact fun w => w
  | bad => exact fun w => w
theorem trim_len (d : D) {S' : Sto} {n : Nat} (h : S'.length = n) : trim n d S' = S' := by subst h; exact trim_self d S'
end
end Itp
namespace Itp
open PySem L2
local macro_rules | `(tactic| walk_at "w1") => `(tactic| first
  | ((with_reducible show WP (ev _ _ _ _) _); first
    | ((with_reducible show WP (ev _ (E.var _) _ _) _); refine wp_var rfl ?_)
    | with_reducible refine wp_int ?_
    | with_reducible refine wp_str ?_
    | with_reducible refine wp_bl ?_
    | with_reducible refine wp_non ?_
    | with_reducible refine wp_idx ?_
    | with_reducible refine wp_bin ?_
    | with_reducible refine wp_call ?_
    | with_reducible refine wp_lst ?_
    | with_reducible refine wp_cmp ?_
    | with_reducible refine wp_tup ?_
    | with_reducible refine wp_slc ?_
    | with_reducible refine wp_bf ?_
    | with_reducible refine wp_not ?_
    | with_reducible refine wp_isi ?_
    | with_reducible refine wp_bop ?_
    | with_reducible refine wp_bm ?_
    | with_reducible refine wp_gint ?_
    | with_reducible refine wp_gstr ?_
    | with_reducible refine wp_neg ?_
    | with_reducible refine wp_chn ?_
    | with_reducible refine wp_ite ?_
    | with_reducible refine wp_new ?_
    | with_reducible refine wp_isT ?_
    | with_reducible refine wp_frz ?_
    | with_reducible refine wp_trk ?_
    | with_reducible refine wp_mth ?_
    | with_reducible refine wp_smt ?_
    | with_reducible refine wp_cmt ?_
    | with_reducible refine wp_mk ?_
    | with_reducible refine wp_att ?_
    | with_reducible refine wp_cst ?_
    | with_reducible refine wp_own ?_
    | with_reducible refine wp_fst ?_)
  | ((with_reducible show WP (evs _ _ _ _) _); first
    | with_reducible refine wps_nil ?_
    | ((with_reducible show WP (evs _ (E.star _ :: _) _ _) _); refine wps_star ?_)
    | ((with_reducible show WP (evs _ (_ :: _) _ _) _); refine wps_cons rfl ?_))
  | ((with_reducible show WF (exs _ _ _ _) _ _ _); first
    | with_reducible refine wfs_cons ?_
    | with_reducible refine wfs_nil ?_)
  | ((with_reducible show WF (ex _ _ _ _) _ _ _); first
    | with_reducible refine wf_set ?_
    | with_reducible refine wf_asg ?_
    | with_reducible refine wf_par ?_
    | with_reducible refine wf_idx ?_
    | with_reducible refine wf_expr ?_
    | with_reducible refine wf_ret ?_
    | with_reducible refine wf_if ?_
    | with_reducible refine wf_retN ?_
    | with_reducible refine wf_cont ?_
    | with_reducible refine wf_pass ?_
    | with_reducible refine wf_flds ?_)
  | ((with_reducible show WP (evB _ _ _ _ _) _); first
    | with_reducible refine wpB_a ?_
    | with_reducible refine wpB_o ?_
    | with_reducible refine wpB_one ?_)
  | ((with_reducible show WP (evO _ _ _ _) _); first
    | with_reducible refine wpO_none ?_
    | with_reducible refine wpO_some ?_)
  | ((with_reducible show WP (trkD (D.lst _) _) _); refine wp_trkL ?_)
  | ((with_reducible show WP (attD _ _ _ _ _) _); first
    | refine wp_fld rfl rfl rfl ?_
    | refine wp_prp rfl rfl ?_
    | refine wp_acon rfl rfl rfl ?_)
  | ((with_reducible show WP (ownD _ OK.eq _ _ _ _) _); refine wp_oeq ?_)
  | ((with_reducible show WP (ownD _ OK.ne _ _ _ _) _); refine wp_one ?_)
  | ((with_reducible show Exists _); first
    | ((with_reducible show ∃ z, truD _ _ = some z ∧ _); refine ⟨_, rfl, ?_⟩)
    | ((with_reducible show ∃ z, cmpD _ _ _ _ = some z ∧ _); refine ⟨_, rfl, ?_⟩)
    | ((with_reducible show ∃ z, idxD _ _ _ = some z ∧ _); refine ⟨_, rfl, ?_⟩)
    | ((with_reducible show ∃ z, slcD _ _ _ _ = some z ∧ _); refine ⟨_, rfl, ?_⟩)
    | ((with_reducible show ∃ z, isD _ _ _ = some z ∧ _); refine ⟨_, rfl, ?_⟩)
    | ((with_reducible show ∃ z, isAny _ _ _ = some z ∧ _); refine ⟨_, rfl, ?_⟩)
    | ((with_reducible show ∃ z, bfD _ _ _ = some z ∧ _); refine ⟨_, rfl, ?_⟩)
    | ((with_reducible show ∃ z, bindP _ _ _ = some z ∧ _); refine ⟨_, rfl, ?_⟩)
    | ((with_reducible show ∃ z, setTg _ _ _ = some z ∧ _); refine ⟨_, rfl, ?_⟩)
    | ((with_reducible show ∃ z, binD BO.add (D.int _) (D.int _) _ = some z ∧ _); refine ⟨_, rfl, ?_⟩)
    | ((with_reducible show ∃ z, binD BO.sub _ _ _ = some z ∧ _); refine ⟨_, rfl, ?_⟩)
    | ((with_reducible show ∃ z, binD BO.mul (D.int _) (D.int _) _ = some z ∧ _); refine ⟨_, rfl, ?_⟩)
    | ((with_reducible show ∃ z, binD BO.mod _ _ _ = some z ∧ _); refine ⟨_, rfl, ?_⟩)
    | ((with_reducible show ∃ z, binD BO.fdiv _ _ _ = some z ∧ _); refine ⟨_, rfl, ?_⟩)
    | ((with_reducible show ∃ z, binD BO.pow _ _ _ = some z ∧ _); refine ⟨_, rfl, ?_⟩)
    | ((with_reducible show ∃ p, insOf _ _ = some p ∧ _); refine ⟨_, rfl, rfl, _, rfl, ?_⟩)
    | ((with_reducible show ∃ z, D.int _ = D.int z ∧ _); refine ⟨_, rfl, ?_⟩)
    | ((with_reducible show ∃ z, D.loc _ = D.loc z ∧ _); refine ⟨_, rfl, ?_⟩)
    | ((with_reducible show ∃ z, D.lst _ = D.lst z ∧ _); refine ⟨_, rfl, ?_⟩))
  | ((with_reducible show And _ _); first
    | ((with_reducible show List.length _ ≤ 16777216 ∧ _); refine ⟨Nat.le_of_ble_eq_true rfl, ?_⟩)
    | ((with_reducible refine two_t ?hk ?_); (case hk => exact rfl))
    | ((with_reducible refine two_f ?hk ?_); (case hk => exact rfl)))
  | ((with_reducible show WP (mkD _ _ _ _ _ _ _ _) _); (with_reducible refine of_mkD (k := ?kk) ?hk ?_); (case hk => with_reducible assumption))
  | ((with_reducible show WP (eqO _ _ _ _ _ _ _) _); (with_reducible refine of_eqO (c := ?kk) ?hk ?_); (case hk => with_reducible assumption))
  | ((with_reducible refine of_cal (c := ?kk) ?hk ?_); (case hk => with_reducible assumption)))
local macro_rules | `(tactic| walk_at "w") => `(tactic| repeat walk_at "w1")
/-! ### plain data -/
inductive J where | n | b (k : Bool) | i (k : Int) | s (x : Str) | l (js : List J) | t (js : List J)
mutual
def J.d : J → D
  | .n => .non
  | .b k => .bl k
  | .i k => .int k
  | .s x => .str x
  | .l js => .lst (J.ds js)
  | .t js => .tup (J.ds js)
def J.ds : List J → List D
  | [] => []
  | j :: js => j.d :: J.ds js
end
mutual
def J.p : J → PyData
  | .n => .none
  | .b k => .bool k
  | .i k => .int k
  | .s x => .str x
  | .l js => .list (J.ps js)
  | .t js => .tuple (J.ps js)
def J.ps : List J → List PyData
  | [] => []
  | j :: js => j.p :: J.ps js
end
mutual
def J.dp : J → Nat
  | .l js => J.dps js + 1
  | .t js => J.dps js + 1
  | _ => 0
def J.dps : List J → Nat
  | [] => 0
  | j :: js => max j.dp (J.dps js)
end
mutual
def J.bf : J → Bool
  | .b _ => false
  | .l js => J.bfs js
  | .t js => J.bfs js
  | _ => true
def J.bfs : List J → Bool
  | [] => true
  | j :: js => j.bf && J.bfs js
end
mutual
/-- d stands for j, places read through the store -/
def Res (S : Sto) : J → D → Prop
  | .n, d => d = .non
  | .b k, d => d = .bl k
  | .i k, d => d = .int k
  | .s x, d => d = .str x
  | .l js, d => ∃ xs, lstOf d S = some xs ∧ Ress S js xs
  | .t js, d => ∃ xs, d = .tup xs ∧ Ress S js xs
def Ress (S : Sto) : List J → List D → Prop
  | [], xs => xs = []
  | j :: js, xs => ∃ x r, xs = x :: r ∧ Res S j x ∧ Ress S js r
end
mutual
theorem res_d (S : Sto) : ∀ j : J, Res S j j.d
  | .n => rfl
  | .b _ => rfl
  | .i _ => rfl
  | .s _ => rfl
  | .l js => ⟨_, rfl, ress_d S js⟩
  | .t js => ⟨_, rfl, ress_d S js⟩
theorem ress_d (S : Sto) : ∀ js : List J, Ress S js (J.ds js)
  | [] => rfl
  | j :: js => ⟨_, _, rfl, res_d S j, ress_d S js⟩
end
theorem Ress.len {S : Sto} : ∀ {js : List J} {xs : List D}, Ress S js xs → js.length = xs.length
  | [], xs, h => by
    have h : xs = [] := h
    subst h; rfl
  | j :: js, xs, h => by
    obtain ⟨x, r, rfl, _, h⟩ := h
    simp [Ress.len h]
mutual
theorem toP_res {S : Sto} : ∀ {j : J} {d : D} {n : Nat}, Res S j d → j.dp ≤ n → toP S n d = some j.p
  | .n, d, n, h, _ => by
    have h : d = .non := h
    subst h; cases n <;> rfl
  | .b k, d, n, h, _ => by
    have h : d = .bl k := h
    subst h; cases n <;> rfl
  | .i k, d, n, h, _ => by
    have h : d = .int k := h
    subst h; cases n <;> rfl
  | .s k, d, n, h, _ => by
    have h : d = .str k := h
    subst h; cases n <;> rfl
  | .l js, d, n, h, hn => by
    obtain ⟨xs, h1, h2⟩ := h
    have hn : J.dps js + 1 ≤ n := hn
    cases n with
    | zero => omega
    | succ n =>
      have e : mapO (toP S n) xs = some (J.ps js) := toPs_res h2 (by omega)
      cases d with
      | lst ys =>
        cases h1
        show (mapO (toP S n) xs).map PyData.list = _
        rw [e]; rfl
      | loc m =>
        have h1 : (match S[m]? with | some (.lst xs) => some xs | _ => none) = some xs := h1
        cases q : S[m]? with
        | none => rw [q] at h1; cases h1
        | some o =>
          rw [q] at h1
          cases o with
          | lst ys =>
            cases h1
            show (match S[m]? with | some (.lst xs) => (mapO (toP S n) xs).map PyData.list | _ => none) = _
            rw [q]
            show (mapO (toP S n) xs).map PyData.list = _
            rw [e]; rfl
          | _ => cases h1
      | _ => cases h1
  | .t js, d, n, h, hn => by
    obtain ⟨xs, rfl, h2⟩ := h
    have hn : J.dps js + 1 ≤ n := hn
    cases n with
    | zero => omega
    | succ n =>
      show (mapO (toP S n) xs).map PyData.tuple = _
      rw [toPs_res h2 (by omega)]; rfl
theorem toPs_res {S : Sto} : ∀ {js : List J} {xs : List D} {n : Nat}, Ress S js xs → J.dps js ≤ n → mapO (toP S n) xs = some (J.ps js)
  | [], xs, n, h, _ => by
    have h : xs = [] := h
    subst h; rfl
  | j :: js, xs, n, h, hn => by
    obtain ⟨x, r, rfl, h1, h2⟩ := h
    have hn : max j.dp (J.dps js) ≤ n := hn
    unfold mapO
    rw [toP_res h1 (by omega), toPs_res h2 (by omega)]; rfl
end
mutual
theorem eqv_J : ∀ {a b : J}, a.bf = true → b.bf = true → (PyData.eqv a.p b.p = true ↔ a = b)
  | .n, b, _, hb => by cases b <;> simp [J.p, PyData.eqv]
  | .i k, b, _, hb => by
    cases b <;> first | (cases hb; done) | simp [J.p, PyData.eqv]
  | .s k, b, _, hb => by
    cases b <;> first | (cases hb; done) | simp [J.p, PyData.eqv]
  | .l js, b, ha, hb => by
    cases b with
    | l ks =>
      have := eqvs_J (as := js) (bs := ks) ha hb
      simp only [J.p, PyData.eqv, J.l.injEq]
      exact this
    | b k => cases hb
    | _ => simp [J.p, PyData.eqv]
  | .t js, b, ha, hb => by
    cases b with
    | t ks =>
      have := eqvs_J (as := js) (bs := ks) ha hb
      simp only [J.p, PyData.eqv, J.t.injEq]
      exact this
    | b k => cases hb
    | _ => simp [J.p, PyData.eqv]
  | .b k, b, ha, _ => by cases ha
theorem eqvs_J : ∀ {as bs : List J}, J.bfs as = true → J.bfs bs = true → (PyData.eqvAll (J.ps as) (J.ps bs) = true ↔ as = bs)
  | [], [], _, _ => by simp [J.ps, PyData.eqvAll]
  | [], _ :: _, _, _ => by simp [J.ps, PyData.eqvAll]
  | _ :: _, [], _, _ => by simp [J.ps, PyData.eqvAll]
  | a :: as, b :: bs, ha, hb => by
    have ha : (a.bf && J.bfs as) = true := ha
    have hb : (b.bf && J.bfs bs) = true := hb
    rw [Bool.and_eq_true] at ha hb
    have h1 := eqv_J ha.1 hb.1
    have h2 := eqvs_J ha.2 hb.2
    simp only [J.ps, PyData.eqvAll, Bool.and_eq_true, List.cons.injEq]
    rw [h1, h2]
end
/-- == of plain data -/
def jeq (a b : J) : Bool := PyData.eqv a.p b.p
theorem jeq_iff {a b : J} (ha : a.bf = true) (hb : b.bf = true) : jeq a b = true ↔ a = b := eqv_J ha hb
theorem eqD_res {S : Sto} {j k : J} {a b : D} (ha : Res S j a) (hb : Res S k b) (h1 : j.dp ≤ 20) (h2 : k.dp ≤ 20) : eqD a b S = some (jeq j k) := by
  unfold eqD
  rw [toP_res ha h1, toP_res hb h2]; rfl
def jin (a : J) (bs : List J) : Bool := (J.ps bs).any fun z => PyData.eqv z a.p
theorem jin_iff {a : J} {bs : List J} (ha : a.bf = true) (hb : J.bfs bs = true) : jin a bs = true ↔ a ∈ bs := by
  unfold jin
  induction bs with
  | nil => simp [J.ps]
  | cons b bs ih =>
    have hb : (b.bf && J.bfs bs) = true := hb
    rw [Bool.and_eq_true] at hb
    have h1 := eqv_J hb.1 ha
    simp only [J.ps, List.any_cons, Bool.or_eq_true, List.mem_cons]
    rw [h1, ih hb.2]
    exact or_congr_left eq_comm
theorem inD_lst {S : Sto} {j : J} {js : List J} {a b : D} {xs : List D} (ha : Res S j a) (hb : lstOf b S = some xs) (hx : Ress S js xs) (h1 : j.dp ≤ 19) (h2 : J.dps js ≤ 19) : inD a b S = some (jin j js) := by
  have e : (match toP S 19 a, toPs S 19 xs with | some p, some qs => some (qs.any fun z => PyData.eqv z p) | _, _ => none) = some (jin j js) := by
    unfold toPs
    rw [toP_res ha h1, toPs_res hx h2]; rfl
  unfold inD
  cases b with
  | lst ys => cases hb; exact e
  | loc m => dsimp only; rw [hb]; exact e
  | _ => cases hb
theorem inD_tup {S : Sto} {j : J} {js : List J} {a : D} {xs : List D} (ha : Res S j a) (hx : Ress S js xs) (h1 : j.dp ≤ 19) (h2 : J.dps js ≤ 19) : inD a (.tup xs) S = some (jin j js) := by
  unfold inD toPs
  dsimp only
  rw [toP_res ha h1, toPs_res hx h2]; rfl
/-! ### what is walked -/
def Its (k : IK) (ds : List D) (S : Sto) (xs : List D) : Prop := itD k ds S = some xs ∨ (itD k ds S = none ∧ ∀ j, liveD k ds S j = some xs[j]?)
theorem its_val {d : D} {S : Sto} {xs : List D} (h : seqOf d S = some xs) : Its .val [d] S xs := by
  cases d with
  | tup ys => cases h; exact .inl rfl
  | lst ys => cases h; exact .inl rfl
  | loc m => exact .inr ⟨rfl, fun j => by show (lstOf (.loc m) S).map _ = _; rw [show lstOf (.loc m) S = some xs from h]; rfl⟩
  | _ => cases h
abbrev enumL (xs : List D) : List D := (List.range xs.length).map fun (k : Nat) => .tup [.int (k : Int), xs.getD k .non]
theorem its_enum {d : D} {S : Sto} {xs : List D} (h : seqOf d S = some xs) : Its .enum [d] S (enumL xs) := by
  cases d with
  | tup ys => cases h; exact .inl rfl
  | lst ys => cases h; exact .inl rfl
  | loc m =>
    refine .inr ⟨rfl, fun j => ?_⟩
    show (lstOf (.loc m) S).map (fun xs => xs[j]?.map fun x => D.tup [.int j, x]) = _
    rw [show lstOf (.loc m) S = some xs from h]
    show some (xs[j]?.map fun x => D.tup [.int j, x]) = _
    congr 1
    unfold enumL
    rw [List.getElem?_map]
    by_cases hj : j < xs.length
    · simp [hj]
    · simp [hj]
  | _ => cases h
abbrev zipL (xs ys : List D) : List D := (List.range (min xs.length ys.length)).map fun (k : Nat) => .tup [xs.getD k .non, ys.getD k .non]
theorem its_zipL {a b : D} {S : Sto} {xs ys : List D} (h : lstOf a S = some xs) (h2 : lstOf b S = some ys) : Its .zip [a, b] S (zipL xs ys) := by
  have live : itD .zip [a, b] S = none → Its .zip [a, b] S (zipL xs ys) := fun e => .inr ⟨e, fun j => by
    show (match lstOf a S, lstOf b S with | some xs, some ys => some (match xs[j]?, ys[j]? with | some x, some y => some (D.tup [x, y]) | _, _ => none) | _, _ => none) = _
    rw [h, h2]
    show some _ = some _
    congr 1
    unfold zipL
    rw [List.getElem?_map]
    by_cases hx : j < xs.length
    · by_cases hy : j < ys.length
      · have : j < min xs.length ys.length := by omega
        rw [List.getElem?_range this]
        simp [hx, hy]
      · have : ¬ j < min xs.length ys.length := by omega
        rw [List.getElem?_eq_none (l := List.range _) (by simpa using this)]
        simp [hx, hy]
    · have : ¬ j < min xs.length ys.length := by omega
      rw [List.getElem?_eq_none (l := List.range _) (by simpa using this)]
      simp [hx]⟩
  cases a with
  | lst xs' =>
    cases h
    cases b with
    | lst ys' => cases h2; exact .inl rfl
    | loc m => exact live rfl
    | _ => cases h2
  | loc m =>
    cases b with
    | lst ys' => exact live rfl
    | loc m' => exact live rfl
    | _ => cases h2
  | _ => cases h
theorem its_zipT {S : Sto} {xs ys : List D} : Its .zip [.tup xs, .tup ys] S (zipL xs ys) := .inl rfl
section
variable {cal : Nat → List D → Sto → Out D} {γ : Gm} {S : Sto} {e : E} {Q : D → Sto → Prop}
/-- a comprehension whose turns leave the store -/
theorem wp_lcP {tg : Tg} {own : List Nat} {ik : IK} {its ifs : List E} (h : WP (evs cal its γ S) fun ds S1 => ∃ (xs : List D) (f : D → Option D), Its ik ds S1 xs ∧ xs.length ≤ 16777216 ∧ (∀ x ∈ xs, ∃ γ', setTg tg x (wipeG γ own) = some γ' ∧ turnE cal ifs e γ' S1 = .ok (f x) S1) ∧ Q (.lst (xs.filterMap f)) S1) : WP (ev cal (.lc tg own ik its ifs e) γ S) Q := by
  obtain ⟨ds, S1, e1, xs, f, h1, h2, h3, h4⟩ := h.ex
  rcases h1 with h1 | ⟨h1, h5⟩
  · exact wp_lc (wp_eq e1 ⟨xs, h1, h2, wp_loopC_pure f h3 h4⟩)
  · exact wp_lcL (wp_eq e1 ⟨h1, wp_loopCL_pure xs h5 f h3 (by omega) (Nat.zero_le _) (by rw [List.drop_zero]; exact h4)⟩)
end
/-! ### the law's own source -/
def drawIR : List Itp.St := [
    .ifs (.bop true [.cmp .eq (.idx (.var 0) (.int 2)) (.int 0), .cmp .lt (.idx (.var 0) (.int 1)) (.bf .len [.idx (.var 0) (.int 0)])]) [.set 2 (.idx (.idx (.var 0) (.int 0)) (.idx (.var 0) (.int 1))), .idx (.var 0) (.int 1) (.bin .add (.idx (.var 0) (.int 1)) (.int 1)), .ifs (.cmp .ge (.var 2) (.bin .pow (.int 10) (.int 18))) [.idx (.var 0) (.int 2) (.var 2)] [.idx (.var 0) (.int 3) (.bin .mod (.bf .int [.bin .add (.bin .add (.bin .mul (.idx (.var 0) (.int 3)) (.int 38867)) (.bin .mul (.bin .mod (.bf .int [.var 2]) (.int 2147483563)) (.int 5407))) (.int 83)]) (.int 2147483549))]] [],
    .ifs (.cmp .gt (.idx (.var 0) (.int 2)) (.int 0)) [.set 3 (.bin .mod (.bf .int [.idx (.var 0) (.int 2)]) (.var 1)), .idx (.var 0) (.int 2) (.bin .fdiv (.idx (.var 0) (.int 2)) (.var 1)), .ret (.var 3)] [],
    .idx (.var 0) (.int 4) (.bin .add (.idx (.var 0) (.int 4)) (.int 1)),
    .set 4 (.idx (.var 0) (.int 3)),
    .idx (.var 0) (.int 3) (.bin .mod (.bf .int [.bin .add (.bin .add (.bin .add (.bin .mul (.var 4) (.var 4)) (.bin .mul (.var 4) (.int 30197))) (.bin .mul (.idx (.var 0) (.int 4)) (.int 1000777))) (.int 70843)]) (.int 2147483549)),
    .ret (.bin .mod (.bf .int [.bin .add (.bin .fdiv (.idx (.var 0) (.int 3)) (.int 67)) (.bin .mul (.bin .mod (.bf .int [.idx (.var 0) (.int 3)]) (.int 8123)) (.int 41))]) (.var 1))]
structure Sr where
  cells : List Int
  pos : Int
  big : Int
  seed : Int
  cnt : Int
def Sr.so (s : Sr) : SO := .lst [.lst (s.cells.map .int), .int s.pos, .int s.big, .int s.seed, .int s.cnt]
structure Sr.ok (s : Sr) : Prop where
  pos : 0 ≤ s.pos
  big : 0 ≤ s.big
  seed : 0 ≤ s.seed
  most : s.seed < 2147483549
theorem bd_mul {i j : Int} {S : Sto} (h : (c64 i || c64 j) = true) : binD .mul (.int i) (.int j) S = some (.int (i * j)) := if_pos h
theorem bd_mod {i j : Int} {S : Sto} (h : 0 < j) : binD .mod (.int i) (.int j) S = some (.int (i % j)) := if_pos h
theorem bd_fdiv {i j : Int} {S : Sto} (h : 0 < j ∧ j < 1073741824) : binD .fdiv (.int i) (.int j) S = some (.int (i / j)) := if_pos h
theorem c64_of {i : Int} (h : 0 ≤ i) (h2 : i < 2147483549) : c64 i = true := by
  unfold c64; simp; omega
theorem atI_map {xs : List Int} {i : Int} (h : 0 ≤ i) (h2 : i < xs.length) : ∃ k, atI (xs.map D.int) i = some (.int k) := by
  obtain ⟨j, rfl⟩ := Int.eq_ofNat_of_zero_le h
  have hj : j < xs.length := by omega
  refine ⟨xs[j], ?_⟩
  unfold atI
  rw [show ixN (xs.map D.int).length (j : Int) = some j from by
    unfold ixN
    rw [List.length_map]
    rw [if_pos (by omega), if_pos (by omega)]
    rfl]
  simp [hj]
theorem eqv_int (i j : Int) : PyData.eqv (.int i) (.int j) = decide (i = j) := by
  by_cases h : i = j
  · subst h
    simp [PyData.eqv]
  · simp [PyData.eqv, h]
theorem draw_spec {P : List Fn} {n f : Nat} (hP : P[f]? = some ⟨2, 5, drawIR⟩) {s : Sr} {R : Sto} {m : Int} (hs : s.ok) (hm : 0 < m) (hm2 : m < 1073741824) {Q : D → Sto → Prop} (q : ∀ (k : Int) (s' : Sr), 0 ≤ k → k < m → s'.ok → Q (.int k) (s'.so :: R)) : WP (callN P (n + 1) f [.loc 0, .int m] (s.so :: R)) Q := by
  obtain ⟨cells, pos, big, seed, cnt⟩ := s
  have hs1 : 0 ≤ pos := hs.pos
  have hs2 : 0 ≤ big := hs.big
  have hs3 : 0 ≤ seed := hs.seed
  have hs4 : seed < 2147483549 := hs.most
  refine wp_fn hP rfl ?_
  dsimp only [List.map, Nat.sub, List.replicate, List.append, drawIR]
  refine wfs_cut (fun γ S => ∃ x, γ = [some (.loc 0), some (.int m), x, none, none] ∧ ∃ s' : Sr, s'.ok ∧ S = s'.so :: R) ?_ ?_
  · walk_at "w"
    constructor
    · intro h0
      rw [show PyData.eqv (PyData.int big) (PyData.int 0) = decide (big = 0) from eqv_int _ _, decide_eq_true_eq] at h0
      walk_at "w"
      constructor
      · intro h1
        replace h1 : pos < ((cells.map D.int).length : Int) := of_decide_eq_true h1
        rw [List.length_map] at h1
        obtain ⟨k, hk⟩ := atI_map hs1 h1
        walk_at "w"
        refine ⟨_, hk, ?_⟩
        walk_at "w"
        refine ⟨_, _, _, 1, rfl, rfl, rfl, rfl, ?_⟩
        walk_at "w"
        constructor
        · intro h2
          replace h2 : (10 : Int) ^ 18 ≤ k := of_decide_eq_true h2
          walk_at "w"
          refine ⟨_, _, _, 2, rfl, rfl, rfl, rfl, ?_⟩
          walk_at "w"
          exact ⟨_, rfl, ⟨cells, pos + 1, k, seed, cnt⟩, ⟨by show (0 : Int) ≤ pos + 1; omega, by show 0 ≤ k; omega, hs3, hs4⟩, rfl⟩
        · intro h2
          walk_at "w"
          refine ⟨_, bd_mul (by rw [c64_of hs3 hs4]; rfl), ?_⟩
          walk_at "w"
          refine ⟨_, bd_mul (by rw [Bool.or_eq_true]; exact Or.inr rfl), ?_⟩
          walk_at "w"
          refine ⟨_, _, _, 3, rfl, rfl, rfl, rfl, ?_⟩
          walk_at "w"
          exact ⟨_, rfl, ⟨cells, pos + 1, big, _, cnt⟩, ⟨by show (0 : Int) ≤ pos + 1; omega, hs2, Int.emod_nonneg _ (by decide), Int.emod_lt_of_pos _ (by decide)⟩, rfl⟩
      · intro _
        walk_at "w"
        exact ⟨_, rfl, _, hs, rfl⟩
    · intro h0
      rw [h0]
      refine ⟨_, rfl, ?_, ?_⟩
      · intro h; cases h
      · intro _
        walk_at "w"
        exact ⟨_, rfl, _, hs, rfl⟩
  · rintro γ S ⟨x, rfl, ⟨cells, pos, big, seed, cnt⟩, hs, rfl⟩
    have hs1 : 0 ≤ pos := hs.pos
    have hs2 : 0 ≤ big := hs.big
    have hs3 : 0 ≤ seed := hs.seed
    have hs4 : seed < 2147483549 := hs.most
    walk_at "w"
    constructor
    · intro h
      replace h : 0 < big := of_decide_eq_true h
      walk_at "w"
      refine ⟨_, bd_mod hm, ?_⟩
      walk_at "w"
      refine ⟨_, bd_fdiv ⟨hm, hm2⟩, ?_⟩
      walk_at "w"
      refine ⟨_, _, _, 2, rfl, rfl, rfl, rfl, ?_⟩
      walk_at "w"
      refine (congrArg (Q _) (trim_len _ (by rfl))).mpr ?_
      exact q _ ⟨cells, pos, _, seed, cnt⟩ (Int.emod_nonneg _ (by omega)) (Int.emod_lt_of_pos _ hm) ⟨hs1, Int.ediv_nonneg hs2 (by omega), hs3, hs4⟩
    · intro h
      walk_at "w"
      refine ⟨_, _, _, 4, rfl, rfl, rfl, rfl, ?_⟩
      walk_at "w"
      refine ⟨_, bd_mul (by rw [c64_of hs3 hs4]; rfl), ?_⟩
      walk_at "w"
      refine ⟨_, bd_mul (by rw [c64_of hs3 hs4]; rfl), ?_⟩
      walk_at "w"
      refine ⟨_, bd_mul (by rw [Bool.or_eq_true]; exact Or.inr rfl), ?_⟩
      walk_at "w"
      refine ⟨_, _, _, 3, rfl, rfl, rfl, rfl, ?_⟩
      walk_at "w"
      refine ⟨_, bd_mul (by rw [Bool.or_eq_true]; exact Or.inr rfl), ?_⟩
      walk_at "w"
      refine ⟨_, bd_mod hm, ?_⟩
      walk_at "w"
      refine (congrArg (Q _) (trim_len _ (by rfl))).mpr ?_
      exact q _ ⟨cells, pos, _, _, cnt + 1⟩ (Int.emod_nonneg _ (by omega)) (Int.emod_lt_of_pos _ hm) ⟨hs1, hs2, Int.emod_nonneg _ (by decide), Int.emod_lt_of_pos _ (by decide)⟩
theorem draw_loc {P : List Fn} {n f : Nat} (hP : P[f]? = some ⟨2, 5, drawIR⟩) {s : Sr} {R : Sto} {m : Int} (hs : s.ok) (hm : 0 < m) (hm2 : m < 1073741824) {Q : D → Sto → Prop} (q : ∀ (k : Int) (s' : Sr), 0 ≤ k → k < m → s'.ok → Q (.int k) (s'.so :: R)) : WP (callN P (n + 1) f [.loc 0, .int m] (s.so :: R)) Q := draw_spec hP hs hm hm2 q
end Itp
namespace Itp
open PySem L2
local macro_rules | `(tactic| walk_at "w1") => `(tactic| first
  | ((with_reducible show WP (ev _ _ _ _) _); first
    | ((with_reducible show WP (ev _ (E.var _) _ _) _); refine wp_var rfl ?_)
    | with_reducible refine wp_int ?_
    | with_reducible refine wp_str ?_
    | with_reducible refine wp_bl ?_
    | with_reducible refine wp_non ?_
    | with_reducible refine wp_idx ?_
    | with_reducible refine wp_bin ?_
    | with_reducible refine wp_call ?_
    | with_reducible refine wp_lst ?_
    | with_reducible refine wp_cmp ?_
    | with_reducible refine wp_tup ?_
    | with_reducible refine wp_slc ?_
    | with_reducible refine wp_bf ?_
    | with_reducible refine wp_not ?_
    | with_reducible refine wp_isi ?_
    | with_reducible refine wp_bop ?_
    | with_reducible refine wp_bm ?_
    | with_reducible refine wp_gint ?_
    | with_reducible refine wp_gstr ?_
    | with_reducible refine wp_neg ?_
    | with_reducible refine wp_chn ?_
    | with_reducible refine wp_ite ?_
    | with_reducible refine wp_new ?_
    | with_reducible refine wp_isT ?_
    | with_reducible refine wp_frz ?_
    | with_reducible refine wp_trk ?_
    | with_reducible refine wp_mth ?_
    | with_reducible refine wp_smt ?_
    | with_reducible refine wp_cmt ?_
    | with_reducible refine wp_mk ?_
    | with_reducible refine wp_att ?_
    | with_reducible refine wp_cst ?_
    | with_reducible refine wp_own ?_
    | with_reducible refine wp_fst ?_)
  | ((with_reducible show WP (evs _ _ _ _) _); first
    | with_reducible refine wps_nil ?_
    | ((with_reducible show WP (evs _ (E.star _ :: _) _ _) _); refine wps_star ?_)
    | ((with_reducible show WP (evs _ (_ :: _) _ _) _); refine wps_cons rfl ?_))
  | ((with_reducible show WF (exs _ _ _ _) _ _ _); first
    | with_reducible refine wfs_cons ?_
    | with_reducible refine wfs_nil ?_)
  | ((with_reducible show WF (ex _ _ _ _) _ _ _); first
    | with_reducible refine wf_set ?_
    | with_reducible refine wf_asg ?_
    | with_reducible refine wf_par ?_
    | with_reducible refine wf_idx ?_
    | with_reducible refine wf_expr ?_
    | with_reducible refine wf_ret ?_
    | with_reducible refine wf_if ?_
    | with_reducible refine wf_retN ?_
    | with_reducible refine wf_cont ?_
    | with_reducible refine wf_pass ?_
    | with_reducible refine wf_flds ?_)
  | ((with_reducible show WP (evB _ _ _ _ _) _); first
    | with_reducible refine wpB_a ?_
    | with_reducible refine wpB_o ?_
    | with_reducible refine wpB_one ?_)
  | ((with_reducible show WP (evO _ _ _ _) _); first
    | with_reducible refine wpO_none ?_
    | with_reducible refine wpO_some ?_)
  | ((with_reducible show WP (trkD (D.lst _) _) _); refine wp_trkL ?_)
  | ((with_reducible show WP (attD _ _ _ _ _) _); first
    | refine wp_fld rfl rfl rfl ?_
    | refine wp_prp rfl rfl ?_
    | refine wp_acon rfl rfl rfl ?_)
  | ((with_reducible show WP (ownD _ OK.eq _ _ _ _) _); refine wp_oeq ?_)
  | ((with_reducible show WP (ownD _ OK.ne _ _ _ _) _); refine wp_one ?_)
  | ((with_reducible show Exists _); first
    | ((with_reducible show ∃ z, truD _ _ = some z ∧ _); refine ⟨_, rfl, ?_⟩)
    | ((with_reducible show ∃ z, cmpD _ _ _ _ = some z ∧ _); refine ⟨_, rfl, ?_⟩)
    | ((with_reducible show ∃ z, idxD _ _ _ = some z ∧ _); refine ⟨_, rfl, ?_⟩)
    | ((with_reducible show ∃ z, slcD _ _ _ _ = some z ∧ _); refine ⟨_, rfl, ?_⟩)
    | ((with_reducible show ∃ z, isD _ _ _ = some z ∧ _); refine ⟨_, rfl, ?_⟩)
    | ((with_reducible show ∃ z, isAny _ _ _ = some z ∧ _); refine ⟨_, rfl, ?_⟩)
    | ((with_reducible show ∃ z, bfD _ _ _ = some z ∧ _); refine ⟨_, rfl, ?_⟩)
    | ((with_reducible show ∃ z, bindP _ _ _ = some z ∧ _); refine ⟨_, rfl, ?_⟩)
    | ((with_reducible show ∃ z, setTg _ _ _ = some z ∧ _); refine ⟨_, rfl, ?_⟩)
    | ((with_reducible show ∃ z, binD BO.add (D.int _) (D.int _) _ = some z ∧ _); refine ⟨_, rfl, ?_⟩)
    | ((with_reducible show ∃ z, binD BO.sub _ _ _ = some z ∧ _); refine ⟨_, rfl, ?_⟩)
    | ((with_reducible show ∃ z, binD BO.mul (D.int _) (D.int _) _ = some z ∧ _); refine ⟨_, rfl, ?_⟩)
    | ((with_reducible show ∃ z, binD BO.mod _ _ _ = some z ∧ _); refine ⟨_, rfl, ?_⟩)
    | ((with_reducible show ∃ z, binD BO.fdiv _ _ _ = some z ∧ _); refine ⟨_, rfl, ?_⟩)
    | ((with_reducible show ∃ z, binD BO.pow _ _ _ = some z ∧ _); refine ⟨_, rfl, ?_⟩)
    | ((with_reducible show ∃ p, insOf _ _ = some p ∧ _); refine ⟨_, rfl, rfl, _, rfl, ?_⟩)
    | ((with_reducible show ∃ z, D.int _ = D.int z ∧ _); refine ⟨_, rfl, ?_⟩)
    | ((with_reducible show ∃ z, D.loc _ = D.loc z ∧ _); refine ⟨_, rfl, ?_⟩)
    | ((with_reducible show ∃ z, D.lst _ = D.lst z ∧ _); refine ⟨_, rfl, ?_⟩))
  | ((with_reducible show And _ _); first
    | ((with_reducible show List.length _ ≤ 16777216 ∧ _); refine ⟨Nat.le_of_ble_eq_true rfl, ?_⟩)
    | ((with_reducible refine two_t ?hk ?_); (case hk => exact rfl))
    | ((with_reducible refine two_f ?hk ?_); (case hk => exact rfl)))
  | ((with_reducible show WP (mkD _ _ _ _ _ _ _ _) _); (with_reducible refine of_mkD (k := ?kk) ?hk ?_); (case hk => with_reducible assumption))
  | ((with_reducible show WP (eqO _ _ _ _ _ _ _) _); (with_reducible refine of_eqO (c := ?kk) ?hk ?_); (case hk => with_reducible assumption))
  | ((with_reducible refine of_cal (c := ?kk) ?hk ?_); (case hk => with_reducible assumption)))
local macro_rules | `(tactic| walk_at "w") => `(tactic| repeat walk_at "w1")
theorem tk_lst {d : D} {S : Sto} {xs : List D} (h : lstOf d S = some xs) : tkD d S = some .lst := by
  cases d with
  | lst ys => rfl
  | loc m =>
    have h : (match S[m]? with | some (.lst xs) => some xs | _ => none) = some xs := h
    show (match S[m]? with | some (.lst _) => some TK.lst | some (.ins c _ _) => some (.obj c) | _ => none) = _
    cases q : S[m]? with
    | none => rw [q] at h; cases h
    | some o =>
      cases o with
      | lst ys => rfl
      | _ => rw [q] at h; cases h
  | _ => cases h
theorem isD_of {d : D} {S : Sto} {k : TK} {t : Ty} (h : tkD d S = some k) : isD d t S = some (isK k t) := by unfold isD; rw [h]; rfl
theorem isAny_of {d : D} {S : Sto} {k : TK} {ts : List Ty} (h : tkD d S = some k) : isAny d ts S = some (ts.any (isK k)) := by unfold isAny; rw [h]; rfl
theorem bf_len {d : D} {S : Sto} {xs : List D} (h : lstOf d S = some xs) : bfD .len [d] S = some (.int xs.length) := by
  cases d with
  | lst ys => cases h; rfl
  | loc m => show (lstOf (.loc m) S).map _ = _; rw [h]; rfl
  | _ => cases h
theorem blsOf_map : ∀ bs : List Bool, blsOf (bs.map D.bl) = some bs
  | [] => rfl
  | b :: bs => by simp [blsOf, blsOf_map bs]
theorem blsOf_all {xs : List D} (h : ∀ x ∈ xs, x = .bl true) : bfD .all [.lst xs] S = some (.bl true) := by
  have e : xs = (List.replicate xs.length true).map D.bl := by
    rw [List.map_replicate]
    exact List.eq_replicate_iff.mpr ⟨rfl, h⟩
  rw [e]
  show ((blsOf _).map fun bs => D.bl (bs.all id)) = _
  rw [blsOf_map]
  simp
/-- all([..]) of truth values -/
theorem bf_all {bs : List Bool} {S : Sto} : bfD .all [.lst (bs.map D.bl)] S = some (.bl (bs.all id)) := by
  show ((blsOf _).map fun bs => D.bl (bs.all id)) = _
  rw [blsOf_map]; rfl
theorem bf_any {bs : List Bool} {S : Sto} : bfD .any [.lst (bs.map D.bl)] S = some (.bl (bs.any id)) := by
  show ((blsOf _).map fun bs => D.bl (bs.any id)) = _
  rw [blsOf_map]; rfl
def sameIR (g : Nat) : List Itp.St := [
    .ifs (.isT (.var 1) [.list, .tuple]) [.ifs (.bop false [.cmp .ne (.isi (.var 0) .list) (.isi (.var 1) .list), .cmp .ne (.isi (.var 0) .tuple) (.isi (.var 1) .tuple)]) [.ret (.bl false)] [], .ret (.bop true [.cmp .eq (.bf .len [.var 0]) (.bf .len [.var 1]), .bf .all [.lc (.tup [.name 2, .name 3]) [2, 3] .zip [.var 0, .var 1] [] (.call g [.var 2, .var 3] [] ⟨2, false, [.pos 0, .pos 1]⟩)]])] [],
    .ifs (.bop false [.cmp .isN (.var 1) (.non), .cmp .isN (.var 0) (.non)]) [.ret (.bop true [.cmp .isN (.var 1) (.non), .cmp .isN (.var 0) (.non)])] [],
    .ifs (.bop false [.cmp .ne (.isi (.var 0) .bool) (.isi (.var 1) .bool), .cmp .ne (.isi (.var 0) .int) (.isi (.var 1) .int)]) [.ret (.bl false)] [],
    .ret (.bop true [.cmp .eq (.isi (.var 0) .str) (.isi (.var 1) .str), .cmp .eq (.var 0) (.var 1)])]
theorem ress_get {S : Sto} : ∀ {js : List J} {xs : List D}, Ress S js xs → ∀ {i : Nat}, i < xs.length → ∃ j ∈ js, Res S j (xs.getD i .non) ∧ js[i]? = some j
  | [], xs, h, i, hi => by
    have h : xs = [] := h
    subst h
    simp at hi
  | j :: js, xs, h, 0, hi => by
    obtain ⟨x, r, rfl, h1, h2⟩ := h
    exact ⟨j, List.mem_cons_self, h1, rfl⟩
  | j :: js, xs, h, i + 1, hi => by
    obtain ⟨x, r, rfl, h1, h2⟩ := h
    obtain ⟨j', k1, k2, k3⟩ := ress_get h2 (i := i) (by simpa using hi)
    exact ⟨j', List.mem_cons_of_mem _ k1, by simpa using k2, by simpa using k3⟩
theorem dps_mem : ∀ {js : List J} {j : J}, j ∈ js → j.dp ≤ J.dps js
  | [], j, h => by cases h
  | k :: js, j, h => by
    show j.dp ≤ max k.dp (J.dps js)
    rcases List.mem_cons.mp h with rfl | h
    · omega
    · have := dps_mem h
      omega
mutual
def J.sz : J → Bool
  | .l js => decide (js.length ≤ 16777216) && J.szs js
  | .t js => decide (js.length ≤ 16777216) && J.szs js
  | _ => true
def J.szs : List J → Bool
  | [] => true
  | j :: js => j.sz && J.szs js
end
theorem szs_mem : ∀ {js : List J} {j : J}, J.szs js = true → j ∈ js → j.sz = true
  | [], j, _, h => by cases h
  | k :: js, j, hs, h => by
    have hs : (k.sz && J.szs js) = true := hs
    rw [Bool.and_eq_true] at hs
    rcases List.mem_cons.mp h with rfl | h
    · exact hs.1
    · exact szs_mem hs.2 h
/-- two values that stand for the same data are found the same -/
theorem same_spec {P : List Fn} {f : Nat} (hP : P[f]? = some ⟨2, 4, sameIR f⟩) : ∀ (n : Nat) (j : J) (a b : D) (S : Sto), j.dp ≤ n → j.sz = true → Res S j a → Res S j b → callN P (n + 1) f [a, b] S = .ok (.bl true) S := by
  intro n
  induction n with
  | zero =>
    intro j a b S hn hz ha hb
    cases j with
    | l js => exact absurd hn (by show ¬ (J.dps js + 1 ≤ 0); omega)
    | t js => exact absurd hn (by show ¬ (J.dps js + 1 ≤ 0); omega)
    | n => cases ha; cases hb; exact call_pure hP rfl rfl
    | b k => cases ha; cases hb; cases k <;> exact call_pure hP rfl rfl
    | i k =>
      cases ha; cases hb
      refine eq_of_wp (wp_fn hP rfl ?_)
      dsimp only [List.map, Nat.sub, List.replicate, List.append, sameIR]
      walk_at "w"
      exact ⟨by simp [PyData.eqv], trim_self _ _⟩
    | s k =>
      cases ha; cases hb
      refine eq_of_wp (wp_fn hP rfl ?_)
      dsimp only [List.map, Nat.sub, List.replicate, List.append, sameIR]
      walk_at "w"
      exact ⟨by simp [PyData.eqv], trim_self _ _⟩
  | succ n ih =>
    intro j a b S hn hz ha hb
    have turns : ∀ (js : List J) (xs ys : List D), J.dps js ≤ n → J.szs js = true → Ress S js xs → Ress S js ys → ∀ z ∈ zipL xs ys, ∃ γ', setTg (.tup [.name 2, .name 3]) z (wipeG [some a, some b, none, none] [2, 3]) = some γ' ∧ turnE (callN P (n + 1)) [] (.call f [.var 2, .var 3] [] ⟨2, false, [.pos 0, .pos 1]⟩) γ' S = .ok (some (.bl true)) S := by
      intro js xs ys h1 h2 hx hy z hzz
      obtain ⟨k, hk, rfl⟩ := List.mem_map.mp hzz
      have hk := List.mem_range.mp hk
      obtain ⟨j1, m1, r1, e1⟩ := ress_get hx (i := k) (by omega)
      obtain ⟨j2, m2, r2, e2⟩ := ress_get hy (i := k) (by omega)
      rw [e1] at e2
      cases e2
      have := dps_mem m1
      refine ⟨_, rfl, eq_of_wp (wp_turn0 ?_)⟩
      walk_at "w"
      exact wp_eq (ih j1 _ _ S (by omega) (szs_mem h2 m1) r1 r2) ⟨rfl, rfl⟩
    cases j with
    | n => cases ha; cases hb; exact call_pure hP rfl rfl
    | b k => cases ha; cases hb; cases k <;> exact call_pure hP rfl rfl
    | i k =>
      cases ha; cases hb
      refine eq_of_wp (wp_fn hP rfl ?_)
      dsimp only [List.map, Nat.sub, List.replicate, List.append, sameIR]
      walk_at "w"
      exact ⟨by simp [PyData.eqv], trim_self _ _⟩
    | s k =>
      cases ha; cases hb
      refine eq_of_wp (wp_fn hP rfl ?_)
      dsimp only [List.map, Nat.sub, List.replicate, List.append, sameIR]
      walk_at "w"
      exact ⟨by simp [PyData.eqv], trim_self _ _⟩
    | l js =>
      obtain ⟨xs, hx1, hx2⟩ := ha
      obtain ⟨ys, hy1, hy2⟩ := hb
      have hn : J.dps js + 1 ≤ n + 1 := hn
      have hz : (decide (js.length ≤ 16777216) && J.szs js) = true := hz
      rw [Bool.and_eq_true, decide_eq_true_eq] at hz
      have lx := hx2.len
      have ly := hy2.len
      refine eq_of_wp (wp_fn hP rfl ?_)
      dsimp only [List.map, Nat.sub, List.replicate, List.append, sameIR]
      refine wfs_cons (wf_if (wp_isT (wp_var rfl ⟨_, isAny_of (tk_lst hy1), _, rfl, two_t rfl ?_⟩)))
      refine wfs_cons (wf_if (wp_bop (wpB_o (wp_cmp (wp_isi (wp_var rfl ⟨_, isD_of (tk_lst hx1), wp_isi (wp_var rfl ⟨_, isD_of (tk_lst hy1), _, rfl, _, rfl, two_f rfl ?_⟩)⟩))))))
      refine wpB_one (wp_cmp (wp_isi (wp_var rfl ⟨_, isD_of (tk_lst hx1), wp_isi (wp_var rfl ⟨_, isD_of (tk_lst hy1), _, rfl, _, rfl, two_f rfl ?_⟩)⟩)))
      refine wfs_nil (wfs_cons (wf_ret (wp_bop (wpB_a (wp_cmp (wp_bf (wps_cons rfl (wp_var rfl (wps_nil ⟨_, bf_len hx1, wp_bf (wps_cons rfl (wp_var rfl (wps_nil ⟨_, bf_len hy1, _, rfl, _, rfl, two_t ?_ ?_⟩)))⟩)))))))))
      · show PyData.eqv (.int _) (.int _) = true
        rw [← lx, ← ly]
        simp [PyData.eqv]
      refine wpB_one (wp_bf (wps_cons rfl (wp_lcP (wps_cons rfl (wp_var rfl (wps_cons rfl (wp_var rfl (wps_nil ⟨_, fun _ => some (.bl true), its_zipL hx1 hy1, ?_, turns js xs ys (by omega) hz.2 hx2 hy2, wps_nil ⟨_, blsOf_all ?_, rfl, trim_self _ _⟩⟩))))))))
      · rw [List.length_map, List.length_range]; omega
      · intro x hx
        obtain ⟨_, _, e⟩ := List.mem_filterMap.mp hx
        exact (Option.some.inj e).symm
    | t js =>
      obtain ⟨xs, rfl, hx2⟩ := ha
      obtain ⟨ys, rfl, hy2⟩ := hb
      have hn : J.dps js + 1 ≤ n + 1 := hn
      have hz : (decide (js.length ≤ 16777216) && J.szs js) = true := hz
      rw [Bool.and_eq_true, decide_eq_true_eq] at hz
      have lx := hx2.len
      have ly := hy2.len
      refine eq_of_wp (wp_fn hP rfl ?_)
      dsimp only [List.map, Nat.sub, List.replicate, List.append, sameIR]
      walk_at "w"
      refine two_t ?_ ?_
      · show PyData.eqv (.int _) (.int _) = true
        rw [← lx, ← ly]
        simp [PyData.eqv]
      walk_at "w"
      refine wp_lcP (wps_cons rfl (wp_var rfl (wps_cons rfl (wp_var rfl (wps_nil ⟨_, fun _ => some (.bl true), its_zipT, ?_, turns js xs ys (by omega) hz.2 hx2 hy2, wps_nil ⟨_, blsOf_all ?_, rfl, trim_self _ _⟩⟩)))))
      · rw [List.length_map, List.length_range]; omega
      · intro x hx
        obtain ⟨_, _, e⟩ := List.mem_filterMap.mp hx
        exact (Option.some.inj e).symm
end Itp
namespace Itp
open PySem L2
local macro_rules | `(tactic| walk_at "w1") => `(tactic| first
  | ((with_reducible show WP (ev _ _ _ _) _); first
    | ((with_reducible show WP (ev _ (E.var _) _ _) _); refine wp_var rfl ?_)
    | with_reducible refine wp_int ?_
    | with_reducible refine wp_str ?_
    | with_reducible refine wp_bl ?_
    | with_reducible refine wp_non ?_
    | with_reducible refine wp_idx ?_
    | with_reducible refine wp_bin ?_
    | with_reducible refine wp_call ?_
    | with_reducible refine wp_lst ?_
    | with_reducible refine wp_cmp ?_
    | with_reducible refine wp_tup ?_
    | with_reducible refine wp_slc ?_
    | with_reducible refine wp_bf ?_
    | with_reducible refine wp_not ?_
    | with_reducible refine wp_isi ?_
    | with_reducible refine wp_bop ?_
    | with_reducible refine wp_bm ?_
    | with_reducible refine wp_gint ?_
    | with_reducible refine wp_gstr ?_
    | with_reducible refine wp_neg ?_
    | with_reducible refine wp_chn ?_
    | with_reducible refine wp_ite ?_
    | with_reducible refine wp_new ?_
    | with_reducible refine wp_isT ?_
    | with_reducible refine wp_frz ?_
    | with_reducible refine wp_trk ?_
    | with_reducible refine wp_mth ?_
    | with_reducible refine wp_smt ?_
    | with_reducible refine wp_cmt ?_
    | with_reducible refine wp_mk ?_
    | with_reducible refine wp_att ?_
    | with_reducible refine wp_cst ?_
    | with_reducible refine wp_own ?_
    | with_reducible refine wp_fst ?_)
  | ((with_reducible show WP (evs _ _ _ _) _); first
    | with_reducible refine wps_nil ?_
    | ((with_reducible show WP (evs _ (E.star _ :: _) _ _) _); refine wps_star ?_)
    | ((with_reducible show WP (evs _ (_ :: _) _ _) _); refine wps_cons rfl ?_))
  | ((with_reducible show WF (exs _ _ _ _) _ _ _); first
    | with_reducible refine wfs_cons ?_
    | with_reducible refine wfs_nil ?_)
  | ((with_reducible show WF (ex _ _ _ _) _ _ _); first
    | with_reducible refine wf_set ?_
    | with_reducible refine wf_asg ?_
    | with_reducible refine wf_par ?_
    | with_reducible refine wf_idx ?_
    | with_reducible refine wf_expr ?_
    | with_reducible refine wf_ret ?_
    | with_reducible refine wf_if ?_
    | with_reducible refine wf_retN ?_
    | with_reducible refine wf_cont ?_
    | with_reducible refine wf_pass ?_
    | with_reducible refine wf_flds ?_)
  | ((with_reducible show WP (evB _ _ _ _ _) _); first
    | with_reducible refine wpB_a ?_
    | with_reducible refine wpB_o ?_
    | with_reducible refine wpB_one ?_)
  | ((with_reducible show WP (evO _ _ _ _) _); first
    | with_reducible refine wpO_none ?_
    | with_reducible refine wpO_some ?_)
  | ((with_reducible show WP (trkD (D.lst _) _) _); refine wp_trkL ?_)
  | ((with_reducible show WP (attD _ _ _ _ _) _); first
    | refine wp_fld rfl rfl rfl ?_
    | refine wp_prp rfl rfl ?_
    | refine wp_acon rfl rfl rfl ?_)
  | ((with_reducible show WP (ownD _ OK.eq _ _ _ _) _); refine wp_oeq ?_)
  | ((with_reducible show WP (ownD _ OK.ne _ _ _ _) _); refine wp_one ?_)
  | ((with_reducible show Exists _); first
    | ((with_reducible show ∃ z, truD _ _ = some z ∧ _); refine ⟨_, rfl, ?_⟩)
    | ((with_reducible show ∃ z, cmpD _ _ _ _ = some z ∧ _); refine ⟨_, rfl, ?_⟩)
    | ((with_reducible show ∃ z, idxD _ _ _ = some z ∧ _); refine ⟨_, rfl, ?_⟩)
    | ((with_reducible show ∃ z, slcD _ _ _ _ = some z ∧ _); refine ⟨_, rfl, ?_⟩)
    | ((with_reducible show ∃ z, isD _ _ _ = some z ∧ _); refine ⟨_, rfl, ?_⟩)
    | ((with_reducible show ∃ z, isAny _ _ _ = some z ∧ _); refine ⟨_, rfl, ?_⟩)
    | ((with_reducible show ∃ z, bfD _ _ _ = some z ∧ _); refine ⟨_, rfl, ?_⟩)
    | ((with_reducible show ∃ z, bindP _ _ _ = some z ∧ _); refine ⟨_, rfl, ?_⟩)
    | ((with_reducible show ∃ z, setTg _ _ _ = some z ∧ _); refine ⟨_, rfl, ?_⟩)
    | ((with_reducible show ∃ z, binD BO.add (D.int _) (D.int _) _ = some z ∧ _); refine ⟨_, rfl, ?_⟩)
    | ((with_reducible show ∃ z, binD BO.sub _ _ _ = some z ∧ _); refine ⟨_, rfl, ?_⟩)
    | ((with_reducible show ∃ z, binD BO.mul (D.int _) (D.int _) _ = some z ∧ _); refine ⟨_, rfl, ?_⟩)
    | ((with_reducible show ∃ z, binD BO.mod _ _ _ = some z ∧ _); refine ⟨_, rfl, ?_⟩)
    | ((with_reducible show ∃ z, binD BO.fdiv _ _ _ = some z ∧ _); refine ⟨_, rfl, ?_⟩)
    | ((with_reducible show ∃ z, binD BO.pow _ _ _ = some z ∧ _); refine ⟨_, rfl, ?_⟩)
    | ((with_reducible show ∃ p, insOf _ _ = some p ∧ _); refine ⟨_, rfl, rfl, _, rfl, ?_⟩)
    | ((with_reducible show ∃ z, D.int _ = D.int z ∧ _); refine ⟨_, rfl, ?_⟩)
    | ((with_reducible show ∃ z, D.loc _ = D.loc z ∧ _); refine ⟨_, rfl, ?_⟩)
    | ((with_reducible show ∃ z, D.lst _ = D.lst z ∧ _); refine ⟨_, rfl, ?_⟩))
  | ((with_reducible show And _ _); first
    | ((with_reducible show List.length _ ≤ 16777216 ∧ _); refine ⟨Nat.le_of_ble_eq_true rfl, ?_⟩)
    | ((with_reducible refine two_t ?hk ?_); (case hk => exact rfl))
    | ((with_reducible refine two_f ?hk ?_); (case hk => exact rfl)))
  | ((with_reducible show WP (mkD _ _ _ _ _ _ _ _) _); (with_reducible refine of_mkD (k := ?kk) ?hk ?_); (case hk => with_reducible assumption))
  | ((with_reducible show WP (eqO _ _ _ _ _ _ _) _); (with_reducible refine of_eqO (c := ?kk) ?hk ?_); (case hk => with_reducible assumption))
  | ((with_reducible refine of_cal (c := ?kk) ?hk ?_); (case hk => with_reducible assumption)))
local macro_rules | `(tactic| walk_at "w") => `(tactic| repeat walk_at "w1")
/-! ### the store -/
theorem lstOf_app {d : D} {S T : Sto} {xs : List D} (h : lstOf d S = some xs) : lstOf d (S ++ T) = some xs := by
  cases d with
  | lst ys => exact h
  | loc m =>
    have h : (match S[m]? with | some (.lst xs) => some xs | _ => none) = some xs := h
    show (match (S ++ T)[m]? with | some (.lst xs) => some xs | _ => none) = some xs
    cases q : S[m]? with
    | none => rw [q] at h; cases h
    | some o =>
      rw [List.getElem?_append_left (List.getElem?_eq_some_iff.mp q).1, q]
      rw [q] at h
      exact h
  | _ => cases h
theorem seqOf_app {d : D} {S T : Sto} {xs : List D} (h : seqOf d S = some xs) : seqOf d (S ++ T) = some xs := by
  cases d with
  | tup ys => exact h
  | lst ys => exact h
  | loc m => exact lstOf_app (d := .loc m) h
  | _ => cases h
theorem seq_lst {d : D} {S : Sto} {xs : List D} (h : lstOf d S = some xs) : seqOf d S = some xs := by
  cases d with
  | tup ys => cases h
  | _ => exact h
theorem seq_len {d : D} {S : Sto} {xs : List D} (h : seqOf d S = some xs) : bfD .len [d] S = some (.int xs.length) := by
  cases d with
  | tup ys => cases h; rfl
  | _ => exact bf_len h
theorem seq_tuple {d : D} {S : Sto} {xs : List D} (h : seqOf d S = some xs) : bfD .tuple [d] S = some (.tup xs) := by
  cases d with
  | tup ys => cases h; rfl
  | lst ys => cases h; rfl
  | loc m => show (lstOf (.loc m) S).map D.tup = _; rw [show lstOf (.loc m) S = some xs from h]; rfl
  | _ => cases h
theorem seq_list {d : D} {S : Sto} {xs : List D} (h : seqOf d S = some xs) : bfD .list [d] S = some (.lst xs) := by
  cases d with
  | tup ys => cases h; rfl
  | lst ys => cases h; rfl
  | loc m => show (lstOf (.loc m) S).map D.lst = _; rw [show lstOf (.loc m) S = some xs from h]; rfl
  | _ => cases h
theorem seq_tk {d : D} {S : Sto} {xs : List D} (h : seqOf d S = some xs) : tkD d S = some .lst ∨ tkD d S = some .tup := by
  cases d with
  | tup ys => exact .inr rfl
  | lst ys => exact .inl rfl
  | loc m => exact .inl (tk_lst h)
  | _ => cases h
mutual
theorem low_mono {n m : Nat} (h : n ≤ m) : ∀ d : D, d.low n = true → d.low m = true
  | .loc k, e => by
    have e : decide (k < n) = true := e
    show decide (k < m) = true
    simp at e ⊢
    omega
  | .lst xs, e => lows_mono h xs e
  | .tup xs, e => lows_mono h xs e
  | .obj _ _ xs, e => lows_mono h xs e
  | .dK _ xs, e => lows_mono h xs e
  | .dT _ xs, e => lows_mono h xs e
  | .non, _ => rfl
  | .bl _, _ => rfl
  | .int _, _ => rfl
  | .str _, _ => rfl
  | .scr _, _ => rfl
  | .cls _, _ => rfl
theorem lows_mono {n m : Nat} (h : n ≤ m) : ∀ ds : List D, D.lows n ds = true → D.lows m ds = true
  | [], _ => rfl
  | d :: ds, e => by
    have e : (d.low n && D.lows n ds) = true := e
    rw [Bool.and_eq_true] at e
    show (d.low m && D.lows m ds) = true
    rw [low_mono h d e.1, lows_mono h ds e.2]; rfl
end
theorem solow_mono {n m : Nat} (h : n ≤ m) : ∀ o : SO, o.low n = true → o.low m = true
  | .lst xs, e => lows_mono h xs e
  | .ins _ _ xs, e => lows_mono h xs e
  | .dK _ xs, e => lows_mono h xs e
  | .dT _ xs, e => lows_mono h xs e
  | .dead, _ => rfl
theorem lows_of {n : Nat} : ∀ {ds : List D}, (∀ d ∈ ds, d.low n = true) → D.lows n ds = true
  | [], _ => rfl
  | d :: ds, h => by
    show (d.low n && D.lows n ds) = true
    rw [h d List.mem_cons_self, lows_of fun x hx => h x (List.mem_cons_of_mem _ hx)]; rfl
theorem lows_app {n : Nat} : ∀ {xs ys : List D}, D.lows n xs = true → D.lows n ys = true → D.lows n (xs ++ ys) = true
  | [], _, _, h => h
  | d :: ds, ys, h, h2 => by
    have h : (d.low n && D.lows n ds) = true := h
    rw [Bool.and_eq_true] at h
    show (d.low n && D.lows n (ds ++ ys)) = true
    rw [h.1, lows_app h.2 h2]; rfl
mutual
theorem low_J (n : Nat) : ∀ j : J, j.d.low n = true
  | .n => rfl
  | .b _ => rfl
  | .i _ => rfl
  | .s _ => rfl
  | .l js => lows_J n js
  | .t js => lows_J n js
theorem lows_J (n : Nat) : ∀ js : List J, D.lows n (J.ds js) = true
  | [] => rfl
  | j :: js => by
    show (j.d.low n && D.lows n (J.ds js)) = true
    rw [low_J n j, lows_J n js]; rfl
end
/-- no place beyond the store -/
def Low (S : Sto) : Prop := ∀ o ∈ S, o.low S.length = true
theorem Low.app {S : Sto} {o : SO} (h : Low S) (ho : o.low (S.length + 1) = true) : Low (S ++ [o]) := by
  intro x hx
  rw [List.length_append]
  rcases List.mem_append.mp hx with hx | hx
  · exact solow_mono (by simp) x (h x hx)
  · rw [List.mem_singleton.mp hx]; exact ho
theorem Low.set {S : Sto} {o : SO} {n : Nat} (h : Low S) (ho : o.low S.length = true) : Low (S.set n o) := by
  intro x hx
  rw [List.length_set]
  rcases List.mem_or_eq_of_mem_set hx with hx | rfl
  · exact h x hx
  · exact ho
theorem trim_cut {A T : Sto} {d : D} {n : Nat} (hn : A.length = n) (hd : d.low n = true) (h : Low A) : trim n d (A ++ T) = A := by
  subst hn
  unfold trim
  by_cases ht : T = []
  · subst ht
    rw [List.append_nil, if_pos (Nat.le_refl _)]
  · have hp : 0 < T.length := List.length_pos_iff.mpr ht
    rw [if_neg (by rw [List.length_append]; omega), List.take_left]
    rw [if_pos]
    rw [hd, Bool.true_and]
    exact List.all_eq_true.mpr h
/-! ### rows of ints -/
def tuI (r : List Int) : D := .tup (r.map .int)
def juI (r : List Int) : J := .t (r.map .i)
def lT (rows : List (List Int)) : D := .lst (rows.map tuI)
def jT (rows : List (List Int)) : J := .l (rows.map juI)
theorem ress_map {β : Type} {S : Sto} {f : β → J} {g : β → D} : ∀ {l : List β}, (∀ x ∈ l, Res S (f x) (g x)) → Ress S (l.map f) (l.map g)
  | [], _ => rfl
  | x :: l, h => ⟨g x, l.map g, rfl, h x List.mem_cons_self, ress_map fun y hy => h y (List.mem_cons_of_mem _ hy)⟩
theorem ress_ints {S : Sto} {r : List Int} : Ress S (r.map .i) (r.map .int) := ress_map fun _ _ => rfl
theorem res_tuI {S : Sto} {r : List Int} : Res S (juI r) (tuI r) := ⟨_, rfl, ress_ints⟩
theorem ress_rows {S : Sto} {rows : List (List Int)} : Ress S (rows.map juI) (rows.map tuI) := ress_map fun _ _ => res_tuI
theorem res_lT {S : Sto} {rows : List (List Int)} : Res S (jT rows) (lT rows) := ⟨_, rfl, ress_rows⟩
theorem dps_le {js : List J} {n : Nat} (h : ∀ j ∈ js, j.dp ≤ n) : J.dps js ≤ n := by
  induction js with
  | nil => exact Nat.zero_le _
  | cons j js ih =>
    show max j.dp (J.dps js) ≤ n
    have h1 := h j List.mem_cons_self
    have h2 := ih fun x hx => h x (List.mem_cons_of_mem _ hx)
    omega
theorem bfs_of {js : List J} (h : ∀ j ∈ js, j.bf = true) : J.bfs js = true := by
  induction js with
  | nil => rfl
  | cons j js ih =>
    show (j.bf && J.bfs js) = true
    rw [h j List.mem_cons_self, ih fun x hx => h x (List.mem_cons_of_mem _ hx)]; rfl
theorem szs_of {js : List J} (h : ∀ j ∈ js, j.sz = true) : J.szs js = true := by
  induction js with
  | nil => rfl
  | cons j js ih =>
    show (j.sz && J.szs js) = true
    rw [h j List.mem_cons_self, ih fun x hx => h x (List.mem_cons_of_mem _ hx)]; rfl
theorem dps_mapJ {β : Type} {f : β → J} {l : List β} {n : Nat} (h : ∀ x ∈ l, (f x).dp ≤ n) : J.dps (l.map f) ≤ n := dps_le fun j hj => by
  obtain ⟨x, hx, rfl⟩ := List.mem_map.mp hj
  exact h x hx
theorem bfs_map {β : Type} {f : β → J} {l : List β} (h : ∀ x ∈ l, (f x).bf = true) : J.bfs (l.map f) = true := bfs_of fun j hj => by
  obtain ⟨x, hx, rfl⟩ := List.mem_map.mp hj
  exact h x hx
theorem szs_map {β : Type} {f : β → J} {l : List β} (h : ∀ x ∈ l, (f x).sz = true) : J.szs (l.map f) = true := szs_of fun j hj => by
  obtain ⟨x, hx, rfl⟩ := List.mem_map.mp hj
  exact h x hx
theorem dp_jI (r : List Int) : (juI r).dp ≤ 1 := by
  show J.dps (r.map .i) + 1 ≤ 1
  have := dps_mapJ (f := J.i) (l := r) (n := 0) fun _ _ => Nat.le_refl _
  omega
theorem dp_jT (rows : List (List Int)) : (jT rows).dp ≤ 2 := by
  show J.dps (rows.map juI) + 1 ≤ 2
  have := dps_mapJ (f := juI) (l := rows) (n := 1) fun r _ => dp_jI r
  omega
theorem bf_jI (r : List Int) : (juI r).bf = true := bfs_map fun _ _ => rfl
theorem bf_jT (rows : List (List Int)) : (jT rows).bf = true := bfs_map fun r _ => bf_jI r
theorem sz_jI {r : List Int} (h : r.length ≤ 1000) : (juI r).sz = true := by
  show (decide ((r.map J.i).length ≤ 16777216) && J.szs (r.map J.i)) = true
  rw [szs_map fun _ _ => rfl, List.length_map]
  simp; omega
theorem sz_jT {rows : List (List Int)} (h : rows.length ≤ 1000) (h2 : ∀ r ∈ rows, r.length ≤ 1000) : (jT rows).sz = true := by
  show (decide ((rows.map juI).length ≤ 16777216) && J.szs (rows.map juI)) = true
  rw [szs_map fun r hr => sz_jI (h2 r hr), List.length_map]
  simp; omega
theorem map_inj {β δ : Type} {f : β → δ} (hf : ∀ x y, f x = f y → x = y) : ∀ {a b : List β}, a.map f = b.map f → a = b
  | [], [], _ => rfl
  | [], _ :: _, h => by cases h
  | _ :: _, [], h => by cases h
  | x :: a, y :: b, h => by
    have h := List.cons.inj h
    rw [hf x y h.1, map_inj hf h.2]
theorem jI_inj {a b : List Int} (h : juI a = juI b) : a = b := map_inj (fun _ _ e => J.i.inj e) (J.t.inj h)
theorem jT_inj {a b : List (List Int)} (h : jT a = jT b) : a = b := map_inj (fun _ _ e => jI_inj e) (J.l.inj h)
theorem low_ints (n : Nat) (l : List Int) : D.lows n (l.map D.int) = true := lows_of fun d hd => by
  obtain ⟨x, _, rfl⟩ := List.mem_map.mp hd
  rfl
theorem low_tuI (n : Nat) (r : List Int) : (tuI r).low n = true := low_ints n r
theorem lows_rows (n : Nat) (rows : List (List Int)) : D.lows n (rows.map tuI) = true := lows_of fun d hd => by
  obtain ⟨x, _, rfl⟩ := List.mem_map.mp hd
  exact low_tuI n x
theorem low_lT (n : Nat) (rows : List (List Int)) : (lT rows).low n = true := lows_rows n rows
theorem bool_iff {a b : Bool} (h : a = true ↔ b = true) : a = b := by
  cases a <;> cases b <;> simp_all
end Itp
namespace Itp
open PySem L2
local macro_rules | `(tactic| walk_at "w1") => `(tactic| first
  | ((with_reducible show WP (ev _ _ _ _) _); first
    | ((with_reducible show WP (ev _ (E.var _) _ _) _); refine wp_var rfl ?_)
    | with_reducible refine wp_int ?_
    | with_reducible refine wp_str ?_
    | with_reducible refine wp_bl ?_
    | with_reducible refine wp_non ?_
    | with_reducible refine wp_idx ?_
    | with_reducible refine wp_bin ?_
    | with_reducible refine wp_call ?_
    | with_reducible refine wp_lst ?_
    | with_reducible refine wp_cmp ?_
    | with_reducible refine wp_tup ?_
    | with_reducible refine wp_slc ?_
    | with_reducible refine wp_bf ?_
    | with_reducible refine wp_not ?_
    | with_reducible refine wp_isi ?_
    | with_reducible refine wp_bop ?_
    | with_reducible refine wp_bm ?_
    | with_reducible refine wp_gint ?_
    | with_reducible refine wp_gstr ?_
    | with_reducible refine wp_neg ?_
    | with_reducible refine wp_chn ?_
    | with_reducible refine wp_ite ?_
    | with_reducible refine wp_new ?_
    | with_reducible refine wp_isT ?_
    | with_reducible refine wp_frz ?_
    | with_reducible refine wp_trk ?_
    | with_reducible refine wp_mth ?_
    | with_reducible refine wp_smt ?_
    | with_reducible refine wp_cmt ?_
    | with_reducible refine wp_mk ?_
    | with_reducible refine wp_att ?_
    | with_reducible refine wp_cst ?_
    | with_reducible refine wp_own ?_
    | with_reducible refine wp_fst ?_)
  | ((with_reducible show WP (evs _ _ _ _) _); first
    | with_reducible refine wps_nil ?_
    | ((with_reducible show WP (evs _ (E.star _ :: _) _ _) _); refine wps_star ?_)
    | ((with_reducible show WP (evs _ (_ :: _) _ _) _); refine wps_cons rfl ?_))
  | ((with_reducible show WF (exs _ _ _ _) _ _ _); first
    | with_reducible refine wfs_cons ?_
    | with_reducible refine wfs_nil ?_)
  | ((with_reducible show WF (ex _ _ _ _) _ _ _); first
    | with_reducible refine wf_set ?_
    | with_reducible refine wf_asg ?_
    | with_reducible refine wf_par ?_
    | with_reducible refine wf_idx ?_
    | with_reducible refine wf_expr ?_
    | with_reducible refine wf_ret ?_
    | with_reducible refine wf_if ?_
    | with_reducible refine wf_retN ?_
    | with_reducible refine wf_cont ?_
    | with_reducible refine wf_pass ?_
    | with_reducible refine wf_flds ?_)
  | ((with_reducible show WP (evB _ _ _ _ _) _); first
    | with_reducible refine wpB_a ?_
    | with_reducible refine wpB_o ?_
    | with_reducible refine wpB_one ?_)
  | ((with_reducible show WP (evO _ _ _ _) _); first
    | with_reducible refine wpO_none ?_
    | with_reducible refine wpO_some ?_)
  | ((with_reducible show WP (trkD (D.lst _) _) _); refine wp_trkL ?_)
  | ((with_reducible show WP (attD _ _ _ _ _) _); first
    | refine wp_fld rfl rfl rfl ?_
    | refine wp_prp rfl rfl ?_
    | refine wp_acon rfl rfl rfl ?_)
  | ((with_reducible show WP (ownD _ OK.eq _ _ _ _) _); refine wp_oeq ?_)
  | ((with_reducible show WP (ownD _ OK.ne _ _ _ _) _); refine wp_one ?_)
  | ((with_reducible show Exists _); first
    | ((with_reducible show ∃ z, truD _ _ = some z ∧ _); refine ⟨_, rfl, ?_⟩)
    | ((with_reducible show ∃ z, cmpD _ _ _ _ = some z ∧ _); refine ⟨_, rfl, ?_⟩)
    | ((with_reducible show ∃ z, idxD _ _ _ = some z ∧ _); refine ⟨_, rfl, ?_⟩)
    | ((with_reducible show ∃ z, slcD _ _ _ _ = some z ∧ _); refine ⟨_, rfl, ?_⟩)
    | ((with_reducible show ∃ z, isD _ _ _ = some z ∧ _); refine ⟨_, rfl, ?_⟩)
    | ((with_reducible show ∃ z, isAny _ _ _ = some z ∧ _); refine ⟨_, rfl, ?_⟩)
    | ((with_reducible show ∃ z, bfD _ _ _ = some z ∧ _); refine ⟨_, rfl, ?_⟩)
    | ((with_reducible show ∃ z, bindP _ _ _ = some z ∧ _); refine ⟨_, rfl, ?_⟩)
    | ((with_reducible show ∃ z, setTg _ _ _ = some z ∧ _); refine ⟨_, rfl, ?_⟩)
    | ((with_reducible show ∃ z, binD BO.add (D.int _) (D.int _) _ = some z ∧ _); refine ⟨_, rfl, ?_⟩)
    | ((with_reducible show ∃ z, binD BO.sub _ _ _ = some z ∧ _); refine ⟨_, rfl, ?_⟩)
    | ((with_reducible show ∃ z, binD BO.mul (D.int _) (D.int _) _ = some z ∧ _); refine ⟨_, rfl, ?_⟩)
    | ((with_reducible show ∃ z, binD BO.mod _ _ _ = some z ∧ _); refine ⟨_, rfl, ?_⟩)
    | ((with_reducible show ∃ z, binD BO.fdiv _ _ _ = some z ∧ _); refine ⟨_, rfl, ?_⟩)
    | ((with_reducible show ∃ z, binD BO.pow _ _ _ = some z ∧ _); refine ⟨_, rfl, ?_⟩)
    | ((with_reducible show ∃ p, insOf _ _ = some p ∧ _); refine ⟨_, rfl, rfl, _, rfl, ?_⟩)
    | ((with_reducible show ∃ z, D.int _ = D.int z ∧ _); refine ⟨_, rfl, ?_⟩)
    | ((with_reducible show ∃ z, D.loc _ = D.loc z ∧ _); refine ⟨_, rfl, ?_⟩)
    | ((with_reducible show ∃ z, D.lst _ = D.lst z ∧ _); refine ⟨_, rfl, ?_⟩))
  | ((with_reducible show And _ _); first
    | ((with_reducible show List.length _ ≤ 16777216 ∧ _); refine ⟨Nat.le_of_ble_eq_true rfl, ?_⟩)
    | ((with_reducible refine two_t ?hk ?_); (case hk => exact rfl))
    | ((with_reducible refine two_f ?hk ?_); (case hk => exact rfl)))
  | ((with_reducible show WP (mkD _ _ _ _ _ _ _ _) _); (with_reducible refine of_mkD (k := ?kk) ?hk ?_); (case hk => with_reducible assumption))
  | ((with_reducible show WP (eqO _ _ _ _ _ _ _) _); (with_reducible refine of_eqO (c := ?kk) ?hk ?_); (case hk => with_reducible assumption))
  | ((with_reducible refine of_cal (c := ?kk) ?hk ?_); (case hk => with_reducible assumption)))
local macro_rules | `(tactic| walk_at "w") => `(tactic| repeat walk_at "w1")
/-! ### names.py, classes.py -/
def isListIR : List Itp.St := [.ret (.isT (.var 0) [.list, .tuple])]
def isNumIR : List Itp.St := [.ret (.bop true [.isi (.var 0) .int, .not (.isi (.var 0) .bool), .chn .le .le (.var 1) (.var 0) (.var 2)])]
def isRisIR : List Itp.St := [.ret (.bf .all [.lc (.tup [.name 1, .name 2]) [1, 2] .zip [.var 0, .slc (.var 0) (some (.int 1)) none] [] (.cmp .lt (.var 1) (.var 2))])]
def isClsIR (fl fn fr : Nat) : List Itp.St := [
    .ifs (.bop false [.not (.call fl [.var 0] [] ⟨1, false, [.pos 0]⟩), .cmp .eq (.bf .len [.var 0]) (.int 0), .not (.bf .all [.lc (.name 2) [2] .val [.var 0] [] (.call fn [.var 2, .int 0, .bin .sub (.var 1) (.int 1)] [] ⟨3, false, [.pos 0, .pos 1, .pos 2]⟩)])]) [.ret (.bl false)] [],
    .ret (.call fr [.var 0] [] ⟨1, false, [.pos 0]⟩)]
def clsInitIR (fn fc : Nat) : List Itp.St := [
    .ifs (.not (.call fn [.var 1, .int 1, .gint "MOST_STORES" (4)] [] ⟨3, false, [.pos 0, .pos 1, .pos 2]⟩)) [.never] [],
    .ifs (.not (.chn .le .le (.int 1) (.bf .len [.var 2]) (.gint "MOST_CLASSES" (6)))) [.never] [],
    .set 3 (.lst true []),
    .for (.tup [.name 4, .name 5]) .enum [.var 2] [.ifs (.bop false [.not (.call fc [.var 5, .var 1] [] ⟨2, false, [.pos 0, .pos 1]⟩), .cmp .inn (.bf .tuple [.var 5]) (.var 3)]) [.never] [], .expr (.bm .append (.var 3) [.bf .tuple [.var 5]])],
    .flds (.var 0) [0] [47, 35] [.var 1, .frz (.var 3)]]
def clsEqIR : List Itp.St := [
    .ifs (.not (.isi (.var 1) (.own 0 [0]))) [.ret (.bl false)] [],
    .ret (.bop true [.cmp .eq (.att (.var 0) 47 [(0, .fld)]) (.att (.var 1) 47 [(0, .fld)]), .cmp .eq (.att (.var 0) 35 [(0, .fld)]) (.att (.var 1) 35 [(0, .fld)])])]
def clsLenIR : List Itp.St := [.ret (.bf .len [.att (.var 0) 35 [(0, .fld)]])]
def clsReprIR : List Itp.St := [.ret (.fst [.str "Classes(", .bf .len [.att (.var 0) 35 [(0, .fld)]], .str " of ", .att (.var 0) 47 [(0, .fld)], .str " stores)"])]
def clsNeedIR (fn : Nat) : List Itp.St := [.ifs (.not (.call fn [.var 1, .int 0, .bin .sub (.att (.var 0) 47 [(0, .fld)]) (.int 1)] [] ⟨3, false, [.pos 0, .pos 1, .pos 2]⟩)) [.never] []]
section
variable {P : List Fn} {n : Nat} {S : Sto}
theorem is_list {f : Nat} (hP : P[f]? = some ⟨1, 1, isListIR⟩) {d : D} {xs : List D} (h : seqOf d S = some xs) : callN P (n + 1) f [d] S = .ok (.bl true) S := by
  refine eq_of_wp (wp_fn hP rfl ?_)
  dsimp only [List.map, Nat.sub, List.replicate, List.append, isListIR]
  walk_at "w"
  rcases seq_tk h with e | e
  · exact ⟨_, isAny_of e, rfl, trim_self _ _⟩
  · exact ⟨_, isAny_of e, rfl, trim_self _ _⟩
theorem is_num {f : Nat} (hP : P[f]? = some ⟨3, 3, isNumIR⟩) {i a b : Int} : callN P (n + 1) f [.int i, .int a, .int b] S = .ok (.bl (decide (a ≤ i) && decide (i ≤ b))) S := by
  refine eq_of_wp (wp_fn hP rfl ?_)
  dsimp only [List.map, Nat.sub, List.replicate, List.append, isNumIR]
  walk_at "w"
  exact ⟨_, _, rfl, rfl, rfl, trim_self _ _⟩
theorem is_num_t {f : Nat} (hP : P[f]? = some ⟨3, 3, isNumIR⟩) {i a b : Int} (h1 : a ≤ i) (h2 : i ≤ b) : callN P (n + 1) f [.int i, .int a, .int b] S = .ok (.bl true) S := by
  rw [is_num hP, decide_eq_true h1, decide_eq_true h2]; rfl
/-- strictly ascending -/
def asc (r : List Int) : Prop := ∀ k, k + 1 < r.length → r.getD k 0 < r.getD (k + 1) 0
theorem cut1 {β : Type} (xs : List β) : cutD xs (some 1) none = xs.drop 1 := by
  unfold cutD
  rw [HT.sIx_none]
  have e := HT.sIx_nat xs.length 0 1
  have e : HT.sIx xs.length 0 (some 1) = min 1 xs.length := e
  rw [e]
  cases xs with
  | nil => rfl
  | cons x r =>
    simp
theorem map_getD {r : List Int} {k : Nat} (h : k < r.length) : (r.map D.int).getD k .non = .int (r.getD k 0) := by simp [List.getD, h]
theorem is_ris {f : Nat} (hP : P[f]? = some ⟨1, 3, isRisIR⟩) {d : D} {r : List Int} (h : seqOf d S = some (r.map .int)) (hr : asc r) (hl : r.length ≤ 1000) : callN P (n + 1) f [d] S = .ok (.bl true) S := by
  have turns : ∀ z ∈ zipL (r.map D.int) (cutD (r.map D.int) (some 1) none), ∃ γ', setTg (.tup [.name 1, .name 2]) z (wipeG [some d, none, none] [1, 2]) = some γ' ∧ turnE (callN P n) [] (.cmp .lt (.var 1) (.var 2)) γ' S = .ok (some (.bl true)) S := by
    intro z hz
    obtain ⟨k, hk, rfl⟩ := List.mem_map.mp hz
    have hk := List.mem_range.mp hk
    rw [cut1] at hk ⊢
    rw [List.length_map, List.length_drop, List.length_map] at hk
    refine ⟨_, rfl, eq_of_wp (wp_turn0 ?_)⟩
    rw [map_getD (by omega), show ((r.map D.int).drop 1).getD k .non = .int (r.getD (k + 1) 0) by
      rw [← map_getD (by omega)]
      simp [List.getD, List.getElem?_drop, Nat.add_comm]]
    walk_at "w"
    rw [decide_eq_true (hr k (by omega))]
    exact ⟨rfl, rfl⟩
  have fin : ∀ z : List D, bfD .all [.lst (List.filterMap (fun _ => some (.bl true)) z)] S = some (.bl true) := fun z => blsOf_all fun x hx => by
    obtain ⟨_, _, e⟩ := List.mem_filterMap.mp hx
    exact (Option.some.inj e).symm
  have ln : (zipL (r.map D.int) (cutD (r.map D.int) (some 1) none)).length ≤ 16777216 := by
    rw [List.length_map, List.length_range, List.length_map]; omega
  refine eq_of_wp (wp_fn hP rfl ?_)
  dsimp only [List.map, Nat.sub, List.replicate, List.append, isRisIR]
  refine wfs_cons (wf_ret (wp_bf (wps_cons rfl (wp_lcP ?_))))
  cases d with
  | tup ys =>
    cases h
    walk_at "w"
    exact ⟨_, fun _ => some (.bl true), its_zipT, ln, turns, wps_nil ⟨_, fin _, rfl, trim_self _ _⟩⟩
  | lst ys =>
    cases h
    walk_at "w"
    exact ⟨_, fun _ => some (.bl true), its_zipL rfl rfl, ln, turns, wps_nil ⟨_, fin _, rfl, trim_self _ _⟩⟩
  | loc m =>
    refine wps_cons rfl (wp_var rfl (wps_cons rfl (wp_slc (wp_var rfl (wpO_some (wp_int ⟨_, rfl, wpO_none ?_⟩))))))
    have e : slcD (.loc m) (some 1) none S = some (.lst (cutD (r.map D.int) (some 1) none)) := by
      show (lstOf (.loc m) S).map _ = _
      rw [show lstOf (.loc m) S = some (r.map D.int) from h]; rfl
    refine ⟨_, e, wps_nil ?_⟩
    exact ⟨_, fun _ => some (.bl true), its_zipL h rfl, ln, turns, wps_nil ⟨_, fin _, rfl, trim_self _ _⟩⟩
  | _ => cases h
/-- a class over m stores -/
structure okR (m : Int) (r : List Int) : Prop where
  ne : 0 < r.length
  mo : r.length ≤ 4
  lo : ∀ x ∈ r, 0 ≤ x ∧ x < m
  as : asc r
theorem is_cls {f fl fn fr : Nat} (hP : P[f]? = some ⟨2, 3, isClsIR fl fn fr⟩) (hl : P[fl]? = some ⟨1, 1, isListIR⟩) (hn : P[fn]? = some ⟨3, 3, isNumIR⟩) (hr : P[fr]? = some ⟨1, 3, isRisIR⟩) {d : D} {m : Int} {r : List Int} (h : seqOf d S = some (r.map .int)) (ok : okR m r) : callN P (n + 2) f [d, .int m] S = .ok (.bl true) S := by
  have hm := ok.mo
  have turns : ∀ z ∈ r.map D.int, ∃ γ', setTg (.name 2) z (wipeG [some d, some (.int m), none] [2]) = some γ' ∧ turnE (callN P (n + 1)) [] (.call fn [.var 2, .int 0, .bin .sub (.var 1) (.int 1)] [] ⟨3, false, [.pos 0, .pos 1, .pos 2]⟩) γ' S = .ok (some (.bl true)) S := by
    intro z hz
    obtain ⟨x, hx, rfl⟩ := List.mem_map.mp hz
    obtain ⟨h1, h2⟩ := ok.lo x hx
    refine ⟨_, rfl, eq_of_wp (wp_turn0 ?_)⟩
    walk_at "w"
    exact wp_eq (is_num_t hn h1 (by omega)) ⟨rfl, rfl⟩
  have fin : ∀ z : List D, bfD .all [.lst (List.filterMap (fun _ => some (.bl true)) z)] S = some (.bl true) := fun z => blsOf_all fun x hx => by
    obtain ⟨_, _, e⟩ := List.mem_filterMap.mp hx
    exact (Option.some.inj e).symm
  refine eq_of_wp (wp_fn hP rfl ?_)
  dsimp only [List.map, Nat.sub, List.replicate, List.append, isClsIR]
  walk_at "w"
  refine wp_eq (is_list hl h) ⟨_, rfl, _, rfl, two_f rfl ?_⟩
  walk_at "w"
  refine ⟨_, seq_len h, ?_⟩
  walk_at "w"
  refine two_f ?_ ?_
  · show PyData.eqv (.int _) (.int 0) = false
    have := ok.ne
    have e := eqv_int ((r.map D.int).length : Int) 0
    rw [e]
    simp
    intro z
    subst z
    simp at this
  walk_at "w"
  refine wp_lcP (wps_cons rfl (wp_var rfl (wps_nil ⟨_, fun _ => some (.bl true), its_val h, ?_, turns, wps_nil ⟨_, fin _, _, rfl, _, rfl, two_f rfl ?_⟩⟩)))
  · rw [List.length_map]; omega
  walk_at "w"
  exact wp_eq (is_ris hr h ok.as (by omega)) ⟨rfl, trim_self _ _⟩
theorem bm_app {k : Nat} {xs : List D} {d : D} {S : Sto} (h : S[k]? = some (.lst xs)) (hl : xs.length < 16777216) : bmD .append (.loc k) [d] S = .ok .non (S.set k (.lst (xs ++ [d]))) := by
  show (match S[k]? with | some (.lst xs) => if xs.length < 16777216 then Out.ok D.non (S.set k (.lst (xs ++ [d]))) else .bad | _ => .bad) = _
  rw [h]; exact if_pos hl
theorem set_last {S : Sto} {o u : SO} : (S ++ [o]).set S.length u = S ++ [u] := by
  rw [List.set_append_right _ _ (Nat.le_refl _), Nat.sub_self]; rfl
theorem get_last {S : Sto} {o : SO} : (S ++ [o])[S.length]? = some o := by simp
/-- Classes as an object -/
def clsO (m : Int) (rows : List (List Int)) : D := .obj 0 [47, 35] [.int m, lT rows]
structure okC2 (m : Int) (rows : List (List Int)) : Prop where
  lo : 1 ≤ m
  hi : m ≤ 4
  ne : 1 ≤ rows.length
  mo : rows.length ≤ 6
  ok : ∀ r ∈ rows, okR m r
  nd : rows.Nodup
theorem enum_get {xs : List D} {j : Nat} {x : D} (h : (enumL xs)[j]? = some x) : j < xs.length ∧ x = .tup [.int j, xs.getD j .non] := by
  unfold enumL at h
  rw [List.getElem?_map] at h
  by_cases hj : j < xs.length
  · rw [List.getElem?_range hj] at h
    exact ⟨hj, (Option.some.inj h).symm⟩
  · rw [List.getElem?_eq_none (by simpa using hj)] at h
    cases h
theorem cls_init {f fl fn fr fc : Nat} (hP : P[f]? = some ⟨3, 6, clsInitIR fn fc⟩) (hc : P[fc]? = some ⟨2, 3, isClsIR fl fn fr⟩) (hl : P[fl]? = some ⟨1, 1, isListIR⟩) (hn : P[fn]? = some ⟨3, 3, isNumIR⟩) (hr : P[fr]? = some ⟨1, 3, isRisIR⟩) {ds : List D} {m : Int} {rows : List (List Int)} {k : Nat} (lw : Low S) (hk : S[k]? = some (.ins 0 [] [])) (ok : okC2 m rows) (hd : ds.length = rows.length) (hs : ∀ i, i < rows.length → seqOf (ds.getD i .non) S = some ((rows.getD i []).map .int)) :
    callN P (n + 3) f [.loc k, .int m, .tup ds] S = .ok .non (S.set k (.ins 0 [47, 35] [.int m, lT rows])) := by
  have hk' : k < S.length := (List.getElem?_eq_some_iff.mp hk).1
  refine eq_of_wp (wp_fn hP rfl ?_)
  dsimp only [List.map, Nat.sub, List.replicate, List.append, clsInitIR]
  walk_at "w"
  refine wp_eq (is_num_t hn ok.lo ok.hi) ⟨_, rfl, _, rfl, two_f rfl ?_⟩
  walk_at "w"
  refine ⟨_, _, rfl, rfl, _, rfl, _, rfl, two_f ?_ ?_⟩
  · have h1 := ok.ne
    have h2 := ok.mo
    simp
    omega
  walk_at "w"
  refine wf_for (wps_cons rfl (wp_var rfl (wps_nil ⟨_, rfl, ?_⟩)))
  refine wf_loop (fun j γ S' => ∃ x y, γ = [some (.loc k), some (.int m), some (.tup ds), some (.loc S.length), x, y] ∧ S' = S ++ [.lst ((rows.take j).map tuI)]) (i := 0) ⟨_, _, rfl, rfl⟩ ?_ ?_
  · rintro j x γ S' hx ⟨x4, x5, rfl, rfl⟩
    rw [Nat.zero_add] at *
    obtain ⟨hj, rfl⟩ := enum_get hx
    have hj' : j < rows.length := by omega
    have hseq := seqOf_app (T := [.lst ((rows.take j).map tuI)]) (hs j hj')
    generalize ds.getD j .non = dj at hseq
    have hrow : rows.getD j [] ∈ rows := by
      rw [List.getD_eq_getElem?_getD, List.getElem?_eq_getElem hj']
      exact List.getElem_mem hj'
    refine ⟨_, rfl, ?_⟩
    walk_at "w"
    refine wp_eq (is_cls hc hl hn hr hseq (ok.ok _ hrow)) ⟨_, rfl, _, rfl, two_f rfl ?_⟩
    walk_at "w"
    refine ⟨_, seq_tuple hseq, ?_⟩
    have hin := inD_lst (S := S ++ [.lst ((rows.take j).map tuI)]) (a := .tup ((rows.getD j []).map .int)) (b := .loc S.length) (res_tuI (r := rows.getD j [])) (show lstOf (.loc S.length) _ = some _ by
      show (match (S ++ [SO.lst ((rows.take j).map tuI)])[S.length]? with | some (.lst xs) => some xs | _ => none) = _
      rw [get_last]) (ress_rows (rows := rows.take j)) (Nat.le_trans (dp_jI _) (by decide)) (Nat.le_trans (dps_mapJ (n := 1) fun r _ => dp_jI r) (by decide))
    have hni : jin (juI (rows.getD j [])) ((rows.take j).map juI) = false := by
      apply Bool.eq_false_iff.mpr
      intro z
      rw [jin_iff (bf_jI _) (bfs_map fun r _ => bf_jI r)] at z
      obtain ⟨r, hr1, hr2⟩ := List.mem_map.mp z
      have e := jI_inj hr2
      subst e
      obtain ⟨i, hi, e2⟩ := List.mem_iff_getElem.mp hr1
      rw [List.length_take] at hi
      rw [List.getElem_take, List.getD_eq_getElem?_getD, List.getElem?_eq_getElem hj'] at e2
      have hi' : i < rows.length := by omega
      have h3 : rows[i]? = rows[j]? := by rw [List.getElem?_eq_getElem hi', List.getElem?_eq_getElem hj', e2]; rfl
      have := (List.getElem?_inj hi' ok.nd).mp h3
      omega
    rw [hni] at hin
    walk_at "w"
    refine ⟨_, hin, _, rfl, two_f rfl ?_⟩
    walk_at "w"
    refine ⟨?_, ?_⟩
    · show (lstOf (.loc S.length) _).isSome = true
      show (match (S ++ [SO.lst ((rows.take j).map tuI)])[S.length]? with | some (.lst xs) => some xs | _ => none).isSome = true
      rw [get_last]; rfl
    walk_at "w"
    refine ⟨_, seq_tuple hseq, ?_⟩
    walk_at "w"
    refine wp_eq (bm_app get_last ?_) ⟨_, _, rfl, ?_⟩
    · rw [List.length_map, List.length_take]
      have := ok.mo
      omega
    · rw [set_last]
      congr 2
      rw [List.take_succ, List.map_append, List.getD_eq_getElem?_getD, List.getElem?_eq_getElem hj']
      rfl
  · rintro γ S' ⟨x4, x5, rfl, rfl⟩
    rw [Nat.zero_add, show (enumL ds).length = rows.length by rw [List.length_map, List.length_range]; exact hd, List.take_length]
    walk_at "w"
    refine wp_frzL get_last ?_
    rw [set_last]
    walk_at "w"
    have hk2 : (S ++ [SO.dead])[k]? = some (.ins 0 [] []) := by rw [List.getElem?_append_left hk']; exact hk
    refine wp_put (c := 0) (vs := []) (ns := []) (n := k) rfl hk2 rfl (by decide) ?_
    refine wp_put (c := 0) (vs := [.int m]) (ns := [47]) (n := k) rfl (by rw [List.getElem?_set_self (by rw [List.length_append]; omega)]; rfl) rfl (by decide) (wp_put0 ?_)
    refine ⟨rfl, ?_⟩
    rw [List.set_set, List.set_append_left _ _ hk']
    exact trim_cut (by simp) rfl (lw.set (by
      show (D.low S.length (.int m) && (D.low S.length (lT rows) && true)) = true
      rw [low_lT]; rfl))
/-- Classes(m, *rows) -/
theorem cls_mk {f fl fn fr fc : Nat} (hP : P[f]? = some ⟨3, 6, clsInitIR fn fc⟩) (hc : P[fc]? = some ⟨2, 3, isClsIR fl fn fr⟩) (hl : P[fl]? = some ⟨1, 1, isListIR⟩) (hn : P[fn]? = some ⟨3, 3, isNumIR⟩) (hr : P[fr]? = some ⟨1, 3, isRisIR⟩) {ds : List D} {m : Int} {rows : List (List Int)} {Q : D → Sto → Prop} (lw : Low S) (ok : okC2 m rows) (hd : ds.length = rows.length) (hs : ∀ i, i < rows.length → seqOf (ds.getD i .non) S = some ((rows.getD i []).map .int)) (q : Q (clsO m rows) (S ++ [.dead])) :
    WP (mkD (callN P (n + 3)) false 0 f ⟨2, true, [.pos 0, .pos 1, .rest]⟩ (.int m :: ds) [] S) Q := by
  refine wp_mkD ⟨[.loc S.length, .int m, .tup ds], ?_, wp_eq (cls_init hP hc hl hn hr (lw.app rfl) get_last ok hd fun i hi => seqOf_app (hs i hi)) ?_⟩
  · have := ok.mo
    unfold bindP
    rw [if_pos (.inr ⟨rfl, by simp, by simp; omega⟩)]
    rfl
  · rw [set_last]
    refine ⟨rfl, _, _, _, get_last, ?_⟩
    rw [set_last]
    exact q
theorem cls_eq {f : Nat} (hP : P[f]? = some ⟨2, 2, clsEqIR⟩) {m m' : Int} {a b : List (List Int)} : ∃ k, (k = true ↔ m = m' ∧ a = b) ∧ callN P (n + 1) f [clsO m a, clsO m' b] S = .ok (.bl k) S := by
  refine ⟨jeq (.i m) (.i m') && jeq (jT a) (jT b), ?_, eq_of_wp (wp_fn hP rfl ?_)⟩
  · rw [Bool.and_eq_true, jeq_iff rfl rfl, jeq_iff (bf_jT _) (bf_jT _)]
    exact ⟨fun h => ⟨J.i.inj h.1, jT_inj h.2⟩, fun h => ⟨by rw [h.1], by rw [h.2]⟩⟩
  · dsimp only [List.map, Nat.sub, List.replicate, List.append, clsEqIR]
    walk_at "w"
    have e : eqD (lT a) (lT b) S = some (jeq (jT a) (jT b)) := eqD_res res_lT res_lT (Nat.le_trans (dp_jT _) (by decide)) (Nat.le_trans (dp_jT _) (by decide))
    refine ⟨fun h => ?_, fun h => ?_⟩
    · walk_at "w"
      refine ⟨_, e, ?_, trim_self _ _⟩
      rw [show jeq (.i m) (.i m') = true from h]; rfl
    · refine ⟨?_, trim_self _ _⟩
      show D.bl (PyData.eqv (.int m) (.int m')) = D.bl (jeq (.i m) (.i m') && _)
      rw [show jeq (.i m) (.i m') = false from h, h]; rfl
theorem cls_eq_no {f : Nat} (hP : P[f]? = some ⟨2, 2, clsEqIR⟩) {m : Int} {a : List (List Int)} {y : D} {k : TK} (h : tkD y S = some k) (hk : isK k (.own 0 [0]) = false) : callN P (n + 1) f [clsO m a, y] S = .ok (.bl false) S := by
  refine eq_of_wp (wp_fn hP rfl ?_)
  dsimp only [List.map, Nat.sub, List.replicate, List.append, clsEqIR]
  walk_at "w"
  refine ⟨_, isD_of h, _, rfl, _, rfl, two_t ?_ ?_⟩
  · rw [hk]; rfl
  walk_at "w"
  exact ⟨rfl, trim_self _ _⟩
theorem cls_len {f : Nat} (hP : P[f]? = some ⟨1, 1, clsLenIR⟩) {m : Int} {a : List (List Int)} : callN P (n + 1) f [clsO m a] S = .ok (.int a.length) S := by
  refine eq_of_wp (wp_fn hP rfl ?_)
  dsimp only [List.map, Nat.sub, List.replicate, List.append, clsLenIR]
  walk_at "w"
  exact ⟨by dsimp only; rw [List.length_map], trim_self _ _⟩
theorem len_small {i : Int} (h1 : 0 ≤ i) (h2 : i ≤ 9) : Str.length (toString i : Str) = 1 := by
  have : i = 0 ∨ i = 1 ∨ i = 2 ∨ i = 3 ∨ i = 4 ∨ i = 5 ∨ i = 6 ∨ i = 7 ∨ i = 8 ∨ i = 9 := by omega
  rcases this with rfl | rfl | rfl | rfl | rfl | rfl | rfl | rfl | rfl | rfl <;> decide +kernel
def clsText (m k : Int) : Str := ((("Classes(" ++ (toString k : Str) : Str) ++ (" of " : Str)) ++ (toString m : Str)) ++ (" stores)" : Str)
theorem len_app (a b : Str) : (a ++ b).length = a.length + b.length := by
  show (a.cps ++ b.cps).size = _
  simp
  rfl
theorem cls_repr {f : Nat} (hP : P[f]? = some ⟨1, 1, clsReprIR⟩) {m : Int} {a : List (List Int)} (hm : 1 ≤ m) (hm2 : m ≤ 4) (ha : a.length ≤ 6) : callN P (n + 1) f [clsO m a] S = .ok (.str (clsText m a.length)) S := by
  refine eq_of_wp (wp_fn hP rfl ?_)
  dsimp only [List.map, Nat.sub, List.replicate, List.append, clsReprIR]
  walk_at "w"
  refine ⟨_, ?_, rfl, trim_self _ _⟩
  have l1 := len_small (i := (a.length : Int)) (by omega) (by omega)
  have l2 := len_small (i := m) (by omega) (by omega)
  have c1 : Str.length ("Classes(" : Str) = 8 := by decide +kernel
  have c2 : Str.length (" of " : Str) = 4 := by decide +kernel
  have c3 : Str.length (" stores)" : Str) = 8 := by decide +kernel
  have c0 : Str.empty ++ ("Classes(" : Str) = ("Classes(" : Str) := by decide +kernel
  dsimp only
  rw [List.length_map]
  unfold fstD
  rw [if_pos (by rw [c1]; decide), c0]
  unfold fstD
  rw [if_pos ⟨by omega, by rw [c1, l1]; decide⟩]
  unfold fstD
  rw [if_pos (by rw [len_app, c1, l1, c2]; decide)]
  unfold fstD
  rw [if_pos ⟨by omega, by rw [len_app, len_app, c1, l1, c2, l2]; decide⟩]
  unfold fstD
  rw [if_pos (by rw [len_app, len_app, len_app, c1, l1, c2, l2, c3]; decide)]
  rfl
end
end Itp
namespace Itp
open PySem L2
local macro_rules | `(tactic| walk_at "w1") => `(tactic| first
  | ((with_reducible show WP (ev _ _ _ _) _); first
    | ((with_reducible show WP (ev _ (E.var _) _ _) _); refine wp_var rfl ?_)
    | with_reducible refine wp_int ?_
    | with_reducible refine wp_str ?_
    | with_reducible refine wp_bl ?_
    | with_reducible refine wp_non ?_
    | with_reducible refine wp_idx ?_
    | with_reducible refine wp_bin ?_
    | with_reducible refine wp_call ?_
    | with_reducible refine wp_lst ?_
    | with_reducible refine wp_cmp ?_
    | with_reducible refine wp_tup ?_
    | with_reducible refine wp_slc ?_
    | with_reducible refine wp_bf ?_
    | with_reducible refine wp_not ?_
    | with_reducible refine wp_isi ?_
    | with_reducible refine wp_bop ?_
    | with_reducible refine wp_bm ?_
    | with_reducible refine wp_gint ?_
    | with_reducible refine wp_gstr ?_
    | with_reducible refine wp_neg ?_
    | with_reducible refine wp_chn ?_
    | with_reducible refine wp_ite ?_
    | with_reducible refine wp_new ?_
    | with_reducible refine wp_isT ?_
    | with_reducible refine wp_frz ?_
    | with_reducible refine wp_trk ?_
    | with_reducible refine wp_mth ?_
    | with_reducible refine wp_smt ?_
    | with_reducible refine wp_cmt ?_
    | with_reducible refine wp_mk ?_
    | with_reducible refine wp_att ?_
    | with_reducible refine wp_cst ?_
    | with_reducible refine wp_own ?_
    | with_reducible refine wp_fst ?_)
  | ((with_reducible show WP (evs _ _ _ _) _); first
    | with_reducible refine wps_nil ?_
    | ((with_reducible show WP (evs _ (E.star _ :: _) _ _) _); refine wps_star ?_)
    | ((with_reducible show WP (evs _ (_ :: _) _ _) _); refine wps_cons rfl ?_))
  | ((with_reducible show WF (exs _ _ _ _) _ _ _); first
    | with_reducible refine wfs_cons ?_
    | with_reducible refine wfs_nil ?_)
  | ((with_reducible show WF (ex _ _ _ _) _ _ _); first
    | with_reducible refine wf_set ?_
    | with_reducible refine wf_asg ?_
    | with_reducible refine wf_par ?_
    | with_reducible refine wf_idx ?_
    | with_reducible refine wf_expr ?_
    | with_reducible refine wf_ret ?_
    | with_reducible refine wf_if ?_
    | with_reducible refine wf_retN ?_
    | with_reducible refine wf_cont ?_
    | with_reducible refine wf_pass ?_
    | with_reducible refine wf_flds ?_)
  | ((with_reducible show WP (evB _ _ _ _ _) _); first
    | with_reducible refine wpB_a ?_
    | with_reducible refine wpB_o ?_
    | with_reducible refine wpB_one ?_)
  | ((with_reducible show WP (evO _ _ _ _) _); first
    | with_reducible refine wpO_none ?_
    | with_reducible refine wpO_some ?_)
  | ((with_reducible show WP (trkD (D.lst _) _) _); refine wp_trkL ?_)
  | ((with_reducible show WP (attD _ _ _ _ _) _); first
    | refine wp_fld rfl rfl rfl ?_
    | refine wp_prp rfl rfl ?_
    | refine wp_acon rfl rfl rfl ?_)
  | ((with_reducible show WP (ownD _ OK.eq _ _ _ _) _); refine wp_oeq ?_)
  | ((with_reducible show WP (ownD _ OK.ne _ _ _ _) _); refine wp_one ?_)
  | ((with_reducible show Exists _); first
    | ((with_reducible show ∃ z, truD _ _ = some z ∧ _); refine ⟨_, rfl, ?_⟩)
    | ((with_reducible show ∃ z, cmpD _ _ _ _ = some z ∧ _); refine ⟨_, rfl, ?_⟩)
    | ((with_reducible show ∃ z, idxD _ _ _ = some z ∧ _); refine ⟨_, rfl, ?_⟩)
    | ((with_reducible show ∃ z, slcD _ _ _ _ = some z ∧ _); refine ⟨_, rfl, ?_⟩)
    | ((with_reducible show ∃ z, isD _ _ _ = some z ∧ _); refine ⟨_, rfl, ?_⟩)
    | ((with_reducible show ∃ z, isAny _ _ _ = some z ∧ _); refine ⟨_, rfl, ?_⟩)
    | ((with_reducible show ∃ z, bfD _ _ _ = some z ∧ _); refine ⟨_, rfl, ?_⟩)
    | ((with_reducible show ∃ z, bindP _ _ _ = some z ∧ _); refine ⟨_, rfl, ?_⟩)
    | ((with_reducible show ∃ z, setTg _ _ _ = some z ∧ _); refine ⟨_, rfl, ?_⟩)
    | ((with_reducible show ∃ z, binD BO.add (D.int _) (D.int _) _ = some z ∧ _); refine ⟨_, rfl, ?_⟩)
    | ((with_reducible show ∃ z, binD BO.sub _ _ _ = some z ∧ _); refine ⟨_, rfl, ?_⟩)
    | ((with_reducible show ∃ z, binD BO.mul (D.int _) (D.int _) _ = some z ∧ _); refine ⟨_, rfl, ?_⟩)
    | ((with_reducible show ∃ z, binD BO.mod _ _ _ = some z ∧ _); refine ⟨_, rfl, ?_⟩)
    | ((with_reducible show ∃ z, binD BO.fdiv _ _ _ = some z ∧ _); refine ⟨_, rfl, ?_⟩)
    | ((with_reducible show ∃ z, binD BO.pow _ _ _ = some z ∧ _); refine ⟨_, rfl, ?_⟩)
    | ((with_reducible show ∃ p, insOf _ _ = some p ∧ _); refine ⟨_, rfl, rfl, _, rfl, ?_⟩)
    | ((with_reducible show ∃ z, D.int _ = D.int z ∧ _); refine ⟨_, rfl, ?_⟩)
    | ((with_reducible show ∃ z, D.loc _ = D.loc z ∧ _); refine ⟨_, rfl, ?_⟩)
    | ((with_reducible show ∃ z, D.lst _ = D.lst z ∧ _); refine ⟨_, rfl, ?_⟩))
  | ((with_reducible show And _ _); first
    | ((with_reducible show List.length _ ≤ 16777216 ∧ _); refine ⟨Nat.le_of_ble_eq_true rfl, ?_⟩)
    | ((with_reducible refine two_t ?hk ?_); (case hk => exact rfl))
    | ((with_reducible refine two_f ?hk ?_); (case hk => exact rfl)))
  | ((with_reducible show WP (mkD _ _ _ _ _ _ _ _) _); (with_reducible refine of_mkD (k := ?kk) ?hk ?_); (case hk => with_reducible assumption))
  | ((with_reducible show WP (eqO _ _ _ _ _ _ _) _); (with_reducible refine of_eqO (c := ?kk) ?hk ?_); (case hk => with_reducible assumption))
  | ((with_reducible refine of_cal (c := ?kk) ?hk ?_); (case hk => with_reducible assumption)))
local macro_rules | `(tactic| walk_at "w") => `(tactic| repeat walk_at "w1")
def srcIR : List Itp.St := [.ret (.lst true [.bf .list [.slc (.var 0) none (some (.int 63))], .int 0, .int 0, .int 10024, .int 0])]
def setsIR (fd : Nat) : List Itp.St := [
    .par [3, 4] [.bin .add (.int 1) (.call fd [.var 0, .var 1] [] ⟨2, false, [.pos 0, .pos 1]⟩), .lst true []],
    .for (.name 5) .rng [.bin .add (.int 1) (.call fd [.var 0, .var 2] [] ⟨2, false, [.pos 0, .pos 1]⟩)] [.set 6 (.bf .tuple [.lc (.name 7) [7] .rng [.var 3] [.cmp .eq (.call fd [.var 0, .int 2] [] ⟨2, false, [.pos 0, .pos 1]⟩) (.int 0)] (.var 7)]), .set 6 (.ite (.cmp .eq (.var 6) (.tup [])) (.tup [.call fd [.var 0, .var 3] [] ⟨2, false, [.pos 0, .pos 1]⟩]) (.var 6)), .ifs (.cmp .nin (.var 6) (.var 4)) [.expr (.bm .append (.var 4) [.var 6])] []],
    .ret (.tup [.var 3, .frz (.var 4)])]
def clsesIR (fi : Nat) : List Itp.St := [
    .par [1, 2] [.idx (.var 0) (.int 0), .bin .add (.bf .list [.idx (.var 0) (.int 1)]) (.bin .mul (.lst false [.non]) (.int 5))],
    .set 3 (.bf .len [.idx (.var 0) (.int 1)]),
    .ifs (.cmp .lt (.var 3) (.int 3)) [.ret (.ite (.cmp .eq (.var 3) (.int 1)) (.mk false 0 fi [.var 1, .idx (.var 2) (.int 0)] [] ⟨2, true, [.pos 0, .pos 1, .rest]⟩) (.mk false 0 fi [.var 1, .idx (.var 2) (.int 0), .idx (.var 2) (.int 1)] [] ⟨2, true, [.pos 0, .pos 1, .rest]⟩))] [],
    .ifs (.cmp .lt (.var 3) (.int 5)) [.ret (.ite (.cmp .eq (.var 3) (.int 3)) (.mk false 0 fi [.var 1, .idx (.var 2) (.int 0), .idx (.var 2) (.int 1), .idx (.var 2) (.int 2)] [] ⟨2, true, [.pos 0, .pos 1, .rest]⟩) (.mk false 0 fi [.var 1, .idx (.var 2) (.int 0), .idx (.var 2) (.int 1), .idx (.var 2) (.int 2), .idx (.var 2) (.int 3)] [] ⟨2, true, [.pos 0, .pos 1, .rest]⟩))] [],
    .ifs (.cmp .eq (.var 3) (.int 5)) [.ret (.mk false 0 fi [.var 1, .idx (.var 2) (.int 0), .idx (.var 2) (.int 1), .idx (.var 2) (.int 2), .idx (.var 2) (.int 3), .idx (.var 2) (.int 4)] [] ⟨2, true, [.pos 0, .pos 1, .rest]⟩)] [],
    .ret (.mk false 0 fi [.var 1, .idx (.var 2) (.int 0), .idx (.var 2) (.int 1), .idx (.var 2) (.int 2), .idx (.var 2) (.int 3), .idx (.var 2) (.int 4), .idx (.var 2) (.int 5)] [] ⟨2, true, [.pos 0, .pos 1, .rest]⟩)]
theorem src_spec {P : List Fn} {n f : Nat} (hP : P[f]? = some ⟨1, 1, srcIR⟩) {ns : List Int} {Q : D → Sto → Prop} (q : ∀ s : Sr, s.ok → Q (.loc 0) [s.so]) : WP (callN P (n + 1) f [.scr ns] []) Q := by
  refine wp_fn hP rfl ?_
  dsimp only [List.map, Nat.sub, List.replicate, List.append, srcIR]
  walk_at "w"
  refine (congrArg (Q _) ?_).mpr (q ⟨cutD ns none (some 63), 0, 0, 10024, 0⟩ ⟨by dsimp only; decide, by dsimp only; decide, by dsimp only; decide, by dsimp only; decide⟩)
  rfl
theorem itD_rng {S : Sto} {k : Int} (h : k ≤ 1000) (h2 : -1000 ≤ k) : itD .rng [.int k] S = some ((List.range k.toNat).map fun (k : Nat) => .int (0 + (k : Int))) := if_pos (by constructor <;> omega)
theorem rng_get {k j : Nat} {x : D} (h : ((List.range k).map fun (k : Nat) => D.int (0 + (k : Int)))[j]? = some x) : j < k ∧ x = .int j := by
  rw [List.getElem?_map] at h
  by_cases hj : j < k
  · rw [List.getElem?_range hj] at h
    refine ⟨hj, ?_⟩
    have h := Option.some.inj h
    rw [← h]
    simp
  · rw [List.getElem?_eq_none (by simpa using hj)] at h
    cases h
theorem asc_of {r : List Int} (h : r.Pairwise (· < ·)) : asc r := by
  intro k hk
  have := List.pairwise_iff_getElem.mp h k (k + 1) (by omega) hk (by omega)
  simp only [List.getD_eq_getElem?_getD, List.getElem?_eq_getElem hk, List.getElem?_eq_getElem (show k < r.length by omega)]
  exact this
theorem jeq_nil (r : List Int) : jeq (juI r) (.t []) = r.isEmpty := by
  apply bool_iff
  rw [jeq_iff (bf_jI r) rfl]
  cases r with
  | nil => exact ⟨fun _ => rfl, fun _ => rfl⟩
  | cons x r => exact ⟨fun h => (by cases h), fun h => (by cases h)⟩
theorem low_src {s : Sr} {R : Sto} {s' : Sr} (h : Low (s.so :: R)) : Low (s'.so :: R) := by
  intro o ho
  rcases List.mem_cons.mp ho with rfl | ho
  · show (D.lows _ (s'.cells.map D.int) && true) = true
    rw [low_ints]; rfl
  · exact h o (List.mem_cons_of_mem _ ho)
section
variable {P : List Fn} {n f fd : Nat} {s : Sr} {R : Sto}
theorem sets_spec (hP : P[f]? = some ⟨3, 8, setsIR fd⟩) (hD : P[fd]? = some ⟨2, 5, drawIR⟩) {ms most : Int} (hs : s.ok) (h1 : 1 ≤ ms) (h2 : ms ≤ 4) (h3 : 1 ≤ most) (h4 : most ≤ 6) (lw : Low (s.so :: R)) {Q : D → Sto → Prop}
    (q : ∀ (m : Int) (rows : List (List Int)) (s' : Sr), s'.ok → okC2 m rows → m ≤ ms → (rows.length : Int) ≤ most → Q (.tup [.int m, lT rows]) (s'.so :: R)) : WP (callN P (n + 2) f [.loc 0, .int ms, .int most] (s.so :: R)) Q := by
  refine wp_fn hP rfl ?_
  dsimp only [List.map, Nat.sub, List.replicate, List.append, setsIR]
  walk_at "w"
  refine draw_loc hD hs (by omega) (by omega) fun k s1 k1 k2 hs1 => ?_
  walk_at "w"
  refine ⟨rfl, ?_⟩
  generalize hm : 1 + k = m
  have m1 : 1 ≤ m := by omega
  have m2 : m ≤ ms := by omega
  walk_at "w"
  refine wf_for ?_
  walk_at "w"
  show WP (callN P (n + 1) fd [.loc 0, .int most] (s1.so :: (R ++ [.lst []]))) _
  refine draw_loc hD hs1 (by omega) (by omega) fun c s2 c1 c2 hs2 => ?_
  walk_at "w"
  refine ⟨_, itD_rng (by omega) (by omega), ?_⟩
  generalize hc : 1 + c = cc
  refine wf_loop (fun j γ S => ∃ rows s' x5 x6, γ = [some (.loc 0), some (.int ms), some (.int most), some (.int m), some (.loc (R.length + 1)), x5, x6, none] ∧ S = s'.so :: (R ++ [.lst (rows.map tuI)]) ∧ Sr.ok s' ∧ rows.Nodup ∧ (∀ r ∈ rows, okR m r) ∧ rows.length ≤ j ∧ (1 ≤ j → 1 ≤ rows.length)) (i := 0) ⟨[], s2, _, _, rfl, rfl, hs2, List.nodup_nil, fun r hr => (by cases hr), Nat.le_refl _, fun h => by omega⟩ ?_ ?_
  · rintro j x γ S hx ⟨rows, s3, x5, x6, rfl, rfl, hs3, nd, ok, l1, l2⟩
    rw [Nat.zero_add] at *
    obtain ⟨hj, rfl⟩ := rng_get hx
    refine ⟨_, rfl, ?_⟩
    refine wfs_cut (fun γ S => ∃ r s', γ = [some (.loc 0), some (.int ms), some (.int most), some (.int m), some (.loc (R.length + 1)), some (.int j), some (tuI r), none] ∧ S = s'.so :: (R ++ [.lst (rows.map tuI)]) ∧ Sr.ok s' ∧ r.Pairwise (· < ·) ∧ (∀ x ∈ r, 0 ≤ x ∧ x < m) ∧ (r.length : Int) ≤ m) ?_ ?_
    · refine wf_set (wp_bf (wps_cons rfl (wp_lc (wps_cons rfl (wp_var rfl (wps_nil ⟨_, itD_rng (by omega) (by omega), ?_, ?_⟩))))))
      · rw [List.length_map, List.length_range]; omega
      refine wp_loopC (fun i acc S => ∃ r s', acc = r.map D.int ∧ S = s'.so :: (R ++ [.lst (rows.map tuI)]) ∧ Sr.ok s' ∧ r.Pairwise (· < ·) ∧ (∀ x ∈ r, 0 ≤ x ∧ x < (i : Int)) ∧ r.length ≤ i) (i := 0) ⟨[], s3, rfl, rfl, hs3, List.Pairwise.nil, fun x hx => (by cases hx), Nat.le_refl _⟩ ?_ ?_
      · rintro i x acc S hx ⟨r, s4, rfl, rfl, hs4, pw, lo, ln⟩
        rw [Nat.zero_add] at *
        obtain ⟨hi, rfl⟩ := rng_get hx
        refine ⟨_, rfl, wp_turn1 ?_⟩
        walk_at "w"
        refine draw_loc hD hs4 (by omega) (by omega) fun c s5 c1 c2 hs5 => ?_
        walk_at "w"
        refine ⟨fun _ => ?_, fun _ => ?_⟩
        · walk_at "w"
          refine ⟨r ++ [(i : Int)], s5, by simp, rfl, hs5, ?_, ?_, ?_⟩
          · rw [List.pairwise_append]
            refine ⟨pw, List.pairwise_singleton _ _, fun a ha b hb => ?_⟩
            rw [List.mem_singleton.mp hb]
            exact (lo a ha).2
          · intro x hx
            rcases List.mem_append.mp hx with hx | hx
            · have := lo x hx
              omega
            · rw [List.mem_singleton.mp hx]
              omega
          · simp; omega
        · refine ⟨r, s5, by simp, rfl, hs5, pw, fun x hx => ?_, by omega⟩
          have := lo x hx
          omega
      · rintro acc S ⟨r, s4, rfl, rfl, hs4, pw, lo, ln⟩
        rw [Nat.zero_add, List.length_map, List.length_range] at *
        walk_at "w"
        exact ⟨r, s4, rfl, rfl, hs4, pw, fun x hx => by have := lo x hx; omega, by omega⟩
    · rintro γ S ⟨r, s4, rfl, rfl, hs4, pw, lo, ln⟩
      refine wfs_cut (fun γ S => ∃ r s', γ = [some (.loc 0), some (.int ms), some (.int most), some (.int m), some (.loc (R.length + 1)), some (.int j), some (tuI r), none] ∧ S = s'.so :: (R ++ [.lst (rows.map tuI)]) ∧ Sr.ok s' ∧ okR m r) ?_ ?_
      · have e : eqD (tuI r) (.tup []) (s4.so :: (R ++ [.lst (rows.map tuI)])) = some (jeq (juI r) (.t [])) := eqD_res res_tuI ⟨_, rfl, rfl⟩ (Nat.le_trans (dp_jI _) (by decide)) (by decide)
        rw [jeq_nil] at e
        refine wf_set (wp_ite (wp_cmp (wp_var rfl (wp_tup (wps_nil ⟨by decide, _, e, _, rfl, fun h => ?_, fun h => ?_⟩)))))
        · walk_at "w"
          refine draw_loc hD hs4 (by omega) (by omega) fun c s5 c1 c2 hs5 => ?_
          walk_at "w"
          exact ⟨[c], s5, rfl, rfl, hs5, by simp, by simp, fun x hx => by rw [List.mem_singleton.mp hx]; omega, asc_of (List.pairwise_singleton _ _)⟩
        · walk_at "w"
          refine ⟨r, s4, rfl, rfl, hs4, ?_, by omega, lo, asc_of pw⟩
          cases r with
          | nil => cases h
          | cons => simp
      · rintro γ S ⟨r, s5, rfl, rfl, hs5, okr⟩
        have gl : (s5.so :: (R ++ [SO.lst (rows.map tuI)]))[R.length + 1]? = some (.lst (rows.map tuI)) := by
          rw [List.getElem?_cons_succ]; exact get_last
        have lo5 : lstOf (.loc (R.length + 1)) (s5.so :: (R ++ [SO.lst (rows.map tuI)])) = some (rows.map tuI) := by
          show (match (s5.so :: (R ++ [SO.lst (rows.map tuI)]))[R.length + 1]? with | some (.lst xs) => some xs | _ => none) = _
          rw [gl]
        have hin := inD_lst (S := s5.so :: (R ++ [.lst (rows.map tuI)])) (a := tuI r) (b := .loc (R.length + 1)) (res_tuI (r := r)) lo5 (ress_rows (rows := rows)) (Nat.le_trans (dp_jI _) (by decide)) (Nat.le_trans (dps_mapJ (n := 1) fun r _ => dp_jI r) (by decide))
        refine wfs_cons (wf_if (wp_cmp (wp_var rfl (wp_var rfl ⟨_, (by show (inD _ _ _).map _ = _; rw [hin]; rfl), _, rfl, fun h => ?_, fun h => ?_⟩))))
        · have hni : r ∉ rows := by
            intro hr
            have : jin (juI r) (rows.map juI) = true := (jin_iff (bf_jI _) (bfs_map fun r _ => bf_jI r)).mpr (List.mem_map.mpr ⟨r, hr, rfl⟩)
            rw [this] at h
            cases h
          walk_at "w"
          refine ⟨by show (lstOf _ _).isSome = true; rw [lo5]; rfl, ?_⟩
          walk_at "w"
          refine wp_eq (bm_app gl (by rw [List.length_map]; omega)) ?_
          walk_at "w"
          refine ⟨rows ++ [r], s5, _, _, rfl, ?_, hs5, ?_, ?_, ?_, fun _ => ?_⟩
          · rw [List.set_cons_succ, set_last, List.map_append]; rfl
          · rw [List.nodup_append]
            exact ⟨nd, by simp, fun a ha b hb => by rw [List.mem_singleton.mp hb]; intro e; rw [e] at ha; exact hni ha⟩
          · intro r' hr'
            rcases List.mem_append.mp hr' with h | h
            · exact ok r' h
            · rw [List.mem_singleton.mp h]; exact okr
          · simp; omega
          · simp
        · have hni : r ∈ rows := by
            have : jin (juI r) (rows.map juI) = true := by
              cases hh : jin (juI r) (rows.map juI) with
              | true => rfl
              | false => rw [hh] at h; cases h
            rw [jin_iff (bf_jI _) (bfs_map fun r _ => bf_jI r)] at this
            obtain ⟨r', h1, h2⟩ := List.mem_map.mp this
            rw [← jI_inj h2]; exact h1
          walk_at "w"
          exact ⟨rows, s5, _, _, rfl, rfl, hs5, nd, ok, by omega, fun _ => List.length_pos_of_mem hni⟩
  · rintro γ S ⟨rows, s3, x5, x6, rfl, rfl, hs3, nd, ok, l1, l2⟩
    rw [Nat.zero_add, List.length_map, List.length_range] at *
    walk_at "w"
    have gl : (s3.so :: (R ++ [SO.lst (rows.map tuI)]))[R.length + 1]? = some (.lst (rows.map tuI)) := by
      rw [List.getElem?_cons_succ]; exact get_last
    refine wp_frzL gl ?_
    rw [List.set_cons_succ, set_last]
    walk_at "w"
    have e : trim (s.so :: R).length (.tup [.int m, lT rows]) (s3.so :: (R ++ [SO.dead])) = s3.so :: R := trim_cut (A := s3.so :: R) (T := [.dead]) rfl (by
      show (true && (D.low _ (lT rows) && true)) = true
      rw [low_lT]; rfl) (low_src lw)
    refine (congrArg (Q _) e).mpr (q m rows s3 hs3 ⟨m1, by omega, l2 (by omega), by omega, ok, nd⟩ m2 (by omega))
/-- _law_classes -/
theorem clses_spec {fi fl fn fr fc : Nat} {S : Sto} (hP : P[f]? = some ⟨1, 4, clsesIR fi⟩) (hi : P[fi]? = some ⟨3, 6, clsInitIR fn fc⟩) (hc : P[fc]? = some ⟨2, 3, isClsIR fl fn fr⟩) (hl : P[fl]? = some ⟨1, 1, isListIR⟩) (hn : P[fn]? = some ⟨3, 3, isNumIR⟩) (hr : P[fr]? = some ⟨1, 3, isRisIR⟩) {d : D} {ds : List D} {m : Int} {rows : List (List Int)} (lw : Low S) (ok : okC2 m rows) (hls : lstOf d S = some ds) (hd : ds.length = rows.length) (hs : ∀ i, i < rows.length → seqOf (ds.getD i .non) S = some ((rows.getD i []).map .int)) :
    callN P (n + 4) f [.tup [.int m, d]] S = .ok (clsO m rows) S := by
  have h1 := ok.ne
  have h2 := ok.mo
  have fin : trim S.length (clsO m rows) (S ++ [.dead]) = S := trim_cut rfl (by
    show (true && (D.low _ (lT rows) && true)) = true
    rw [low_lT]; rfl) lw
  refine eq_of_wp (wp_fn hP rfl ?_)
  dsimp only [List.map, Nat.sub, List.replicate, List.append, clsesIR]
  walk_at "w"
  refine ⟨_, seq_list (seq_lst hls), ?_⟩
  walk_at "w"
  refine ⟨_, rfl, _, if_pos (by
    show ds.length + 5 ≤ 16777216
    omega), ?_⟩
  walk_at "w"
  refine ⟨rfl, ?_⟩
  walk_at "w"
  refine ⟨_, seq_len (seq_lst hls), ?_⟩
  have mk : ∀ Q, Q (clsO m rows) (S ++ [.dead]) → WP (mkD (callN P (n + 3)) false 0 fi ⟨2, true, [.pos 0, .pos 1, .rest]⟩ (.int m :: ds) [] S) Q := fun Q q => cls_mk hi hc hl hn hr lw ok hd hs q
  match ds, hd, mk with
  | [], hd, _ => simp at hd; omega
  | [a], _, mk =>
    walk_at "w"
    exact mk _ ⟨rfl, fin⟩
  | [a, b], _, mk =>
    walk_at "w"
    exact mk _ ⟨rfl, fin⟩
  | [a, b, c], _, mk =>
    walk_at "w"
    exact mk _ ⟨rfl, fin⟩
  | [a, b, c, d], _, mk =>
    walk_at "w"
    exact mk _ ⟨rfl, fin⟩
  | [a, b, c, d, e], _, mk =>
    walk_at "w"
    exact mk _ ⟨rfl, fin⟩
  | [a, b, c, d, e, g], _, mk =>
    walk_at "w"
    exact mk _ ⟨rfl, fin⟩
  | a :: b :: c :: d :: e :: g :: h :: t, hd, _ => simp at hd; omega
end
end Itp
namespace Itp
open PySem L2
local macro_rules | `(tactic| walk_at "w1") => `(tactic| first
  | ((with_reducible show WP (ev _ _ _ _) _); first
    | ((with_reducible show WP (ev _ (E.var _) _ _) _); refine wp_var rfl ?_)
    | with_reducible refine wp_int ?_
    | with_reducible refine wp_str ?_
    | with_reducible refine wp_bl ?_
    | with_reducible refine wp_non ?_
    | with_reducible refine wp_idx ?_
    | with_reducible refine wp_bin ?_
    | with_reducible refine wp_call ?_
    | with_reducible refine wp_lst ?_
    | with_reducible refine wp_cmp ?_
    | with_reducible refine wp_tup ?_
    | with_reducible refine wp_slc ?_
    | with_reducible refine wp_bf ?_
    | with_reducible refine wp_not ?_
    | with_reducible refine wp_isi ?_
    | with_reducible refine wp_bop ?_
    | with_reducible refine wp_bm ?_
    | with_reducible refine wp_gint ?_
    | with_reducible refine wp_gstr ?_
    | with_reducible refine wp_neg ?_
    | with_reducible refine wp_chn ?_
    | with_reducible refine wp_ite ?_
    | with_reducible refine wp_new ?_
    | with_reducible refine wp_isT ?_
    | with_reducible refine wp_frz ?_
    | with_reducible refine wp_trk ?_
    | with_reducible refine wp_mth ?_
    | with_reducible refine wp_smt ?_
    | with_reducible refine wp_cmt ?_
    | with_reducible refine wp_mk ?_
    | with_reducible refine wp_att ?_
    | with_reducible refine wp_cst ?_
    | with_reducible refine wp_own ?_
    | with_reducible refine wp_fst ?_)
  | ((with_reducible show WP (evs _ _ _ _) _); first
    | with_reducible refine wps_nil ?_
    | ((with_reducible show WP (evs _ (E.star _ :: _) _ _) _); refine wps_star ?_)
    | ((with_reducible show WP (evs _ (_ :: _) _ _) _); refine wps_cons rfl ?_))
  | ((with_reducible show WF (exs _ _ _ _) _ _ _); first
    | with_reducible refine wfs_cons ?_
    | with_reducible refine wfs_nil ?_)
  | ((with_reducible show WF (ex _ _ _ _) _ _ _); first
    | with_reducible refine wf_set ?_
    | with_reducible refine wf_asg ?_
    | with_reducible refine wf_par ?_
    | with_reducible refine wf_idx ?_
    | with_reducible refine wf_expr ?_
    | with_reducible refine wf_ret ?_
    | with_reducible refine wf_if ?_
    | with_reducible refine wf_retN ?_
    | with_reducible refine wf_cont ?_
    | with_reducible refine wf_pass ?_
    | with_reducible refine wf_flds ?_)
  | ((with_reducible show WP (evB _ _ _ _ _) _); first
    | with_reducible refine wpB_a ?_
    | with_reducible refine wpB_o ?_
    | with_reducible refine wpB_one ?_)
  | ((with_reducible show WP (evO _ _ _ _) _); first
    | with_reducible refine wpO_none ?_
    | with_reducible refine wpO_some ?_)
  | ((with_reducible show WP (trkD (D.lst _) _) _); refine wp_trkL ?_)
  | ((with_reducible show WP (attD _ _ _ _ _) _); first
    | refine wp_fld rfl rfl rfl ?_
    | refine wp_prp rfl rfl ?_
    | refine wp_acon rfl rfl rfl ?_)
  | ((with_reducible show WP (ownD _ OK.eq _ _ _ _) _); refine wp_oeq ?_)
  | ((with_reducible show WP (ownD _ OK.ne _ _ _ _) _); refine wp_one ?_)
  | ((with_reducible show Exists _); first
    | ((with_reducible show ∃ z, truD _ _ = some z ∧ _); refine ⟨_, rfl, ?_⟩)
    | ((with_reducible show ∃ z, cmpD _ _ _ _ = some z ∧ _); refine ⟨_, rfl, ?_⟩)
    | ((with_reducible show ∃ z, idxD _ _ _ = some z ∧ _); refine ⟨_, rfl, ?_⟩)
    | ((with_reducible show ∃ z, slcD _ _ _ _ = some z ∧ _); refine ⟨_, rfl, ?_⟩)
    | ((with_reducible show ∃ z, isD _ _ _ = some z ∧ _); refine ⟨_, rfl, ?_⟩)
    | ((with_reducible show ∃ z, isAny _ _ _ = some z ∧ _); refine ⟨_, rfl, ?_⟩)
    | ((with_reducible show ∃ z, bfD _ _ _ = some z ∧ _); refine ⟨_, rfl, ?_⟩)
    | ((with_reducible show ∃ z, bindP _ _ _ = some z ∧ _); refine ⟨_, rfl, ?_⟩)
    | ((with_reducible show ∃ z, setTg _ _ _ = some z ∧ _); refine ⟨_, rfl, ?_⟩)
    | ((with_reducible show ∃ z, binD BO.add (D.int _) (D.int _) _ = some z ∧ _); refine ⟨_, rfl, ?_⟩)
    | ((with_reducible show ∃ z, binD BO.sub _ _ _ = some z ∧ _); refine ⟨_, rfl, ?_⟩)
    | ((with_reducible show ∃ z, binD BO.mul (D.int _) (D.int _) _ = some z ∧ _); refine ⟨_, rfl, ?_⟩)
    | ((with_reducible show ∃ z, binD BO.mod _ _ _ = some z ∧ _); refine ⟨_, rfl, ?_⟩)
    | ((with_reducible show ∃ z, binD BO.fdiv _ _ _ = some z ∧ _); refine ⟨_, rfl, ?_⟩)
    | ((with_reducible show ∃ z, binD BO.pow _ _ _ = some z ∧ _); refine ⟨_, rfl, ?_⟩)
    | ((with_reducible show ∃ p, insOf _ _ = some p ∧ _); refine ⟨_, rfl, rfl, _, rfl, ?_⟩)
    | ((with_reducible show ∃ z, D.int _ = D.int z ∧ _); refine ⟨_, rfl, ?_⟩)
    | ((with_reducible show ∃ z, D.loc _ = D.loc z ∧ _); refine ⟨_, rfl, ?_⟩)
    | ((with_reducible show ∃ z, D.lst _ = D.lst z ∧ _); refine ⟨_, rfl, ?_⟩))
  | ((with_reducible show And _ _); first
    | ((with_reducible show List.length _ ≤ 16777216 ∧ _); refine ⟨Nat.le_of_ble_eq_true rfl, ?_⟩)
    | ((with_reducible refine two_t ?hk ?_); (case hk => exact rfl))
    | ((with_reducible refine two_f ?hk ?_); (case hk => exact rfl)))
  | ((with_reducible show WP (mkD _ _ _ _ _ _ _ _) _); (with_reducible refine of_mkD (k := ?kk) ?hk ?_); (case hk => with_reducible assumption))
  | ((with_reducible show WP (eqO _ _ _ _ _ _ _) _); (with_reducible refine of_eqO (c := ?kk) ?hk ?_); (case hk => with_reducible assumption))
  | ((with_reducible refine of_cal (c := ?kk) ?hk ?_); (case hk => with_reducible assumption)))
local macro_rules | `(tactic| walk_at "w") => `(tactic| repeat walk_at "w1")
theorem trim_loc {n : Nat} {T : Sto} : trim n (.loc n) T = T := by
  unfold trim
  by_cases h : T.length ≤ n
  · rw [if_pos h]
  · rw [if_neg h, if_neg]
    show ¬ ((decide (n < n) && _) = true)
    simp
theorem wfs_app {cal : Nat → List D → Sto → Out D} {N C : Gm → Sto → Prop} {R : D → Sto → Prop} (k : Nat) : ∀ {ss : List Itp.St} {γ : Gm} {S : Sto}, WF (exs cal (ss.take k) γ S) (fun γ S => WF (exs cal (ss.drop k) γ S) N R C) R C → WF (exs cal ss γ S) N R C := by
  induction k with
  | zero => intro ss γ S h; exact h
  | succ k ih =>
    intro ss γ S h
    cases ss with
    | nil => exact h
    | cons s ss =>
      refine wfs_cons ?_
      have h : WF (match ex cal s γ S with | .nx γ' S' => exs cal (ss.take k) γ' S' | o => o) (fun γ S => WF (exs cal (ss.drop k) γ S) N R C) R C := h
      cases ho : ex cal s γ S with
      | nx γ' S' => rw [ho] at h; exact ih h
      | ret d S' => rw [ho] at h; exact h
      | ct γ S' => rw [ho] at h; exact h
      | exc => rw [ho] at h; exact h.elim
      | bad => rw [ho] at h; exact h.elim
theorem filterMap_if {β δ : Type} (p : β → Bool) (g : β → δ) : ∀ l : List β, l.filterMap (fun x => if p x = true then some (g x) else none) = (l.filter p).map g
  | [] => rfl
  | x :: l => by
    cases h : p x <;> simp [h, filterMap_if p g l]
theorem atI_natJ {β : Type} {xs : List β} {k : Nat} (h : k < xs.length) : atI xs (k : Int) = some xs[k] := by
  unfold atI
  rw [show ixN xs.length (k : Int) = some k from by
    unfold ixN
    rw [if_pos (by omega), if_pos (by omega)]
    rfl]
  simp [h]
theorem Low.apps {S T : Sto} (h : Low S) (ht : ∀ o ∈ T, o.low S.length = true) : Low (S ++ T) := by
  intro x hx
  rw [List.length_append]
  rcases List.mem_append.mp hx with hx | hx
  · exact solow_mono (by simp) x (h x hx)
  · exact solow_mono (by simp) x (ht x hx)
theorem lows_lst {n : Nat} {xs : List D} (h : D.lows n xs = true) : (SO.lst xs).low n = true := h
theorem bf_str {i : Int} {S : Sto} (h : 0 ≤ i) (h2 : i ≤ 1000) : bfD .str [.int i] S = some (.str (toString i)) := if_pos (by omega)
theorem bd_adds {a b : Str} {S : Sto} (h : a.length + b.length ≤ 16777216) : binD .add (.str a) (.str b) S = some (.str (a ++ b)) := if_pos h
theorem jin_ints {x : Int} {r : List Int} : jin (.i x) (r.map .i) = decide (x ∈ r) := by
  apply bool_iff
  rw [jin_iff rfl (bfs_map fun _ _ => rfl), decide_eq_true_eq]
  constructor
  · intro h
    obtain ⟨y, h1, h2⟩ := List.mem_map.mp h
    cases h2
    exact h1
  · intro h
    exact List.mem_map.mpr ⟨x, h, rfl⟩
theorem cmp_inT {x : Int} {r : List Int} {S : Sto} : cmpD .inn (.int x) (tuI r) S = some (decide (x ∈ r)) := by
  show inD (.int x) (tuI r) S = _
  unfold tuI
  rw [inD_tup (j := .i x) rfl ress_ints (Nat.zero_le _) (Nat.le_trans (dps_mapJ (n := 0) fun _ _ => Nat.le_refl _) (by decide)), jin_ints]
def pickE (p : Nat → Bool) : D → Option D
  | .tup (.int k :: _) => if p k.toNat = true then some (.int k) else none
  | _ => none
theorem pickE_eq {p : Nat → Bool} {k : Nat} {r : List D} : pickE p (.tup (.int k :: r)) = if p k = true then some (.int k) else none := rfl
def pickI (p : Nat → Bool) : D → Option D
  | .int k => if p k.toNat = true then some (.int k) else none
  | _ => none
theorem pickI_eq {p : Nat → Bool} {k : Nat} : pickI p (.int k) = if p k = true then some (.int k) else none := rfl
theorem pickI_rng {p : Nat → Bool} {n : Nat} : ((List.range n).map fun (k : Nat) => D.int (0 + (k : Int))).filterMap (pickI p) = (((List.range n).filter p).map fun (k : Nat) => (k : Int)).map D.int := by
  rw [List.filterMap_map, List.map_map, ← filterMap_if p (D.int ∘ fun (i : Nat) => (i : Int))]
  congr 1
  funext k
  show pickI p (.int (0 + (k : Int))) = _
  rw [Int.zero_add, pickI_eq]; rfl
theorem pickE_enum {p : Nat → Bool} {xs : List D} : (enumL xs).filterMap (pickE p) = (((List.range xs.length).filter p).map fun (k : Nat) => (k : Int)).map D.int := by
  unfold enumL
  rw [List.filterMap_map, List.map_map, ← filterMap_if p (D.int ∘ fun (i : Nat) => (i : Int))]
  congr 1
theorem sz_l {js : List J} (h : js.length ≤ 16777216) (h2 : ∀ j ∈ js, j.sz = true) : (J.l js).sz = true := by
  show (decide (js.length ≤ 16777216) && J.szs js) = true
  rw [szs_of h2, decide_eq_true h]; rfl
theorem sz_t {js : List J} (h : js.length ≤ 16777216) (h2 : ∀ j ∈ js, j.sz = true) : (J.t js).sz = true := by
  show (decide (js.length ≤ 16777216) && J.szs js) = true
  rw [szs_of h2, decide_eq_true h]; rfl
theorem dp_l {js : List J} {n : Nat} (h : ∀ j ∈ js, j.dp ≤ n) : (J.l js).dp ≤ n + 1 := by
  show J.dps js + 1 ≤ n + 1
  have := dps_le h
  omega
theorem dp_t {js : List J} {n : Nat} (h : ∀ j ∈ js, j.dp ≤ n) : (J.t js).dp ≤ n + 1 := by
  show J.dps js + 1 ≤ n + 1
  have := dps_le h
  omega
theorem all_nil {p : J → Prop} : ∀ j ∈ ([] : List J), p j := fun _ h => nomatch h
theorem all_cons {p : J → Prop} {j : J} {js : List J} (h : p j) (h2 : ∀ j ∈ js, p j) : ∀ x ∈ j :: js, p x := fun x hx => by
  rcases List.mem_cons.mp hx with rfl | hx
  · exact h
  · exact h2 x hx
/-- the indexes of the classes that use a store -/
def usersL (one : Int) (rows : List (List Int)) : List Int := ((List.range rows.length).filter fun i => decide (one ∈ rows.getD i [])).map fun (i : Nat) => (i : Int)
def clsRowsT : List Itp.St := [.ret (.trk (.bf .list [.att (.var 0) 35 [(0, .fld)]]))]
def clsStoresIR : List Itp.St := [.ret (.att (.var 0) 47 [(0, .fld)])]
def clsUsersT (f : Nat) : List Itp.St := [.expr (.mth (.var 0) 43 [(0, f)] [.var 1] [] ⟨2, false, [.pos 0, .pos 1]⟩), .ret (.trk (.lc (.tup [.name 2, .name 3]) [2, 3] .enum [.att (.var 0) 35 [(0, .fld)]] [.cmp .inn (.var 1) (.var 3)] (.var 2)))]
section
variable {P : List Fn} {n f : Nat} {S : Sto} {m : Int} {rows : List (List Int)}
theorem rows_get {k : Nat} (h : k < rows.length) : (rows.map tuI).getD k .non = tuI (rows.getD k []) := by simp [List.getD, h]
theorem idx_lT {k : Nat} {S : Sto} (h : k < rows.length) : idxD (lT rows) (.int k) S = some (tuI (rows.getD k [])) := by
  show atI (rows.map tuI) (k : Int) = _
  rw [atI_natJ (by rw [List.length_map]; exact h)]
  simp [List.getD, h]
theorem cls_rowsT (hP : P[f]? = some ⟨1, 1, clsRowsT⟩) : callN P (n + 1) f [clsO m rows] S = .ok (.loc S.length) (S ++ [.lst (rows.map tuI)]) := by
  refine eq_of_wp (wp_fn hP rfl ?_)
  dsimp only [List.map, Nat.sub, List.replicate, List.append, clsRowsT]
  walk_at "w"
  exact ⟨rfl, trim_loc⟩
theorem cls_stores (hP : P[f]? = some ⟨1, 1, clsStoresIR⟩) : callN P (n + 1) f [clsO m rows] S = .ok (.int m) S := by
  refine eq_of_wp (wp_fn hP rfl ?_)
  dsimp only [List.map, Nat.sub, List.replicate, List.append, clsStoresIR]
  walk_at "w"
  exact ⟨rfl, trim_self _ _⟩
theorem cls_need {fn : Nat} (hP : P[f]? = some ⟨2, 2, clsNeedIR fn⟩) (hn : P[fn]? = some ⟨3, 3, isNumIR⟩) {i : Int} (h1 : 0 ≤ i) (h2 : i < m) : callN P (n + 2) f [clsO m rows, .int i] S = .ok .non S := by
  refine eq_of_wp (wp_fn hP rfl ?_)
  dsimp only [List.map, Nat.sub, List.replicate, List.append, clsNeedIR]
  walk_at "w"
  refine wp_eq (is_num_t hn h1 (by omega)) ?_
  walk_at "w"
  exact ⟨rfl, trim_self _ _⟩
theorem cls_usersT {fw fn : Nat} (hP : P[f]? = some ⟨2, 4, clsUsersT fw⟩) (hw : P[fw]? = some ⟨2, 2, clsNeedIR fn⟩) (hn : P[fn]? = some ⟨3, 3, isNumIR⟩) {i : Int} (h1 : 0 ≤ i) (h2 : i < m) (hl : rows.length ≤ 1000) : callN P (n + 3) f [clsO m rows, .int i] S = .ok (.loc S.length) (S ++ [.lst ((usersL i rows).map .int)]) := by
  refine eq_of_wp (wp_fn hP rfl ?_)
  dsimp only [List.map, Nat.sub, List.replicate, List.append, clsUsersT]
  walk_at "w"
  refine wp_eq (cls_need hw hn h1 h2) ?_
  walk_at "w"
  refine wp_lcP (wps_cons rfl (wp_att (wp_var rfl (wp_fld rfl rfl rfl (wps_nil ⟨enumL (rows.map tuI), pickE fun k => decide (i ∈ rows.getD k []), its_enum rfl, ?_, ?_, ?_⟩)))))
  · rw [List.length_map, List.length_range, List.length_map]; omega
  · intro z hz
    obtain ⟨k, hk, rfl⟩ := List.mem_map.mp hz
    have hk := List.mem_range.mp hk
    rw [List.length_map] at hk
    rw [rows_get hk]
    refine ⟨_, rfl, eq_of_wp (wp_turn1 ?_)⟩
    walk_at "w"
    refine ⟨_, cmp_inT, ?_⟩
    refine ⟨_, rfl, fun h => ?_, fun h => ?_⟩
    · walk_at "w"
      rw [pickE_eq, if_pos h]
      exact ⟨rfl, rfl⟩
    · rw [pickE_eq, if_neg (by rw [h]; exact Bool.false_ne_true)]
      exact ⟨rfl, rfl⟩
  · walk_at "w"
    refine ⟨rfl, ?_⟩
    rw [trim_loc, pickE_enum, List.length_map]; rfl
end
end Itp
namespace Itp
open PySem L2
local macro_rules | `(tactic| walk_at "w1") => `(tactic| first
  | ((with_reducible show WP (ev _ _ _ _) _); first
    | ((with_reducible show WP (ev _ (E.var _) _ _) _); refine wp_var rfl ?_)
    | with_reducible refine wp_int ?_
    | with_reducible refine wp_str ?_
    | with_reducible refine wp_bl ?_
    | with_reducible refine wp_non ?_
    | with_reducible refine wp_idx ?_
    | with_reducible refine wp_bin ?_
    | with_reducible refine wp_call ?_
    | with_reducible refine wp_lst ?_
    | with_reducible refine wp_cmp ?_
    | with_reducible refine wp_tup ?_
    | with_reducible refine wp_slc ?_
    | with_reducible refine wp_bf ?_
    | with_reducible refine wp_not ?_
    | with_reducible refine wp_isi ?_
    | with_reducible refine wp_bop ?_
    | with_reducible refine wp_bm ?_
    | with_reducible refine wp_gint ?_
    | with_reducible refine wp_gstr ?_
    | with_reducible refine wp_neg ?_
    | with_reducible refine wp_chn ?_
    | with_reducible refine wp_ite ?_
    | with_reducible refine wp_new ?_
    | with_reducible refine wp_isT ?_
    | with_reducible refine wp_frz ?_
    | with_reducible refine wp_trk ?_
    | with_reducible refine wp_mth ?_
    | with_reducible refine wp_smt ?_
    | with_reducible refine wp_cmt ?_
    | with_reducible refine wp_mk ?_
    | with_reducible refine wp_att ?_
    | with_reducible refine wp_cst ?_
    | with_reducible refine wp_own ?_
    | with_reducible refine wp_fst ?_)
  | ((with_reducible show WP (evs _ _ _ _) _); first
    | with_reducible refine wps_nil ?_
    | ((with_reducible show WP (evs _ (E.star _ :: _) _ _) _); refine wps_star ?_)
    | ((with_reducible show WP (evs _ (_ :: _) _ _) _); refine wps_cons rfl ?_))
  | ((with_reducible show WF (exs _ _ _ _) _ _ _); first
    | with_reducible refine wfs_cons ?_
    | with_reducible refine wfs_nil ?_)
  | ((with_reducible show WF (ex _ _ _ _) _ _ _); first
    | with_reducible refine wf_set ?_
    | with_reducible refine wf_asg ?_
    | with_reducible refine wf_par ?_
    | with_reducible refine wf_idx ?_
    | with_reducible refine wf_expr ?_
    | with_reducible refine wf_ret ?_
    | with_reducible refine wf_if ?_
    | with_reducible refine wf_retN ?_
    | with_reducible refine wf_cont ?_
    | with_reducible refine wf_pass ?_
    | with_reducible refine wf_flds ?_)
  | ((with_reducible show WP (evB _ _ _ _ _) _); first
    | with_reducible refine wpB_a ?_
    | with_reducible refine wpB_o ?_
    | with_reducible refine wpB_one ?_)
  | ((with_reducible show WP (evO _ _ _ _) _); first
    | with_reducible refine wpO_none ?_
    | with_reducible refine wpO_some ?_)
  | ((with_reducible show WP (trkD (D.lst _) _) _); refine wp_trkL ?_)
  | ((with_reducible show WP (attD _ _ _ _ _) _); first
    | refine wp_fld rfl rfl rfl ?_
    | refine wp_prp rfl rfl ?_
    | refine wp_acon rfl rfl rfl ?_)
  | ((with_reducible show WP (ownD _ OK.eq _ _ _ _) _); refine wp_oeq ?_)
  | ((with_reducible show WP (ownD _ OK.ne _ _ _ _) _); refine wp_one ?_)
  | ((with_reducible show Exists _); first
    | ((with_reducible show ∃ z, truD _ _ = some z ∧ _); refine ⟨_, rfl, ?_⟩)
    | ((with_reducible show ∃ z, cmpD _ _ _ _ = some z ∧ _); refine ⟨_, rfl, ?_⟩)
    | ((with_reducible show ∃ z, idxD _ _ _ = some z ∧ _); refine ⟨_, rfl, ?_⟩)
    | ((with_reducible show ∃ z, slcD _ _ _ _ = some z ∧ _); refine ⟨_, rfl, ?_⟩)
    | ((with_reducible show ∃ z, isD _ _ _ = some z ∧ _); refine ⟨_, rfl, ?_⟩)
    | ((with_reducible show ∃ z, isAny _ _ _ = some z ∧ _); refine ⟨_, rfl, ?_⟩)
    | ((with_reducible show ∃ z, bfD _ _ _ = some z ∧ _); refine ⟨_, rfl, ?_⟩)
    | ((with_reducible show ∃ z, bindP _ _ _ = some z ∧ _); refine ⟨_, rfl, ?_⟩)
    | ((with_reducible show ∃ z, setTg _ _ _ = some z ∧ _); refine ⟨_, rfl, ?_⟩)
    | ((with_reducible show ∃ z, binD BO.add (D.int _) (D.int _) _ = some z ∧ _); refine ⟨_, rfl, ?_⟩)
    | ((with_reducible show ∃ z, binD BO.sub _ _ _ = some z ∧ _); refine ⟨_, rfl, ?_⟩)
    | ((with_reducible show ∃ z, binD BO.mul (D.int _) (D.int _) _ = some z ∧ _); refine ⟨_, rfl, ?_⟩)
    | ((with_reducible show ∃ z, binD BO.mod _ _ _ = some z ∧ _); refine ⟨_, rfl, ?_⟩)
    | ((with_reducible show ∃ z, binD BO.fdiv _ _ _ = some z ∧ _); refine ⟨_, rfl, ?_⟩)
    | ((with_reducible show ∃ z, binD BO.pow _ _ _ = some z ∧ _); refine ⟨_, rfl, ?_⟩)
    | ((with_reducible show ∃ p, insOf _ _ = some p ∧ _); refine ⟨_, rfl, rfl, _, rfl, ?_⟩)
    | ((with_reducible show ∃ z, D.int _ = D.int z ∧ _); refine ⟨_, rfl, ?_⟩)
    | ((with_reducible show ∃ z, D.loc _ = D.loc z ∧ _); refine ⟨_, rfl, ?_⟩)
    | ((with_reducible show ∃ z, D.lst _ = D.lst z ∧ _); refine ⟨_, rfl, ?_⟩))
  | ((with_reducible show And _ _); first
    | ((with_reducible show List.length _ ≤ 16777216 ∧ _); refine ⟨Nat.le_of_ble_eq_true rfl, ?_⟩)
    | ((with_reducible refine two_t ?hk ?_); (case hk => exact rfl))
    | ((with_reducible refine two_f ?hk ?_); (case hk => exact rfl)))
  | ((with_reducible show WP (mkD _ _ _ _ _ _ _ _) _); (with_reducible refine of_mkD (k := ?kk) ?hk ?_); (case hk => with_reducible assumption))
  | ((with_reducible show WP (eqO _ _ _ _ _ _ _) _); (with_reducible refine of_eqO (c := ?kk) ?hk ?_); (case hk => with_reducible assumption))
  | ((with_reducible refine of_cal (c := ?kk) ?hk ?_); (case hk => with_reducible assumption)))
local macro_rules | `(tactic| walk_at "w") => `(tactic| repeat walk_at "w1")
theorem map_get {β δ : Type} {f : β → δ} {l : List β} {j : Nat} {x : δ} {d : β} (h : (l.map f)[j]? = some x) : j < l.length ∧ x = f (l.getD j d) := by
  rw [List.getElem?_map] at h
  by_cases hj : j < l.length
  · rw [List.getElem?_eq_getElem hj] at h
    refine ⟨hj, ?_⟩
    rw [List.getD_eq_getElem?_getD, List.getElem?_eq_getElem hj]
    exact (Option.some.inj h).symm
  · rw [List.getElem?_eq_none (by omega)] at h
    cases h
theorem take_snoc {β : Type} {l : List β} {j : Nat} {d : β} (h : j < l.length) : l.take (j + 1) = l.take j ++ [l.getD j d] := by
  rw [List.take_succ, List.getD_eq_getElem?_getD, List.getElem?_eq_getElem h]; rfl
/-- places in a row -/
def locs (a k : Nat) : List D := (List.range k).map fun (i : Nat) => D.loc (a + i)
def rowS (r : List Int) : SO := .lst (r.map .int)
theorem locs_get {a k i : Nat} (h : i < k) : (locs a k).getD i .non = .loc (a + i) := by simp [locs, List.getD, h]
theorem locs_len {a k : Nat} : (locs a k).length = k := by simp [locs]
theorem rowS_get {S T : Sto} {rows : List (List Int)} {i : Nat} (h : i < rows.length) : (S ++ rows.map rowS ++ T)[S.length + i]? = some (rowS (rows.getD i [])) := by
  rw [List.append_assoc, List.getElem?_append_right (by omega), List.getElem?_append_left (by simp; omega)]
  simp [List.getD, h]
theorem low_rowS (n : Nat) (r : List Int) : (rowS r).low n = true := low_ints n r
theorem Low.rows {S : Sto} (h : Low S) (rows : List (List Int)) : Low (S ++ rows.map rowS) := h.apps fun o ho => by
  obtain ⟨r, _, rfl⟩ := List.mem_map.mp ho
  exact low_rowS _ r
theorem lst_loc {S : Sto} {k : Nat} {xs : List D} (h : S[k]? = some (.lst xs)) : lstOf (.loc k) S = some xs := by
  show (match S[k]? with | some (.lst xs) => some xs | _ => none) = _
  rw [h]
theorem seq_loc {S : Sto} {k : Nat} {xs : List D} (h : S[k]? = some (.lst xs)) : seqOf (.loc k) S = some xs := lst_loc h
theorem bm_ok {S : Sto} {k : Nat} {xs : List D} (h : S[k]? = some (.lst xs)) : bmOk .append (.loc k) S = true := by
  show (lstOf (.loc k) S).isSome = true
  rw [lst_loc h]; rfl
theorem bm_ins {k : Nat} {xs : List D} {i : Int} {d : D} {S : Sto} (h : S[k]? = some (.lst xs)) (hl : xs.length < 16777216) (h0 : 0 ≤ i) (h1 : i ≤ xs.length) : bmD .insert (.loc k) [.int i, d] S = .ok .non (S.set k (.lst (xs.take i.toNat ++ d :: xs.drop i.toNat))) := by
  show (match S[k]? with | some (.lst xs) => if xs.length < 16777216 ∧ 0 ≤ i ∧ i ≤ xs.length then Out.ok D.non (S.set k (.lst (xs.take i.toNat ++ d :: xs.drop i.toNat))) else .bad | _ => .bad) = _
  rw [h]; exact if_pos ⟨hl, h0, h1⟩
/-- [list(row) for row in e] -/
theorem copy_spec {cal : Nat → List D → Sto → Out D} {γ : Gm} {S : Sto} {sl : Nat} {e : E} {rows : List (List Int)} {Q : D → Sto → Prop} (hp : e.plain = true) (he : ev cal e γ S = .ok (lT rows) S) (hs : sl < γ.length) (hl : rows.length ≤ 1000)
    (q : Q (.lst (locs S.length rows.length)) (S ++ rows.map rowS)) : WP (ev cal (.lc (.name sl) [sl] .val [e] [] (.trk (.bf .list [.var sl]))) γ S) Q := by
  refine wp_lc (wps_cons hp (wp_eq he (wps_nil ⟨_, rfl, ?_, ?_⟩)))
  · rw [List.length_map]; omega
  refine wp_loopC (fun j acc S' => acc = locs S.length j ∧ S' = S ++ (rows.take j).map rowS) (i := 0) ⟨rfl, by simp⟩ ?_ ?_
  · rintro j x acc S' hx ⟨rfl, rfl⟩
    rw [Nat.zero_add] at *
    obtain ⟨hj, rfl⟩ := map_get (d := []) hx
    refine ⟨_, rfl, wp_turn0 ?_⟩
    refine wp_trk (wp_bf (wps_cons rfl (wp_var (d := tuI (rows.getD j [])) ?_ (wps_nil ⟨_, rfl, wp_trkL ?_⟩))))
    · show ((γ.set sl none).set sl _)[sl]? = _
      rw [List.getElem?_set_self (by simpa using hs)]
    refine ⟨?_, ?_⟩
    · unfold locs
      rw [List.range_succ, List.map_append]
      simp
      omega
    · rw [take_snoc (d := []) hj, List.map_append, List.append_assoc]
      rfl
  · rintro acc S' ⟨rfl, rfl⟩
    rw [Nat.zero_add, List.length_map, List.take_length]
    exact q
/-! ### draws -/
def ofIR (fd : Nat) : List Itp.St := [.ret (.idx (.var 1) (.call fd [.var 0, .bf .len [.var 1]] [] ⟨2, false, [.pos 0, .pos 1]⟩))]
def mixIR (fd : Nat) : List Itp.St := [
    .set 2 (.lst true []),
    .for (.name 3) .val [.var 1] [.expr (.bm .insert (.var 2) [.call fd [.var 0, .bin .add (.bf .len [.var 2]) (.int 1)] [] ⟨2, false, [.pos 0, .pos 1]⟩, .var 3])],
    .ret (.frz (.var 2))]
section
variable {P : List Fn} {n f fd : Nat} {s : Sr} {R : Sto}
theorem of_spec (hP : P[f]? = some ⟨2, 2, ofIR fd⟩) (hD : P[fd]? = some ⟨2, 5, drawIR⟩) {xs : List D} (hs : s.ok) (h1 : 0 < xs.length) (h2 : xs.length < 1000000) {Q : D → Sto → Prop}
    (q : ∀ (k : Nat) (h : k < xs.length) (s' : Sr), s'.ok → Q xs[k] (s'.so :: R)) : WP (callN P (n + 2) f [.loc 0, .lst xs] (s.so :: R)) Q := by
  refine wp_fn hP rfl ?_
  dsimp only [List.map, Nat.sub, List.replicate, List.append, ofIR]
  walk_at "w"
  refine draw_loc hD hs (by omega) (by omega) fun k s1 k1 k2 hs1 => ?_
  obtain ⟨k, rfl⟩ := Int.eq_ofNat_of_zero_le k1
  have hk : k < xs.length := by omega
  refine ⟨xs[k], ?_, ?_⟩
  · show atI xs (k : Int) = _
    rw [atI_natJ hk]
  refine (congrArg (Q _) ?_).mpr (q k hk s1 hs1)
  exact trim_len _ rfl
/-- shuffled numbers -/
theorem mix_spec (hP : P[f]? = some ⟨2, 4, mixIR fd⟩) (hD : P[fd]? = some ⟨2, 5, drawIR⟩) {r : List Int} (hs : s.ok) (h2 : r.length < 1000) (lw : Low (s.so :: R)) {Q : D → Sto → Prop}
    (q : ∀ (r' : List Int) (s' : Sr), r'.Perm r → s'.ok → Q (.lst (r'.map .int)) (s'.so :: R)) : WP (callN P (n + 2) f [.loc 0, .lst (r.map .int)] (s.so :: R)) Q := by
  refine wp_fn hP rfl ?_
  dsimp only [List.map, Nat.sub, List.replicate, List.append, mixIR]
  walk_at "w"
  refine wf_for ?_
  walk_at "w"
  refine ⟨_, rfl, ?_⟩
  refine wf_loop (fun j γ S => ∃ l s' x3, γ = [some (.loc 0), some (.lst (r.map .int)), some (.loc (R.length + 1)), x3] ∧ S = s'.so :: (R ++ [rowS l]) ∧ Sr.ok s' ∧ l.Perm (r.take j)) (i := 0) ⟨[], s, _, rfl, rfl, hs, List.Perm.nil⟩ ?_ ?_
  · rintro j x γ S hx ⟨l, s1, x3, rfl, rfl, hs1, pm⟩
    rw [Nat.zero_add] at *
    obtain ⟨hj, rfl⟩ := map_get (d := 0) hx
    have hll : l.length = j := by rw [pm.length_eq, List.length_take]; omega
    have gl : ∀ t : Sr, (t.so :: (R ++ [rowS l]))[R.length + 1]? = some (.lst (l.map .int)) := fun t => by
      rw [List.getElem?_cons_succ]; exact get_last
    refine ⟨_, rfl, ?_⟩
    walk_at "w"
    refine ⟨by show (lstOf _ _).isSome = true; rw [lst_loc (gl s1)]; rfl, ?_⟩
    walk_at "w"
    refine ⟨_, bf_len (lst_loc (gl s1)), ?_⟩
    walk_at "w"
    refine draw_loc hD hs1 (by omega) (by rw [List.length_map]; omega) fun k s2 k1 k2 hs2 => ?_
    rw [List.length_map] at k2
    walk_at "w"
    refine wp_eq (bm_ins (gl s2) (by rw [List.length_map]; omega) k1 (by rw [List.length_map]; omega)) ?_
    walk_at "w"
    refine ⟨l.take k.toNat ++ r.getD j 0 :: l.drop k.toNat, s2, _, rfl, ?_, hs2, ?_⟩
    · rw [List.set_cons_succ, set_last]
      unfold rowS
      rw [List.map_append, List.map_cons, List.map_take, List.map_drop]
    · rw [take_snoc (d := 0) hj]
      refine List.perm_middle.trans ?_
      rw [List.take_append_drop]
      exact (pm.cons _).trans (List.perm_append_singleton _ _).symm
  · rintro γ S ⟨l, s1, x3, rfl, rfl, hs1, pm⟩
    rw [Nat.zero_add, List.length_map, List.take_length] at pm
    walk_at "w"
    have gl : (s1.so :: (R ++ [rowS l]))[R.length + 1]? = some (.lst (l.map .int)) := by
      rw [List.getElem?_cons_succ]; exact get_last
    refine wp_frzL gl ?_
    rw [List.set_cons_succ, set_last]
    have e : trim (s.so :: R).length (.lst (l.map .int)) (s1.so :: (R ++ [SO.dead])) = s1.so :: R := trim_cut (A := s1.so :: R) (T := [.dead]) rfl (low_ints _ l) (low_src lw)
    exact (congrArg (Q _) e).mpr (q l s1 pm hs1)
end
/-! ### membership -/
theorem in_seq {e : D} {S : Sto} {l : List Int} {x : Int} (h : seqOf e S = some (l.map .int)) : inD (.int x) e S = some (decide (x ∈ l)) := by
  have b1 : (J.i x).dp ≤ 19 := Nat.zero_le _
  have b2 : J.dps (l.map J.i) ≤ 19 := Nat.le_trans (dps_mapJ (n := 0) fun _ _ => Nat.le_refl _) (by decide)
  cases e with
  | tup ys => cases h; rw [inD_tup (j := .i x) rfl ress_ints b1 b2, jin_ints]
  | lst ys => cases h; rw [inD_lst (j := .i x) rfl (xs := l.map .int) rfl ress_ints b1 b2, jin_ints]
  | loc m => rw [inD_lst (j := .i x) (b := .loc m) rfl (xs := l.map .int) (show lstOf (.loc m) S = _ from h) ress_ints b1 b2, jin_ints]
  | _ => cases h
theorem cut_to {β : Type} (xs : List β) (k : Nat) : cutD xs none (some (k : Int)) = xs.take k := by
  unfold cutD
  rw [HT.sIx_none]
  have e : HT.sIx xs.length xs.length (some (k : Int)) = min k xs.length := HT.sIx_nat xs.length xs.length k
  rw [e, List.drop_zero, Nat.sub_zero]
  exact List.take_eq_take_iff.mpr (by omega)
theorem slc_seq {d : D} {S : Sto} {l : List Int} {k : Nat} (h : seqOf d S = some (l.map .int)) : ∃ e, slcD d none (some (k : Int)) S = some e ∧ seqOf e S = some ((l.take k).map .int) := by
  cases d with
  | tup ys => cases h; exact ⟨_, rfl, by show some _ = _; rw [cut_to, List.map_take]⟩
  | lst ys => cases h; exact ⟨_, rfl, by show some _ = _; rw [cut_to, List.map_take]⟩
  | loc m =>
    refine ⟨.lst (cutD (l.map .int) none (some (k : Int))), ?_, by show some _ = _; rw [cut_to, List.map_take]⟩
    show (lstOf (.loc m) S).map _ = _
    rw [show lstOf (.loc m) S = some (l.map .int) from h]; rfl
  | _ => cases h
theorem pw_of_asc {r : List Int} (h : asc r) : r.Pairwise (· < ·) := by
  have go : ∀ d i, i + d + 1 < r.length → r.getD i 0 < r.getD (i + d + 1) 0 := by
    intro d
    induction d with
    | zero => intro i hi; exact h i hi
    | succ d ih =>
      intro i hi
      have h1 := ih i (by omega)
      have h2 := h (i + d + 1) (by omega)
      rw [show i + (d + 1) + 1 = i + d + 1 + 1 by omega]
      omega
  rw [List.pairwise_iff_getElem]
  intro i j hi hj hij
  have := go (j - i - 1) i (by omega)
  rw [show i + (j - i - 1) + 1 = j by omega] at this
  simpa [List.getD, hi, hj] using this
theorem nodup_asc {r : List Int} (h : asc r) : r.Nodup := (pw_of_asc h).imp fun h => Int.ne_of_lt h
end Itp
namespace Itp
open PySem L2
local macro_rules | `(tactic| walk_at "w1") => `(tactic| first
  | ((with_reducible show WP (ev _ _ _ _) _); first
    | ((with_reducible show WP (ev _ (E.var _) _ _) _); refine wp_var rfl ?_)
    | with_reducible refine wp_int ?_
    | with_reducible refine wp_str ?_
    | with_reducible refine wp_bl ?_
    | with_reducible refine wp_non ?_
    | with_reducible refine wp_idx ?_
    | with_reducible refine wp_bin ?_
    | with_reducible refine wp_call ?_
    | with_reducible refine wp_lst ?_
    | with_reducible refine wp_cmp ?_
    | with_reducible refine wp_tup ?_
    | with_reducible refine wp_slc ?_
    | with_reducible refine wp_bf ?_
    | with_reducible refine wp_not ?_
    | with_reducible refine wp_isi ?_
    | with_reducible refine wp_bop ?_
    | with_reducible refine wp_bm ?_
    | with_reducible refine wp_gint ?_
    | with_reducible refine wp_gstr ?_
    | with_reducible refine wp_neg ?_
    | with_reducible refine wp_chn ?_
    | with_reducible refine wp_ite ?_
    | with_reducible refine wp_new ?_
    | with_reducible refine wp_isT ?_
    | with_reducible refine wp_frz ?_
    | with_reducible refine wp_trk ?_
    | with_reducible refine wp_mth ?_
    | with_reducible refine wp_smt ?_
    | with_reducible refine wp_cmt ?_
    | with_reducible refine wp_mk ?_
    | with_reducible refine wp_att ?_
    | with_reducible refine wp_cst ?_
    | with_reducible refine wp_own ?_
    | with_reducible refine wp_fst ?_)
  | ((with_reducible show WP (evs _ _ _ _) _); first
    | with_reducible refine wps_nil ?_
    | ((with_reducible show WP (evs _ (E.star _ :: _) _ _) _); refine wps_star ?_)
    | ((with_reducible show WP (evs _ (_ :: _) _ _) _); refine wps_cons rfl ?_))
  | ((with_reducible show WF (exs _ _ _ _) _ _ _); first
    | with_reducible refine wfs_cons ?_
    | with_reducible refine wfs_nil ?_)
  | ((with_reducible show WF (ex _ _ _ _) _ _ _); first
    | with_reducible refine wf_set ?_
    | with_reducible refine wf_asg ?_
    | with_reducible refine wf_par ?_
    | with_reducible refine wf_idx ?_
    | with_reducible refine wf_expr ?_
    | with_reducible refine wf_ret ?_
    | with_reducible refine wf_if ?_
    | with_reducible refine wf_retN ?_
    | with_reducible refine wf_cont ?_
    | with_reducible refine wf_pass ?_
    | with_reducible refine wf_flds ?_)
  | ((with_reducible show WP (evB _ _ _ _ _) _); first
    | with_reducible refine wpB_a ?_
    | with_reducible refine wpB_o ?_
    | with_reducible refine wpB_one ?_)
  | ((with_reducible show WP (evO _ _ _ _) _); first
    | with_reducible refine wpO_none ?_
    | with_reducible refine wpO_some ?_)
  | ((with_reducible show WP (trkD (D.lst _) _) _); refine wp_trkL ?_)
  | ((with_reducible show WP (attD _ _ _ _ _) _); first
    | refine wp_fld rfl rfl rfl ?_
    | refine wp_prp rfl rfl ?_
    | refine wp_acon rfl rfl rfl ?_)
  | ((with_reducible show WP (ownD _ OK.eq _ _ _ _) _); refine wp_oeq ?_)
  | ((with_reducible show WP (ownD _ OK.ne _ _ _ _) _); refine wp_one ?_)
  | ((with_reducible show Exists _); first
    | ((with_reducible show ∃ z, truD _ _ = some z ∧ _); refine ⟨_, rfl, ?_⟩)
    | ((with_reducible show ∃ z, cmpD _ _ _ _ = some z ∧ _); refine ⟨_, rfl, ?_⟩)
    | ((with_reducible show ∃ z, idxD _ _ _ = some z ∧ _); refine ⟨_, rfl, ?_⟩)
    | ((with_reducible show ∃ z, slcD _ _ _ _ = some z ∧ _); refine ⟨_, rfl, ?_⟩)
    | ((with_reducible show ∃ z, isD _ _ _ = some z ∧ _); refine ⟨_, rfl, ?_⟩)
    | ((with_reducible show ∃ z, isAny _ _ _ = some z ∧ _); refine ⟨_, rfl, ?_⟩)
    | ((with_reducible show ∃ z, bfD _ _ _ = some z ∧ _); refine ⟨_, rfl, ?_⟩)
    | ((with_reducible show ∃ z, bindP _ _ _ = some z ∧ _); refine ⟨_, rfl, ?_⟩)
    | ((with_reducible show ∃ z, setTg _ _ _ = some z ∧ _); refine ⟨_, rfl, ?_⟩)
    | ((with_reducible show ∃ z, binD BO.add (D.int _) (D.int _) _ = some z ∧ _); refine ⟨_, rfl, ?_⟩)
    | ((with_reducible show ∃ z, binD BO.sub _ _ _ = some z ∧ _); refine ⟨_, rfl, ?_⟩)
    | ((with_reducible show ∃ z, binD BO.mul (D.int _) (D.int _) _ = some z ∧ _); refine ⟨_, rfl, ?_⟩)
    | ((with_reducible show ∃ z, binD BO.mod _ _ _ = some z ∧ _); refine ⟨_, rfl, ?_⟩)
    | ((with_reducible show ∃ z, binD BO.fdiv _ _ _ = some z ∧ _); refine ⟨_, rfl, ?_⟩)
    | ((with_reducible show ∃ z, binD BO.pow _ _ _ = some z ∧ _); refine ⟨_, rfl, ?_⟩)
    | ((with_reducible show ∃ p, insOf _ _ = some p ∧ _); refine ⟨_, rfl, rfl, _, rfl, ?_⟩)
    | ((with_reducible show ∃ z, D.int _ = D.int z ∧ _); refine ⟨_, rfl, ?_⟩)
    | ((with_reducible show ∃ z, D.loc _ = D.loc z ∧ _); refine ⟨_, rfl, ?_⟩)
    | ((with_reducible show ∃ z, D.lst _ = D.lst z ∧ _); refine ⟨_, rfl, ?_⟩))
  | ((with_reducible show And _ _); first
    | ((with_reducible show List.length _ ≤ 16777216 ∧ _); refine ⟨Nat.le_of_ble_eq_true rfl, ?_⟩)
    | ((with_reducible refine two_t ?hk ?_); (case hk => exact rfl))
    | ((with_reducible refine two_f ?hk ?_); (case hk => exact rfl)))
  | ((with_reducible show WP (mkD _ _ _ _ _ _ _ _) _); (with_reducible refine of_mkD (k := ?kk) ?hk ?_); (case hk => with_reducible assumption))
  | ((with_reducible show WP (eqO _ _ _ _ _ _ _) _); (with_reducible refine of_eqO (c := ?kk) ?hk ?_); (case hk => with_reducible assumption))
  | ((with_reducible refine of_cal (c := ?kk) ?hk ?_); (case hk => with_reducible assumption)))
local macro_rules | `(tactic| walk_at "w") => `(tactic| repeat walk_at "w1")
theorem getD_mem {β : Type} {l : List β} {k : Nat} {d : β} (h : k < l.length) : l.getD k d ∈ l := by
  rw [List.getD_eq_getElem?_getD, List.getElem?_eq_getElem h]
  exact List.getElem_mem h
theorem nodup_take {β : Type} {l : List β} {k : Nat} {d : β} (nd : l.Nodup) (h : k < l.length) : l.getD k d ∉ l.take k := by
  intro z
  obtain ⟨i, hi, e⟩ := List.mem_iff_getElem.mp z
  rw [List.length_take] at hi
  rw [List.getElem_take, List.getD_eq_getElem?_getD, List.getElem?_eq_getElem h] at e
  have hi' : i < l.length := by omega
  have h3 : l[i]? = l[k]? := by rw [List.getElem?_eq_getElem hi', List.getElem?_eq_getElem h, e]; rfl
  have := (List.getElem?_inj hi' nd).mp h3
  omega
theorem filterMap_get {β δ τ : Type} {f : β → Option τ} {h : δ → τ} {b : β} {d : δ} : ∀ {ds : List β} {rows : List δ}, ds.length = rows.length → (∀ i, i < rows.length → f (ds.getD i b) = some (h (rows.getD i d))) → ds.filterMap f = rows.map h
  | [], [], _, _ => rfl
  | [], _ :: _, e, _ => by cases e
  | _ :: _, [], e, _ => by cases e
  | x :: ds, r :: rows, e, g => by
    have h0 : f x = some (h r) := g 0 (by simp)
    rw [List.filterMap_cons, h0, List.map_cons, filterMap_get (ds := ds) (rows := rows) (b := b) (d := d) (by simpa using e) fun i hi => by
      have := g (i + 1) (by simpa using hi)
      simpa using this]
/-! ### rules.py -/
def clsRowsIR : List Itp.St := [.ret (.bf .list [.att (.var 0) 35 [(0, .fld)]])]
def isOrdIR (fl fn : Nat) : List Itp.St := [
    .ifs (.bop false [.not (.call fl [.var 1] [] ⟨1, false, [.pos 0]⟩), .cmp .ne (.bf .len [.var 1]) (.bf .len [.var 0])]) [.ret (.bl false)] [],
    .ret (.bf .all [.lc (.tup [.name 2, .name 3]) [2, 3] .enum [.var 1] [] (.bop true [.call fn [.var 3, .int 0, .int 3] [] ⟨3, false, [.pos 0, .pos 1, .pos 2]⟩, .cmp .inn (.var 3) (.var 0), .cmp .nin (.var 3) (.slc (.var 1) none (some (.var 2)))])])]
def rulInitIR (fw fo : Nat) (cs : List Nat) : List Itp.St := [
    .set 3 (.mth (.var 1) 5 [(0, fw)] [] [] ⟨1, false, [.pos 0]⟩),
    .for (.tup [.name 4, .name 5]) .enum [.var 2] [.ifs (.bop false [.cmp .ge (.var 4) (.bf .len [.var 3]), .not (.call fo [.idx (.var 3) (.var 4), .var 5] [] ⟨2, false, [.pos 0, .pos 1]⟩)]) [.never] []],
    .ifs (.cmp .lt (.bf .len [.var 2]) (.bf .len [.var 3])) [.never] [],
    .flds (.var 0) cs [55, 56] [.var 1, .lc (.name 5) [5] .val [.var 2] [] (.bf .tuple [.var 5])]]
def rulPlainIR (fw fi : Nat) (tb : List (Nat × Nat)) : List Itp.St := [
    .set 2 (.mth (.var 1) 5 [(0, fw)] [] [] ⟨1, false, [.pos 0]⟩),
    .ret (.mkv false (.var 0) tb [.var 1, .star (.var 2)] [] ⟨2, true, [.pos 0, .pos 1, .rest]⟩)]
def rulClsIR (tb : List (Nat × AK)) : List Itp.St := [.ret (.att (.var 0) 55 tb)]
def rulOrdT (tb : List (Nat × AK)) : List Itp.St := [.ret (.trk (.bf .list [.att (.var 0) 56 tb]))]
def rulEqIR (fe : Nat) (sb : List Nat) (tk : List (Nat × AK)) (tf : List (Nat × AK)) (ss : List (Nat × Nat)) : List Itp.St := [
    .ifs (.bop false [.not (.isi (.var 1) (.own 1 sb)), .cmp .ne (.att (.var 0) 48 tk) (.att (.var 1) 48 tk)]) [.ret (.bl false)] [],
    .ret (.bop true [.own .eq [(0, fe)] ss [.att (.var 0) 55 tf, .att (.var 1) 55 tf], .cmp .eq (.att (.var 0) 56 tf) (.att (.var 1) 56 tf)])]
def rulReprIR (tk : List (Nat × AK)) : List Itp.St := [.ret (.fst [.str "Rule(", .att (.var 0) 48 tk, .str ")"])]
def kindS : Nat → Str
  | 1 => "rule"
  | 2 => "row"
  | _ => "fullest"
def rulO (c : Nat) (m : Int) (rows orders : List (List Int)) : D := .obj c [55, 56] [clsO m rows, lT orders]
structure okO (rows orders : List (List Int)) : Prop where
  ln : orders.length = rows.length
  pm : ∀ i, i < rows.length → (orders.getD i []).Perm (rows.getD i [])
theorem low_clsO (n : Nat) (m : Int) (rows : List (List Int)) : (clsO m rows).low n = true := by
  show (true && (D.low n (lT rows) && true)) = true
  rw [low_lT]; rfl
theorem low_rulO (n c : Nat) (m : Int) (rows orders : List (List Int)) : (rulO c m rows orders).low n = true := by
  show (D.low n (clsO m rows) && (D.low n (lT orders) && true)) = true
  rw [low_clsO, low_lT]; rfl
section
variable {P : List Fn} {n f : Nat} {S : Sto} {m : Int} {rows orders : List (List Int)}
theorem cls_rows (hP : P[f]? = some ⟨1, 1, clsRowsIR⟩) : callN P (n + 1) f [clsO m rows] S = .ok (lT rows) S := by
  refine eq_of_wp (wp_fn hP rfl ?_)
  dsimp only [List.map, Nat.sub, List.replicate, List.append, clsRowsIR]
  walk_at "w"
  exact ⟨rfl, trim_self _ _⟩
theorem is_ord {fl fn : Nat} (hP : P[f]? = some ⟨2, 4, isOrdIR fl fn⟩) (hl : P[fl]? = some ⟨1, 1, isListIR⟩) (hn : P[fn]? = some ⟨3, 3, isNumIR⟩) {row o : List Int} {d : D} (h : seqOf d S = some (o.map .int)) (pm : o.Perm row) (ok : okR m row) (hm : m ≤ 4) : callN P (n + 2) f [tuI row, d] S = .ok (.bl true) S := by
  have nd : o.Nodup := pm.nodup_iff.mpr (nodup_asc ok.as)
  have lo := pm.length_eq
  have mo := ok.mo
  refine eq_of_wp (wp_fn hP rfl ?_)
  dsimp only [List.map, Nat.sub, List.replicate, List.append, isOrdIR]
  walk_at "w"
  refine wp_eq (is_list hl h) ⟨_, rfl, _, rfl, two_f rfl ?_⟩
  walk_at "w"
  refine ⟨_, seq_len h, ?_⟩
  walk_at "w"
  refine two_f ?_ ?_
  · rw [eqv_int]
    simp [lo]
  walk_at "w"
  refine wp_lcP (wps_cons rfl (wp_var rfl (wps_nil ⟨_, fun _ => some (.bl true), its_enum h, ?_, ?_, wps_nil ⟨_, blsOf_all ?_, rfl, trim_self _ _⟩⟩)))
  · rw [List.length_map, List.length_range, List.length_map]; omega
  · intro z hz
    obtain ⟨k, hk, rfl⟩ := List.mem_map.mp hz
    have hk := List.mem_range.mp hk
    rw [List.length_map] at hk
    rw [map_getD hk]
    have hx : o.getD k 0 ∈ row := pm.mem_iff.mp (getD_mem hk)
    have hb := ok.lo _ hx
    obtain ⟨e, e1, e2⟩ := slc_seq (k := k) h
    refine ⟨_, rfl, eq_of_wp (wp_turn0 ?_)⟩
    walk_at "w"
    refine wp_eq (is_num_t hn hb.1 (by omega)) ⟨_, rfl, two_t rfl ?_⟩
    walk_at "w"
    refine ⟨_, cmp_inT, _, rfl, two_t (decide_eq_true hx) ?_⟩
    walk_at "w"
    refine ⟨_, e1, _, (show (inD _ _ _).map (!·) = _ by rw [in_seq e2]; rfl), ?_⟩
    rw [decide_eq_false (nodup_take nd hk)]
    exact ⟨rfl, rfl⟩
  · intro x hx
    obtain ⟨_, _, e⟩ := List.mem_filterMap.mp hx
    exact (Option.some.inj e).symm
theorem rul_init {fw fo fl fn : Nat} {cs : List Nat} (hP : P[f]? = some ⟨3, 6, rulInitIR fw fo cs⟩) (hw : P[fw]? = some ⟨1, 1, clsRowsIR⟩) (ho : P[fo]? = some ⟨2, 4, isOrdIR fl fn⟩) (hl : P[fl]? = some ⟨1, 1, isListIR⟩) (hn : P[fn]? = some ⟨3, 3, isNumIR⟩) {ds : List D} {k c : Nat} (lw : Low S) (hk : S[k]? = some (.ins c [] [])) (hc : cs.contains c = true) (ok : okC2 m rows) (oo : okO rows orders) (hd : ds.length = rows.length)
    (hs : ∀ i, i < rows.length → seqOf (ds.getD i .non) S = some ((orders.getD i []).map .int)) : callN P (n + 3) f [.loc k, clsO m rows, .tup ds] S = .ok .non (S.set k (.ins c [55, 56] [clsO m rows, lT orders])) := by
  have hk' : k < S.length := (List.getElem?_eq_some_iff.mp hk).1
  have mo := ok.mo
  refine eq_of_wp (wp_fn hP rfl ?_)
  dsimp only [List.map, Nat.sub, List.replicate, List.append, rulInitIR]
  walk_at "w"
  refine wp_eq (cls_rows hw) ?_
  walk_at "w"
  refine wf_for (wps_cons rfl (wp_var rfl (wps_nil ⟨_, rfl, ?_⟩)))
  refine wf_loop (fun j γ S' => ∃ x y, γ = [some (.loc k), some (clsO m rows), some (.tup ds), some (lT rows), x, y] ∧ S' = S) (i := 0) ⟨_, _, rfl, rfl⟩ ?_ ?_
  · rintro j x γ S' hx ⟨x4, x5, rfl, rfl⟩
    obtain ⟨hj, rfl⟩ := enum_get hx
    have hj' : j < rows.length := by omega
    have hseq := hs j hj'
    refine ⟨_, rfl, ?_⟩
    walk_at "w"
    refine two_f ?_ ?_
    · rw [List.length_map]
      simp
      omega
    walk_at "w"
    refine ⟨_, idx_lT hj', ?_⟩
    walk_at "w"
    refine wp_eq (is_ord ho hl hn hseq (oo.pm j hj') (ok.ok _ (getD_mem hj')) ok.hi) ⟨_, rfl, _, rfl, two_f rfl ?_⟩
    walk_at "w"
    exact ⟨_, _, rfl, rfl⟩
  · rintro γ S' ⟨x4, x5, rfl, rfl⟩
    walk_at "w"
    refine two_f ?_ ?_
    · rw [List.length_map]
      simp
      omega
    walk_at "w"
    refine wp_lcP (wps_cons rfl (wp_var rfl (wps_nil ⟨_, fun x => bfD .tuple [x] S', its_val rfl, by omega, ?_, ?_⟩)))
    · intro z hz
      obtain ⟨i, hi, rfl⟩ := List.mem_iff_getElem.mp hz
      have hq := hs i (by omega)
      rw [List.getD_eq_getElem?_getD, List.getElem?_eq_getElem hi] at hq
      have hq : seqOf ds[i] S' = some ((orders.getD i []).map .int) := hq
      refine ⟨_, rfl, eq_of_wp (wp_turn0 ?_)⟩
      walk_at "w"
      exact ⟨_, seq_tuple hq, by show _ = bfD .tuple [ds[i]] S'; rw [seq_tuple hq], rfl⟩
    · rw [filterMap_get (ds := ds) (f := fun x => bfD .tuple [x] S') (h := tuI) (b := D.non) (d := []) (rows := orders) (by rw [hd, oo.ln]) fun i hi => seq_tuple (hs i (by rw [← oo.ln]; exact hi))]
      walk_at "w"
      refine wp_put (c := c) (vs := []) (ns := []) (n := k) rfl hk hc (by decide) ?_
      refine wp_put (c := c) (vs := [clsO m rows]) (ns := [55]) (n := k) rfl (by rw [List.getElem?_set_self hk']; rfl) hc (by decide) (wp_put0 ?_)
      refine ⟨rfl, ?_⟩
      rw [List.set_set]
      exact trim_len _ (by simp)
/-- a rule by its class -/
theorem rul_mk {fw fo fl fn : Nat} {cs : List Nat} (hP : P[f]? = some ⟨3, 6, rulInitIR fw fo cs⟩) (hw : P[fw]? = some ⟨1, 1, clsRowsIR⟩) (ho : P[fo]? = some ⟨2, 4, isOrdIR fl fn⟩) (hl : P[fl]? = some ⟨1, 1, isListIR⟩) (hn : P[fn]? = some ⟨3, 3, isNumIR⟩) {ds : List D} {c : Nat} {Q : D → Sto → Prop} (lw : Low S) (hc : cs.contains c = true) (ok : okC2 m rows) (oo : okO rows orders) (hd : ds.length = rows.length)
    (hs : ∀ i, i < rows.length → seqOf (ds.getD i .non) S = some ((orders.getD i []).map .int)) (q : Q (rulO c m rows orders) (S ++ [.dead])) :
    WP (mkD (callN P (n + 3)) false c f ⟨2, true, [.pos 0, .pos 1, .rest]⟩ (clsO m rows :: ds) [] S) Q := by
  refine wp_mkD ⟨[.loc S.length, clsO m rows, .tup ds], ?_, wp_eq (rul_init hP hw ho hl hn (lw.app rfl) get_last hc ok oo hd fun i hi => seqOf_app (hs i hi)) ?_⟩
  · have := ok.mo
    unfold bindP
    rw [if_pos (.inr ⟨rfl, by simp, by simp; omega⟩)]
    rfl
  · rw [set_last]
    refine ⟨rfl, _, _, _, get_last, ?_⟩
    rw [set_last]
    exact q
theorem okO_self : okO rows rows := ⟨rfl, fun _ _ => List.Perm.refl _⟩
theorem rul_plain {fi fw fo fl fn c : Nat} {cs : List Nat} {tb : List (Nat × Nat)} (hP : P[f]? = some ⟨2, 3, rulPlainIR fw fi tb⟩) (hi : P[fi]? = some ⟨3, 6, rulInitIR fw fo cs⟩) (hw : P[fw]? = some ⟨1, 1, clsRowsIR⟩) (ho : P[fo]? = some ⟨2, 4, isOrdIR fl fn⟩) (hl : P[fl]? = some ⟨1, 1, isListIR⟩) (hn : P[fn]? = some ⟨3, 3, isNumIR⟩) (lw : Low S) (ht : tb.lookup c = some fi) (hc : cs.contains c = true) (ok : okC2 m rows) :
    callN P (n + 4) f [.cls c, clsO m rows] S = .ok (rulO c m rows rows) S := by
  refine eq_of_wp (wp_fn hP rfl ?_)
  dsimp only [List.map, Nat.sub, List.replicate, List.append, rulPlainIR]
  walk_at "w"
  refine wp_eq (cls_rows hw) ?_
  walk_at "w"
  refine wp_mkv (wp_var rfl ⟨c, fi, rfl, ht, ?_⟩)
  walk_at "w"
  refine ⟨_, rfl, ?_⟩
  walk_at "w"
  rw [List.append_nil]
  refine rul_mk hi hw ho hl hn lw hc ok okO_self (by rw [List.length_map]) (fun i hi => by rw [rows_get hi]; rfl) ⟨rfl, ?_⟩
  exact trim_cut rfl (low_rulO _ _ _ _ _) lw
theorem rul_cls {tb : List (Nat × AK)} {c : Nat} (hP : P[f]? = some ⟨1, 1, rulClsIR tb⟩) (ht : tb.lookup c = some .fld) : callN P (n + 1) f [rulO c m rows orders] S = .ok (clsO m rows) S := by
  refine eq_of_wp (wp_fn hP rfl ?_)
  dsimp only [List.map, Nat.sub, List.replicate, List.append, rulClsIR]
  refine wfs_cons (wf_ret (wp_att (wp_var rfl (wp_fld rfl ht rfl ⟨rfl, trim_self _ _⟩))))
theorem rul_ordT {tb : List (Nat × AK)} {c : Nat} (hP : P[f]? = some ⟨1, 1, rulOrdT tb⟩) (ht : tb.lookup c = some .fld) : callN P (n + 1) f [rulO c m rows orders] S = .ok (.loc S.length) (S ++ [.lst (orders.map tuI)]) := by
  refine eq_of_wp (wp_fn hP rfl ?_)
  dsimp only [List.map, Nat.sub, List.replicate, List.append, rulOrdT]
  refine wfs_cons (wf_ret (wp_trk (wp_bf (wps_cons rfl (wp_att (wp_var rfl (wp_fld rfl ht rfl (wps_nil ⟨_, rfl, wp_trkL ⟨rfl, trim_loc⟩⟩))))))))
theorem eqv_str (a b : Str) : PyData.eqv (.str a) (.str b) = decide (a = b) := by
  by_cases h : a = b
  · subst h
    simp [PyData.eqv]
  · simp [PyData.eqv, h]
theorem kind_inj {c c' : Nat} (h : c = 1 ∨ c = 2 ∨ c = 3) (h' : c' = 1 ∨ c' = 2 ∨ c' = 3) : decide (kindS c = kindS c') = decide (c = c') := by
  rcases h with rfl | rfl | rfl <;> rcases h' with rfl | rfl | rfl <;> decide +kernel
theorem eq_lT {a b : List (List Int)} : cmpD .eq (lT a) (lT b) S = some (decide (a = b)) := by
  show eqD _ _ _ = _
  rw [eqD_res res_lT res_lT (Nat.le_trans (dp_jT _) (by decide)) (Nat.le_trans (dp_jT _) (by decide))]
  congr 1
  apply bool_iff
  rw [jeq_iff (bf_jT _) (bf_jT _), decide_eq_true_eq]
  exact ⟨jT_inj, fun h => by rw [h]⟩
theorem own_clsEq {fe : Nat} {Q : D → Sto → Prop} (hP : P[fe]? = some ⟨2, 2, clsEqIR⟩) {neg : Bool} {ss : List (Nat × Nat)} {m m' : Int} {a b : List (List Int)} (h0 : ss.contains (0, 0) = false) (q : Q (.bl (decide (m = m' ∧ a = b) != neg)) S) : WP (eqO (callN P (n + 1)) neg [(0, fe)] ss (clsO m a) (clsO m' b) S) Q := by
  obtain ⟨k, h1, h2⟩ := cls_eq (n := n) (S := S) hP (m := m) (m' := m') (a := a) (b := b)
  have e : k = decide (m = m' ∧ a = b) := bool_iff (by rw [decide_eq_true_eq]; exact h1)
  subst e
  exact wp_eqO rfl rfl (fun c' e => by cases e; exact h0) (by simp [List.lookup]) (wp_eq h2 ⟨_, rfl, q⟩)
theorem rul_eq {fe c c' : Nat} {sb : List Nat} {tk tf : List (Nat × AK)} {ss : List (Nat × Nat)} {m' : Int} {rows' orders' : List (List Int)} (hP : P[f]? = some ⟨2, 2, rulEqIR fe sb tk tf ss⟩) (he : P[fe]? = some ⟨2, 2, clsEqIR⟩) (hc : c = 1 ∨ c = 2 ∨ c = 3) (hc' : c' = 1 ∨ c' = 2 ∨ c' = 3) (h0 : ss.contains (0, 0) = false) (h1 : sb.contains c' = true)
    (h2 : tk.lookup c = some (.con (.str (kindS c)))) (h3 : tk.lookup c' = some (.con (.str (kindS c')))) (h4 : tf.lookup c = some .fld) (h5 : tf.lookup c' = some .fld) :
    callN P (n + 2) f [rulO c m rows orders, rulO c' m' rows' orders'] S = .ok (.bl (decide (c = c' ∧ m = m' ∧ rows = rows' ∧ orders = orders'))) S := by
  refine eq_of_wp (wp_fn hP rfl ?_)
  dsimp only [List.map, Nat.sub, List.replicate, List.append, rulEqIR]
  refine wfs_cons (wf_if (wp_bop (wpB_o (wp_not (wp_isi (wp_var rfl ⟨_, isD_of (k := .obj c') rfl, ⟨true, by show some (sb.contains c') = _; rw [h1], _, rfl, two_f rfl ?_⟩⟩))))))
  refine wpB_one (wp_cmp (wp_att (wp_var rfl (wp_acon rfl h2 rfl (wp_att (wp_var rfl (wp_acon rfl h3 rfl ⟨_, rfl, _, rfl, ?_⟩)))))))
  rw [eqv_str, kind_inj hc hc']
  refine ⟨fun h => ?_, fun h => ?_⟩
  · have h : c ≠ c' := by simpa using h
    walk_at "w"
    exact ⟨by rw [decide_eq_false (fun z => h z.1)], trim_self _ _⟩
  · have h : c = c' := by simpa using h
    refine wfs_nil (wfs_cons (wf_ret (wp_bop (wpB_a (wp_own (wps_cons rfl (wp_att (wp_var rfl (wp_fld rfl h4 rfl (wps_cons rfl (wp_att (wp_var rfl (wp_fld rfl h5 rfl (wps_nil (wp_oeq (own_clsEq he h0 ⟨_, rfl, fun h6 => ?_, fun h6 => ?_⟩))))))))))))))))
    · have h6 : m = m' ∧ rows = rows' := by simpa using h6
      refine wpB_one (wp_cmp (wp_att (wp_var rfl (wp_fld rfl h4 rfl (wp_att (wp_var rfl (wp_fld rfl h5 rfl ⟨_, eq_lT, ?_, trim_self _ _⟩)))))))
      congr 1
      rw [decide_eq_decide]
      exact ⟨fun z => ⟨h, h6.1, h6.2, z⟩, fun z => z.2.2.2⟩
    · have h6 : ¬ (m = m' ∧ rows = rows') := by simpa using h6
      refine ⟨?_, trim_self _ _⟩
      rw [decide_eq_false h6, decide_eq_false fun z => h6 ⟨z.2.1, z.2.2.1⟩]; rfl
theorem rul_eq_no {fe c : Nat} {sb : List Nat} {tk tf : List (Nat × AK)} {ss : List (Nat × Nat)} {y : D} {k : TK} (hP : P[f]? = some ⟨2, 2, rulEqIR fe sb tk tf ss⟩) (h : tkD y S = some k) (hk : isK k (.own 1 sb) = false) : callN P (n + 1) f [rulO c m rows orders, y] S = .ok (.bl false) S := by
  refine eq_of_wp (wp_fn hP rfl ?_)
  dsimp only [List.map, Nat.sub, List.replicate, List.append, rulEqIR]
  walk_at "w"
  refine ⟨_, isD_of h, _, rfl, _, rfl, two_t ?_ ⟨_, rfl, two_t ?_ ?_⟩⟩
  · rw [hk]; rfl
  · rw [hk]; rfl
  walk_at "w"
  exact ⟨rfl, trim_self _ _⟩
def rulText (c : Nat) : Str := (("Rule(" ++ kindS c : Str) ++ (")" : Str))
theorem rul_repr {tk : List (Nat × AK)} {c : Nat} (hP : P[f]? = some ⟨1, 1, rulReprIR tk⟩) (hc : c = 1 ∨ c = 2 ∨ c = 3) (h2 : tk.lookup c = some (.con (.str (kindS c)))) : callN P (n + 1) f [rulO c m rows orders] S = .ok (.str (rulText c)) S := by
  refine eq_of_wp (wp_fn hP rfl ?_)
  dsimp only [List.map, Nat.sub, List.replicate, List.append, rulReprIR]
  refine wfs_cons (wf_ret (wp_fst (wps_cons rfl (wp_str (wps_cons rfl (wp_att (wp_var rfl (wp_acon rfl h2 rfl (wps_cons rfl (wp_str (wps_nil ⟨_, ?_, rfl, trim_self _ _⟩))))))))))) 
  rcases hc with rfl | rfl | rfl <;> decide +kernel
end
end Itp
namespace Itp
open PySem L2
local macro_rules | `(tactic| walk_at "w1") => `(tactic| first
  | ((with_reducible show WP (ev _ _ _ _) _); first
    | ((with_reducible show WP (ev _ (E.var _) _ _) _); refine wp_var rfl ?_)
    | with_reducible refine wp_int ?_
    | with_reducible refine wp_str ?_
    | with_reducible refine wp_bl ?_
    | with_reducible refine wp_non ?_
    | with_reducible refine wp_idx ?_
    | with_reducible refine wp_bin ?_
    | with_reducible refine wp_call ?_
    | with_reducible refine wp_lst ?_
    | with_reducible refine wp_cmp ?_
    | with_reducible refine wp_tup ?_
    | with_reducible refine wp_slc ?_
    | with_reducible refine wp_bf ?_
    | with_reducible refine wp_not ?_
    | with_reducible refine wp_isi ?_
    | with_reducible refine wp_bop ?_
    | with_reducible refine wp_bm ?_
    | with_reducible refine wp_gint ?_
    | with_reducible refine wp_gstr ?_
    | with_reducible refine wp_neg ?_
    | with_reducible refine wp_chn ?_
    | with_reducible refine wp_ite ?_
    | with_reducible refine wp_new ?_
    | with_reducible refine wp_isT ?_
    | with_reducible refine wp_frz ?_
    | with_reducible refine wp_trk ?_
    | with_reducible refine wp_mth ?_
    | with_reducible refine wp_smt ?_
    | with_reducible refine wp_cmt ?_
    | with_reducible refine wp_mk ?_
    | with_reducible refine wp_att ?_
    | with_reducible refine wp_cst ?_
    | with_reducible refine wp_own ?_
    | with_reducible refine wp_fst ?_)
  | ((with_reducible show WP (evs _ _ _ _) _); first
    | with_reducible refine wps_nil ?_
    | ((with_reducible show WP (evs _ (E.star _ :: _) _ _) _); refine wps_star ?_)
    | ((with_reducible show WP (evs _ (_ :: _) _ _) _); refine wps_cons rfl ?_))
  | ((with_reducible show WF (exs _ _ _ _) _ _ _); first
    | with_reducible refine wfs_cons ?_
    | with_reducible refine wfs_nil ?_)
  | ((with_reducible show WF (ex _ _ _ _) _ _ _); first
    | with_reducible refine wf_set ?_
    | with_reducible refine wf_asg ?_
    | with_reducible refine wf_par ?_
    | with_reducible refine wf_idx ?_
    | with_reducible refine wf_expr ?_
    | with_reducible refine wf_ret ?_
    | with_reducible refine wf_if ?_
    | with_reducible refine wf_retN ?_
    | with_reducible refine wf_cont ?_
    | with_reducible refine wf_pass ?_
    | with_reducible refine wf_flds ?_)
  | ((with_reducible show WP (evB _ _ _ _ _) _); first
    | with_reducible refine wpB_a ?_
    | with_reducible refine wpB_o ?_
    | with_reducible refine wpB_one ?_)
  | ((with_reducible show WP (evO _ _ _ _) _); first
    | with_reducible refine wpO_none ?_
    | with_reducible refine wpO_some ?_)
  | ((with_reducible show WP (trkD (D.lst _) _) _); refine wp_trkL ?_)
  | ((with_reducible show WP (attD _ _ _ _ _) _); first
    | refine wp_fld rfl rfl rfl ?_
    | refine wp_prp rfl rfl ?_
    | refine wp_acon rfl rfl rfl ?_)
  | ((with_reducible show WP (ownD _ OK.eq _ _ _ _) _); refine wp_oeq ?_)
  | ((with_reducible show WP (ownD _ OK.ne _ _ _ _) _); refine wp_one ?_)
  | ((with_reducible show Exists _); first
    | ((with_reducible show ∃ z, truD _ _ = some z ∧ _); refine ⟨_, rfl, ?_⟩)
    | ((with_reducible show ∃ z, cmpD _ _ _ _ = some z ∧ _); refine ⟨_, rfl, ?_⟩)
    | ((with_reducible show ∃ z, idxD _ _ _ = some z ∧ _); refine ⟨_, rfl, ?_⟩)
    | ((with_reducible show ∃ z, slcD _ _ _ _ = some z ∧ _); refine ⟨_, rfl, ?_⟩)
    | ((with_reducible show ∃ z, isD _ _ _ = some z ∧ _); refine ⟨_, rfl, ?_⟩)
    | ((with_reducible show ∃ z, isAny _ _ _ = some z ∧ _); refine ⟨_, rfl, ?_⟩)
    | ((with_reducible show ∃ z, bfD _ _ _ = some z ∧ _); refine ⟨_, rfl, ?_⟩)
    | ((with_reducible show ∃ z, bindP _ _ _ = some z ∧ _); refine ⟨_, rfl, ?_⟩)
    | ((with_reducible show ∃ z, setTg _ _ _ = some z ∧ _); refine ⟨_, rfl, ?_⟩)
    | ((with_reducible show ∃ z, binD BO.add (D.int _) (D.int _) _ = some z ∧ _); refine ⟨_, rfl, ?_⟩)
    | ((with_reducible show ∃ z, binD BO.sub _ _ _ = some z ∧ _); refine ⟨_, rfl, ?_⟩)
    | ((with_reducible show ∃ z, binD BO.mul (D.int _) (D.int _) _ = some z ∧ _); refine ⟨_, rfl, ?_⟩)
    | ((with_reducible show ∃ z, binD BO.mod _ _ _ = some z ∧ _); refine ⟨_, rfl, ?_⟩)
    | ((with_reducible show ∃ z, binD BO.fdiv _ _ _ = some z ∧ _); refine ⟨_, rfl, ?_⟩)
    | ((with_reducible show ∃ z, binD BO.pow _ _ _ = some z ∧ _); refine ⟨_, rfl, ?_⟩)
    | ((with_reducible show ∃ p, insOf _ _ = some p ∧ _); refine ⟨_, rfl, rfl, _, rfl, ?_⟩)
    | ((with_reducible show ∃ z, D.int _ = D.int z ∧ _); refine ⟨_, rfl, ?_⟩)
    | ((with_reducible show ∃ z, D.loc _ = D.loc z ∧ _); refine ⟨_, rfl, ?_⟩)
    | ((with_reducible show ∃ z, D.lst _ = D.lst z ∧ _); refine ⟨_, rfl, ?_⟩))
  | ((with_reducible show And _ _); first
    | ((with_reducible show List.length _ ≤ 16777216 ∧ _); refine ⟨Nat.le_of_ble_eq_true rfl, ?_⟩)
    | ((with_reducible refine two_t ?hk ?_); (case hk => exact rfl))
    | ((with_reducible refine two_f ?hk ?_); (case hk => exact rfl)))
  | ((with_reducible show WP (mkD _ _ _ _ _ _ _ _) _); (with_reducible refine of_mkD (k := ?kk) ?hk ?_); (case hk => with_reducible assumption))
  | ((with_reducible show WP (eqO _ _ _ _ _ _ _) _); (with_reducible refine of_eqO (c := ?kk) ?hk ?_); (case hk => with_reducible assumption))
  | ((with_reducible refine of_cal (c := ?kk) ?hk ?_); (case hk => with_reducible assumption)))
local macro_rules | `(tactic| walk_at "w") => `(tactic| repeat walk_at "w1")
abbrev cs (m : Int) (rows : List (List Int)) : D := .tup [.int m, lT rows]
def drRulIR (fo fm : Nat) : List Itp.St := [
    .ret (.tup [.call fo [.var 0, .lst false [.str "row", .str "fullest"]] [] ⟨2, false, [.pos 0, .pos 1]⟩, .lc (.name 2) [2] .val [.idx (.var 1) (.int 1)] [] (.bf .tuple [.call fm [.var 0, .bf .list [.var 2]] [] ⟨2, false, [.pos 0, .pos 1]⟩])])]
def lwRulIR (fc fi : Nat) : List Itp.St := [
    .par [2, 3, 4] [.call fc [.var 0] [] ⟨1, false, [.pos 0]⟩, .bin .add (.bf .list [.idx (.var 1) (.int 1)]) (.bin .mul (.lst false [.non]) (.int 5)), .bf .len [.idx (.var 1) (.int 1)]],
    .ifs (.cmp .eq (.idx (.var 1) (.int 0)) (.str "row")) [.ifs (.cmp .lt (.var 4) (.int 3)) [.ret (.ite (.cmp .eq (.var 4) (.int 1)) (.mk false 2 fi [.var 2, .idx (.var 3) (.int 0)] [] ⟨2, true, [.pos 0, .pos 1, .rest]⟩) (.mk false 2 fi [.var 2, .idx (.var 3) (.int 0), .idx (.var 3) (.int 1)] [] ⟨2, true, [.pos 0, .pos 1, .rest]⟩))] [], .ifs (.cmp .eq (.var 4) (.int 3)) [.ret (.mk false 2 fi [.var 2, .idx (.var 3) (.int 0), .idx (.var 3) (.int 1), .idx (.var 3) (.int 2)] [] ⟨2, true, [.pos 0, .pos 1, .rest]⟩)] [], .ret (.ite (.cmp .eq (.var 4) (.int 4)) (.mk false 2 fi [.var 2, .idx (.var 3) (.int 0), .idx (.var 3) (.int 1), .idx (.var 3) (.int 2), .idx (.var 3) (.int 3)] [] ⟨2, true, [.pos 0, .pos 1, .rest]⟩) (.mk false 2 fi [.var 2, .idx (.var 3) (.int 0), .idx (.var 3) (.int 1), .idx (.var 3) (.int 2), .idx (.var 3) (.int 3), .idx (.var 3) (.int 4)] [] ⟨2, true, [.pos 0, .pos 1, .rest]⟩))] [],
    .ifs (.cmp .lt (.var 4) (.int 3)) [.ret (.ite (.cmp .eq (.var 4) (.int 1)) (.mk false 3 fi [.var 2, .idx (.var 3) (.int 0)] [] ⟨2, true, [.pos 0, .pos 1, .rest]⟩) (.mk false 3 fi [.var 2, .idx (.var 3) (.int 0), .idx (.var 3) (.int 1)] [] ⟨2, true, [.pos 0, .pos 1, .rest]⟩))] [], .ifs (.cmp .eq (.var 4) (.int 3)) [.ret (.mk false 3 fi [.var 2, .idx (.var 3) (.int 0), .idx (.var 3) (.int 1), .idx (.var 3) (.int 2)] [] ⟨2, true, [.pos 0, .pos 1, .rest]⟩)] [], .ret (.ite (.cmp .eq (.var 4) (.int 4)) (.mk false 3 fi [.var 2, .idx (.var 3) (.int 0), .idx (.var 3) (.int 1), .idx (.var 3) (.int 2), .idx (.var 3) (.int 3)] [] ⟨2, true, [.pos 0, .pos 1, .rest]⟩) (.mk false 3 fi [.var 2, .idx (.var 3) (.int 0), .idx (.var 3) (.int 1), .idx (.var 3) (.int 2), .idx (.var 3) (.int 3), .idx (.var 3) (.int 4)] [] ⟨2, true, [.pos 0, .pos 1, .rest]⟩))]
section
variable {P : List Fn} {n f fd : Nat} {s : Sr} {R : Sto} {m : Int} {rows orders : List (List Int)}
theorem drRul_spec {fo fm : Nat} (hP : P[f]? = some ⟨2, 3, drRulIR fo fm⟩) (ho : P[fo]? = some ⟨2, 2, ofIR fd⟩) (hm : P[fm]? = some ⟨2, 4, mixIR fd⟩) (hD : P[fd]? = some ⟨2, 5, drawIR⟩) (hs : s.ok) (ok : okC2 m rows) (lw : Low (s.so :: R)) {Q : D → Sto → Prop}
    (q : ∀ (c : Nat) (orders : List (List Int)) (s' : Sr), (c = 2 ∨ c = 3) → okO rows orders → s'.ok → Q (.tup [.str (kindS c), lT orders]) (s'.so :: R)) : WP (callN P (n + 3) f [.loc 0, cs m rows] (s.so :: R)) Q := by
  have mo := ok.mo
  refine wp_fn hP rfl ?_
  dsimp only [List.map, Nat.sub, List.replicate, List.append, drRulIR]
  walk_at "w"
  refine of_spec ho hD hs (by decide) (by decide) fun k hk s1 hs1 => ?_
  obtain ⟨c, hc, e⟩ : ∃ c, (c = 2 ∨ c = 3) ∧ ([D.str "row", D.str "fullest"] : List D)[k] = .str (kindS c) := by
    have : k = 0 ∨ k = 1 := by
      have : k < 2 := hk
      omega
    rcases this with rfl | rfl
    · exact ⟨2, .inl rfl, rfl⟩
    · exact ⟨3, .inr rfl, rfl⟩
  rw [e]
  walk_at "w"
  refine wp_lc (wps_cons rfl (wp_idx (wp_var rfl (wp_int ⟨_, rfl, wps_nil ⟨_, rfl, ?_, ?_⟩⟩))))
  · rw [List.length_map]; omega
  refine wp_loopC (fun j acc S => ∃ os s', acc = os.map tuI ∧ S = Sr.so s' :: R ∧ s'.ok ∧ os.length = j ∧ ∀ i, i < j → (os.getD i []).Perm (rows.getD i [])) (i := 0) ⟨[], s1, rfl, rfl, hs1, rfl, fun i hi => by omega⟩ ?_ ?_
  · rintro j x acc S hx ⟨os, s2, rfl, rfl, hs2, ln, pm⟩
    rw [Nat.zero_add] at *
    obtain ⟨hj, rfl⟩ := map_get (d := []) hx
    have h4 := (ok.ok _ (getD_mem (d := []) hj)).mo
    refine ⟨_, rfl, wp_turn0 ?_⟩
    walk_at "w"
    refine mix_spec (r := rows.getD j []) hm hD hs2 (by omega) (low_src lw) fun r' s3 pr hs3 => ?_
    walk_at "w"
    refine ⟨os ++ [r'], s3, by simp [tuI], rfl, hs3, by simp [ln], fun i hi => ?_⟩
    by_cases hij : i < os.length
    · rw [List.getD_eq_getElem?_getD, List.getElem?_append_left hij, ← List.getD_eq_getElem?_getD]
      exact pm i (by omega)
    · have : i = os.length := by omega
      subst this
      rw [List.getD_eq_getElem?_getD, List.getElem?_append_right (Nat.le_refl _), Nat.sub_self]
      rw [ln]
      exact pr
  · rintro acc S ⟨os, s2, rfl, rfl, hs2, ln, pm⟩
    rw [Nat.zero_add, List.length_map] at ln pm
    walk_at "w"
    refine (congrArg (Q _) (trim_len _ (by rfl))).mpr ?_
    exact q c os s2 hc ⟨ln, pm⟩ hs2
theorem lwRul_spec {S : Sto} {fcl fi ci fl fn fr fc fw fo c : Nat} {css : List Nat} (hP : P[f]? = some ⟨2, 5, lwRulIR fcl fi⟩) (hcl : P[fcl]? = some ⟨1, 4, clsesIR ci⟩) (hci : P[ci]? = some ⟨3, 6, clsInitIR fn fc⟩) (hcc : P[fc]? = some ⟨2, 3, isClsIR fl fn fr⟩) (hr : P[fr]? = some ⟨1, 3, isRisIR⟩)
    (hi : P[fi]? = some ⟨3, 6, rulInitIR fw fo css⟩) (hw : P[fw]? = some ⟨1, 1, clsRowsIR⟩) (ho : P[fo]? = some ⟨2, 4, isOrdIR fl fn⟩) (hl : P[fl]? = some ⟨1, 1, isListIR⟩) (hn : P[fn]? = some ⟨3, 3, isNumIR⟩) {d : D} {ds : List D} (lw : Low S) (hc : c = 2 ∨ c = 3) (hcs : css.contains c = true) (ok : okC2 m rows) (h5 : rows.length ≤ 5) (oo : okO rows orders) (hls : lstOf d S = some ds) (hd : ds.length = rows.length) (hs : ∀ i, i < rows.length → seqOf (ds.getD i .non) S = some ((orders.getD i []).map .int)) :
    callN P (n + 5) f [cs m rows, .tup [.str (kindS c), d]] S = .ok (rulO c m rows orders) S := by
  have h1 := ok.ne
  have fin : trim S.length (rulO c m rows orders) (S ++ [.dead]) = S := trim_cut rfl (low_rulO _ _ _ _ _) lw
  refine eq_of_wp (wp_fn hP rfl ?_)
  dsimp only [List.map, Nat.sub, List.replicate, List.append, lwRulIR]
  walk_at "w"
  refine wp_eq (clses_spec (n := n) hcl hci hcc hl hn hr lw ok rfl (by rw [List.length_map]) fun i hi => by rw [rows_get hi]; rfl) ?_
  walk_at "w"
  refine ⟨_, seq_list (seq_lst hls), ?_⟩
  walk_at "w"
  refine ⟨_, rfl, _, if_pos (by
    show ds.length + 5 ≤ 16777216
    omega), ?_⟩
  walk_at "w"
  refine ⟨_, seq_len (seq_lst hls), ?_⟩
  walk_at "w"
  refine ⟨rfl, ?_⟩
  have mk : ∀ Q, Q (rulO c m rows orders) (S ++ [.dead]) → WP (mkD (callN P (n + 4)) false c fi ⟨2, true, [.pos 0, .pos 1, .rest]⟩ (clsO m rows :: ds) [] S) Q := fun Q q => rul_mk (n := n + 1) hi hw ho hl hn lw hcs ok oo hd hs q
  have hk : decide (kindS c = ("row" : Str)) = decide (c = 2) := by rcases hc with rfl | rfl <;> decide +kernel
  refine wfs_cons (wf_if (wp_cmp (wp_idx (wp_var rfl (wp_int ⟨_, rfl, wp_str ⟨_, rfl, _, rfl, ?_⟩⟩)))))
  rw [eqv_str, hk]
  refine ⟨fun h => ?_, fun h => ?_⟩
  · have h : c = 2 := by simpa using h
    subst h
    match ds, hd, mk with
    | [], hd, _ => simp at hd; omega
    | [a], _, mk =>
      walk_at "w"
      exact mk _ ⟨rfl, fin⟩
    | [a, b], _, mk =>
      walk_at "w"
      exact mk _ ⟨rfl, fin⟩
    | [a, b, c], _, mk =>
      walk_at "w"
      exact mk _ ⟨rfl, fin⟩
    | [a, b, c, d], _, mk =>
      walk_at "w"
      exact mk _ ⟨rfl, fin⟩
    | [a, b, c, d, e], _, mk =>
      walk_at "w"
      exact mk _ ⟨rfl, fin⟩
    | a :: b :: c :: d :: e :: g :: t, hd, _ => simp at hd; omega
  · have h : c = 3 := by
      have : ¬ c = 2 := by simpa using h
      omega
    subst h
    walk_at "w"
    match ds, hd, mk with
    | [], hd, _ => simp at hd; omega
    | [a], _, mk =>
      walk_at "w"
      exact mk _ ⟨rfl, fin⟩
    | [a, b], _, mk =>
      walk_at "w"
      exact mk _ ⟨rfl, fin⟩
    | [a, b, c], _, mk =>
      walk_at "w"
      exact mk _ ⟨rfl, fin⟩
    | [a, b, c, d], _, mk =>
      walk_at "w"
      exact mk _ ⟨rfl, fin⟩
    | [a, b, c, d, e], _, mk =>
      walk_at "w"
      exact mk _ ⟨rfl, fin⟩
    | a :: b :: c :: d :: e :: g :: t, hd, _ => simp at hd; omega
end
theorem locs_idx {a k i : Nat} {S : Sto} (h : i < k) : idxD (.lst (locs a k)) (.int i) S = some (.loc (a + i)) := by
  show atI _ ((i : Nat) : Int) = _
  rw [atI_natJ (by rw [locs_len]; exact h)]
  simp [locs]
abbrev ru (c : Nat) (orders : List (List Int)) : D := .tup [.str (kindS c), lT orders]
abbrev jru (c : Nat) (orders : List (List Int)) : J := .t [.s (kindS c), jT orders]
theorem res_ru {S : Sto} {c : Nat} {orders : List (List Int)} : Res S (jru c orders) (ru c orders) := ⟨_, rfl, _, _, rfl, rfl, _, _, rfl, res_lT, rfl⟩
theorem kind_eq {c c' : Nat} (h : c = 1 ∨ c = 2 ∨ c = 3) (h' : c' = 1 ∨ c' = 2 ∨ c' = 3) : kindS c = kindS c' ↔ c = c' := by
  have := kind_inj h h'
  rwa [decide_eq_decide] at this
theorem eqD_ru {S : Sto} {c c' : Nat} {a b : List (List Int)} (h : c = 1 ∨ c = 2 ∨ c = 3) (h' : c' = 1 ∨ c' = 2 ∨ c' = 3) : eqD (ru c a) (ru c' b) S = some (decide (c = c' ∧ a = b)) := by
  have dp : ∀ c a, (jru c a).dp ≤ 20 := fun c a => Nat.le_trans (dp_t (n := 2) (all_cons (Nat.zero_le _) (all_cons (dp_jT _) all_nil))) (by decide)
  have bf : ∀ c a, (jru c a).bf = true := fun c a => by
    show (true && ((jT a).bf && true)) = true
    rw [bf_jT]; rfl
  rw [eqD_res res_ru res_ru (dp _ _) (dp _ _)]
  congr 1
  apply bool_iff
  rw [jeq_iff (bf _ _) (bf _ _), decide_eq_true_eq]
  constructor
  · intro z
    have z := J.t.inj z
    have h1 := (List.cons.inj z).1
    have h2 := (List.cons.inj (List.cons.inj z).2).1
    exact ⟨(kind_eq h h').mp (J.s.inj h1), jT_inj h2⟩
  · rintro ⟨rfl, rfl⟩; rfl
theorem eq_ru {S : Sto} {c c' : Nat} {a b : List (List Int)} (h : c = 1 ∨ c = 2 ∨ c = 3) (h' : c' = 1 ∨ c' = 2 ∨ c' = 3) : cmpD .eq (ru c a) (ru c' b) S = some (decide (c = c' ∧ a = b)) := eqD_ru h h'
theorem ne_ru {S : Sto} {c c' : Nat} {a b : List (List Int)} (h : c = 1 ∨ c = 2 ∨ c = 3) (h' : c' = 1 ∨ c' = 2 ∨ c' = 3) : cmpD .ne (ru c a) (ru c' b) S = some (!decide (c = c' ∧ a = b)) := by
  show (eqD _ _ _).map _ = _
  rw [eqD_ru h h']; rfl
theorem eq_bl {S : Sto} {a b : Bool} : cmpD .ne (.bl a) (.bl b) S = some (a != b) := by
  cases a <;> cases b <;> rfl
section
variable {P : List Fn} {n f : Nat} {S : Sto} {Q : D → Sto → Prop} {m m' : Int} {rows rows' orders orders' : List (List Int)} {sb : List Nat} {tk tf : List (Nat × AK)} {ss tb : List (Nat × Nat)}
theorem own_rul {fe c c' : Nat} {neg : Bool} (hP : P[f]? = some ⟨2, 2, rulEqIR fe sb tk tf ss⟩) (he : P[fe]? = some ⟨2, 2, clsEqIR⟩) (hc : c = 1 ∨ c = 2 ∨ c = 3) (hc' : c' = 1 ∨ c' = 2 ∨ c' = 3) (h0 : ss.contains (0, 0) = false) (h1 : sb.contains c' = true)
    (h2 : tk.lookup c = some (.con (.str (kindS c)))) (h3 : tk.lookup c' = some (.con (.str (kindS c')))) (h4 : tf.lookup c = some .fld) (h5 : tf.lookup c' = some .fld) (h6 : ss.contains (c, c') = false) (h7 : tb.lookup c = some f) (q : Q (.bl (decide (c = c' ∧ m = m' ∧ rows = rows' ∧ orders = orders') != neg)) S) :
    WP (eqO (callN P (n + 2)) neg tb ss (rulO c m rows orders) (rulO c' m' rows' orders') S) Q :=
  wp_eqO rfl (k := .obj c') rfl (fun c2 e => by cases e; exact h6) h7 (wp_eq (rul_eq hP he hc hc' h0 h1 h2 h3 h4 h5) ⟨_, rfl, q⟩)
theorem own_rulNo {fe c : Nat} {neg : Bool} {y : D} {k : TK} (hP : P[f]? = some ⟨2, 2, rulEqIR fe sb tk tf ss⟩) (h : tkD y S = some k) (hk : isK k (.own 1 sb) = false) (h6 : ∀ c', k = .obj c' → ss.contains (c, c') = false) (h7 : tb.lookup c = some f) (q : Q (.bl (false != neg)) S) :
    WP (eqO (callN P (n + 1)) neg tb ss (rulO c m rows orders) y S) Q :=
  wp_eqO rfl h h6 h7 (wp_eq (rul_eq_no hP h hk) ⟨_, rfl, q⟩)
end
/-! a comprehension over few things -/
theorem wp_loop0 {turn : Gm → Sto → Out (Option D)} {tg : Tg} {γ : Gm} {acc : List D} {S : Sto} {Q : List D → Sto → Prop} (q : Q acc S) : WP (loopC turn tg γ [] acc S) Q := q
theorem wp_loop1 {turn : Gm → Sto → Out (Option D)} {tg : Tg} {γ γ' : Gm} {x : D} {xs acc : List D} {S : Sto} {Q : List D → Sto → Prop} (h1 : setTg tg x γ = some γ') (h2 : WP (turn γ' S) fun o S' => WP (loopC turn tg γ xs (acc ++ o.toList) S') Q) : WP (loopC turn tg γ (x :: xs) acc S) Q := by
  obtain ⟨o, S', e, h3⟩ := h2.ex
  unfold loopC
  rw [h1]
  dsimp only
  rw [e]
  cases o with
  | some d => exact h3
  | none => simpa using h3
end Itp
namespace Itp
open PySem L2
local macro_rules | `(tactic| walk_at "w1") => `(tactic| first
  | ((with_reducible show WP (ev _ _ _ _) _); first
    | ((with_reducible show WP (ev _ (E.var _) _ _) _); refine wp_var rfl ?_)
    | with_reducible refine wp_int ?_
    | with_reducible refine wp_str ?_
    | with_reducible refine wp_bl ?_
    | with_reducible refine wp_non ?_
    | with_reducible refine wp_idx ?_
    | with_reducible refine wp_bin ?_
    | with_reducible refine wp_call ?_
    | with_reducible refine wp_lst ?_
    | with_reducible refine wp_cmp ?_
    | with_reducible refine wp_tup ?_
    | with_reducible refine wp_slc ?_
    | with_reducible refine wp_bf ?_
    | with_reducible refine wp_not ?_
    | with_reducible refine wp_isi ?_
    | with_reducible refine wp_bop ?_
    | with_reducible refine wp_bm ?_
    | with_reducible refine wp_gint ?_
    | with_reducible refine wp_gstr ?_
    | with_reducible refine wp_neg ?_
    | with_reducible refine wp_chn ?_
    | with_reducible refine wp_ite ?_
    | with_reducible refine wp_new ?_
    | with_reducible refine wp_isT ?_
    | with_reducible refine wp_frz ?_
    | with_reducible refine wp_trk ?_
    | with_reducible refine wp_mth ?_
    | with_reducible refine wp_smt ?_
    | with_reducible refine wp_cmt ?_
    | with_reducible refine wp_mk ?_
    | with_reducible refine wp_att ?_
    | with_reducible refine wp_cst ?_
    | with_reducible refine wp_own ?_
    | with_reducible refine wp_fst ?_)
  | ((with_reducible show WP (evs _ _ _ _) _); first
    | with_reducible refine wps_nil ?_
    | ((with_reducible show WP (evs _ (E.star _ :: _) _ _) _); refine wps_star ?_)
    | ((with_reducible show WP (evs _ (_ :: _) _ _) _); refine wps_cons rfl ?_))
  | ((with_reducible show WF (exs _ _ _ _) _ _ _); first
    | with_reducible refine wfs_cons ?_
    | with_reducible refine wfs_nil ?_)
  | ((with_reducible show WF (ex _ _ _ _) _ _ _); first
    | with_reducible refine wf_set ?_
    | with_reducible refine wf_asg ?_
    | with_reducible refine wf_par ?_
    | with_reducible refine wf_idx ?_
    | with_reducible refine wf_expr ?_
    | with_reducible refine wf_ret ?_
    | with_reducible refine wf_if ?_
    | with_reducible refine wf_retN ?_
    | with_reducible refine wf_cont ?_
    | with_reducible refine wf_pass ?_
    | with_reducible refine wf_flds ?_)
  | ((with_reducible show WP (evB _ _ _ _ _) _); first
    | with_reducible refine wpB_a ?_
    | with_reducible refine wpB_o ?_
    | with_reducible refine wpB_one ?_)
  | ((with_reducible show WP (evO _ _ _ _) _); first
    | with_reducible refine wpO_none ?_
    | with_reducible refine wpO_some ?_)
  | ((with_reducible show WP (trkD (D.lst _) _) _); refine wp_trkL ?_)
  | ((with_reducible show WP (attD _ _ _ _ _) _); first
    | refine wp_fld rfl rfl rfl ?_
    | refine wp_prp rfl rfl ?_
    | refine wp_acon rfl rfl rfl ?_)
  | ((with_reducible show WP (ownD _ OK.eq _ _ _ _) _); refine wp_oeq ?_)
  | ((with_reducible show WP (ownD _ OK.ne _ _ _ _) _); refine wp_one ?_)
  | ((with_reducible show Exists _); first
    | ((with_reducible show ∃ z, truD _ _ = some z ∧ _); refine ⟨_, rfl, ?_⟩)
    | ((with_reducible show ∃ z, cmpD _ _ _ _ = some z ∧ _); refine ⟨_, rfl, ?_⟩)
    | ((with_reducible show ∃ z, idxD _ _ _ = some z ∧ _); refine ⟨_, rfl, ?_⟩)
    | ((with_reducible show ∃ z, slcD _ _ _ _ = some z ∧ _); refine ⟨_, rfl, ?_⟩)
    | ((with_reducible show ∃ z, isD _ _ _ = some z ∧ _); refine ⟨_, rfl, ?_⟩)
    | ((with_reducible show ∃ z, isAny _ _ _ = some z ∧ _); refine ⟨_, rfl, ?_⟩)
    | ((with_reducible show ∃ z, bfD _ _ _ = some z ∧ _); refine ⟨_, rfl, ?_⟩)
    | ((with_reducible show ∃ z, bindP _ _ _ = some z ∧ _); refine ⟨_, rfl, ?_⟩)
    | ((with_reducible show ∃ z, setTg _ _ _ = some z ∧ _); refine ⟨_, rfl, ?_⟩)
    | ((with_reducible show ∃ z, binD BO.add (D.int _) (D.int _) _ = some z ∧ _); refine ⟨_, rfl, ?_⟩)
    | ((with_reducible show ∃ z, binD BO.sub _ _ _ = some z ∧ _); refine ⟨_, rfl, ?_⟩)
    | ((with_reducible show ∃ z, binD BO.mul (D.int _) (D.int _) _ = some z ∧ _); refine ⟨_, rfl, ?_⟩)
    | ((with_reducible show ∃ z, binD BO.mod _ _ _ = some z ∧ _); refine ⟨_, rfl, ?_⟩)
    | ((with_reducible show ∃ z, binD BO.fdiv _ _ _ = some z ∧ _); refine ⟨_, rfl, ?_⟩)
    | ((with_reducible show ∃ z, binD BO.pow _ _ _ = some z ∧ _); refine ⟨_, rfl, ?_⟩)
    | ((with_reducible show ∃ p, insOf _ _ = some p ∧ _); refine ⟨_, rfl, rfl, _, rfl, ?_⟩)
    | ((with_reducible show ∃ z, D.int _ = D.int z ∧ _); refine ⟨_, rfl, ?_⟩)
    | ((with_reducible show ∃ z, D.loc _ = D.loc z ∧ _); refine ⟨_, rfl, ?_⟩)
    | ((with_reducible show ∃ z, D.lst _ = D.lst z ∧ _); refine ⟨_, rfl, ?_⟩))
  | ((with_reducible show And _ _); first
    | ((with_reducible show List.length _ ≤ 16777216 ∧ _); refine ⟨Nat.le_of_ble_eq_true rfl, ?_⟩)
    | ((with_reducible refine two_t ?hk ?_); (case hk => exact rfl))
    | ((with_reducible refine two_f ?hk ?_); (case hk => exact rfl)))
  | ((with_reducible show WP (mkD _ _ _ _ _ _ _ _) _); (with_reducible refine of_mkD (k := ?kk) ?hk ?_); (case hk => with_reducible assumption))
  | ((with_reducible show WP (eqO _ _ _ _ _ _ _) _); (with_reducible refine of_eqO (c := ?kk) ?hk ?_); (case hk => with_reducible assumption))
  | ((with_reducible refine of_cal (c := ?kk) ?hk ?_); (case hk => with_reducible assumption)))
local macro_rules | `(tactic| walk_at "w") => `(tactic| repeat walk_at "w1")
/-! ### senders.py -/
def wordS : Nat → Str
  | 0 => "sender"
  | 1 => "order"
  | 2 => "most"
  | _ => "fewest"
def sndO (c : Nat) (row : List Int) : D := .obj c [41] [.lst (row.map .int)]
structure okSn (row : List Int) : Prop where
  ne : 1 ≤ row.length
  mo : row.length ≤ 4
  lo : ∀ x ∈ row, 0 ≤ x ∧ x < (row.length : Int)
  nd : row.Nodup
def sndInitIR (fn : Nat) (cs : List Nat) : List Itp.St := [
    .ifs (.not (.chn .le .le (.int 1) (.bf .len [.var 1]) (.int 4))) [.never] [],
    .for (.tup [.name 2, .name 3]) .enum [.var 1] [.ifs (.bop false [.not (.call fn [.var 3, .int 0, .bin .sub (.bf .len [.var 1]) (.int 1)] [] ⟨3, false, [.pos 0, .pos 1, .pos 2]⟩), .cmp .inn (.var 3) (.slc (.var 1) none (some (.var 2)))]) [.never] []],
    .flds (.var 0) cs [41] [.bf .list [.var 1]]]
def namedIR (fi : Nat) : List Itp.St := [
    .ifs (.bop false [.not (.isi (.var 0) .str), .ink true (.var 0) 0 64 ["order", "most", "fewest"]]) [.never] [],
    .ifs (.cmp .eq (.var 0) (.str "order")) [.ret (.mk false 1 fi [.star (.var 1)] [] ⟨1, true, [.pos 0, .rest]⟩)] [],
    .ret (.ite (.cmp .eq (.var 0) (.str "most")) (.mk false 2 fi [.star (.var 1)] [] ⟨1, true, [.pos 0, .rest]⟩) (.mk false 3 fi [.star (.var 1)] [] ⟨1, true, [.pos 0, .rest]⟩))]
def sndRowT (tb : List (Nat × AK)) : List Itp.St := [.ret (.trk (.bf .list [.att (.var 0) 41 tb]))]
def sndEqIR (sb : List Nat) (tk tf : List (Nat × AK)) : List Itp.St := [
    .ret (.bop true [.isi (.var 1) (.own 0 sb), .cmp .eq (.att (.var 0) 48 tk) (.att (.var 1) 48 tk), .cmp .eq (.att (.var 0) 41 tf) (.att (.var 1) 41 tf)])]
def sndLenIR (tf : List (Nat × AK)) : List Itp.St := [.ret (.bf .len [.att (.var 0) 41 tf])]
def sndReprIR (tk : List (Nat × AK)) : List Itp.St := [.ret (.fst [.str "Sender(", .att (.var 0) 48 tk, .str ")"])]
def lwSndIR (fn : Nat) : List Itp.St := [
    .set 2 (.bin .add (.bf .list [.var 1]) (.bin .mul (.lst false [.non]) (.int 3))),
    .ifs (.cmp .lt (.bf .len [.var 1]) (.int 3)) [.ret (.ite (.cmp .eq (.bf .len [.var 1]) (.int 1)) (.smt 0 65 fn [.var 0, .idx (.var 2) (.int 0)] [] ⟨1, true, [.pos 0, .rest]⟩) (.smt 0 65 fn [.var 0, .idx (.var 2) (.int 0), .idx (.var 2) (.int 1)] [] ⟨1, true, [.pos 0, .rest]⟩))] [],
    .ret (.ite (.cmp .eq (.bf .len [.var 1]) (.int 3)) (.smt 0 65 fn [.var 0, .idx (.var 2) (.int 0), .idx (.var 2) (.int 1), .idx (.var 2) (.int 2)] [] ⟨1, true, [.pos 0, .rest]⟩) (.smt 0 65 fn [.var 0, .idx (.var 2) (.int 0), .idx (.var 2) (.int 1), .idx (.var 2) (.int 2), .idx (.var 2) (.int 3)] [] ⟨1, true, [.pos 0, .rest]⟩))]
def lwMkSndIR (fi : Nat) : List Itp.St := [
    .set 2 (.bin .add (.bf .list [.var 1]) (.bin .mul (.lst false [.non]) (.int 3))),
    .ifs (.cmp .lt (.bf .len [.var 1]) (.int 3)) [.ifs (.cmp .eq (.var 0) (.str "order")) [.ret (.ite (.cmp .eq (.bf .len [.var 1]) (.int 1)) (.mk false 1 fi [.idx (.var 2) (.int 0)] [] ⟨1, true, [.pos 0, .rest]⟩) (.mk false 1 fi [.idx (.var 2) (.int 0), .idx (.var 2) (.int 1)] [] ⟨1, true, [.pos 0, .rest]⟩))] [], .ifs (.cmp .eq (.var 0) (.str "most")) [.ret (.ite (.cmp .eq (.bf .len [.var 1]) (.int 1)) (.mk false 2 fi [.idx (.var 2) (.int 0)] [] ⟨1, true, [.pos 0, .rest]⟩) (.mk false 2 fi [.idx (.var 2) (.int 0), .idx (.var 2) (.int 1)] [] ⟨1, true, [.pos 0, .rest]⟩))] [], .ret (.ite (.cmp .eq (.bf .len [.var 1]) (.int 1)) (.mk false 3 fi [.idx (.var 2) (.int 0)] [] ⟨1, true, [.pos 0, .rest]⟩) (.mk false 3 fi [.idx (.var 2) (.int 0), .idx (.var 2) (.int 1)] [] ⟨1, true, [.pos 0, .rest]⟩))] [],
    .ifs (.cmp .eq (.var 0) (.str "order")) [.ret (.ite (.cmp .eq (.bf .len [.var 1]) (.int 3)) (.mk false 1 fi [.idx (.var 2) (.int 0), .idx (.var 2) (.int 1), .idx (.var 2) (.int 2)] [] ⟨1, true, [.pos 0, .rest]⟩) (.mk false 1 fi [.idx (.var 2) (.int 0), .idx (.var 2) (.int 1), .idx (.var 2) (.int 2), .idx (.var 2) (.int 3)] [] ⟨1, true, [.pos 0, .rest]⟩))] [],
    .ifs (.cmp .eq (.var 0) (.str "most")) [.ret (.ite (.cmp .eq (.bf .len [.var 1]) (.int 3)) (.mk false 2 fi [.idx (.var 2) (.int 0), .idx (.var 2) (.int 1), .idx (.var 2) (.int 2)] [] ⟨1, true, [.pos 0, .rest]⟩) (.mk false 2 fi [.idx (.var 2) (.int 0), .idx (.var 2) (.int 1), .idx (.var 2) (.int 2), .idx (.var 2) (.int 3)] [] ⟨1, true, [.pos 0, .rest]⟩))] [],
    .ret (.ite (.cmp .eq (.bf .len [.var 1]) (.int 3)) (.mk false 3 fi [.idx (.var 2) (.int 0), .idx (.var 2) (.int 1), .idx (.var 2) (.int 2)] [] ⟨1, true, [.pos 0, .rest]⟩) (.mk false 3 fi [.idx (.var 2) (.int 0), .idx (.var 2) (.int 1), .idx (.var 2) (.int 2), .idx (.var 2) (.int 3)] [] ⟨1, true, [.pos 0, .rest]⟩))]
def drSndIR (fo fm : Nat) : List Itp.St := [
    .ret (.tup [.call fo [.var 0, .lst false [.str "order", .str "most", .str "fewest"]] [] ⟨2, false, [.pos 0, .pos 1]⟩, .call fm [.var 0, .bf .lrng [.var 1]] [] ⟨2, false, [.pos 0, .pos 1]⟩])]
theorem low_sndO (n c : Nat) (row : List Int) : (sndO c row).low n = true := by
  show (D.lows n (row.map D.int) && true) = true
  rw [low_ints]; rfl
section
variable {P : List Fn} {n f fd : Nat} {S : Sto} {row row' : List Int} {c c' : Nat} {tk tf : List (Nat × AK)}
theorem snd_init {fn : Nat} {cs : List Nat} (hP : P[f]? = some ⟨2, 4, sndInitIR fn cs⟩) (hn : P[fn]? = some ⟨3, 3, isNumIR⟩) {k : Nat} (hk : S[k]? = some (.ins c [] [])) (hc : cs.contains c = true) (ok : okSn row) : callN P (n + 2) f [.loc k, .tup (row.map .int)] S = .ok .non (S.set k (.ins c [41] [.lst (row.map .int)])) := by
  have hk' : k < S.length := (List.getElem?_eq_some_iff.mp hk).1
  have h1 := ok.ne
  have h2 := ok.mo
  refine eq_of_wp (wp_fn hP rfl ?_)
  dsimp only [List.map, Nat.sub, List.replicate, List.append, sndInitIR]
  walk_at "w"
  refine ⟨_, _, rfl, rfl, _, rfl, _, rfl, two_f ?_ ?_⟩
  · simp
    omega
  walk_at "w"
  refine wf_for (wps_cons rfl (wp_var rfl (wps_nil ⟨_, rfl, ?_⟩)))
  refine wf_loop (fun j γ S' => ∃ x y, γ = [some (.loc k), some (.tup (row.map .int)), x, y] ∧ S' = S) (i := 0) ⟨none, none, rfl, rfl⟩ ?_ ?_
  · rintro j x γ S' hx ⟨x4, x5, rfl, rfl⟩
    obtain ⟨hj, rfl⟩ := enum_get hx
    rw [List.length_map] at hj
    rw [map_getD hj]
    have hb := ok.lo _ (getD_mem (d := 0) hj)
    obtain ⟨e, e1, e2⟩ := slc_seq (d := .tup (row.map .int)) (S := S') (l := row) (k := j) rfl
    refine ⟨_, rfl, ?_⟩
    walk_at "w"
    refine wp_eq (is_num_t hn hb.1 (by rw [List.length_map]; omega)) ⟨_, rfl, _, rfl, two_f rfl ?_⟩
    refine wpB_one (wp_cmp (wp_var rfl (wp_slc (wp_var rfl (wpO_none (wpO_some (wp_var rfl ⟨_, rfl, _, e1, _, in_seq e2, _, rfl, two_f ?_ ?_⟩)))))))
    · exact decide_eq_false (nodup_take ok.nd hj)
    walk_at "w"
    exact ⟨_, _, rfl, rfl⟩
  · rintro γ S' ⟨x4, x5, rfl, rfl⟩
    walk_at "w"
    refine wp_put (c := c) (vs := []) (ns := []) (n := k) rfl hk hc (by decide) (wp_put0 ?_)
    exact ⟨rfl, trim_len _ (by simp)⟩
theorem snd_mk {fn : Nat} {cs : List Nat} (hP : P[f]? = some ⟨2, 4, sndInitIR fn cs⟩) (hn : P[fn]? = some ⟨3, 3, isNumIR⟩) (hc : cs.contains c = true) (ok : okSn row) {Q : D → Sto → Prop} (q : Q (sndO c row) (S ++ [.dead])) : WP (mkD (callN P (n + 2)) false c f ⟨1, true, [.pos 0, .rest]⟩ (row.map .int) [] S) Q := by
  refine wp_mkD ⟨[.loc S.length, .tup (row.map .int)], ?_, wp_eq (snd_init hP hn get_last hc ok) ?_⟩
  · have := ok.mo
    unfold bindP
    rw [if_pos (.inr ⟨rfl, by simp, by simp; omega⟩)]
    rfl
  · rw [set_last]
    refine ⟨rfl, _, _, _, get_last, ?_⟩
    rw [set_last]
    exact q
theorem word_dec (h : c = 1 ∨ c = 2 ∨ c = 3) : decide (wordS c = ("order" : Str)) = decide (c = 1) ∧ decide (wordS c = ("most" : Str)) = decide (c = 2) ∧ (["order", "most", "fewest"] : List Str).contains (wordS c) = true := by
  rcases h with rfl | rfl | rfl <;> decide +kernel
theorem snd_named {fi fn : Nat} {cs : List Nat} (hP : P[f]? = some ⟨2, 2, namedIR fi⟩) (hi : P[fi]? = some ⟨2, 4, sndInitIR fn cs⟩) (hn : P[fn]? = some ⟨3, 3, isNumIR⟩) (h : c = 1 ∨ c = 2 ∨ c = 3) (hc : cs.contains c = true) (ok : okSn row) (lw : Low S) : callN P (n + 3) f [.str (wordS c), .tup (row.map .int)] S = .ok (sndO c row) S := by
  obtain ⟨w1, w2, w3⟩ := word_dec h
  have mk : ∀ Q, Q (sndO c row) (S ++ [.dead]) → WP (mkD (callN P (n + 2)) false c fi ⟨1, true, [.pos 0, .rest]⟩ (row.map .int ++ []) [] S) Q := fun Q q => by
    rw [List.append_nil]
    exact snd_mk hi hn hc ok q
  have fin : trim S.length (sndO c row) (S ++ [.dead]) = S := trim_cut rfl (low_sndO _ _ _) lw
  refine eq_of_wp (wp_fn hP rfl ?_)
  dsimp only [List.map, Nat.sub, List.replicate, List.append, namedIR]
  refine wfs_cons (wf_if (wp_bop (wpB_o (wp_not (wp_isi (wp_var rfl ⟨_, rfl, _, rfl, _, rfl, two_f rfl ?_⟩))))))
  refine wpB_one (wp_ink (wp_var rfl ⟨_, rfl, _, rfl, two_f (by rw [w3]; rfl) ?_⟩))
  refine wfs_nil (wfs_cons (wf_if (wp_cmp (wp_var rfl (wp_str ⟨_, rfl, _, rfl, ?_⟩)))))
  rw [eqv_str, w1]
  refine ⟨fun hh => ?_, fun hh => ?_⟩
  · have hh : c = 1 := by simpa using hh
    subst hh
    refine wfs_cons (wf_ret (wp_mk (wps_star (wp_var rfl ⟨_, rfl, wps_nil (wps_nil (mk _ ⟨rfl, fin⟩))⟩))))
  · have h1 : ¬ c = 1 := by simpa using hh
    refine wfs_nil (wfs_cons (wf_ret (wp_ite (wp_cmp (wp_var rfl (wp_str ⟨_, rfl, _, rfl, ?_⟩))))))
    rw [eqv_str, w2]
    refine ⟨fun hh => ?_, fun hh => ?_⟩
    · have hh : c = 2 := by simpa using hh
      subst hh
      exact wp_mk (wps_star (wp_var rfl ⟨_, rfl, wps_nil (wps_nil (mk _ ⟨rfl, fin⟩))⟩))
    · have h2 : ¬ c = 2 := by simpa using hh
      have hh : c = 3 := by omega
      subst hh
      exact wp_mk (wps_star (wp_var rfl ⟨_, rfl, wps_nil (wps_nil (mk _ ⟨rfl, fin⟩))⟩))
/-- a row of one to four -/
theorem lwSnd {fm : Nat} (hP : P[f]? = some ⟨2, 3, lwSndIR fm⟩) (hm : callN P n fm [.str (wordS c), .tup (row.map .int)] S = .ok (sndO c row) S) (ok : okSn row) : callN P (n + 1) f [.str (wordS c), .lst (row.map .int)] S = .ok (sndO c row) S := by
  have fin : trim S.length (sndO c row) S = S := trim_self _ _
  refine eq_of_wp (wp_fn hP rfl ?_)
  dsimp only [List.map, Nat.sub, List.replicate, List.append, lwSndIR]
  match row, ok, hm, fin with
  | [], ok, _, _ => exact absurd ok.ne (by simp)
  | [a], _, hm, fin =>
    refine wfs_cons (wf_set (wp_bin (wp_bf (wps_cons rfl (wp_var rfl (wps_nil ⟨_, rfl, wp_bin (wp_lst (wps_cons rfl (wp_non (wps_nil ⟨Nat.le_of_ble_eq_true rfl, wp_int ⟨_, rfl, _, rfl, ?_⟩⟩))))⟩))))))
    walk_at "w"
    exact wp_eq hm ⟨rfl, fin⟩
  | [a, b], _, hm, fin =>
    refine wfs_cons (wf_set (wp_bin (wp_bf (wps_cons rfl (wp_var rfl (wps_nil ⟨_, rfl, wp_bin (wp_lst (wps_cons rfl (wp_non (wps_nil ⟨Nat.le_of_ble_eq_true rfl, wp_int ⟨_, rfl, _, rfl, ?_⟩⟩))))⟩))))))
    walk_at "w"
    exact wp_eq hm ⟨rfl, fin⟩
  | [a, b, d], _, hm, fin =>
    refine wfs_cons (wf_set (wp_bin (wp_bf (wps_cons rfl (wp_var rfl (wps_nil ⟨_, rfl, wp_bin (wp_lst (wps_cons rfl (wp_non (wps_nil ⟨Nat.le_of_ble_eq_true rfl, wp_int ⟨_, rfl, _, rfl, ?_⟩⟩))))⟩))))))
    walk_at "w"
    exact wp_eq hm ⟨rfl, fin⟩
  | [a, b, d, e], _, hm, fin =>
    refine wfs_cons (wf_set (wp_bin (wp_bf (wps_cons rfl (wp_var rfl (wps_nil ⟨_, rfl, wp_bin (wp_lst (wps_cons rfl (wp_non (wps_nil ⟨Nat.le_of_ble_eq_true rfl, wp_int ⟨_, rfl, _, rfl, ?_⟩⟩))))⟩))))))
    walk_at "w"
    exact wp_eq hm ⟨rfl, fin⟩
  | a :: b :: d :: e :: g :: t, ok, _, _ => exact absurd ok.mo (by simp)
end
end Itp
namespace Itp
open PySem L2
local macro_rules | `(tactic| walk_at "w1") => `(tactic| first
  | ((with_reducible show WP (ev _ _ _ _) _); first
    | ((with_reducible show WP (ev _ (E.var _) _ _) _); refine wp_var rfl ?_)
    | with_reducible refine wp_int ?_
    | with_reducible refine wp_str ?_
    | with_reducible refine wp_bl ?_
    | with_reducible refine wp_non ?_
    | with_reducible refine wp_idx ?_
    | with_reducible refine wp_bin ?_
    | with_reducible refine wp_call ?_
    | with_reducible refine wp_lst ?_
    | with_reducible refine wp_cmp ?_
    | with_reducible refine wp_tup ?_
    | with_reducible refine wp_slc ?_
    | with_reducible refine wp_bf ?_
    | with_reducible refine wp_not ?_
    | with_reducible refine wp_isi ?_
    | with_reducible refine wp_bop ?_
    | with_reducible refine wp_bm ?_
    | with_reducible refine wp_gint ?_
    | with_reducible refine wp_gstr ?_
    | with_reducible refine wp_neg ?_
    | with_reducible refine wp_chn ?_
    | with_reducible refine wp_ite ?_
    | with_reducible refine wp_new ?_
    | with_reducible refine wp_isT ?_
    | with_reducible refine wp_frz ?_
    | with_reducible refine wp_trk ?_
    | with_reducible refine wp_mth ?_
    | with_reducible refine wp_smt ?_
    | with_reducible refine wp_cmt ?_
    | with_reducible refine wp_mk ?_
    | with_reducible refine wp_att ?_
    | with_reducible refine wp_cst ?_
    | with_reducible refine wp_own ?_
    | with_reducible refine wp_fst ?_)
  | ((with_reducible show WP (evs _ _ _ _) _); first
    | with_reducible refine wps_nil ?_
    | ((with_reducible show WP (evs _ (E.star _ :: _) _ _) _); refine wps_star ?_)
    | ((with_reducible show WP (evs _ (_ :: _) _ _) _); refine wps_cons rfl ?_))
  | ((with_reducible show WF (exs _ _ _ _) _ _ _); first
    | with_reducible refine wfs_cons ?_
    | with_reducible refine wfs_nil ?_)
  | ((with_reducible show WF (ex _ _ _ _) _ _ _); first
    | with_reducible refine wf_set ?_
    | with_reducible refine wf_asg ?_
    | with_reducible refine wf_par ?_
    | with_reducible refine wf_idx ?_
    | with_reducible refine wf_expr ?_
    | with_reducible refine wf_ret ?_
    | with_reducible refine wf_if ?_
    | with_reducible refine wf_retN ?_
    | with_reducible refine wf_cont ?_
    | with_reducible refine wf_pass ?_
    | with_reducible refine wf_flds ?_)
  | ((with_reducible show WP (evB _ _ _ _ _) _); first
    | with_reducible refine wpB_a ?_
    | with_reducible refine wpB_o ?_
    | with_reducible refine wpB_one ?_)
  | ((with_reducible show WP (evO _ _ _ _) _); first
    | with_reducible refine wpO_none ?_
    | with_reducible refine wpO_some ?_)
  | ((with_reducible show WP (trkD (D.lst _) _) _); refine wp_trkL ?_)
  | ((with_reducible show WP (attD _ _ _ _ _) _); first
    | refine wp_fld rfl rfl rfl ?_
    | refine wp_prp rfl rfl ?_
    | refine wp_acon rfl rfl rfl ?_)
  | ((with_reducible show WP (ownD _ OK.eq _ _ _ _) _); refine wp_oeq ?_)
  | ((with_reducible show WP (ownD _ OK.ne _ _ _ _) _); refine wp_one ?_)
  | ((with_reducible show Exists _); first
    | ((with_reducible show ∃ z, truD _ _ = some z ∧ _); refine ⟨_, rfl, ?_⟩)
    | ((with_reducible show ∃ z, cmpD _ _ _ _ = some z ∧ _); refine ⟨_, rfl, ?_⟩)
    | ((with_reducible show ∃ z, idxD _ _ _ = some z ∧ _); refine ⟨_, rfl, ?_⟩)
    | ((with_reducible show ∃ z, slcD _ _ _ _ = some z ∧ _); refine ⟨_, rfl, ?_⟩)
    | ((with_reducible show ∃ z, isD _ _ _ = some z ∧ _); refine ⟨_, rfl, ?_⟩)
    | ((with_reducible show ∃ z, isAny _ _ _ = some z ∧ _); refine ⟨_, rfl, ?_⟩)
    | ((with_reducible show ∃ z, bfD _ _ _ = some z ∧ _); refine ⟨_, rfl, ?_⟩)
    | ((with_reducible show ∃ z, bindP _ _ _ = some z ∧ _); refine ⟨_, rfl, ?_⟩)
    | ((with_reducible show ∃ z, setTg _ _ _ = some z ∧ _); refine ⟨_, rfl, ?_⟩)
    | ((with_reducible show ∃ z, binD BO.add (D.int _) (D.int _) _ = some z ∧ _); refine ⟨_, rfl, ?_⟩)
    | ((with_reducible show ∃ z, binD BO.sub _ _ _ = some z ∧ _); refine ⟨_, rfl, ?_⟩)
    | ((with_reducible show ∃ z, binD BO.mul (D.int _) (D.int _) _ = some z ∧ _); refine ⟨_, rfl, ?_⟩)
    | ((with_reducible show ∃ z, binD BO.mod _ _ _ = some z ∧ _); refine ⟨_, rfl, ?_⟩)
    | ((with_reducible show ∃ z, binD BO.fdiv _ _ _ = some z ∧ _); refine ⟨_, rfl, ?_⟩)
    | ((with_reducible show ∃ z, binD BO.pow _ _ _ = some z ∧ _); refine ⟨_, rfl, ?_⟩)
    | ((with_reducible show ∃ p, insOf _ _ = some p ∧ _); refine ⟨_, rfl, rfl, _, rfl, ?_⟩)
    | ((with_reducible show ∃ z, D.int _ = D.int z ∧ _); refine ⟨_, rfl, ?_⟩)
    | ((with_reducible show ∃ z, D.loc _ = D.loc z ∧ _); refine ⟨_, rfl, ?_⟩)
    | ((with_reducible show ∃ z, D.lst _ = D.lst z ∧ _); refine ⟨_, rfl, ?_⟩))
  | ((with_reducible show And _ _); first
    | ((with_reducible show List.length _ ≤ 16777216 ∧ _); refine ⟨Nat.le_of_ble_eq_true rfl, ?_⟩)
    | ((with_reducible refine two_t ?hk ?_); (case hk => exact rfl))
    | ((with_reducible refine two_f ?hk ?_); (case hk => exact rfl)))
  | ((with_reducible show WP (mkD _ _ _ _ _ _ _ _) _); (with_reducible refine of_mkD (k := ?kk) ?hk ?_); (case hk => with_reducible assumption))
  | ((with_reducible show WP (eqO _ _ _ _ _ _ _) _); (with_reducible refine of_eqO (c := ?kk) ?hk ?_); (case hk => with_reducible assumption))
  | ((with_reducible refine of_cal (c := ?kk) ?hk ?_); (case hk => with_reducible assumption)))
local macro_rules | `(tactic| walk_at "w") => `(tactic| repeat walk_at "w1")
section
variable {P : List Fn} {n f fd : Nat} {S : Sto} {row row' : List Int} {c c' : Nat} {tk tf : List (Nat × AK)}
theorem lwMkSnd1 {fi fn : Nat} {cs : List Nat} (hP : P[f]? = some ⟨2, 3, lwMkSndIR fi⟩) (hi : P[fi]? = some ⟨2, 4, sndInitIR fn cs⟩) (hn : P[fn]? = some ⟨3, 3, isNumIR⟩) (hc : cs.contains 1 = true) (ok : okSn row) (lw : Low S) : callN P (n + 3) f [.str (wordS 1), .lst (row.map .int)] S = .ok (sndO 1 row) S := by
  have mk : ∀ Q, Q (sndO 1 row) (S ++ [.dead]) → WP (mkD (callN P (n + 2)) false 1 fi ⟨1, true, [.pos 0, .rest]⟩ (row.map .int) [] S) Q := fun Q q => snd_mk hi hn hc ok q
  have fin : trim S.length (sndO 1 row) (S ++ [.dead]) = S := trim_cut rfl (low_sndO _ _ _) lw
  refine eq_of_wp (wp_fn hP rfl ?_)
  dsimp only [List.map, Nat.sub, List.replicate, List.append, lwMkSndIR]
  match row, ok, mk, fin with
  | [], ok, _, _ => exact absurd ok.ne (by simp)
  | [a], _, mk, fin =>
    refine wfs_cons (wf_set (wp_bin (wp_bf (wps_cons rfl (wp_var rfl (wps_nil ⟨_, rfl, wp_bin (wp_lst (wps_cons rfl (wp_non (wps_nil ⟨Nat.le_of_ble_eq_true rfl, wp_int ⟨_, rfl, _, rfl, ?_⟩⟩))))⟩))))))
    refine wfs_cons (wf_if (wp_cmp (wp_bf (wps_cons rfl (wp_var rfl (wps_nil ⟨_, rfl, wp_int ⟨_, rfl, _, rfl, two_t rfl ?_⟩⟩))))))
    refine wfs_cons (wf_if (wp_cmp (wp_var rfl (wp_str ⟨_, rfl, _, rfl, ?_⟩))))
    refine two_t (by decide +kernel) ?_
    walk_at "w"
    exact mk _ ⟨rfl, fin⟩
  | [a, b], _, mk, fin =>
    refine wfs_cons (wf_set (wp_bin (wp_bf (wps_cons rfl (wp_var rfl (wps_nil ⟨_, rfl, wp_bin (wp_lst (wps_cons rfl (wp_non (wps_nil ⟨Nat.le_of_ble_eq_true rfl, wp_int ⟨_, rfl, _, rfl, ?_⟩⟩))))⟩))))))
    refine wfs_cons (wf_if (wp_cmp (wp_bf (wps_cons rfl (wp_var rfl (wps_nil ⟨_, rfl, wp_int ⟨_, rfl, _, rfl, two_t rfl ?_⟩⟩))))))
    refine wfs_cons (wf_if (wp_cmp (wp_var rfl (wp_str ⟨_, rfl, _, rfl, ?_⟩))))
    refine two_t (by decide +kernel) ?_
    walk_at "w"
    exact mk _ ⟨rfl, fin⟩
  | [a, b, d], _, mk, fin =>
    refine wfs_cons (wf_set (wp_bin (wp_bf (wps_cons rfl (wp_var rfl (wps_nil ⟨_, rfl, wp_bin (wp_lst (wps_cons rfl (wp_non (wps_nil ⟨Nat.le_of_ble_eq_true rfl, wp_int ⟨_, rfl, _, rfl, ?_⟩⟩))))⟩))))))
    refine wfs_cons (wf_if (wp_cmp (wp_bf (wps_cons rfl (wp_var rfl (wps_nil ⟨_, rfl, wp_int ⟨_, rfl, _, rfl, two_f rfl (wfs_nil ?_)⟩⟩))))))
    refine wfs_cons (wf_if (wp_cmp (wp_var rfl (wp_str ⟨_, rfl, _, rfl, ?_⟩))))
    refine two_t (by decide +kernel) ?_
    walk_at "w"
    exact mk _ ⟨rfl, fin⟩
  | [a, b, d, e], _, mk, fin =>
    refine wfs_cons (wf_set (wp_bin (wp_bf (wps_cons rfl (wp_var rfl (wps_nil ⟨_, rfl, wp_bin (wp_lst (wps_cons rfl (wp_non (wps_nil ⟨Nat.le_of_ble_eq_true rfl, wp_int ⟨_, rfl, _, rfl, ?_⟩⟩))))⟩))))))
    refine wfs_cons (wf_if (wp_cmp (wp_bf (wps_cons rfl (wp_var rfl (wps_nil ⟨_, rfl, wp_int ⟨_, rfl, _, rfl, two_f rfl (wfs_nil ?_)⟩⟩))))))
    refine wfs_cons (wf_if (wp_cmp (wp_var rfl (wp_str ⟨_, rfl, _, rfl, ?_⟩))))
    refine two_t (by decide +kernel) ?_
    walk_at "w"
    exact mk _ ⟨rfl, fin⟩
  | a :: b :: d :: e :: g :: t, ok, _, _ => exact absurd ok.mo (by simp)
theorem lwMkSnd2 {fi fn : Nat} {cs : List Nat} (hP : P[f]? = some ⟨2, 3, lwMkSndIR fi⟩) (hi : P[fi]? = some ⟨2, 4, sndInitIR fn cs⟩) (hn : P[fn]? = some ⟨3, 3, isNumIR⟩) (hc : cs.contains 2 = true) (ok : okSn row) (lw : Low S) : callN P (n + 3) f [.str (wordS 2), .lst (row.map .int)] S = .ok (sndO 2 row) S := by
  have mk : ∀ Q, Q (sndO 2 row) (S ++ [.dead]) → WP (mkD (callN P (n + 2)) false 2 fi ⟨1, true, [.pos 0, .rest]⟩ (row.map .int) [] S) Q := fun Q q => snd_mk hi hn hc ok q
  have fin : trim S.length (sndO 2 row) (S ++ [.dead]) = S := trim_cut rfl (low_sndO _ _ _) lw
  refine eq_of_wp (wp_fn hP rfl ?_)
  dsimp only [List.map, Nat.sub, List.replicate, List.append, lwMkSndIR]
  match row, ok, mk, fin with
  | [], ok, _, _ => exact absurd ok.ne (by simp)
  | [a], _, mk, fin =>
    refine wfs_cons (wf_set (wp_bin (wp_bf (wps_cons rfl (wp_var rfl (wps_nil ⟨_, rfl, wp_bin (wp_lst (wps_cons rfl (wp_non (wps_nil ⟨Nat.le_of_ble_eq_true rfl, wp_int ⟨_, rfl, _, rfl, ?_⟩⟩))))⟩))))))
    refine wfs_cons (wf_if (wp_cmp (wp_bf (wps_cons rfl (wp_var rfl (wps_nil ⟨_, rfl, wp_int ⟨_, rfl, _, rfl, two_t rfl ?_⟩⟩))))))
    refine wfs_cons (wf_if (wp_cmp (wp_var rfl (wp_str ⟨_, rfl, _, rfl, ?_⟩))))
    refine two_f (by decide +kernel) (wfs_nil ?_)
    refine wfs_cons (wf_if (wp_cmp (wp_var rfl (wp_str ⟨_, rfl, _, rfl, ?_⟩))))
    refine two_t (by decide +kernel) ?_
    walk_at "w"
    exact mk _ ⟨rfl, fin⟩
  | [a, b], _, mk, fin =>
    refine wfs_cons (wf_set (wp_bin (wp_bf (wps_cons rfl (wp_var rfl (wps_nil ⟨_, rfl, wp_bin (wp_lst (wps_cons rfl (wp_non (wps_nil ⟨Nat.le_of_ble_eq_true rfl, wp_int ⟨_, rfl, _, rfl, ?_⟩⟩))))⟩))))))
    refine wfs_cons (wf_if (wp_cmp (wp_bf (wps_cons rfl (wp_var rfl (wps_nil ⟨_, rfl, wp_int ⟨_, rfl, _, rfl, two_t rfl ?_⟩⟩))))))
    refine wfs_cons (wf_if (wp_cmp (wp_var rfl (wp_str ⟨_, rfl, _, rfl, ?_⟩))))
    refine two_f (by decide +kernel) (wfs_nil ?_)
    refine wfs_cons (wf_if (wp_cmp (wp_var rfl (wp_str ⟨_, rfl, _, rfl, ?_⟩))))
    refine two_t (by decide +kernel) ?_
    walk_at "w"
    exact mk _ ⟨rfl, fin⟩
  | [a, b, d], _, mk, fin =>
    refine wfs_cons (wf_set (wp_bin (wp_bf (wps_cons rfl (wp_var rfl (wps_nil ⟨_, rfl, wp_bin (wp_lst (wps_cons rfl (wp_non (wps_nil ⟨Nat.le_of_ble_eq_true rfl, wp_int ⟨_, rfl, _, rfl, ?_⟩⟩))))⟩))))))
    refine wfs_cons (wf_if (wp_cmp (wp_bf (wps_cons rfl (wp_var rfl (wps_nil ⟨_, rfl, wp_int ⟨_, rfl, _, rfl, two_f rfl (wfs_nil ?_)⟩⟩))))))
    refine wfs_cons (wf_if (wp_cmp (wp_var rfl (wp_str ⟨_, rfl, _, rfl, ?_⟩))))
    refine two_f (by decide +kernel) (wfs_nil ?_)
    refine wfs_cons (wf_if (wp_cmp (wp_var rfl (wp_str ⟨_, rfl, _, rfl, ?_⟩))))
    refine two_t (by decide +kernel) ?_
    walk_at "w"
    exact mk _ ⟨rfl, fin⟩
  | [a, b, d, e], _, mk, fin =>
    refine wfs_cons (wf_set (wp_bin (wp_bf (wps_cons rfl (wp_var rfl (wps_nil ⟨_, rfl, wp_bin (wp_lst (wps_cons rfl (wp_non (wps_nil ⟨Nat.le_of_ble_eq_true rfl, wp_int ⟨_, rfl, _, rfl, ?_⟩⟩))))⟩))))))
    refine wfs_cons (wf_if (wp_cmp (wp_bf (wps_cons rfl (wp_var rfl (wps_nil ⟨_, rfl, wp_int ⟨_, rfl, _, rfl, two_f rfl (wfs_nil ?_)⟩⟩))))))
    refine wfs_cons (wf_if (wp_cmp (wp_var rfl (wp_str ⟨_, rfl, _, rfl, ?_⟩))))
    refine two_f (by decide +kernel) (wfs_nil ?_)
    refine wfs_cons (wf_if (wp_cmp (wp_var rfl (wp_str ⟨_, rfl, _, rfl, ?_⟩))))
    refine two_t (by decide +kernel) ?_
    walk_at "w"
    exact mk _ ⟨rfl, fin⟩
  | a :: b :: d :: e :: g :: t, ok, _, _ => exact absurd ok.mo (by simp)
theorem lwMkSnd3 {fi fn : Nat} {cs : List Nat} (hP : P[f]? = some ⟨2, 3, lwMkSndIR fi⟩) (hi : P[fi]? = some ⟨2, 4, sndInitIR fn cs⟩) (hn : P[fn]? = some ⟨3, 3, isNumIR⟩) (hc : cs.contains 3 = true) (ok : okSn row) (lw : Low S) : callN P (n + 3) f [.str (wordS 3), .lst (row.map .int)] S = .ok (sndO 3 row) S := by
  have mk : ∀ Q, Q (sndO 3 row) (S ++ [.dead]) → WP (mkD (callN P (n + 2)) false 3 fi ⟨1, true, [.pos 0, .rest]⟩ (row.map .int) [] S) Q := fun Q q => snd_mk hi hn hc ok q
  have fin : trim S.length (sndO 3 row) (S ++ [.dead]) = S := trim_cut rfl (low_sndO _ _ _) lw
  refine eq_of_wp (wp_fn hP rfl ?_)
  dsimp only [List.map, Nat.sub, List.replicate, List.append, lwMkSndIR]
  match row, ok, mk, fin with
  | [], ok, _, _ => exact absurd ok.ne (by simp)
  | [a], _, mk, fin =>
    refine wfs_cons (wf_set (wp_bin (wp_bf (wps_cons rfl (wp_var rfl (wps_nil ⟨_, rfl, wp_bin (wp_lst (wps_cons rfl (wp_non (wps_nil ⟨Nat.le_of_ble_eq_true rfl, wp_int ⟨_, rfl, _, rfl, ?_⟩⟩))))⟩))))))
    refine wfs_cons (wf_if (wp_cmp (wp_bf (wps_cons rfl (wp_var rfl (wps_nil ⟨_, rfl, wp_int ⟨_, rfl, _, rfl, two_t rfl ?_⟩⟩))))))
    refine wfs_cons (wf_if (wp_cmp (wp_var rfl (wp_str ⟨_, rfl, _, rfl, ?_⟩))))
    refine two_f (by decide +kernel) (wfs_nil ?_)
    refine wfs_cons (wf_if (wp_cmp (wp_var rfl (wp_str ⟨_, rfl, _, rfl, ?_⟩))))
    refine two_f (by decide +kernel) (wfs_nil ?_)
    walk_at "w"
    exact mk _ ⟨rfl, fin⟩
  | [a, b], _, mk, fin =>
    refine wfs_cons (wf_set (wp_bin (wp_bf (wps_cons rfl (wp_var rfl (wps_nil ⟨_, rfl, wp_bin (wp_lst (wps_cons rfl (wp_non (wps_nil ⟨Nat.le_of_ble_eq_true rfl, wp_int ⟨_, rfl, _, rfl, ?_⟩⟩))))⟩))))))
    refine wfs_cons (wf_if (wp_cmp (wp_bf (wps_cons rfl (wp_var rfl (wps_nil ⟨_, rfl, wp_int ⟨_, rfl, _, rfl, two_t rfl ?_⟩⟩))))))
    refine wfs_cons (wf_if (wp_cmp (wp_var rfl (wp_str ⟨_, rfl, _, rfl, ?_⟩))))
    refine two_f (by decide +kernel) (wfs_nil ?_)
    refine wfs_cons (wf_if (wp_cmp (wp_var rfl (wp_str ⟨_, rfl, _, rfl, ?_⟩))))
    refine two_f (by decide +kernel) (wfs_nil ?_)
    walk_at "w"
    exact mk _ ⟨rfl, fin⟩
  | [a, b, d], _, mk, fin =>
    refine wfs_cons (wf_set (wp_bin (wp_bf (wps_cons rfl (wp_var rfl (wps_nil ⟨_, rfl, wp_bin (wp_lst (wps_cons rfl (wp_non (wps_nil ⟨Nat.le_of_ble_eq_true rfl, wp_int ⟨_, rfl, _, rfl, ?_⟩⟩))))⟩))))))
    refine wfs_cons (wf_if (wp_cmp (wp_bf (wps_cons rfl (wp_var rfl (wps_nil ⟨_, rfl, wp_int ⟨_, rfl, _, rfl, two_f rfl (wfs_nil ?_)⟩⟩))))))
    refine wfs_cons (wf_if (wp_cmp (wp_var rfl (wp_str ⟨_, rfl, _, rfl, ?_⟩))))
    refine two_f (by decide +kernel) (wfs_nil ?_)
    refine wfs_cons (wf_if (wp_cmp (wp_var rfl (wp_str ⟨_, rfl, _, rfl, ?_⟩))))
    refine two_f (by decide +kernel) (wfs_nil ?_)
    walk_at "w"
    exact mk _ ⟨rfl, fin⟩
  | [a, b, d, e], _, mk, fin =>
    refine wfs_cons (wf_set (wp_bin (wp_bf (wps_cons rfl (wp_var rfl (wps_nil ⟨_, rfl, wp_bin (wp_lst (wps_cons rfl (wp_non (wps_nil ⟨Nat.le_of_ble_eq_true rfl, wp_int ⟨_, rfl, _, rfl, ?_⟩⟩))))⟩))))))
    refine wfs_cons (wf_if (wp_cmp (wp_bf (wps_cons rfl (wp_var rfl (wps_nil ⟨_, rfl, wp_int ⟨_, rfl, _, rfl, two_f rfl (wfs_nil ?_)⟩⟩))))))
    refine wfs_cons (wf_if (wp_cmp (wp_var rfl (wp_str ⟨_, rfl, _, rfl, ?_⟩))))
    refine two_f (by decide +kernel) (wfs_nil ?_)
    refine wfs_cons (wf_if (wp_cmp (wp_var rfl (wp_str ⟨_, rfl, _, rfl, ?_⟩))))
    refine two_f (by decide +kernel) (wfs_nil ?_)
    walk_at "w"
    exact mk _ ⟨rfl, fin⟩
  | a :: b :: d :: e :: g :: t, ok, _, _ => exact absurd ok.mo (by simp)
theorem lwMkSnd {fi fn : Nat} {cs : List Nat} (hP : P[f]? = some ⟨2, 3, lwMkSndIR fi⟩) (hi : P[fi]? = some ⟨2, 4, sndInitIR fn cs⟩) (hn : P[fn]? = some ⟨3, 3, isNumIR⟩) (h : c = 1 ∨ c = 2 ∨ c = 3) (hc : cs.contains c = true) (ok : okSn row) (lw : Low S) : callN P (n + 3) f [.str (wordS c), .lst (row.map .int)] S = .ok (sndO c row) S := by
  rcases h with rfl | rfl | rfl
  · exact lwMkSnd1 hP hi hn hc ok lw
  · exact lwMkSnd2 hP hi hn hc ok lw
  · exact lwMkSnd3 hP hi hn hc ok lw
theorem okSn_perm {k : Nat} (h1 : 1 ≤ k) (h2 : k ≤ 4) {r : List Int} (h : r.Perm ((List.range k).map fun (i : Nat) => (i : Int))) : okSn r := by
  have hl : r.length = k := by rw [h.length_eq]; simp
  refine ⟨by omega, by omega, fun x hx => ?_, ?_⟩
  · obtain ⟨i, hi, rfl⟩ := List.mem_map.mp (h.mem_iff.mp hx)
    have := List.mem_range.mp hi
    omega
  · refine h.nodup_iff.mpr ?_
    exact (List.nodup_range).map _ fun a b hab h => hab (by omega)
theorem drSnd_spec {fo fm : Nat} {s : Sr} {R : Sto} (hP : P[f]? = some ⟨2, 2, drSndIR fo fm⟩) (ho : P[fo]? = some ⟨2, 2, ofIR fd⟩) (hm : P[fm]? = some ⟨2, 4, mixIR fd⟩) (hD : P[fd]? = some ⟨2, 5, drawIR⟩) (hs : s.ok) (lw : Low (s.so :: R)) {k : Int} (h1 : 1 ≤ k) (h2 : k ≤ 4) {Q : D → Sto → Prop}
    (q : ∀ (c : Nat) (row : List Int) (s' : Sr), (c = 1 ∨ c = 2 ∨ c = 3) → okSn row → (row.length : Int) = k → s'.ok → Q (.tup [.str (wordS c), .lst (row.map .int)]) (s'.so :: R)) : WP (callN P (n + 3) f [.loc 0, .int k] (s.so :: R)) Q := by
  refine wp_fn hP rfl ?_
  dsimp only [List.map, Nat.sub, List.replicate, List.append, drSndIR]
  walk_at "w"
  refine of_spec ho hD hs (by decide) (by decide) fun i hi s1 hs1 => ?_
  obtain ⟨c, hc, e⟩ : ∃ c, (c = 1 ∨ c = 2 ∨ c = 3) ∧ ([D.str "order", D.str "most", D.str "fewest"] : List D)[i] = .str (wordS c) := by
    have : i = 0 ∨ i = 1 ∨ i = 2 := by
      have : i < 3 := hi
      omega
    rcases this with rfl | rfl | rfl
    · exact ⟨1, .inl rfl, rfl⟩
    · exact ⟨2, .inr (.inl rfl), rfl⟩
    · exact ⟨3, .inr (.inr rfl), rfl⟩
  rw [e]
  walk_at "w"
  refine ⟨_, if_pos (by constructor <;> omega), ?_⟩
  walk_at "w"
  rw [show ((List.range k.toNat).map fun (k : Nat) => D.int (k : Int)) = ((List.range k.toNat).map fun (i : Nat) => (i : Int)).map D.int by rw [List.map_map]; rfl]
  refine mix_spec hm hD hs1 (by simp; omega) (low_src lw) fun r s2 pm hs2 => ?_
  have hl : (r.length : Int) = k := by rw [pm.length_eq]; simp; omega
  walk_at "w"
  refine (congrArg (Q _) (trim_len _ (by rfl))).mpr ?_
  exact q c r s2 hc (okSn_perm (k := k.toNat) (by omega) (by omega) pm) hl hs2
/-! asked -/
theorem snd_rowT {tb : List (Nat × AK)} (hP : P[f]? = some ⟨1, 1, sndRowT tb⟩) (ht : tb.lookup c = some .fld) : callN P (n + 1) f [sndO c row] S = .ok (.loc S.length) (S ++ [.lst (row.map .int)]) := by
  refine eq_of_wp (wp_fn hP rfl ?_)
  dsimp only [List.map, Nat.sub, List.replicate, List.append, sndRowT]
  refine wfs_cons (wf_ret (wp_trk (wp_bf (wps_cons rfl (wp_att (wp_var rfl (wp_fld rfl ht rfl (wps_nil ⟨_, rfl, wp_trkL ⟨rfl, trim_loc⟩⟩))))))))
theorem snd_len (hP : P[f]? = some ⟨1, 1, sndLenIR tf⟩) (ht : tf.lookup c = some .fld) : callN P (n + 1) f [sndO c row] S = .ok (.int row.length) S := by
  refine eq_of_wp (wp_fn hP rfl ?_)
  dsimp only [List.map, Nat.sub, List.replicate, List.append, sndLenIR]
  refine wfs_cons (wf_ret (wp_bf (wps_cons rfl (wp_att (wp_var rfl (wp_fld rfl ht rfl (wps_nil ⟨_, rfl, ?_, trim_self _ _⟩)))))))
  dsimp only
  rw [List.length_map]
def sndText (c : Nat) : Str := (("Sender(" ++ wordS c : Str) ++ (")" : Str))
theorem snd_repr (hP : P[f]? = some ⟨1, 1, sndReprIR tk⟩) (hc : c = 0 ∨ c = 1 ∨ c = 2 ∨ c = 3) (h2 : tk.lookup c = some (.con (.str (wordS c)))) : callN P (n + 1) f [sndO c row] S = .ok (.str (sndText c)) S := by
  refine eq_of_wp (wp_fn hP rfl ?_)
  dsimp only [List.map, Nat.sub, List.replicate, List.append, sndReprIR]
  refine wfs_cons (wf_ret (wp_fst (wps_cons rfl (wp_str (wps_cons rfl (wp_att (wp_var rfl (wp_acon rfl h2 rfl (wps_cons rfl (wp_str (wps_nil ⟨_, ?_, rfl, trim_self _ _⟩)))))))))))
  rcases hc with rfl | rfl | rfl | rfl <;> decide +kernel
theorem word_inj (h : c = 0 ∨ c = 1 ∨ c = 2 ∨ c = 3) (h' : c' = 0 ∨ c' = 1 ∨ c' = 2 ∨ c' = 3) : decide (wordS c = wordS c') = decide (c = c') := by
  rcases h with rfl | rfl | rfl | rfl <;> rcases h' with rfl | rfl | rfl | rfl <;> decide +kernel
theorem eqD_row {a b : List Int} : eqD (.lst (a.map .int)) (.lst (b.map .int)) S = some (decide (a = b)) := by
  have dp : ∀ l : List Int, (J.l (l.map .i)).dp ≤ 20 := fun l => Nat.le_trans (dp_l (n := 0) fun j hj => by obtain ⟨x, _, rfl⟩ := List.mem_map.mp hj; exact Nat.le_refl _) (by decide)
  have bf : ∀ l : List Int, (J.l (l.map .i)).bf = true := fun l => bfs_map fun _ _ => rfl
  rw [eqD_res (j := .l (a.map .i)) (k := .l (b.map .i)) ⟨_, rfl, ress_ints⟩ ⟨_, rfl, ress_ints⟩ (dp _) (dp _)]
  congr 1
  apply bool_iff
  rw [jeq_iff (bf _) (bf _), decide_eq_true_eq]
  constructor
  · intro h
    exact map_inj (fun _ _ e => J.i.inj e) (J.l.inj h)
  · rintro rfl; rfl
theorem snd_eq {sb : List Nat} (hP : P[f]? = some ⟨2, 2, sndEqIR sb tk tf⟩) (hc : c = 0 ∨ c = 1 ∨ c = 2 ∨ c = 3) (hc' : c' = 0 ∨ c' = 1 ∨ c' = 2 ∨ c' = 3) (h1 : sb.contains c' = true)
    (h2 : tk.lookup c = some (.con (.str (wordS c)))) (h3 : tk.lookup c' = some (.con (.str (wordS c')))) (h4 : tf.lookup c = some .fld) (h5 : tf.lookup c' = some .fld) :
    callN P (n + 1) f [sndO c row, sndO c' row'] S = .ok (.bl (decide (c = c' ∧ row = row'))) S := by
  refine eq_of_wp (wp_fn hP rfl ?_)
  dsimp only [List.map, Nat.sub, List.replicate, List.append, sndEqIR]
  refine wfs_cons (wf_ret (wp_bop (wpB_a (wp_isi (wp_var rfl ⟨_, isD_of (k := .obj c') rfl, ⟨true, by show some (sb.contains c') = _; rw [h1], two_t rfl ?_⟩⟩)))))
  refine wpB_a (wp_cmp (wp_att (wp_var rfl (wp_acon rfl h2 rfl (wp_att (wp_var rfl (wp_acon rfl h3 rfl ⟨_, rfl, _, rfl, ?_⟩)))))))
  rw [eqv_str, word_inj hc hc']
  refine ⟨fun h => ?_, fun h => ?_⟩
  · have h : c = c' := by simpa using h
    refine wpB_one (wp_cmp (wp_att (wp_var rfl (wp_fld rfl h4 rfl (wp_att (wp_var rfl (wp_fld rfl h5 rfl ⟨_, eqD_row, ?_, trim_self _ _⟩)))))))
    congr 1
    rw [decide_eq_decide]
    exact ⟨fun z => ⟨h, z⟩, fun z => z.2⟩
  · have h : ¬ c = c' := by simpa using h
    refine ⟨?_, trim_self _ _⟩
    rw [decide_eq_false h, decide_eq_false fun z => h z.1]
theorem snd_eq_no {sb : List Nat} {y : D} {k : TK} (hP : P[f]? = some ⟨2, 2, sndEqIR sb tk tf⟩) (h : tkD y S = some k) (hk : isK k (.own 0 sb) = false) : callN P (n + 1) f [sndO c row, y] S = .ok (.bl false) S := by
  refine eq_of_wp (wp_fn hP rfl ?_)
  dsimp only [List.map, Nat.sub, List.replicate, List.append, sndEqIR]
  refine wfs_cons (wf_ret (wp_bop (wpB_a (wp_isi (wp_var rfl ⟨_, isD_of h, _, rfl, two_f hk ⟨?_, trim_self _ _⟩⟩)))))
  rw [hk]
theorem own_sender {tb ss : List (Nat × Nat)} {sb : List Nat} {neg : Bool} {Q : D → Sto → Prop} (hP : P[f]? = some ⟨2, 2, sndEqIR sb tk tf⟩) (hc : c = 0 ∨ c = 1 ∨ c = 2 ∨ c = 3) (hc' : c' = 0 ∨ c' = 1 ∨ c' = 2 ∨ c' = 3) (h1 : sb.contains c' = true)
    (h2 : tk.lookup c = some (.con (.str (wordS c)))) (h3 : tk.lookup c' = some (.con (.str (wordS c')))) (h4 : tf.lookup c = some .fld) (h5 : tf.lookup c' = some .fld) (h6 : ss.contains (c, c') = false) (h7 : tb.lookup c = some f) (q : Q (.bl (decide (c = c' ∧ row = row') != neg)) S) :
    WP (eqO (callN P (n + 1)) neg tb ss (sndO c row) (sndO c' row') S) Q :=
  wp_eqO rfl (k := .obj c') rfl (fun c2 e => by cases e; exact h6) h7 (wp_eq (snd_eq hP hc hc' h1 h2 h3 h4 h5) ⟨_, rfl, q⟩)
theorem own_senderNo {tb ss : List (Nat × Nat)} {sb : List Nat} {neg : Bool} {Q : D → Sto → Prop} {y : D} {k : TK} (hP : P[f]? = some ⟨2, 2, sndEqIR sb tk tf⟩) (h : tkD y S = some k) (hk : isK k (.own 0 sb) = false) (h6 : ∀ c', k = .obj c' → ss.contains (c, c') = false) (h7 : tb.lookup c = some f) (q : Q (.bl (false != neg)) S) :
    WP (eqO (callN P (n + 1)) neg tb ss (sndO c row) y S) Q :=
  wp_eqO rfl h h6 h7 (wp_eq (snd_eq_no hP h hk) ⟨_, rfl, q⟩)
end
end Itp
namespace Lw
open PySem Itp
def top (i : Nat) : Stmt := PySem.Challenge.pw_splitsent_k42_senders_made.main.body.getD i (.Pass ⟨0, 0, 0, 0⟩)
def inC (i j : Nat) : Stmt := match top i with
  | .ClassDef (body := b) .. => b.getD j (.Pass ⟨0, 0, 0, 0⟩)
  | s => s
def fArgs : Stmt → Arguments
  | .FunctionDef (args := a) .. => a
  | _ => { posonlyargs := [], args := [], vararg := none, kwonlyargs := [], kw_defaults := [], kwarg := none, defaults := [] }
def fBody : Stmt → List Stmt
  | .FunctionDef (body := b) .. => b
  | _ => []
def fScope : Stmt → Scope
  | .FunctionDef (scope := s) .. => s
  | _ => { kind := .function, names := [], isGenerator := false, isCoroutine := false, more := [] }
def dd (st : Stmt) (w : Wh) (x y : Str) (kw : List (Str × He.Dv)) : He5.DefA := ⟨w.at_, x, y, fArgs st, fBody st, fScope st, [], kw⟩
/-- is_number(value, least, most); 0 value, 1 least, 2 most -/
def ir0 : List Itp.St := [
    .ret (.bop true [.isi (.var 0) .int, .not (.isi (.var 0) .bool), .chn .le .le (.var 1) (.var 0) (.var 2)])]
def f0 : Fn := ⟨3, 3, ir0⟩
/-- is_rising(row); 0 row, 1 one, 2 other -/
def ir1 : List Itp.St := [
    .ret (.bf .all [.lc (.tup [.name 1, .name 2]) [1, 2] .zip [.var 0, .slc (.var 0) (some (.int 1)) none] [] (.cmp .lt (.var 1) (.var 2))])]
def f1 : Fn := ⟨1, 3, ir1⟩
/-- is_filling(value, stores, lines); 0 value, 1 stores, 2 lines, 3 row, 4 line -/
def ir2 : List Itp.St := [
    .ifs (.bop false [.not (.isi (.var 0) .tuple), .cmp .ne (.bf .len [.var 0]) (.var 1)]) [.ret (.bl false)] [],
    .for (.name 3) .val [.var 0] [.ifs (.bop false [.not (.isi (.var 3) .tuple), .not (.bf .all [.lc (.name 4) [4] .val [.var 3] [] (.call 0 [.var 4, .int 0, .bin .sub (.var 2) (.int 1)] [] ⟨3, false, [.pos 0, .pos 1, .pos 2]⟩)])]) [.ret (.bl false)] [], .ifs (.not (.call 1 [.var 3] [] ⟨1, false, [.pos 0]⟩)) [.ret (.bl false)] []],
    .ret (.bl true)]
def f2 : Fn := ⟨3, 5, ir2⟩
/-- is_full(filling, lines); 0 filling, 1 lines, 2 line, 3 row -/
def ir3 : List Itp.St := [
    .ret (.bf .all [.lc (.name 2) [2] .rng [.var 1] [] (.bf .any [.lc (.name 3) [3] .val [.var 0] [] (.cmp .inn (.var 2) (.var 3))])])]
def f3 : Fn := ⟨2, 4, ir3⟩
/-- check_size(stores, lines); 0 stores, 1 lines, 2 given -/
def ir4 : List Itp.St := [
    .for (.name 2) .val [.tup [.var 0, .var 1]] [.ifs (.not (.call 0 [.var 2, .int 1, .gint "MOST_SIDE" (4)] [] ⟨3, false, [.pos 0, .pos 1, .pos 2]⟩)) [.never] []],
    .ifs (.cmp .gt (.bin .mul (.var 0) (.var 1)) (.gint "MOST_CELLS" (12))) [.never] []]
def f4 : Fn := ⟨2, 3, ir4⟩
/-- Sender.__init__(self, row); 0 self, 1 row, 2 at, 3 store -/
def ir5 : List Itp.St := [
    .ifs (.not (.chn .le .le (.int 1) (.bf .len [.var 1]) (.int 4))) [.never] [],
    .for (.tup [.name 2, .name 3]) .enum [.var 1] [.ifs (.bop false [.not (.call 0 [.var 3, .int 0, .bin .sub (.bf .len [.var 1]) (.int 1)] [] ⟨3, false, [.pos 0, .pos 1, .pos 2]⟩), .cmp .inn (.var 3) (.slc (.var 1) none (some (.var 2)))]) [.never] []],
    .flds (.var 0) [0, 1, 2, 3] [41] [.bf .list [.var 1]]]
def f5 : Fn := ⟨2, 4, ir5⟩
/-- Sender.named(word, row); 0 word, 1 row -/
def ir6 : List Itp.St := [
    .ifs (.bop false [.not (.isi (.var 0) .str), .ink true (.var 0) 0 64 ["order", "most", "fewest"]]) [.never] [],
    .ifs (.cmp .eq (.var 0) (.str "order")) [.ret (.mk false 1 5 [.star (.var 1)] [] ⟨1, true, [.pos 0, .rest]⟩)] [],
    .ret (.ite (.cmp .eq (.var 0) (.str "most")) (.mk false 2 5 [.star (.var 1)] [] ⟨1, true, [.pos 0, .rest]⟩) (.mk false 3 5 [.star (.var 1)] [] ⟨1, true, [.pos 0, .rest]⟩))]
def f6 : Fn := ⟨2, 2, ir6⟩
/-- Sender.row(self); 0 self -/
def ir7 : List Itp.St := [
    .ret (.trk (.bf .list [.att (.var 0) 41 [(0, .fld), (1, .fld), (2, .fld), (3, .fld)]]))]
def f7 : Fn := ⟨1, 1, ir7⟩
/-- Sender.taken(self, filling, lines); 0 self, 1 filling, 2 lines -/
def ir8 : List Itp.St := [
    .ret (.non)]
def f8 : Fn := ⟨3, 3, ir8⟩
/-- Sender.sent(self, filling, lines); 0 self, 1 filling, 2 lines -/
def ir9 : List Itp.St := [
    .expr (.call 4 [.bf .len [.att (.var 0) 41 [(0, .fld)]], .var 2] [] ⟨2, false, [.pos 0, .pos 1]⟩),
    .ifs (.not (.call 2 [.var 1, .bf .len [.att (.var 0) 41 [(0, .fld)]], .var 2] [] ⟨3, false, [.pos 0, .pos 1, .pos 2]⟩)) [.never] [],
    .ret (.ite (.call 3 [.var 1, .var 2] [] ⟨2, false, [.pos 0, .pos 1]⟩) (.mth (.var 0) 66 [(0, 8)] [.var 1, .var 2] [] ⟨3, false, [.pos 0, .pos 1, .pos 2]⟩) (.non))]
def f9 : Fn := ⟨3, 3, ir9⟩
/-- Sender.parcels(self, filling, lines); 0 self, 1 filling, 2 lines, 3 found -/
def ir10 : List Itp.St := [
    .set 3 (.mth (.var 0) 67 [(0, 9)] [.var 1, .var 2] [] ⟨3, false, [.pos 0, .pos 1, .pos 2]⟩),
    .ret (.ite (.cmp .isN (.var 3) (.non)) (.non) (.bf .len [.var 3]))]
def f10 : Fn := ⟨3, 4, ir10⟩
/-- Sender.__eq__(self, other); 0 self, 1 other -/
def ir11 : List Itp.St := [
    .ret (.bop true [.isi (.var 1) (.own 0 [0, 1, 2, 3]), .cmp .eq (.att (.var 0) 48 [(0, .con (.str "sender")), (1, .con (.str "order")), (2, .con (.str "most")), (3, .con (.str "fewest"))]) (.att (.var 1) 48 [(0, .con (.str "sender")), (1, .con (.str "order")), (2, .con (.str "most")), (3, .con (.str "fewest"))]), .cmp .eq (.att (.var 0) 41 [(0, .fld), (1, .fld), (2, .fld), (3, .fld)]) (.att (.var 1) 41 [(0, .fld), (1, .fld), (2, .fld), (3, .fld)])])]
def f11 : Fn := ⟨2, 2, ir11⟩
/-- Sender.__len__(self); 0 self -/
def ir12 : List Itp.St := [
    .ret (.bf .len [.att (.var 0) 41 [(1, .fld), (2, .fld), (3, .fld)]])]
def f12 : Fn := ⟨1, 1, ir12⟩
/-- Sender.__repr__(self); 0 self -/
def ir13 : List Itp.St := [
    .ret (.fst [.str "Sender(", .att (.var 0) 48 [(0, .con (.str "sender")), (1, .con (.str "order")), (2, .con (.str "most")), (3, .con (.str "fewest"))], .str ")"])]
def f13 : Fn := ⟨1, 1, ir13⟩
/-- _law_source(_law_script); 0 _law_script -/
def ir14 : List Itp.St := [
    .ret (.lst true [.bf .list [.slc (.var 0) none (some (.int 63))], .int 0, .int 0, .int 10024, .int 0])]
def f14 : Fn := ⟨1, 1, ir14⟩
/-- _law_draw(_law_src, _law_many7); 0 _law_src, 1 _law_many7, 2 _law_cell7, 3 _law_digit, 4 _law_seed -/
def ir15 : List Itp.St := [
    .ifs (.bop true [.cmp .eq (.idx (.var 0) (.int 2)) (.int 0), .cmp .lt (.idx (.var 0) (.int 1)) (.bf .len [.idx (.var 0) (.int 0)])]) [.set 2 (.idx (.idx (.var 0) (.int 0)) (.idx (.var 0) (.int 1))), .idx (.var 0) (.int 1) (.bin .add (.idx (.var 0) (.int 1)) (.int 1)), .ifs (.cmp .ge (.var 2) (.bin .pow (.int 10) (.int 18))) [.idx (.var 0) (.int 2) (.var 2)] [.idx (.var 0) (.int 3) (.bin .mod (.bf .int [.bin .add (.bin .add (.bin .mul (.idx (.var 0) (.int 3)) (.int 38867)) (.bin .mul (.bin .mod (.bf .int [.var 2]) (.int 2147483563)) (.int 5407))) (.int 83)]) (.int 2147483549))]] [],
    .ifs (.cmp .gt (.idx (.var 0) (.int 2)) (.int 0)) [.set 3 (.bin .mod (.bf .int [.idx (.var 0) (.int 2)]) (.var 1)), .idx (.var 0) (.int 2) (.bin .fdiv (.idx (.var 0) (.int 2)) (.var 1)), .ret (.var 3)] [],
    .idx (.var 0) (.int 4) (.bin .add (.idx (.var 0) (.int 4)) (.int 1)),
    .set 4 (.idx (.var 0) (.int 3)),
    .idx (.var 0) (.int 3) (.bin .mod (.bf .int [.bin .add (.bin .add (.bin .add (.bin .mul (.var 4) (.var 4)) (.bin .mul (.var 4) (.int 30197))) (.bin .mul (.idx (.var 0) (.int 4)) (.int 1000777))) (.int 70843)]) (.int 2147483549)),
    .ret (.bin .mod (.bf .int [.bin .add (.bin .fdiv (.idx (.var 0) (.int 3)) (.int 67)) (.bin .mul (.bin .mod (.bf .int [.idx (.var 0) (.int 3)]) (.int 8123)) (.int 41))]) (.var 1))]
def f15 : Fn := ⟨2, 5, ir15⟩
/-- _law_of(_law_src, _law_things7); 0 _law_src, 1 _law_things7 -/
def ir16 : List Itp.St := [
    .ret (.idx (.var 1) (.call 15 [.var 0, .bf .len [.var 1]] [] ⟨2, false, [.pos 0, .pos 1]⟩))]
def f16 : Fn := ⟨2, 2, ir16⟩
/-- _law_mixed(_law_src, _law_things7); 0 _law_src, 1 _law_things7, 2 _law_found, 3 _law_one -/
def ir17 : List Itp.St := [
    .set 2 (.lst true []),
    .for (.name 3) .val [.var 1] [.expr (.bm .insert (.var 2) [.call 15 [.var 0, .bin .add (.bf .len [.var 2]) (.int 1)] [] ⟨2, false, [.pos 0, .pos 1]⟩, .var 3])],
    .ret (.frz (.var 2))]
def f17 : Fn := ⟨2, 4, ir17⟩
/-- _law_same(_law_found, _law_due); 0 _law_found, 1 _law_due, 2 _law_part7, 3 _law_late7 -/
def ir18 : List Itp.St := [
    .ifs (.isT (.var 1) [.list, .tuple]) [.ifs (.bop false [.cmp .ne (.isi (.var 0) .list) (.isi (.var 1) .list), .cmp .ne (.isi (.var 0) .tuple) (.isi (.var 1) .tuple)]) [.ret (.bl false)] [], .ret (.bop true [.cmp .eq (.bf .len [.var 0]) (.bf .len [.var 1]), .bf .all [.lc (.tup [.name 2, .name 3]) [2, 3] .zip [.var 0, .var 1] [] (.call 18 [.var 2, .var 3] [] ⟨2, false, [.pos 0, .pos 1]⟩)]])] [],
    .ifs (.bop false [.cmp .isN (.var 1) (.non), .cmp .isN (.var 0) (.non)]) [.ret (.bop true [.cmp .isN (.var 1) (.non), .cmp .isN (.var 0) (.non)])] [],
    .ifs (.bop false [.cmp .ne (.isi (.var 0) .bool) (.isi (.var 1) .bool), .cmp .ne (.isi (.var 0) .int) (.isi (.var 1) .int)]) [.ret (.bl false)] [],
    .ret (.bop true [.cmp .eq (.isi (.var 0) .str) (.isi (.var 1) .str), .cmp .eq (.var 0) (.var 1)])]
def f18 : Fn := ⟨2, 4, ir18⟩
/-- _law_sender(_law_word7, _law_line); 0 _law_word7, 1 _law_line, 2 _law_p -/
def ir19 : List Itp.St := [
    .set 2 (.bin .add (.bf .list [.var 1]) (.bin .mul (.lst false [.non]) (.int 3))),
    .ifs (.cmp .lt (.bf .len [.var 1]) (.int 3)) [.ret (.ite (.cmp .eq (.bf .len [.var 1]) (.int 1)) (.smt 0 65 6 [.var 0, .idx (.var 2) (.int 0)] [] ⟨1, true, [.pos 0, .rest]⟩) (.smt 0 65 6 [.var 0, .idx (.var 2) (.int 0), .idx (.var 2) (.int 1)] [] ⟨1, true, [.pos 0, .rest]⟩))] [],
    .ret (.ite (.cmp .eq (.bf .len [.var 1]) (.int 3)) (.smt 0 65 6 [.var 0, .idx (.var 2) (.int 0), .idx (.var 2) (.int 1), .idx (.var 2) (.int 2)] [] ⟨1, true, [.pos 0, .rest]⟩) (.smt 0 65 6 [.var 0, .idx (.var 2) (.int 0), .idx (.var 2) (.int 1), .idx (.var 2) (.int 2), .idx (.var 2) (.int 3)] [] ⟨1, true, [.pos 0, .rest]⟩))]
def f19 : Fn := ⟨2, 3, ir19⟩
/-- _law_made_sender(_law_word7, _law_line); 0 _law_word7, 1 _law_line, 2 _law_p -/
def ir20 : List Itp.St := [
    .set 2 (.bin .add (.bf .list [.var 1]) (.bin .mul (.lst false [.non]) (.int 3))),
    .ifs (.cmp .lt (.bf .len [.var 1]) (.int 3)) [.ifs (.cmp .eq (.var 0) (.str "order")) [.ret (.ite (.cmp .eq (.bf .len [.var 1]) (.int 1)) (.mk false 1 5 [.idx (.var 2) (.int 0)] [] ⟨1, true, [.pos 0, .rest]⟩) (.mk false 1 5 [.idx (.var 2) (.int 0), .idx (.var 2) (.int 1)] [] ⟨1, true, [.pos 0, .rest]⟩))] [], .ifs (.cmp .eq (.var 0) (.str "most")) [.ret (.ite (.cmp .eq (.bf .len [.var 1]) (.int 1)) (.mk false 2 5 [.idx (.var 2) (.int 0)] [] ⟨1, true, [.pos 0, .rest]⟩) (.mk false 2 5 [.idx (.var 2) (.int 0), .idx (.var 2) (.int 1)] [] ⟨1, true, [.pos 0, .rest]⟩))] [], .ret (.ite (.cmp .eq (.bf .len [.var 1]) (.int 1)) (.mk false 3 5 [.idx (.var 2) (.int 0)] [] ⟨1, true, [.pos 0, .rest]⟩) (.mk false 3 5 [.idx (.var 2) (.int 0), .idx (.var 2) (.int 1)] [] ⟨1, true, [.pos 0, .rest]⟩))] [],
    .ifs (.cmp .eq (.var 0) (.str "order")) [.ret (.ite (.cmp .eq (.bf .len [.var 1]) (.int 3)) (.mk false 1 5 [.idx (.var 2) (.int 0), .idx (.var 2) (.int 1), .idx (.var 2) (.int 2)] [] ⟨1, true, [.pos 0, .rest]⟩) (.mk false 1 5 [.idx (.var 2) (.int 0), .idx (.var 2) (.int 1), .idx (.var 2) (.int 2), .idx (.var 2) (.int 3)] [] ⟨1, true, [.pos 0, .rest]⟩))] [],
    .ifs (.cmp .eq (.var 0) (.str "most")) [.ret (.ite (.cmp .eq (.bf .len [.var 1]) (.int 3)) (.mk false 2 5 [.idx (.var 2) (.int 0), .idx (.var 2) (.int 1), .idx (.var 2) (.int 2)] [] ⟨1, true, [.pos 0, .rest]⟩) (.mk false 2 5 [.idx (.var 2) (.int 0), .idx (.var 2) (.int 1), .idx (.var 2) (.int 2), .idx (.var 2) (.int 3)] [] ⟨1, true, [.pos 0, .rest]⟩))] [],
    .ret (.ite (.cmp .eq (.bf .len [.var 1]) (.int 3)) (.mk false 3 5 [.idx (.var 2) (.int 0), .idx (.var 2) (.int 1), .idx (.var 2) (.int 2)] [] ⟨1, true, [.pos 0, .rest]⟩) (.mk false 3 5 [.idx (.var 2) (.int 0), .idx (.var 2) (.int 1), .idx (.var 2) (.int 2), .idx (.var 2) (.int 3)] [] ⟨1, true, [.pos 0, .rest]⟩))]
def f20 : Fn := ⟨2, 3, ir20⟩
/-- _law_drawn_sender(_law_src, _law_one); 0 _law_src, 1 _law_one -/
def ir21 : List Itp.St := [
    .ret (.tup [.call 16 [.var 0, .lst false [.str "order", .str "most", .str "fewest"]] [] ⟨2, false, [.pos 0, .pos 1]⟩, .call 17 [.var 0, .bf .lrng [.var 1]] [] ⟨2, false, [.pos 0, .pos 1]⟩])]
def f21 : Fn := ⟨2, 2, ir21⟩
/-- law(_law_script); 0 _law_script, 1 _law_src, 2 _law_turn, 3 _law_one, 4 _law_case, 5 _law_other, 6 _law_made7, 7 _law_late, 8 _law_again, 9 _law_told, 10 _law_bare, 11 _law_word7 -/
def ir22 : List Itp.St := [
    .set 1 (.call 14 [.var 0] [] ⟨1, false, [.pos 0]⟩),
    .for (.name 2) .rng [.int 5] [.set 3 (.bin .add (.int 1) (.call 15 [.var 1, .int 4] [] ⟨2, false, [.pos 0, .pos 1]⟩)), .asg (.tup [.name 4, .name 5]) (.tup [.call 21 [.var 1, .var 3] [] ⟨2, false, [.pos 0, .pos 1]⟩, .call 21 [.var 1, .bin .add (.int 1) (.call 15 [.var 1, .int 4] [] ⟨2, false, [.pos 0, .pos 1]⟩)] [] ⟨2, false, [.pos 0, .pos 1]⟩]), .par [6, 7] [.call 19 [.idx (.var 4) (.int 0), .idx (.var 4) (.int 1)] [] ⟨2, false, [.pos 0, .pos 1]⟩, .call 20 [.idx (.var 5) (.int 0), .idx (.var 5) (.int 1)] [] ⟨2, false, [.pos 0, .pos 1]⟩], .for (.name 8) .rng [.int 2] [.set 9 (.mth (.var 6) 39 [(1, 7), (2, 7), (3, 7)] [] [] ⟨1, false, [.pos 0]⟩), .ifs (.not (.call 18 [.lst false [.var 9, .att (.var 6) 48 [(1, .con (.str "order")), (2, .con (.str "most")), (3, .con (.str "fewest"))], .own .len [(1, 12), (2, 12), (3, 12)] [] [.var 6], .own .repr [(1, 13), (2, 13), (3, 13)] [] [.var 6]], .lst false [.idx (.var 4) (.int 1), .idx (.var 4) (.int 0), .var 3, .bin .add (.bin .add (.str "Sender(") (.idx (.var 4) (.int 0))) (.str ")")]] [] ⟨2, false, [.pos 0, .pos 1]⟩)) [.ret (.bl false)] [], .expr (.bm .append (.var 9) [.int 0])], .ifs (.bop false [.cmp .ne (.own .eq [(1, 11), (2, 11), (3, 11)] [(0, 1), (0, 2), (0, 3)] [.var 6, .var 7]) (.cmp .eq (.var 4) (.var 5)), .cmp .ne (.own .ne [(1, 11), (2, 11), (3, 11)] [(0, 1), (0, 2), (0, 3)] [.var 6, .var 7]) (.cmp .ne (.var 4) (.var 5)), .own .eq [(1, 11), (2, 11), (3, 11)] [(0, 1), (0, 2), (0, 3)] [.var 6, .idx (.var 4) (.int 1)], .own .eq [(1, 11), (2, 11), (3, 11)] [(0, 1), (0, 2), (0, 3)] [.var 6, .non]]) [.ret (.bl false)] [], .ifs (.bop false [.own .ne [(1, 11), (2, 11), (3, 11)] [(0, 1), (0, 2), (0, 3)] [.var 6, .call 20 [.idx (.var 4) (.int 0), .idx (.var 4) (.int 1)] [] ⟨2, false, [.pos 0, .pos 1]⟩], .not (.isi (.var 6) (.own 0 [0, 1, 2, 3]))]) [.ret (.bl false)] [], .ifs (.cmp .ne (.lst false [.isi (.var 6) (.own 1 [1]), .isi (.var 6) (.own 2 [2]), .isi (.var 6) (.own 3 [3])]) (.lc (.name 11) [11] .val [.lst false [.str "order", .str "most", .str "fewest"]] [] (.cmp .eq (.idx (.var 4) (.int 0)) (.var 11)))) [.ret (.bl false)] []],
    .set 10 (.mk false 0 5 [.int 1, .int 0] [] ⟨1, true, [.pos 0, .rest]⟩),
    .ret (.call 18 [.lst false [.mth (.var 10) 39 [(0, 7)] [] [] ⟨1, false, [.pos 0]⟩, .att (.var 10) 48 [(0, .con (.str "sender"))], .mth (.var 10) 67 [(0, 9)] [.tup [.tup [.int 0], .tup []], .int 1] [] ⟨3, false, [.pos 0, .pos 1, .pos 2]⟩, .mth (.var 10) 68 [(0, 10)] [.tup [.tup [.int 0], .tup []], .int 1] [] ⟨3, false, [.pos 0, .pos 1, .pos 2]⟩, .cst 1 48 (.str "order"), .cst 2 48 (.str "most"), .cst 3 48 (.str "fewest"), .own .eq [(0, 11), (1, 11)] [(0, 1), (0, 2), (0, 3)] [.var 10, .mk false 1 5 [.int 1, .int 0] [] ⟨1, true, [.pos 0, .rest]⟩], .own .repr [(0, 13)] [] [.var 10]], .lst false [.lst false [.int 1, .int 0], .str "sender", .non, .non, .str "order", .str "most", .str "fewest", .bl false, .str "Sender(sender)"]] [] ⟨2, false, [.pos 0, .pos 1]⟩)]
def f22 : Fn := ⟨1, 12, ir22⟩
def df0 : Df := ⟨dd (top 8) (.glo "is_number") "is_number" "is_number" [], ["value", "least", "most"], ["value", "least", "most"], f0⟩
def df1 : Df := ⟨dd (top 9) (.glo "is_rising") "is_rising" "is_rising" [], ["row", "one", "other"], ["row"], f1⟩
def df2 : Df := ⟨dd (top 15) (.glo "is_filling") "is_filling" "is_filling" [], ["value", "stores", "lines", "row", "line"], ["value", "stores", "lines"], f2⟩
def df3 : Df := ⟨dd (top 16) (.glo "is_full") "is_full" "is_full" [], ["filling", "lines", "line", "row"], ["filling", "lines"], f3⟩
def df4 : Df := ⟨dd (top 17) (.glo "check_size") "check_size" "check_size" [], ["stores", "lines", "given"], ["stores", "lines"], f4⟩
def df5 : Df := ⟨dd (inC 20 2) (.mth "Sender" "__init__") "__init__" "Sender.__init__" [], ["self", "row", "at", "store"], ["self", "row"], f5⟩
def df6 : Df := ⟨dd (inC 20 3) (.stm "Sender" "named") "named" "Sender.named" [], ["word", "row"], ["word", "row"], f6⟩
def df7 : Df := ⟨dd (inC 20 4) (.mth "Sender" "row") "row" "Sender.row" [], ["self"], ["self"], f7⟩
def df8 : Df := ⟨dd (inC 20 5) (.mth "Sender" "taken") "taken" "Sender.taken" [], ["self", "filling", "lines"], ["self", "filling", "lines"], f8⟩
def df9 : Df := ⟨dd (inC 20 6) (.mth "Sender" "sent") "sent" "Sender.sent" [], ["self", "filling", "lines"], ["self", "filling", "lines"], f9⟩
def df10 : Df := ⟨dd (inC 20 7) (.mth "Sender" "parcels") "parcels" "Sender.parcels" [], ["self", "filling", "lines", "found"], ["self", "filling", "lines"], f10⟩
def df11 : Df := ⟨dd (inC 20 8) (.mth "Sender" "__eq__") "__eq__" "Sender.__eq__" [], ["self", "other"], ["self", "other"], f11⟩
def df12 : Df := ⟨dd (inC 20 9) (.mth "Sender" "__len__") "__len__" "Sender.__len__" [], ["self"], ["self"], f12⟩
def df13 : Df := ⟨dd (inC 20 10) (.mth "Sender" "__repr__") "__repr__" "Sender.__repr__" [], ["self"], ["self"], f13⟩
def df14 : Df := ⟨dd (top 25) (.glo "_law_source") "_law_source" "_law_source" [], ["_law_script"], ["_law_script"], f14⟩
def df15 : Df := ⟨dd (top 26) (.glo "_law_draw") "_law_draw" "_law_draw" [], ["_law_src", "_law_many7", "_law_cell7", "_law_digit", "_law_seed"], ["_law_src", "_law_many7"], f15⟩
def df16 : Df := ⟨dd (top 27) (.glo "_law_of") "_law_of" "_law_of" [], ["_law_src", "_law_things7"], ["_law_src", "_law_things7"], f16⟩
def df17 : Df := ⟨dd (top 28) (.glo "_law_mixed") "_law_mixed" "_law_mixed" [], ["_law_src", "_law_things7", "_law_found", "_law_one"], ["_law_src", "_law_things7"], f17⟩
def df18 : Df := ⟨dd (top 29) (.glo "_law_same") "_law_same" "_law_same" [], ["_law_found", "_law_due", "_law_part7", "_law_late7"], ["_law_found", "_law_due"], f18⟩
def df19 : Df := ⟨dd (top 30) (.glo "_law_sender") "_law_sender" "_law_sender" [], ["_law_word7", "_law_line", "_law_p"], ["_law_word7", "_law_line"], f19⟩
def df20 : Df := ⟨dd (top 31) (.glo "_law_made_sender") "_law_made_sender" "_law_made_sender" [], ["_law_word7", "_law_line", "_law_p"], ["_law_word7", "_law_line"], f20⟩
def df21 : Df := ⟨dd (top 32) (.glo "_law_drawn_sender") "_law_drawn_sender" "_law_drawn_sender" [], ["_law_src", "_law_one"], ["_law_src", "_law_one"], f21⟩
def df22 : Df := ⟨dd (top 33) (.glo "law") "law" "law" [], ["_law_script", "_law_src", "_law_turn", "_law_one", "_law_case", "_law_other", "_law_made7", "_law_late", "_law_again", "_law_told", "_law_bare", "_law_word7"], ["_law_script"], f22⟩
def dfs : List Df := [df0, df1, df2, df3, df4, df5, df6, df7, df8, df9, df10, df11, df12, df13, df14, df15, df16, df17, df18, df19, df20, df21, df22]
def prog : List Fn := [f0, f1, f2, f3, f4, f5, f6, f7, f8, f9, f10, f11, f12, f13, f14, f15, f16, f17, f18, f19, f20, f21, f22]
def T : Tab where
  fn := (["is_number", "is_rising", "is_filling", "is_full", "check_size", "", "", "", "", "", "", "", "", "", "_law_source", "_law_draw"] : List Str) ++ (["_law_of", "_law_mixed", "_law_same", "_law_sender", "_law_made_sender", "_law_drawn_sender", "law"] : List Str)
  ci := [("MOST_SIDE", 4), ("MOST_CELLS", 12)]
  cs := []
  free := (["all", "any", "bool", "enumerate", "int", "isinstance", "len", "list", "range", "repr", "str", "tuple", "zip"] : List Str)
  cls := ["Sender", "InOrder", "MostNext", "Fewest"]
  sub := [(0, 0), (1, 0), (1, 1), (2, 0), (2, 2), (3, 0), (3, 3)]
  kb := [(0, [], ⟨3, false, [.pos 0, .pos 1, .pos 2]⟩), (1, [], ⟨1, false, [.pos 0]⟩), (5, [], ⟨1, true, [.pos 0, .rest]⟩), (4, [], ⟨2, false, [.pos 0, .pos 1]⟩), (2, [], ⟨3, false, [.pos 0, .pos 1, .pos 2]⟩), (3, [], ⟨2, false, [.pos 0, .pos 1]⟩), (8, [], ⟨3, false, [.pos 0, .pos 1, .pos 2]⟩), (9, [], ⟨3, false, [.pos 0, .pos 1, .pos 2]⟩), (15, [], ⟨2, false, [.pos 0, .pos 1]⟩), (18, [], ⟨2, false, [.pos 0, .pos 1]⟩), (6, [], ⟨1, true, [.pos 0, .rest]⟩), (16, [], ⟨2, false, [.pos 0, .pos 1]⟩), (17, [], ⟨2, false, [.pos 0, .pos 1]⟩), (14, [], ⟨1, false, [.pos 0]⟩), (21, [], ⟨2, false, [.pos 0, .pos 1]⟩), (19, [], ⟨2, false, [.pos 0, .pos 1]⟩), (20, [], ⟨2, false, [.pos 0, .pos 1]⟩), (7, [], ⟨1, false, [.pos 0]⟩), (12, [], ⟨1, false, [.pos 0]⟩), (13, [], ⟨1, false, [.pos 0]⟩), (11, [], ⟨2, false, [.pos 0, .pos 1]⟩), (10, [], ⟨3, false, [.pos 0, .pos 1, .pos 2]⟩)]
  nm := (["MOST_STORES", "MOST_PLACES", "even", "stores", "places", "rows", "need_place", "way", "reach", "with_way", "ways", "MOST", "net", "piles", "kinds", "many"] : List Str) ++ (["own_net", "heaps", "pieces", "stock", "today", "promises", "lines", "serving", "without", "on_day", "with_stock", "own_stock", "day_now", "made", "WORD", "book"] : List Str) ++ (["told", "holds", "own_book", "own_rows", "pairs", "kind", "own_pairs", "row", "number", "own_row", "of", "need_store", "users", "are_nested", "never_worse", "many_stores"] : List Str) ++ (["KIND", "plain", "classes", "orders", "chosen", "choice", "play", "own_classes", "own_orders", "rule", "arriving", "counts", "events", "is_formed", "own_counts", "own_events"] : List Str) ++ (["WORDS", "named", "taken", "sent", "parcels", "price", "rack", "asked", "is_carried", "least_number", "busy", "limit", "set_limit", "tickets", "promise_of", "is_kept"] : List Str) ++ (["short", "run", "arrive", "promise", "send", "next_day", "recount", "move", "back", "undo", "redo", "history", "twin", "now", "most_open", "working"] : List Str) ++ (["past", "ahead", "say", "answered", "log", "house", "said"] : List Str)
  mt := [(0, 39, 7), (0, 66, 8), (0, 67, 9), (0, 68, 10), (1, 39, 7), (2, 39, 7), (3, 39, 7)]
  pr := []
  cn := [(0, 48, .str "sender"), (1, 48, .str "order"), (2, 48, .str "most"), (3, 48, .str "fewest")]
  cc := [(1, 48, .str "order"), (2, 48, .str "most"), (3, 48, .str "fewest")]
  ck := [(0, 64, ["order", "most", "fewest"])]
  nf := [(0, 41), (1, 41), (2, 41), (3, 41)]
  ini := [(0, 5), (1, 5), (2, 5), (3, 5)]
  cm := []
  sm := [(0, 65, 6)]
  oeq := [(0, 11), (1, 11), (2, 11), (3, 11)]
  olen := [(1, 12), (2, 12), (3, 12)]
  orep := [(0, 13), (1, 13), (2, 13), (3, 13)]
  obool := []
def hfn : List He5.DefA := [df0.d, df1.d, df2.d, df3.d, df4.d, df5.d, df6.d, df7.d, df8.d, df9.d, df10.d, df11.d, df12.d, df13.d, df14.d, df15.d, df16.d, df17.d, df18.d, df19.d, df20.d, df21.d, df22.d]
def loose : List Str := (["StoreError", "InvalidCount", "TooMany", "InvalidOrder", "InvalidFilling", "InvalidWord", "is_number", "is_rising", "choices", "MOST_SIDE", "MOST_CELLS", "is_filling", "is_full", "check_size", "taken_in_turn", "Sender"] : List Str) ++ (["InOrder", "MostNext", "Fewest", "_law_source", "_law_draw", "_law_of", "_law_mixed", "_law_same", "_law_sender", "_law_made_sender", "_law_drawn_sender"] : List Str)
abbrev Rw : PySem.W.OpenRow := PySem.W.OpenLaw.row PySem.Challenge.rw_splitsent_k42_senders_made
abbrev hk : PySem.W.Hook := hookB 6 (headB T dfs) hfn
def ob (s : PySem.W.SharedT) : He.AlD := obsBG 6 (headB T dfs) hfn (HandSHeadRun.getT s)
theorem ob_eq (s : PySem.W.SharedT) : ob s = hk.obs s.abs := obsBG_eq (HandSHeadRun.getT_eq s)
end Lw
namespace Lw
open PySem PySem.Spec PyProof.Rows L2 Itp
theorem pure_ok : pureB T dfs = true := by decide +kernel
theorem run (w : PySem.World) : HandSHeadRun.RunEq Rw (PySem.W.view Rw.prog [33]) hk ob 20000 loose w := by
  intro os
  kernel_rfl
section
variable {K : PySem.W.Frag} (c : SaysB (headB T dfs) hfn K)
include c
theorem fd0 : ∃ fd dv kw, FunD K df0.d.name df0.d.qual df0.d.params df0.d.body df0.d.scope dv kw ((gbOf T dfs K).fA 0) fd ∧ ∀ ks pl, (0, ks, pl) ∈ T.kb → BndOk K fd df0.ps ks pl := by
  obtain ⟨fd, F⟩ := c.def_ 0 (d := df0.d) rfl
  refine ⟨fd, _, _, F, fun ks pl h => ?_⟩
  obtain ⟨oc, od, dV, kV, doc, pm, an, cdv, ct, osl, rfl, lk, hcd, hD, hK⟩ := F.ex
  rcases hD with ⟨_, rfl⟩ | ⟨z, _⟩
  case inr => exact absurd rfl z
  simp only [T, List.mem_cons, Prod.mk.injEq, List.not_mem_nil, or_false] at h
  simp (config := { decide := true }) only [false_and, or_false, false_or, true_and] at h
  rcases h with ⟨rfl, rfl⟩
  · refine ⟨rfl, rfl, fun us ws hl hw => ?_⟩
    rcases hl with hl | ⟨hl, _⟩
    case inr => cases hl
    match us, ws, hl, hw with
    | [u0, u1, u2], [], _, _ => exact ⟨0, [], [], fun _ h => (nomatch h), by simp [consOk], rfl⟩
theorem fd1 : ∃ fd dv kw, FunD K df1.d.name df1.d.qual df1.d.params df1.d.body df1.d.scope dv kw ((gbOf T dfs K).fA 1) fd ∧ ∀ ks pl, (1, ks, pl) ∈ T.kb → BndOk K fd df1.ps ks pl := by
  obtain ⟨fd, F⟩ := c.def_ 1 (d := df1.d) rfl
  refine ⟨fd, _, _, F, fun ks pl h => ?_⟩
  obtain ⟨oc, od, dV, kV, doc, pm, an, cdv, ct, osl, rfl, lk, hcd, hD, hK⟩ := F.ex
  rcases hD with ⟨_, rfl⟩ | ⟨z, _⟩
  case inr => exact absurd rfl z
  simp only [T, List.mem_cons, Prod.mk.injEq, List.not_mem_nil, or_false] at h
  simp (config := { decide := true }) only [false_and, or_false, false_or, true_and] at h
  rcases h with ⟨rfl, rfl⟩
  · refine ⟨rfl, rfl, fun us ws hl hw => ?_⟩
    rcases hl with hl | ⟨hl, _⟩
    case inr => cases hl
    match us, ws, hl, hw with
    | [u0], [], _, _ => exact ⟨0, [], [], fun _ h => (nomatch h), by simp [consOk], rfl⟩
theorem fd2 : ∃ fd dv kw, FunD K df2.d.name df2.d.qual df2.d.params df2.d.body df2.d.scope dv kw ((gbOf T dfs K).fA 2) fd ∧ ∀ ks pl, (2, ks, pl) ∈ T.kb → BndOk K fd df2.ps ks pl := by
  obtain ⟨fd, F⟩ := c.def_ 2 (d := df2.d) rfl
  refine ⟨fd, _, _, F, fun ks pl h => ?_⟩
  obtain ⟨oc, od, dV, kV, doc, pm, an, cdv, ct, osl, rfl, lk, hcd, hD, hK⟩ := F.ex
  rcases hD with ⟨_, rfl⟩ | ⟨z, _⟩
  case inr => exact absurd rfl z
  simp only [T, List.mem_cons, Prod.mk.injEq, List.not_mem_nil, or_false] at h
  simp (config := { decide := true }) only [false_and, or_false, false_or, true_and] at h
  rcases h with ⟨rfl, rfl⟩
  · refine ⟨rfl, rfl, fun us ws hl hw => ?_⟩
    rcases hl with hl | ⟨hl, _⟩
    case inr => cases hl
    match us, ws, hl, hw with
    | [u0, u1, u2], [], _, _ => exact ⟨0, [], [], fun _ h => (nomatch h), by simp [consOk], rfl⟩
theorem fd3 : ∃ fd dv kw, FunD K df3.d.name df3.d.qual df3.d.params df3.d.body df3.d.scope dv kw ((gbOf T dfs K).fA 3) fd ∧ ∀ ks pl, (3, ks, pl) ∈ T.kb → BndOk K fd df3.ps ks pl := by
  obtain ⟨fd, F⟩ := c.def_ 3 (d := df3.d) rfl
  refine ⟨fd, _, _, F, fun ks pl h => ?_⟩
  obtain ⟨oc, od, dV, kV, doc, pm, an, cdv, ct, osl, rfl, lk, hcd, hD, hK⟩ := F.ex
  rcases hD with ⟨_, rfl⟩ | ⟨z, _⟩
  case inr => exact absurd rfl z
  simp only [T, List.mem_cons, Prod.mk.injEq, List.not_mem_nil, or_false] at h
  simp (config := { decide := true }) only [false_and, or_false, false_or, true_and] at h
  rcases h with ⟨rfl, rfl⟩
  · refine ⟨rfl, rfl, fun us ws hl hw => ?_⟩
    rcases hl with hl | ⟨hl, _⟩
    case inr => cases hl
    match us, ws, hl, hw with
    | [u0, u1], [], _, _ => exact ⟨0, [], [], fun _ h => (nomatch h), by simp [consOk], rfl⟩
theorem fd4 : ∃ fd dv kw, FunD K df4.d.name df4.d.qual df4.d.params df4.d.body df4.d.scope dv kw ((gbOf T dfs K).fA 4) fd ∧ ∀ ks pl, (4, ks, pl) ∈ T.kb → BndOk K fd df4.ps ks pl := by
  obtain ⟨fd, F⟩ := c.def_ 4 (d := df4.d) rfl
  refine ⟨fd, _, _, F, fun ks pl h => ?_⟩
  obtain ⟨oc, od, dV, kV, doc, pm, an, cdv, ct, osl, rfl, lk, hcd, hD, hK⟩ := F.ex
  rcases hD with ⟨_, rfl⟩ | ⟨z, _⟩
  case inr => exact absurd rfl z
  simp only [T, List.mem_cons, Prod.mk.injEq, List.not_mem_nil, or_false] at h
  simp (config := { decide := true }) only [false_and, or_false, false_or, true_and] at h
  rcases h with ⟨rfl, rfl⟩
  · refine ⟨rfl, rfl, fun us ws hl hw => ?_⟩
    rcases hl with hl | ⟨hl, _⟩
    case inr => cases hl
    match us, ws, hl, hw with
    | [u0, u1], [], _, _ => exact ⟨0, [], [], fun _ h => (nomatch h), by simp [consOk], rfl⟩
theorem fd5 : ∃ fd dv kw, FunD K df5.d.name df5.d.qual df5.d.params df5.d.body df5.d.scope dv kw ((gbOf T dfs K).fA 5) fd ∧ ∀ ks pl, (5, ks, pl) ∈ T.kb → BndOk K fd df5.ps ks pl := by
  obtain ⟨fd, F⟩ := c.def_ 5 (d := df5.d) rfl
  refine ⟨fd, _, _, F, fun ks pl h => ?_⟩
  obtain ⟨oc, od, dV, kV, doc, pm, an, cdv, ct, osl, rfl, lk, hcd, hD, hK⟩ := F.ex
  rcases hD with ⟨_, rfl⟩ | ⟨z, _⟩
  case inr => exact absurd rfl z
  simp only [T, List.mem_cons, Prod.mk.injEq, List.not_mem_nil, or_false] at h
  simp (config := { decide := true }) only [false_and, or_false, false_or, true_and] at h
  rcases h with ⟨rfl, rfl⟩
  · refine ⟨rfl, rfl, fun us ws hl hw => ?_⟩
    have hl : 1 ≤ us.length := by
      rcases hl with hl | hl
      · exact Nat.le_of_eq hl.symm
      · exact hl.2.1
    match us, ws, hl, hw with
    | [u0], [], _, _ => exact ⟨0, [], [], fun _ h => (nomatch h), by simp [consOk], rfl⟩
    | u0 :: r :: rs, [], _, _ => exact ⟨0, [], [], fun _ h => (nomatch h), by simp [consOk], rfl⟩
theorem fd6 : ∃ fd dv kw, FunD K df6.d.name df6.d.qual df6.d.params df6.d.body df6.d.scope dv kw ((gbOf T dfs K).fA 6) fd ∧ ∀ ks pl, (6, ks, pl) ∈ T.kb → BndOk K fd df6.ps ks pl := by
  obtain ⟨fd, F⟩ := c.def_ 6 (d := df6.d) rfl
  refine ⟨fd, _, _, F, fun ks pl h => ?_⟩
  obtain ⟨oc, od, dV, kV, doc, pm, an, cdv, ct, osl, rfl, lk, hcd, hD, hK⟩ := F.ex
  rcases hD with ⟨_, rfl⟩ | ⟨z, _⟩
  case inr => exact absurd rfl z
  simp only [T, List.mem_cons, Prod.mk.injEq, List.not_mem_nil, or_false] at h
  simp (config := { decide := true }) only [false_and, or_false, false_or, true_and] at h
  rcases h with ⟨rfl, rfl⟩
  · refine ⟨rfl, rfl, fun us ws hl hw => ?_⟩
    have hl : 1 ≤ us.length := by
      rcases hl with hl | hl
      · exact Nat.le_of_eq hl.symm
      · exact hl.2.1
    match us, ws, hl, hw with
    | [u0], [], _, _ => exact ⟨0, [], [], fun _ h => (nomatch h), by simp [consOk], rfl⟩
    | u0 :: r :: rs, [], _, _ => exact ⟨0, [], [], fun _ h => (nomatch h), by simp [consOk], rfl⟩
theorem fd7 : ∃ fd dv kw, FunD K df7.d.name df7.d.qual df7.d.params df7.d.body df7.d.scope dv kw ((gbOf T dfs K).fA 7) fd ∧ ∀ ks pl, (7, ks, pl) ∈ T.kb → BndOk K fd df7.ps ks pl := by
  obtain ⟨fd, F⟩ := c.def_ 7 (d := df7.d) rfl
  refine ⟨fd, _, _, F, fun ks pl h => ?_⟩
  obtain ⟨oc, od, dV, kV, doc, pm, an, cdv, ct, osl, rfl, lk, hcd, hD, hK⟩ := F.ex
  rcases hD with ⟨_, rfl⟩ | ⟨z, _⟩
  case inr => exact absurd rfl z
  simp only [T, List.mem_cons, Prod.mk.injEq, List.not_mem_nil, or_false] at h
  simp (config := { decide := true }) only [false_and, or_false, false_or, true_and] at h
  rcases h with ⟨rfl, rfl⟩
  · refine ⟨rfl, rfl, fun us ws hl hw => ?_⟩
    rcases hl with hl | ⟨hl, _⟩
    case inr => cases hl
    match us, ws, hl, hw with
    | [u0], [], _, _ => exact ⟨0, [], [], fun _ h => (nomatch h), by simp [consOk], rfl⟩
theorem fd8 : ∃ fd dv kw, FunD K df8.d.name df8.d.qual df8.d.params df8.d.body df8.d.scope dv kw ((gbOf T dfs K).fA 8) fd ∧ ∀ ks pl, (8, ks, pl) ∈ T.kb → BndOk K fd df8.ps ks pl := by
  obtain ⟨fd, F⟩ := c.def_ 8 (d := df8.d) rfl
  refine ⟨fd, _, _, F, fun ks pl h => ?_⟩
  obtain ⟨oc, od, dV, kV, doc, pm, an, cdv, ct, osl, rfl, lk, hcd, hD, hK⟩ := F.ex
  rcases hD with ⟨_, rfl⟩ | ⟨z, _⟩
  case inr => exact absurd rfl z
  simp only [T, List.mem_cons, Prod.mk.injEq, List.not_mem_nil, or_false] at h
  simp (config := { decide := true }) only [false_and, or_false, false_or, true_and] at h
  rcases h with ⟨rfl, rfl⟩
  · refine ⟨rfl, rfl, fun us ws hl hw => ?_⟩
    rcases hl with hl | ⟨hl, _⟩
    case inr => cases hl
    match us, ws, hl, hw with
    | [u0, u1, u2], [], _, _ => exact ⟨0, [], [], fun _ h => (nomatch h), by simp [consOk], rfl⟩
theorem fd9 : ∃ fd dv kw, FunD K df9.d.name df9.d.qual df9.d.params df9.d.body df9.d.scope dv kw ((gbOf T dfs K).fA 9) fd ∧ ∀ ks pl, (9, ks, pl) ∈ T.kb → BndOk K fd df9.ps ks pl := by
  obtain ⟨fd, F⟩ := c.def_ 9 (d := df9.d) rfl
  refine ⟨fd, _, _, F, fun ks pl h => ?_⟩
  obtain ⟨oc, od, dV, kV, doc, pm, an, cdv, ct, osl, rfl, lk, hcd, hD, hK⟩ := F.ex
  rcases hD with ⟨_, rfl⟩ | ⟨z, _⟩
  case inr => exact absurd rfl z
  simp only [T, List.mem_cons, Prod.mk.injEq, List.not_mem_nil, or_false] at h
  simp (config := { decide := true }) only [false_and, or_false, false_or, true_and] at h
  rcases h with ⟨rfl, rfl⟩
  · refine ⟨rfl, rfl, fun us ws hl hw => ?_⟩
    rcases hl with hl | ⟨hl, _⟩
    case inr => cases hl
    match us, ws, hl, hw with
    | [u0, u1, u2], [], _, _ => exact ⟨0, [], [], fun _ h => (nomatch h), by simp [consOk], rfl⟩
theorem fd10 : ∃ fd dv kw, FunD K df10.d.name df10.d.qual df10.d.params df10.d.body df10.d.scope dv kw ((gbOf T dfs K).fA 10) fd ∧ ∀ ks pl, (10, ks, pl) ∈ T.kb → BndOk K fd df10.ps ks pl := by
  obtain ⟨fd, F⟩ := c.def_ 10 (d := df10.d) rfl
  refine ⟨fd, _, _, F, fun ks pl h => ?_⟩
  obtain ⟨oc, od, dV, kV, doc, pm, an, cdv, ct, osl, rfl, lk, hcd, hD, hK⟩ := F.ex
  rcases hD with ⟨_, rfl⟩ | ⟨z, _⟩
  case inr => exact absurd rfl z
  simp only [T, List.mem_cons, Prod.mk.injEq, List.not_mem_nil, or_false] at h
  simp (config := { decide := true }) only [false_and, or_false, false_or, true_and] at h
  rcases h with ⟨rfl, rfl⟩
  · refine ⟨rfl, rfl, fun us ws hl hw => ?_⟩
    rcases hl with hl | ⟨hl, _⟩
    case inr => cases hl
    match us, ws, hl, hw with
    | [u0, u1, u2], [], _, _ => exact ⟨0, [], [], fun _ h => (nomatch h), by simp [consOk], rfl⟩
theorem fd11 : ∃ fd dv kw, FunD K df11.d.name df11.d.qual df11.d.params df11.d.body df11.d.scope dv kw ((gbOf T dfs K).fA 11) fd ∧ ∀ ks pl, (11, ks, pl) ∈ T.kb → BndOk K fd df11.ps ks pl := by
  obtain ⟨fd, F⟩ := c.def_ 11 (d := df11.d) rfl
  refine ⟨fd, _, _, F, fun ks pl h => ?_⟩
  obtain ⟨oc, od, dV, kV, doc, pm, an, cdv, ct, osl, rfl, lk, hcd, hD, hK⟩ := F.ex
  rcases hD with ⟨_, rfl⟩ | ⟨z, _⟩
  case inr => exact absurd rfl z
  simp only [T, List.mem_cons, Prod.mk.injEq, List.not_mem_nil, or_false] at h
  simp (config := { decide := true }) only [false_and, or_false, false_or, true_and] at h
  rcases h with ⟨rfl, rfl⟩
  · refine ⟨rfl, rfl, fun us ws hl hw => ?_⟩
    rcases hl with hl | ⟨hl, _⟩
    case inr => cases hl
    match us, ws, hl, hw with
    | [u0, u1], [], _, _ => exact ⟨0, [], [], fun _ h => (nomatch h), by simp [consOk], rfl⟩
theorem fd12 : ∃ fd dv kw, FunD K df12.d.name df12.d.qual df12.d.params df12.d.body df12.d.scope dv kw ((gbOf T dfs K).fA 12) fd ∧ ∀ ks pl, (12, ks, pl) ∈ T.kb → BndOk K fd df12.ps ks pl := by
  obtain ⟨fd, F⟩ := c.def_ 12 (d := df12.d) rfl
  refine ⟨fd, _, _, F, fun ks pl h => ?_⟩
  obtain ⟨oc, od, dV, kV, doc, pm, an, cdv, ct, osl, rfl, lk, hcd, hD, hK⟩ := F.ex
  rcases hD with ⟨_, rfl⟩ | ⟨z, _⟩
  case inr => exact absurd rfl z
  simp only [T, List.mem_cons, Prod.mk.injEq, List.not_mem_nil, or_false] at h
  simp (config := { decide := true }) only [false_and, or_false, false_or, true_and] at h
  rcases h with ⟨rfl, rfl⟩
  · refine ⟨rfl, rfl, fun us ws hl hw => ?_⟩
    rcases hl with hl | ⟨hl, _⟩
    case inr => cases hl
    match us, ws, hl, hw with
    | [u0], [], _, _ => exact ⟨0, [], [], fun _ h => (nomatch h), by simp [consOk], rfl⟩
theorem fd13 : ∃ fd dv kw, FunD K df13.d.name df13.d.qual df13.d.params df13.d.body df13.d.scope dv kw ((gbOf T dfs K).fA 13) fd ∧ ∀ ks pl, (13, ks, pl) ∈ T.kb → BndOk K fd df13.ps ks pl := by
  obtain ⟨fd, F⟩ := c.def_ 13 (d := df13.d) rfl
  refine ⟨fd, _, _, F, fun ks pl h => ?_⟩
  obtain ⟨oc, od, dV, kV, doc, pm, an, cdv, ct, osl, rfl, lk, hcd, hD, hK⟩ := F.ex
  rcases hD with ⟨_, rfl⟩ | ⟨z, _⟩
  case inr => exact absurd rfl z
  simp only [T, List.mem_cons, Prod.mk.injEq, List.not_mem_nil, or_false] at h
  simp (config := { decide := true }) only [false_and, or_false, false_or, true_and] at h
  rcases h with ⟨rfl, rfl⟩
  · refine ⟨rfl, rfl, fun us ws hl hw => ?_⟩
    rcases hl with hl | ⟨hl, _⟩
    case inr => cases hl
    match us, ws, hl, hw with
    | [u0], [], _, _ => exact ⟨0, [], [], fun _ h => (nomatch h), by simp [consOk], rfl⟩
theorem fd14 : ∃ fd dv kw, FunD K df14.d.name df14.d.qual df14.d.params df14.d.body df14.d.scope dv kw ((gbOf T dfs K).fA 14) fd ∧ ∀ ks pl, (14, ks, pl) ∈ T.kb → BndOk K fd df14.ps ks pl := by
  obtain ⟨fd, F⟩ := c.def_ 14 (d := df14.d) rfl
  refine ⟨fd, _, _, F, fun ks pl h => ?_⟩
  obtain ⟨oc, od, dV, kV, doc, pm, an, cdv, ct, osl, rfl, lk, hcd, hD, hK⟩ := F.ex
  rcases hD with ⟨_, rfl⟩ | ⟨z, _⟩
  case inr => exact absurd rfl z
  simp only [T, List.mem_cons, Prod.mk.injEq, List.not_mem_nil, or_false] at h
  simp (config := { decide := true }) only [false_and, or_false, false_or, true_and] at h
  rcases h with ⟨rfl, rfl⟩
  · refine ⟨rfl, rfl, fun us ws hl hw => ?_⟩
    rcases hl with hl | ⟨hl, _⟩
    case inr => cases hl
    match us, ws, hl, hw with
    | [u0], [], _, _ => exact ⟨0, [], [], fun _ h => (nomatch h), by simp [consOk], rfl⟩
theorem fd15 : ∃ fd dv kw, FunD K df15.d.name df15.d.qual df15.d.params df15.d.body df15.d.scope dv kw ((gbOf T dfs K).fA 15) fd ∧ ∀ ks pl, (15, ks, pl) ∈ T.kb → BndOk K fd df15.ps ks pl := by
  obtain ⟨fd, F⟩ := c.def_ 15 (d := df15.d) rfl
  refine ⟨fd, _, _, F, fun ks pl h => ?_⟩
  obtain ⟨oc, od, dV, kV, doc, pm, an, cdv, ct, osl, rfl, lk, hcd, hD, hK⟩ := F.ex
  rcases hD with ⟨_, rfl⟩ | ⟨z, _⟩
  case inr => exact absurd rfl z
  simp only [T, List.mem_cons, Prod.mk.injEq, List.not_mem_nil, or_false] at h
  simp (config := { decide := true }) only [false_and, or_false, false_or, true_and] at h
  rcases h with ⟨rfl, rfl⟩
  · refine ⟨rfl, rfl, fun us ws hl hw => ?_⟩
    rcases hl with hl | ⟨hl, _⟩
    case inr => cases hl
    match us, ws, hl, hw with
    | [u0, u1], [], _, _ => exact ⟨0, [], [], fun _ h => (nomatch h), by simp [consOk], rfl⟩
theorem fd16 : ∃ fd dv kw, FunD K df16.d.name df16.d.qual df16.d.params df16.d.body df16.d.scope dv kw ((gbOf T dfs K).fA 16) fd ∧ ∀ ks pl, (16, ks, pl) ∈ T.kb → BndOk K fd df16.ps ks pl := by
  obtain ⟨fd, F⟩ := c.def_ 16 (d := df16.d) rfl
  refine ⟨fd, _, _, F, fun ks pl h => ?_⟩
  obtain ⟨oc, od, dV, kV, doc, pm, an, cdv, ct, osl, rfl, lk, hcd, hD, hK⟩ := F.ex
  rcases hD with ⟨_, rfl⟩ | ⟨z, _⟩
  case inr => exact absurd rfl z
  simp only [T, List.mem_cons, Prod.mk.injEq, List.not_mem_nil, or_false] at h
  simp (config := { decide := true }) only [false_and, or_false, false_or, true_and] at h
  rcases h with ⟨rfl, rfl⟩
  · refine ⟨rfl, rfl, fun us ws hl hw => ?_⟩
    rcases hl with hl | ⟨hl, _⟩
    case inr => cases hl
    match us, ws, hl, hw with
    | [u0, u1], [], _, _ => exact ⟨0, [], [], fun _ h => (nomatch h), by simp [consOk], rfl⟩
theorem fd17 : ∃ fd dv kw, FunD K df17.d.name df17.d.qual df17.d.params df17.d.body df17.d.scope dv kw ((gbOf T dfs K).fA 17) fd ∧ ∀ ks pl, (17, ks, pl) ∈ T.kb → BndOk K fd df17.ps ks pl := by
  obtain ⟨fd, F⟩ := c.def_ 17 (d := df17.d) rfl
  refine ⟨fd, _, _, F, fun ks pl h => ?_⟩
  obtain ⟨oc, od, dV, kV, doc, pm, an, cdv, ct, osl, rfl, lk, hcd, hD, hK⟩ := F.ex
  rcases hD with ⟨_, rfl⟩ | ⟨z, _⟩
  case inr => exact absurd rfl z
  simp only [T, List.mem_cons, Prod.mk.injEq, List.not_mem_nil, or_false] at h
  simp (config := { decide := true }) only [false_and, or_false, false_or, true_and] at h
  rcases h with ⟨rfl, rfl⟩
  · refine ⟨rfl, rfl, fun us ws hl hw => ?_⟩
    rcases hl with hl | ⟨hl, _⟩
    case inr => cases hl
    match us, ws, hl, hw with
    | [u0, u1], [], _, _ => exact ⟨0, [], [], fun _ h => (nomatch h), by simp [consOk], rfl⟩
theorem fd18 : ∃ fd dv kw, FunD K df18.d.name df18.d.qual df18.d.params df18.d.body df18.d.scope dv kw ((gbOf T dfs K).fA 18) fd ∧ ∀ ks pl, (18, ks, pl) ∈ T.kb → BndOk K fd df18.ps ks pl := by
  obtain ⟨fd, F⟩ := c.def_ 18 (d := df18.d) rfl
  refine ⟨fd, _, _, F, fun ks pl h => ?_⟩
  obtain ⟨oc, od, dV, kV, doc, pm, an, cdv, ct, osl, rfl, lk, hcd, hD, hK⟩ := F.ex
  rcases hD with ⟨_, rfl⟩ | ⟨z, _⟩
  case inr => exact absurd rfl z
  simp only [T, List.mem_cons, Prod.mk.injEq, List.not_mem_nil, or_false] at h
  simp (config := { decide := true }) only [false_and, or_false, false_or, true_and] at h
  rcases h with ⟨rfl, rfl⟩
  · refine ⟨rfl, rfl, fun us ws hl hw => ?_⟩
    rcases hl with hl | ⟨hl, _⟩
    case inr => cases hl
    match us, ws, hl, hw with
    | [u0, u1], [], _, _ => exact ⟨0, [], [], fun _ h => (nomatch h), by simp [consOk], rfl⟩
theorem fd19 : ∃ fd dv kw, FunD K df19.d.name df19.d.qual df19.d.params df19.d.body df19.d.scope dv kw ((gbOf T dfs K).fA 19) fd ∧ ∀ ks pl, (19, ks, pl) ∈ T.kb → BndOk K fd df19.ps ks pl := by
  obtain ⟨fd, F⟩ := c.def_ 19 (d := df19.d) rfl
  refine ⟨fd, _, _, F, fun ks pl h => ?_⟩
  obtain ⟨oc, od, dV, kV, doc, pm, an, cdv, ct, osl, rfl, lk, hcd, hD, hK⟩ := F.ex
  rcases hD with ⟨_, rfl⟩ | ⟨z, _⟩
  case inr => exact absurd rfl z
  simp only [T, List.mem_cons, Prod.mk.injEq, List.not_mem_nil, or_false] at h
  simp (config := { decide := true }) only [false_and, or_false, false_or, true_and] at h
  rcases h with ⟨rfl, rfl⟩
  · refine ⟨rfl, rfl, fun us ws hl hw => ?_⟩
    rcases hl with hl | ⟨hl, _⟩
    case inr => cases hl
    match us, ws, hl, hw with
    | [u0, u1], [], _, _ => exact ⟨0, [], [], fun _ h => (nomatch h), by simp [consOk], rfl⟩
theorem fd20 : ∃ fd dv kw, FunD K df20.d.name df20.d.qual df20.d.params df20.d.body df20.d.scope dv kw ((gbOf T dfs K).fA 20) fd ∧ ∀ ks pl, (20, ks, pl) ∈ T.kb → BndOk K fd df20.ps ks pl := by
  obtain ⟨fd, F⟩ := c.def_ 20 (d := df20.d) rfl
  refine ⟨fd, _, _, F, fun ks pl h => ?_⟩
  obtain ⟨oc, od, dV, kV, doc, pm, an, cdv, ct, osl, rfl, lk, hcd, hD, hK⟩ := F.ex
  rcases hD with ⟨_, rfl⟩ | ⟨z, _⟩
  case inr => exact absurd rfl z
  simp only [T, List.mem_cons, Prod.mk.injEq, List.not_mem_nil, or_false] at h
  simp (config := { decide := true }) only [false_and, or_false, false_or, true_and] at h
  rcases h with ⟨rfl, rfl⟩
  · refine ⟨rfl, rfl, fun us ws hl hw => ?_⟩
    rcases hl with hl | ⟨hl, _⟩
    case inr => cases hl
    match us, ws, hl, hw with
    | [u0, u1], [], _, _ => exact ⟨0, [], [], fun _ h => (nomatch h), by simp [consOk], rfl⟩
theorem fd21 : ∃ fd dv kw, FunD K df21.d.name df21.d.qual df21.d.params df21.d.body df21.d.scope dv kw ((gbOf T dfs K).fA 21) fd ∧ ∀ ks pl, (21, ks, pl) ∈ T.kb → BndOk K fd df21.ps ks pl := by
  obtain ⟨fd, F⟩ := c.def_ 21 (d := df21.d) rfl
  refine ⟨fd, _, _, F, fun ks pl h => ?_⟩
  obtain ⟨oc, od, dV, kV, doc, pm, an, cdv, ct, osl, rfl, lk, hcd, hD, hK⟩ := F.ex
  rcases hD with ⟨_, rfl⟩ | ⟨z, _⟩
  case inr => exact absurd rfl z
  simp only [T, List.mem_cons, Prod.mk.injEq, List.not_mem_nil, or_false] at h
  simp (config := { decide := true }) only [false_and, or_false, false_or, true_and] at h
  rcases h with ⟨rfl, rfl⟩
  · refine ⟨rfl, rfl, fun us ws hl hw => ?_⟩
    rcases hl with hl | ⟨hl, _⟩
    case inr => cases hl
    match us, ws, hl, hw with
    | [u0, u1], [], _, _ => exact ⟨0, [], [], fun _ h => (nomatch h), by simp [consOk], rfl⟩
theorem fd22 : ∃ fd dv kw, FunD K df22.d.name df22.d.qual df22.d.params df22.d.body df22.d.scope dv kw ((gbOf T dfs K).fA 22) fd ∧ ∀ ks pl, (22, ks, pl) ∈ T.kb → BndOk K fd df22.ps ks pl := by
  obtain ⟨fd, F⟩ := c.def_ 22 (d := df22.d) rfl
  refine ⟨fd, _, _, F, fun ks pl h => ?_⟩
  obtain ⟨oc, od, dV, kV, doc, pm, an, cdv, ct, osl, rfl, lk, hcd, hD, hK⟩ := F.ex
  rcases hD with ⟨_, rfl⟩ | ⟨z, _⟩
  case inr => exact absurd rfl z
  simp only [T, List.mem_cons, Prod.mk.injEq, List.not_mem_nil, or_false] at h
  simp at h
end
theorem hd {K : PySem.W.Frag} {h : Heap} {mg : Str → Option Value} (X : K.In h) (G : h.Ns mainGlobals mg) (c : SaysB (headB T dfs) hfn K) : Hd T (gbOf T dfs K) K mg dfs := by
  refine hd_of X G pure_ok c.bool fun f df hf => ?_
  match f, hf with
  | 0, hf => cases hf; exact fd0 c
  | 1, hf => cases hf; exact fd1 c
  | 2, hf => cases hf; exact fd2 c
  | 3, hf => cases hf; exact fd3 c
  | 4, hf => cases hf; exact fd4 c
  | 5, hf => cases hf; exact fd5 c
  | 6, hf => cases hf; exact fd6 c
  | 7, hf => cases hf; exact fd7 c
  | 8, hf => cases hf; exact fd8 c
  | 9, hf => cases hf; exact fd9 c
  | 10, hf => cases hf; exact fd10 c
  | 11, hf => cases hf; exact fd11 c
  | 12, hf => cases hf; exact fd12 c
  | 13, hf => cases hf; exact fd13 c
  | 14, hf => cases hf; exact fd14 c
  | 15, hf => cases hf; exact fd15 c
  | 16, hf => cases hf; exact fd16 c
  | 17, hf => cases hf; exact fd17 c
  | 18, hf => cases hf; exact fd18 c
  | 19, hf => cases hf; exact fd19 c
  | 20, hf => cases hf; exact fd20 c
  | 21, hf => cases hf; exact fd21 c
  | 22, hf => cases hf; exact fd22 c
/-- the law, once its run by the evaluator is known -/
theorem walk (hl : ∀ ns : List Int, ns.length ≤ 63 → ∃ S, callN prog 40 22 [.scr ns] [] = .ok (.bl true) S) : PySem.Challenge.rw_splitsent_k42_senders_made.Holds := by
  w_on; o_law
  refine HandSHeadRun.head_any (r := PySem.W.OpenLaw.row PySem.Challenge.rw_splitsent_k42_senders_made) (q := PySem.W.view (PySem.W.OpenLaw.row PySem.Challenge.rw_splitsent_k42_senders_made).prog [33]) (H := hk) (ob := ob) (M := 20000) (loose := loose) (d := HandSHeadRun.topDef (PySem.W.OpenLaw.row PySem.Challenge.rw_splitsent_k42_senders_made).prog 33) (kwd := []) ob_eq
    (by kernel_rfl) (fun s => by kernel_rfl) run (by kernel_rfl) (by kernel_rfl) (by kernel_rfl) (by rfl) (by first | assumption | decide +kernel) (by decide +kernel) ⟨rfl, rfl, rfl, rfl, rfl, by decide +kernel⟩ ?hw ?hc
  case hw => w_witness2
  case hc =>
    refine L2.walk_ofE (l := PySem.Challenge.rw_splitsent_k42_senders_made) (n := 63) (k := 2 * 40) (x := "_law_script") (CX := L2.CX0) rfl (by decide) (by kernel_rfl) ⟨rfl, by decide, by decide⟩ ?F (fun _ _ _ _ z => z)
    intro w mg fa h Y G hmg0
    obtain ⟨K, KX, c⟩ := Y
    have hmg : mg ("law" : PySem.Str) = some (.ref fa) := by
      have e : (HandSHeadRun.topDef (PySem.W.OpenLaw.row PySem.Challenge.rw_splitsent_k42_senders_made).prog 33).name = ("law" : PySem.Str) := by kernel_rfl
      rw [← e]
      exact hmg0
    have HD := hd KX G c
    obtain ⟨fd, F⟩ := c.def_ 22 (d := df22.d) rfl
    have ea : fa = (gbOf T dfs K).fA 22 := by
      have e := hmg.symm.trans (HD.mf 22 _ rfl (by decide))
      cases e
      rfl
    have b := FunD.bindsA (ps := ["_law_script"]) F fun _ _ _ _ _ _ us hl => match us, hl with | [_], _ => rfl
    refine ⟨K, fd, spI K (gbOf T dfs K) (callN prog 40) 22 1, KX, fun s v => b s [v] rfl, fun H a ns hn _ hS => law_sp hl H a ns hn hS, fun base KB GB => ?_⟩
    obtain ⟨fd', _, _, F', G1, _⟩ := fns_ok (P := PySem.Challenge.rw_splitsent_k42_senders_made.prog) (w := w) (base := base) HD 40 22 df22 rfl
    have ef : fd' = fd := FunD.uniq F F'
    subst ef
    rw [ea]
    exact G1.ok fun vs H Q E h => spI_len h
end Lw
namespace Lw
open PySem Itp L2
local macro_rules | `(tactic| walk_at "w1") => `(tactic| first
  | ((with_reducible show WP (ev _ _ _ _) _); first
    | ((with_reducible show WP (ev _ (E.var _) _ _) _); refine wp_var rfl ?_)
    | with_reducible refine wp_int ?_
    | with_reducible refine wp_str ?_
    | with_reducible refine wp_bl ?_
    | with_reducible refine wp_non ?_
    | with_reducible refine wp_idx ?_
    | with_reducible refine wp_bin ?_
    | with_reducible refine wp_call ?_
    | with_reducible refine wp_lst ?_
    | with_reducible refine wp_cmp ?_
    | with_reducible refine wp_tup ?_
    | with_reducible refine wp_slc ?_
    | with_reducible refine wp_bf ?_
    | with_reducible refine wp_not ?_
    | with_reducible refine wp_isi ?_
    | with_reducible refine wp_bop ?_
    | with_reducible refine wp_bm ?_
    | with_reducible refine wp_gint ?_
    | with_reducible refine wp_gstr ?_
    | with_reducible refine wp_neg ?_
    | with_reducible refine wp_chn ?_
    | with_reducible refine wp_ite ?_
    | with_reducible refine wp_new ?_
    | with_reducible refine wp_isT ?_
    | with_reducible refine wp_frz ?_
    | with_reducible refine wp_trk ?_
    | with_reducible refine wp_mth ?_
    | with_reducible refine wp_smt ?_
    | with_reducible refine wp_cmt ?_
    | with_reducible refine wp_mk ?_
    | with_reducible refine wp_att ?_
    | with_reducible refine wp_cst ?_
    | with_reducible refine wp_own ?_
    | with_reducible refine wp_fst ?_)
  | ((with_reducible show WP (evs _ _ _ _) _); first
    | with_reducible refine wps_nil ?_
    | ((with_reducible show WP (evs _ (E.star _ :: _) _ _) _); refine wps_star ?_)
    | ((with_reducible show WP (evs _ (_ :: _) _ _) _); refine wps_cons rfl ?_))
  | ((with_reducible show WF (exs _ _ _ _) _ _ _); first
    | with_reducible refine wfs_cons ?_
    | with_reducible refine wfs_nil ?_)
  | ((with_reducible show WF (ex _ _ _ _) _ _ _); first
    | with_reducible refine wf_set ?_
    | with_reducible refine wf_asg ?_
    | with_reducible refine wf_par ?_
    | with_reducible refine wf_idx ?_
    | with_reducible refine wf_expr ?_
    | with_reducible refine wf_ret ?_
    | with_reducible refine wf_if ?_
    | with_reducible refine wf_retN ?_
    | with_reducible refine wf_cont ?_
    | with_reducible refine wf_pass ?_
    | with_reducible refine wf_flds ?_)
  | ((with_reducible show WP (evB _ _ _ _ _) _); first
    | with_reducible refine wpB_a ?_
    | with_reducible refine wpB_o ?_
    | with_reducible refine wpB_one ?_)
  | ((with_reducible show WP (evO _ _ _ _) _); first
    | with_reducible refine wpO_none ?_
    | with_reducible refine wpO_some ?_)
  | ((with_reducible show WP (trkD (D.lst _) _) _); refine wp_trkL ?_)
  | ((with_reducible show WP (attD _ _ _ _ _) _); first
    | refine wp_fld rfl rfl rfl ?_
    | refine wp_prp rfl rfl ?_
    | refine wp_acon rfl rfl rfl ?_)
  | ((with_reducible show WP (ownD _ OK.eq _ _ _ _) _); refine wp_oeq ?_)
  | ((with_reducible show WP (ownD _ OK.ne _ _ _ _) _); refine wp_one ?_)
  | ((with_reducible show Exists _); first
    | ((with_reducible show ∃ z, truD _ _ = some z ∧ _); refine ⟨_, rfl, ?_⟩)
    | ((with_reducible show ∃ z, cmpD _ _ _ _ = some z ∧ _); refine ⟨_, rfl, ?_⟩)
    | ((with_reducible show ∃ z, idxD _ _ _ = some z ∧ _); refine ⟨_, rfl, ?_⟩)
    | ((with_reducible show ∃ z, slcD _ _ _ _ = some z ∧ _); refine ⟨_, rfl, ?_⟩)
    | ((with_reducible show ∃ z, isD _ _ _ = some z ∧ _); refine ⟨_, rfl, ?_⟩)
    | ((with_reducible show ∃ z, isAny _ _ _ = some z ∧ _); refine ⟨_, rfl, ?_⟩)
    | ((with_reducible show ∃ z, bfD _ _ _ = some z ∧ _); refine ⟨_, rfl, ?_⟩)
    | ((with_reducible show ∃ z, bindP _ _ _ = some z ∧ _); refine ⟨_, rfl, ?_⟩)
    | ((with_reducible show ∃ z, setTg _ _ _ = some z ∧ _); refine ⟨_, rfl, ?_⟩)
    | ((with_reducible show ∃ z, binD BO.add (D.int _) (D.int _) _ = some z ∧ _); refine ⟨_, rfl, ?_⟩)
    | ((with_reducible show ∃ z, binD BO.sub _ _ _ = some z ∧ _); refine ⟨_, rfl, ?_⟩)
    | ((with_reducible show ∃ z, binD BO.mul (D.int _) (D.int _) _ = some z ∧ _); refine ⟨_, rfl, ?_⟩)
    | ((with_reducible show ∃ z, binD BO.mod _ _ _ = some z ∧ _); refine ⟨_, rfl, ?_⟩)
    | ((with_reducible show ∃ z, binD BO.fdiv _ _ _ = some z ∧ _); refine ⟨_, rfl, ?_⟩)
    | ((with_reducible show ∃ z, binD BO.pow _ _ _ = some z ∧ _); refine ⟨_, rfl, ?_⟩)
    | ((with_reducible show ∃ p, insOf _ _ = some p ∧ _); refine ⟨_, rfl, rfl, _, rfl, ?_⟩)
    | ((with_reducible show ∃ z, D.int _ = D.int z ∧ _); refine ⟨_, rfl, ?_⟩)
    | ((with_reducible show ∃ z, D.loc _ = D.loc z ∧ _); refine ⟨_, rfl, ?_⟩)
    | ((with_reducible show ∃ z, D.lst _ = D.lst z ∧ _); refine ⟨_, rfl, ?_⟩))
  | ((with_reducible show And _ _); first
    | ((with_reducible show List.length _ ≤ 16777216 ∧ _); refine ⟨Nat.le_of_ble_eq_true rfl, ?_⟩)
    | ((with_reducible refine two_t ?hk ?_); (case hk => exact rfl))
    | ((with_reducible refine two_f ?hk ?_); (case hk => exact rfl)))
  | ((with_reducible show WP (mkD _ _ _ _ _ _ _ _) _); (with_reducible refine of_mkD (k := ?kk) ?hk ?_); (case hk => with_reducible assumption))
  | ((with_reducible show WP (eqO _ _ _ _ _ _ _) _); (with_reducible refine of_eqO (c := ?kk) ?hk ?_); (case hk => with_reducible assumption))
  | ((with_reducible refine of_cal (c := ?kk) ?hk ?_); (case hk => with_reducible assumption)))
local macro_rules | `(tactic| walk_at "w") => `(tactic| repeat walk_at "w1")
abbrev sw (c : Nat) (row : List Int) : D := .tup [.str (wordS c), .lst (row.map .int)]
theorem p0 : prog[0]? = some ⟨3, 3, isNumIR⟩ := rfl
theorem p1 : prog[1]? = some ⟨1, 3, isRisIR⟩ := rfl
theorem p5 : prog[5]? = some ⟨2, 4, sndInitIR 0 [0, 1, 2, 3]⟩ := rfl
theorem p6 : prog[6]? = some ⟨2, 2, namedIR 5⟩ := rfl
theorem p7 : prog[7]? = some ⟨1, 1, sndRowT [(0, .fld), (1, .fld), (2, .fld), (3, .fld)]⟩ := rfl
theorem p11 : prog[11]? = some ⟨2, 2, sndEqIR [0, 1, 2, 3] [(0, .con (.str "sender")), (1, .con (.str "order")), (2, .con (.str "most")), (3, .con (.str "fewest"))] [(0, .fld), (1, .fld), (2, .fld), (3, .fld)]⟩ := rfl
theorem p12 : prog[12]? = some ⟨1, 1, sndLenIR [(1, .fld), (2, .fld), (3, .fld)]⟩ := rfl
theorem p13 : prog[13]? = some ⟨1, 1, sndReprIR [(0, .con (.str "sender")), (1, .con (.str "order")), (2, .con (.str "most")), (3, .con (.str "fewest"))]⟩ := rfl
theorem p14 : prog[14]? = some ⟨1, 1, srcIR⟩ := rfl
theorem p15 : prog[15]? = some ⟨2, 5, drawIR⟩ := rfl
theorem p16 : prog[16]? = some ⟨2, 2, ofIR 15⟩ := rfl
theorem p17 : prog[17]? = some ⟨2, 4, mixIR 15⟩ := rfl
theorem p18 : prog[18]? = some ⟨2, 4, sameIR 18⟩ := rfl
theorem p19 : prog[19]? = some ⟨2, 3, lwSndIR 6⟩ := rfl
theorem p20 : prog[20]? = some ⟨2, 3, lwMkSndIR 5⟩ := rfl
theorem p21 : prog[21]? = some ⟨2, 2, drSndIR 16 17⟩ := rfl
def lawB : List Itp.St := match ir22 with
  | [_, .for _ _ _ b, _, _] => b
  | _ => []
section
variable {x0 x1 x2 x3 x4 x5 x6 x7 x8 x9 x10 x11 : Option D} {cal : Nat → List D → Sto → Out D} {s : Sr} {R : Sto} {N C : Gm → Sto → Prop} {Rr : D → Sto → Prop} {row row' : List Int} {c c' : Nat} {S : Sto}
theorem k0 (h : c = 1 ∨ c = 2 ∨ c = 3) : c = 0 ∨ c = 1 ∨ c = 2 ∨ c = 3 := .inr h
theorem kc (h : c = 1 ∨ c = 2 ∨ c = 3) : ([0, 1, 2, 3] : List Nat).contains c = true := by rcases h with rfl | rfl | rfl <;> rfl
theorem mkSnd (h : c = 1 ∨ c = 2 ∨ c = 3) (ok : okSn row) (lw : Low S) : callN prog 39 19 [.str (wordS c), .lst (row.map .int)] S = .ok (sndO c row) S :=
  lwSnd (n := 38) p19 (snd_named (n := 35) p6 p5 p0 h (kc h) ok lw) ok
theorem mkSnd2 (h : c = 1 ∨ c = 2 ∨ c = 3) (ok : okSn row) (lw : Low S) : callN prog 39 20 [.str (wordS c), .lst (row.map .int)] S = .ok (sndO c row) S :=
  lwMkSnd (n := 36) p20 p5 p0 h (kc h) ok lw
theorem partA (hcal : callN prog 39 = cal) (hs : s.ok) (lw : Low (s.so :: R)) (q : ∀ (c : Nat) (row : List Int) (c' : Nat) (row' : List Int) s', Sr.ok s' → (c = 1 ∨ c = 2 ∨ c = 3) → (c' = 1 ∨ c' = 2 ∨ c' = 3) → okSn row → okSn row' → Low (s'.so :: R) → N [x0, some (.loc 0), x2, some (.int row.length), some (sw c row), some (sw c' row'), some (sndO c row), some (sndO c' row'), x8, x9, x10, x11] (s'.so :: R)) :
    WF (exs cal (lawB.take 3) [x0, some (.loc 0), x2, x3, x4, x5, x6, x7, x8, x9, x10, x11] (s.so :: R)) N Rr C := by
  dsimp only [lawB, ir22, List.take]
  walk_at "w"
  refine draw_loc p15 hs (by decide) (by decide) fun k s1 k1 k2 hs1 => ?_
  walk_at "w"
  refine drSnd_spec (n := 36) p21 p16 p17 p15 hs1 (low_src lw) (by omega) (by omega) fun c row s2 hc ok hl hs2 => ?_
  rw [← hl]
  walk_at "w"
  refine draw_loc p15 hs2 (by decide) (by decide) fun k' s3 k1' k2' hs3 => ?_
  walk_at "w"
  refine drSnd_spec (n := 36) p21 p16 p17 p15 hs3 (low_src lw) (by omega) (by omega) fun c' row' s4 hc' ok' hl' hs4 => ?_
  have lw4 : Low (s4.so :: R) := low_src lw
  walk_at "w"
  refine wp_eq (mkSnd hc ok lw4) ?_
  walk_at "w"
  refine wp_eq (mkSnd2 hc' ok' lw4) ?_
  walk_at "w"
  refine ⟨rfl, ?_⟩
  walk_at "w"
  exact q c row c' row' s4 hs4 hc hc' ok ok' lw4
theorem partB (hcal : callN prog 39 = cal) (hc : c = 1 ∨ c = 2 ∨ c = 3) (ok : okSn row) (lw : Low (s.so :: R)) (q : ∀ R' y8 y9, Low (s.so :: R') → N [x0, some (.loc 0), x2, some (.int row.length), some (sw c row), some (sw c' row'), some (sndO c row), some (sndO c' row'), y8, y9, x10, x11] (s.so :: R')) :
    WF (exs cal ((lawB.drop 3).take 1) [x0, some (.loc 0), x2, some (.int row.length), some (sw c row), some (sw c' row'), some (sndO c row), some (sndO c' row'), x8, x9, x10, x11] (s.so :: R)) N Rr C := by
  dsimp only [lawB, ir22, List.take, List.drop]
  have mo := ok.mo
  have dpr : (J.l (row.map .i)).dp ≤ 1 := dp_l (n := 0) fun j hj => by obtain ⟨x, _, rfl⟩ := List.mem_map.mp hj; exact Nat.le_refl _
  have szr : (J.l (row.map .i)).sz = true := sz_l (by rw [List.length_map]; omega) fun j hj => by obtain ⟨x, _, rfl⟩ := List.mem_map.mp hj; rfl
  refine wfs_cons (wf_for (wps_cons rfl (wp_int (wps_nil ⟨_, itD_rng (by decide) (by decide), ?_⟩))))
  refine wf_loop (fun j γ S => ∃ R' y8 y9, γ = [x0, some (.loc 0), x2, some (.int row.length), some (sw c row), some (sw c' row'), some (sndO c row), some (sndO c' row'), y8, y9, x10, x11] ∧ S = s.so :: R' ∧ Low (s.so :: R')) (i := 0) ⟨R, _, _, rfl, rfl, lw⟩ ?_ ?_
  rotate_left
  · rintro γ S ⟨R', y8, y9, rfl, rfl, lw⟩
    exact wfs_nil (q R' y8 y9 lw)
  rintro j x γ S hx ⟨R', y8, y9, rfl, rfl, lw⟩
  refine ⟨_, rfl, ?_⟩
  rcases hc with rfl | rfl | rfl
  · walk_at "w"
    refine wp_eq (snd_rowT p7 rfl) ?_
    walk_at "w"
    refine wp_len rfl rfl (of_cal hcal (wp_eq (snd_len p12 rfl) ⟨_, rfl, by omega, by omega, ?_⟩))
    walk_at "w"
    refine wp_repr rfl rfl (of_cal hcal (wp_eq (snd_repr p13 (by decide) rfl) ⟨_, rfl, ?_⟩))
    walk_at "w"
    refine ⟨_, bd_adds (by decide +kernel), ?_⟩
    walk_at "w"
    refine ⟨_, bd_adds (by decide +kernel), ?_⟩
    walk_at "w"
    generalize hS : s.so :: R' = S0
    have gl : (S0 ++ [SO.lst (row.map .int)])[S0.length]? = some (.lst (row.map .int)) := get_last
    have r1 : Res (S0 ++ [.lst (row.map .int)]) (.l [.l (row.map .i), .s (wordS 1), .i row.length, .s (sndText 1)]) (.lst [.loc S0.length, .str (wordS 1), .int row.length, .str (sndText 1)]) := ⟨_, rfl, _, _, rfl, ⟨_, lst_loc gl, ress_ints⟩, _, _, rfl, rfl, _, _, rfl, rfl, _, _, rfl, rfl, rfl⟩
    have r2 : Res (S0 ++ [.lst (row.map .int)]) (.l [.l (row.map .i), .s (wordS 1), .i row.length, .s (sndText 1)]) (.lst [.lst (row.map .int), .str (wordS 1), .int row.length, .str (sndText 1)]) := ⟨_, rfl, _, _, rfl, ⟨_, rfl, ress_ints⟩, _, _, rfl, rfl, _, _, rfl, rfl, _, _, rfl, rfl, rfl⟩
    have e := same_spec p18 38 _ _ _ _ (Nat.le_trans (dp_l (n := 1) (all_cons dpr (all_cons (Nat.zero_le _) (all_cons (Nat.zero_le _) (all_cons (Nat.zero_le _) all_nil))))) (by decide)) (sz_l (by simp) (all_cons szr (all_cons rfl (all_cons rfl (all_cons rfl all_nil))))) r1 r2
    refine wp_eq e ?_
    walk_at "w"
    refine ⟨bm_ok gl, ?_⟩
    walk_at "w"
    refine wp_eq (bm_app gl (by rw [List.length_map]; omega)) ?_
    rw [set_last]
    subst hS
    walk_at "w"
    refine ⟨R' ++ [_], _, _, rfl, rfl, ?_⟩
    exact lw.app (lows_app (low_ints _ row) rfl)
  · walk_at "w"
    refine wp_eq (snd_rowT p7 rfl) ?_
    walk_at "w"
    refine wp_len rfl rfl (of_cal hcal (wp_eq (snd_len p12 rfl) ⟨_, rfl, by omega, by omega, ?_⟩))
    walk_at "w"
    refine wp_repr rfl rfl (of_cal hcal (wp_eq (snd_repr p13 (by decide) rfl) ⟨_, rfl, ?_⟩))
    walk_at "w"
    refine ⟨_, bd_adds (by decide +kernel), ?_⟩
    walk_at "w"
    refine ⟨_, bd_adds (by decide +kernel), ?_⟩
    walk_at "w"
    generalize hS : s.so :: R' = S0
    have gl : (S0 ++ [SO.lst (row.map .int)])[S0.length]? = some (.lst (row.map .int)) := get_last
    have r1 : Res (S0 ++ [.lst (row.map .int)]) (.l [.l (row.map .i), .s (wordS 2), .i row.length, .s (sndText 2)]) (.lst [.loc S0.length, .str (wordS 2), .int row.length, .str (sndText 2)]) := ⟨_, rfl, _, _, rfl, ⟨_, lst_loc gl, ress_ints⟩, _, _, rfl, rfl, _, _, rfl, rfl, _, _, rfl, rfl, rfl⟩
    have r2 : Res (S0 ++ [.lst (row.map .int)]) (.l [.l (row.map .i), .s (wordS 2), .i row.length, .s (sndText 2)]) (.lst [.lst (row.map .int), .str (wordS 2), .int row.length, .str (sndText 2)]) := ⟨_, rfl, _, _, rfl, ⟨_, rfl, ress_ints⟩, _, _, rfl, rfl, _, _, rfl, rfl, _, _, rfl, rfl, rfl⟩
    have e := same_spec p18 38 _ _ _ _ (Nat.le_trans (dp_l (n := 1) (all_cons dpr (all_cons (Nat.zero_le _) (all_cons (Nat.zero_le _) (all_cons (Nat.zero_le _) all_nil))))) (by decide)) (sz_l (by simp) (all_cons szr (all_cons rfl (all_cons rfl (all_cons rfl all_nil))))) r1 r2
    refine wp_eq e ?_
    walk_at "w"
    refine ⟨bm_ok gl, ?_⟩
    walk_at "w"
    refine wp_eq (bm_app gl (by rw [List.length_map]; omega)) ?_
    rw [set_last]
    subst hS
    walk_at "w"
    refine ⟨R' ++ [_], _, _, rfl, rfl, ?_⟩
    exact lw.app (lows_app (low_ints _ row) rfl)
  · walk_at "w"
    refine wp_eq (snd_rowT p7 rfl) ?_
    walk_at "w"
    refine wp_len rfl rfl (of_cal hcal (wp_eq (snd_len p12 rfl) ⟨_, rfl, by omega, by omega, ?_⟩))
    walk_at "w"
    refine wp_repr rfl rfl (of_cal hcal (wp_eq (snd_repr p13 (by decide) rfl) ⟨_, rfl, ?_⟩))
    walk_at "w"
    refine ⟨_, bd_adds (by decide +kernel), ?_⟩
    walk_at "w"
    refine ⟨_, bd_adds (by decide +kernel), ?_⟩
    walk_at "w"
    generalize hS : s.so :: R' = S0
    have gl : (S0 ++ [SO.lst (row.map .int)])[S0.length]? = some (.lst (row.map .int)) := get_last
    have r1 : Res (S0 ++ [.lst (row.map .int)]) (.l [.l (row.map .i), .s (wordS 3), .i row.length, .s (sndText 3)]) (.lst [.loc S0.length, .str (wordS 3), .int row.length, .str (sndText 3)]) := ⟨_, rfl, _, _, rfl, ⟨_, lst_loc gl, ress_ints⟩, _, _, rfl, rfl, _, _, rfl, rfl, _, _, rfl, rfl, rfl⟩
    have r2 : Res (S0 ++ [.lst (row.map .int)]) (.l [.l (row.map .i), .s (wordS 3), .i row.length, .s (sndText 3)]) (.lst [.lst (row.map .int), .str (wordS 3), .int row.length, .str (sndText 3)]) := ⟨_, rfl, _, _, rfl, ⟨_, rfl, ress_ints⟩, _, _, rfl, rfl, _, _, rfl, rfl, _, _, rfl, rfl, rfl⟩
    have e := same_spec p18 38 _ _ _ _ (Nat.le_trans (dp_l (n := 1) (all_cons dpr (all_cons (Nat.zero_le _) (all_cons (Nat.zero_le _) (all_cons (Nat.zero_le _) all_nil))))) (by decide)) (sz_l (by simp) (all_cons szr (all_cons rfl (all_cons rfl (all_cons rfl all_nil))))) r1 r2
    refine wp_eq e ?_
    walk_at "w"
    refine ⟨bm_ok gl, ?_⟩
    walk_at "w"
    refine wp_eq (bm_app gl (by rw [List.length_map]; omega)) ?_
    rw [set_last]
    subst hS
    walk_at "w"
    refine ⟨R' ++ [_], _, _, rfl, rfl, ?_⟩
    exact lw.app (lows_app (low_ints _ row) rfl)
theorem eqD_sw (h : c = 1 ∨ c = 2 ∨ c = 3) (h' : c' = 1 ∨ c' = 2 ∨ c' = 3) : eqD (sw c row) (sw c' row') S = some (decide (c = c' ∧ row = row')) := by
  have dp : ∀ c (l : List Int), (J.t [.s (wordS c), .l (l.map .i)]).dp ≤ 20 := fun c l => Nat.le_trans (dp_t (n := 1) (all_cons (Nat.zero_le _) (all_cons (dp_l (n := 0) fun j hj => by obtain ⟨x, _, rfl⟩ := List.mem_map.mp hj; exact Nat.le_refl _) all_nil))) (by decide)
  have bf : ∀ c (l : List Int), (J.t [.s (wordS c), .l (l.map .i)]).bf = true := fun c l => by
    show (true && (J.bfs (l.map .i) && true)) = true
    rw [bfs_map fun _ _ => rfl]; rfl
  have rs : ∀ c (l : List Int), Res S (.t [.s (wordS c), .l (l.map .i)]) (sw c l) := fun c l => ⟨_, rfl, _, _, rfl, rfl, _, _, rfl, ⟨_, rfl, ress_ints⟩, rfl⟩
  rw [eqD_res (rs c row) (rs c' row') (dp _ _) (dp _ _)]
  congr 1
  apply bool_iff
  rw [jeq_iff (bf _ _) (bf _ _), decide_eq_true_eq]
  have wi : wordS c = wordS c' ↔ c = c' := by
    have := word_inj (k0 h) (k0 h')
    rwa [decide_eq_decide] at this
  constructor
  · intro z
    have z := J.t.inj z
    have h1 := (List.cons.inj z).1
    have h2 := (List.cons.inj (List.cons.inj z).2).1
    exact ⟨wi.mp (J.s.inj h1), map_inj (fun _ _ e => J.i.inj e) (J.l.inj h2)⟩
  · rintro ⟨rfl, rfl⟩; rfl
end
end Lw
namespace Lw
open PySem Itp L2
local macro_rules | `(tactic| walk_at "w1") => `(tactic| first
  | ((with_reducible show WP (ev _ _ _ _) _); first
    | ((with_reducible show WP (ev _ (E.var _) _ _) _); refine wp_var rfl ?_)
    | with_reducible refine wp_int ?_
    | with_reducible refine wp_str ?_
    | with_reducible refine wp_bl ?_
    | with_reducible refine wp_non ?_
    | with_reducible refine wp_idx ?_
    | with_reducible refine wp_bin ?_
    | with_reducible refine wp_call ?_
    | with_reducible refine wp_lst ?_
    | with_reducible refine wp_cmp ?_
    | with_reducible refine wp_tup ?_
    | with_reducible refine wp_slc ?_
    | with_reducible refine wp_bf ?_
    | with_reducible refine wp_not ?_
    | with_reducible refine wp_isi ?_
    | with_reducible refine wp_bop ?_
    | with_reducible refine wp_bm ?_
    | with_reducible refine wp_gint ?_
    | with_reducible refine wp_gstr ?_
    | with_reducible refine wp_neg ?_
    | with_reducible refine wp_chn ?_
    | with_reducible refine wp_ite ?_
    | with_reducible refine wp_new ?_
    | with_reducible refine wp_isT ?_
    | with_reducible refine wp_frz ?_
    | with_reducible refine wp_trk ?_
    | with_reducible refine wp_mth ?_
    | with_reducible refine wp_smt ?_
    | with_reducible refine wp_cmt ?_
    | with_reducible refine wp_mk ?_
    | with_reducible refine wp_att ?_
    | with_reducible refine wp_cst ?_
    | with_reducible refine wp_own ?_
    | with_reducible refine wp_fst ?_)
  | ((with_reducible show WP (evs _ _ _ _) _); first
    | with_reducible refine wps_nil ?_
    | ((with_reducible show WP (evs _ (E.star _ :: _) _ _) _); refine wps_star ?_)
    | ((with_reducible show WP (evs _ (_ :: _) _ _) _); refine wps_cons rfl ?_))
  | ((with_reducible show WF (exs _ _ _ _) _ _ _); first
    | with_reducible refine wfs_cons ?_
    | with_reducible refine wfs_nil ?_)
  | ((with_reducible show WF (ex _ _ _ _) _ _ _); first
    | with_reducible refine wf_set ?_
    | with_reducible refine wf_asg ?_
    | with_reducible refine wf_par ?_
    | with_reducible refine wf_idx ?_
    | with_reducible refine wf_expr ?_
    | with_reducible refine wf_ret ?_
    | with_reducible refine wf_if ?_
    | with_reducible refine wf_retN ?_
    | with_reducible refine wf_cont ?_
    | with_reducible refine wf_pass ?_
    | with_reducible refine wf_flds ?_)
  | ((with_reducible show WP (evB _ _ _ _ _) _); first
    | with_reducible refine wpB_a ?_
    | with_reducible refine wpB_o ?_
    | with_reducible refine wpB_one ?_)
  | ((with_reducible show WP (evO _ _ _ _) _); first
    | with_reducible refine wpO_none ?_
    | with_reducible refine wpO_some ?_)
  | ((with_reducible show WP (trkD (D.lst _) _) _); refine wp_trkL ?_)
  | ((with_reducible show WP (attD _ _ _ _ _) _); first
    | refine wp_fld rfl rfl rfl ?_
    | refine wp_prp rfl rfl ?_
    | refine wp_acon rfl rfl rfl ?_)
  | ((with_reducible show WP (ownD _ OK.eq _ _ _ _) _); refine wp_oeq ?_)
  | ((with_reducible show WP (ownD _ OK.ne _ _ _ _) _); refine wp_one ?_)
  | ((with_reducible show Exists _); first
    | ((with_reducible show ∃ z, truD _ _ = some z ∧ _); refine ⟨_, rfl, ?_⟩)
    | ((with_reducible show ∃ z, cmpD _ _ _ _ = some z ∧ _); refine ⟨_, rfl, ?_⟩)
    | ((with_reducible show ∃ z, idxD _ _ _ = some z ∧ _); refine ⟨_, rfl, ?_⟩)
    | ((with_reducible show ∃ z, slcD _ _ _ _ = some z ∧ _); refine ⟨_, rfl, ?_⟩)
    | ((with_reducible show ∃ z, isD _ _ _ = some z ∧ _); refine ⟨_, rfl, ?_⟩)
    | ((with_reducible show ∃ z, isAny _ _ _ = some z ∧ _); refine ⟨_, rfl, ?_⟩)
    | ((with_reducible show ∃ z, bfD _ _ _ = some z ∧ _); refine ⟨_, rfl, ?_⟩)
    | ((with_reducible show ∃ z, bindP _ _ _ = some z ∧ _); refine ⟨_, rfl, ?_⟩)
    | ((with_reducible show ∃ z, setTg _ _ _ = some z ∧ _); refine ⟨_, rfl, ?_⟩)
    | ((with_reducible show ∃ z, binD BO.add (D.int _) (D.int _) _ = some z ∧ _); refine ⟨_, rfl, ?_⟩)
    | ((with_reducible show ∃ z, binD BO.sub _ _ _ = some z ∧ _); refine ⟨_, rfl, ?_⟩)
    | ((with_reducible show ∃ z, binD BO.mul (D.int _) (D.int _) _ = some z ∧ _); refine ⟨_, rfl, ?_⟩)
    | ((with_reducible show ∃ z, binD BO.mod _ _ _ = some z ∧ _); refine ⟨_, rfl, ?_⟩)
    | ((with_reducible show ∃ z, binD BO.fdiv _ _ _ = some z ∧ _); refine ⟨_, rfl, ?_⟩)
    | ((with_reducible show ∃ z, binD BO.pow _ _ _ = some z ∧ _); refine ⟨_, rfl, ?_⟩)
    | ((with_reducible show ∃ p, insOf _ _ = some p ∧ _); refine ⟨_, rfl, rfl, _, rfl, ?_⟩)
    | ((with_reducible show ∃ z, D.int _ = D.int z ∧ _); refine ⟨_, rfl, ?_⟩)
    | ((with_reducible show ∃ z, D.loc _ = D.loc z ∧ _); refine ⟨_, rfl, ?_⟩)
    | ((with_reducible show ∃ z, D.lst _ = D.lst z ∧ _); refine ⟨_, rfl, ?_⟩))
  | ((with_reducible show And _ _); first
    | ((with_reducible show List.length _ ≤ 16777216 ∧ _); refine ⟨Nat.le_of_ble_eq_true rfl, ?_⟩)
    | ((with_reducible refine two_t ?hk ?_); (case hk => exact rfl))
    | ((with_reducible refine two_f ?hk ?_); (case hk => exact rfl)))
  | ((with_reducible show WP (mkD _ _ _ _ _ _ _ _) _); (with_reducible refine of_mkD (k := ?kk) ?hk ?_); (case hk => with_reducible assumption))
  | ((with_reducible show WP (eqO _ _ _ _ _ _ _) _); (with_reducible refine of_eqO (c := ?kk) ?hk ?_); (case hk => with_reducible assumption))
  | ((with_reducible refine of_cal (c := ?kk) ?hk ?_); (case hk => with_reducible assumption)))
local macro_rules | `(tactic| walk_at "w") => `(tactic| repeat walk_at "w1")
theorem eq_bl' {S : Sto} {a b : Bool} : cmpD .ne (.bl a) (.bl b) S = some (a != b) := by
  cases a <;> cases b <;> rfl
theorem wf_fcons {body : Gm → Sto → Fl} {tg : Tg} {x : D} {xs : List D} {γ γ' : Gm} {S : Sto} {N C : Gm → Sto → Prop} {R : D → Sto → Prop} (h1 : setTg tg x γ = some γ') (h2 : WF (body γ' S) (fun γ S => WF (loopF body tg xs γ S) N R C) R (fun γ S => WF (loopF body tg xs γ S) N R C)) : WF (loopF body tg (x :: xs) γ S) N R C := by
  unfold loopF
  rw [h1]
  dsimp only
  cases ho : body γ' S with
  | nx γ2 S2 => rw [ho] at h2; exact h2
  | ct γ2 S2 => rw [ho] at h2; exact h2
  | ret d S' => rw [ho] at h2; exact h2
  | exc => rw [ho] at h2; exact h2.elim
  | bad => rw [ho] at h2; exact h2.elim
theorem wf_fnil {body : Gm → Sto → Fl} {tg : Tg} {γ : Gm} {S : Sto} {N C : Gm → Sto → Prop} {R : D → Sto → Prop} (h : N γ S) : WF (loopF body tg [] γ S) N R C := h
section
variable {x0 x1 x2 x3 x4 x5 x6 x7 x8 x9 x10 x11 : Option D} {cal : Nat → List D → Sto → Out D} {s : Sr} {R : Sto} {N C : Gm → Sto → Prop} {Rr : D → Sto → Prop} {row row' : List Int} {c c' : Nat} {S : Sto}
theorem partC (hcal : callN prog 39 = cal) (hc : c = 1 ∨ c = 2 ∨ c = 3) (hc' : c' = 1 ∨ c' = 2 ∨ c' = 3) (ok : okSn row) (lw : Low (s.so :: R)) (q : N [x0, some (.loc 0), x2, some (.int row.length), some (sw c row), some (sw c' row'), some (sndO c row), some (sndO c' row'), x8, x9, x10, x11] (s.so :: R)) :
    WF (exs cal ((lawB.drop 4).take 2) [x0, some (.loc 0), x2, some (.int row.length), some (sw c row), some (sw c' row'), some (sndO c row), some (sndO c' row'), x8, x9, x10, x11] (s.so :: R)) N Rr C := by
  dsimp only [lawB, ir22, List.take, List.drop]
  have l2 : ∀ {c}, (c = 1 ∨ c = 2 ∨ c = 3) → ([(0, .con (.str "sender")), (1, .con (.str "order")), (2, .con (.str "most")), (3, .con (.str "fewest"))] : List (Nat × AK)).lookup c = some (.con (.str (wordS c))) := fun h => by rcases h with rfl | rfl | rfl <;> rfl
  have l4 : ∀ {c}, (c = 1 ∨ c = 2 ∨ c = 3) → ([(0, .fld), (1, .fld), (2, .fld), (3, .fld)] : List (Nat × AK)).lookup c = some .fld := fun h => by rcases h with rfl | rfl | rfl <;> rfl
  have l6 : ∀ {c c' : Nat}, (c = 1 ∨ c = 2 ∨ c = 3) → ([(0, 1), (0, 2), (0, 3)] : List (Nat × Nat)).contains (c, c') = false := fun {c c'} h => by rcases h with rfl | rfl | rfl <;> simp
  have l7 : ([(1, 11), (2, 11), (3, 11)] : List (Nat × Nat)).lookup c = some 11 := by rcases hc with rfl | rfl | rfl <;> rfl
  walk_at "w"
  refine own_sender (n := 38) p11 (k0 hc) (k0 hc') (kc hc') (l2 hc) (l2 hc') (l4 hc) (l4 hc') (l6 hc) l7 ?_
  walk_at "w"
  refine ⟨_, eqD_sw hc hc', _, eq_bl', _, rfl, two_f ?_ ?_⟩
  · cases decide (c = c' ∧ row = row') <;> rfl
  walk_at "w"
  refine own_sender (n := 38) p11 (k0 hc) (k0 hc') (kc hc') (l2 hc) (l2 hc') (l4 hc) (l4 hc') (l6 hc) l7 ?_
  walk_at "w"
  refine ⟨_, congrArg (Option.map (!·)) (eqD_sw hc hc'), _, eq_bl', _, rfl, two_f ?_ ?_⟩
  · cases decide (c = c' ∧ row = row') <;> rfl
  walk_at "w"
  refine own_senderNo (k := .lst) p11 rfl rfl (fun _ z => by cases z) l7 ⟨_, rfl, two_f rfl ?_⟩
  walk_at "w"
  refine own_senderNo (k := .non) p11 rfl rfl (fun _ z => by cases z) l7 ⟨_, rfl, two_f rfl ?_⟩
  walk_at "w"
  refine wp_eq (mkSnd2 hc ok lw) ?_
  walk_at "w"
  refine own_sender (n := 38) p11 (k0 hc) (k0 hc) (kc hc) (l2 hc) (l2 hc) (l4 hc) (l4 hc) (l6 hc) l7 ⟨_, rfl, two_f (by simp) ?_⟩
  refine wpB_one (wp_not (wp_isi (wp_var rfl ⟨_, isD_of (k := .obj c) rfl, ⟨_, rfl, _, rfl, two_f ?_ ?_⟩⟩)))
  · show (!([0, 1, 2, 3] : List Nat).contains c) = false
    rw [kc hc]; rfl
  walk_at "w"
  exact q
theorem eqD_bls {a b : List Bool} (h : a = b) : eqD (.lst (a.map .bl)) (.lst (b.map .bl)) S = some true := by
  subst h
  have e : ∀ l : List Bool, mapO (toP S 19) (l.map .bl) = some (l.map PyData.bool) := by
    intro l
    induction l with
    | nil => rfl
    | cons x l ih => unfold mapO; rw [List.map_cons]; simp only [ih]; rfl
  have e2 : toP S 20 (.lst (a.map .bl)) = some (.list (a.map PyData.bool)) := by
    show (mapO (toP S 19) _).map PyData.list = _
    rw [e]; rfl
  unfold eqD
  rw [e2]
  show some (PyData.eqv (.list (a.map PyData.bool)) (.list (a.map PyData.bool))) = some true
  congr 1
  show PyData.eqvAll _ _ = true
  induction a with
  | nil => simp [PyData.eqvAll]
  | cons x a ih =>
    simp only [List.map_cons, PyData.eqvAll, Bool.and_eq_true]
    refine ⟨by cases x <;> simp [PyData.eqv], ih ?_⟩
    show (mapO (toP S 19) _).map PyData.list = _
    rw [e]; rfl
theorem partD (hcal : callN prog 39 = cal) (hc : c = 1 ∨ c = 2 ∨ c = 3) (q : N [x0, some (.loc 0), x2, some (.int row.length), some (sw c row), some (sw c' row'), some (sndO c row), some (sndO c' row'), x8, x9, x10, x11] (s.so :: R)) :
    WF (exs cal (lawB.drop 6) [x0, some (.loc 0), x2, some (.int row.length), some (sw c row), some (sw c' row'), some (sndO c row), some (sndO c' row'), x8, x9, x10, x11] (s.so :: R)) N Rr C := by
  dsimp only [lawB, ir22, List.take, List.drop]
  have fin : ∀ (γ : Gm) {A B : List Itp.St} {N2 C2 : Gm → Sto → Prop} {R2 : D → Sto → Prop} (bs cs : List Bool), bs = cs → WF (exs cal B γ (s.so :: R)) N2 R2 C2 → ∃ z, cmpD .ne (.lst (bs.map .bl)) (.lst (cs.map .bl)) (s.so :: R) = some z ∧ ∃ k, truD (.bl z) (s.so :: R) = some k ∧ (k = true → WF (exs cal A γ (s.so :: R)) N2 R2 C2) ∧ (k = false → WF (exs cal B γ (s.so :: R)) N2 R2 C2) := fun γ _ _ _ _ _ bs cs h w => ⟨_, congrArg (Option.map (!·)) (eqD_bls h), _, rfl, two_f rfl w⟩
  have lp : ∀ (Q : D → Sto → Prop), Q (.lst ([decide (wordS c = ("order" : Str)), decide (wordS c = ("most" : Str)), decide (wordS c = ("fewest" : Str))].map .bl)) (s.so :: R) → WP (ev cal (.lc (.name 11) [11] .val [.lst false [.str "order", .str "most", .str "fewest"]] [] (.cmp .eq (.idx (.var 4) (.int 0)) (.var 11))) [x0, some (.loc 0), x2, some (.int row.length), some (sw c row), some (sw c' row'), some (sndO c row), some (sndO c' row'), x8, x9, x10, x11] (s.so :: R)) Q := fun Q hq => by
    refine wp_lc (wps_cons rfl (wp_lst (wps_cons rfl (wp_str (wps_cons rfl (wp_str (wps_cons rfl (wp_str (wps_nil ⟨Nat.le_of_ble_eq_true rfl, wps_nil ⟨_, rfl, Nat.le_of_ble_eq_true rfl, ?_⟩⟩)))))))))
    refine wp_loop1 rfl (wp_turn0 (wp_cmp (wp_idx (wp_var rfl (wp_int ⟨_, rfl, wp_var rfl ⟨_, rfl, ?_⟩⟩)))))
    refine wp_loop1 rfl (wp_turn0 (wp_cmp (wp_idx (wp_var rfl (wp_int ⟨_, rfl, wp_var rfl ⟨_, rfl, ?_⟩⟩)))))
    refine wp_loop1 rfl (wp_turn0 (wp_cmp (wp_idx (wp_var rfl (wp_int ⟨_, rfl, wp_var rfl ⟨_, rfl, ?_⟩⟩)))))
    refine wp_loop0 ?_
    rw [eqv_str, eqv_str, eqv_str]
    exact hq
  rcases hc with rfl | rfl | rfl
  · refine wfs_cons (wf_if (wp_cmp (wp_lst (wps_cons rfl (wp_isi (wp_var rfl ⟨_, rfl, wps_cons rfl (wp_isi (wp_var rfl ⟨_, rfl, wps_cons rfl (wp_isi (wp_var rfl ⟨_, rfl, wps_nil ⟨Nat.le_of_ble_eq_true rfl, lp _ ?_⟩⟩))⟩))⟩))))))
    exact fin _ [true, false, false] _ (by decide +kernel) (wfs_nil (wfs_nil q))
  · refine wfs_cons (wf_if (wp_cmp (wp_lst (wps_cons rfl (wp_isi (wp_var rfl ⟨_, rfl, wps_cons rfl (wp_isi (wp_var rfl ⟨_, rfl, wps_cons rfl (wp_isi (wp_var rfl ⟨_, rfl, wps_nil ⟨Nat.le_of_ble_eq_true rfl, lp _ ?_⟩⟩))⟩))⟩))))))
    exact fin _ [false, true, false] _ (by decide +kernel) (wfs_nil (wfs_nil q))
  · refine wfs_cons (wf_if (wp_cmp (wp_lst (wps_cons rfl (wp_isi (wp_var rfl ⟨_, rfl, wps_cons rfl (wp_isi (wp_var rfl ⟨_, rfl, wps_cons rfl (wp_isi (wp_var rfl ⟨_, rfl, wps_nil ⟨Nat.le_of_ble_eq_true rfl, lp _ ?_⟩⟩))⟩))⟩))))))
    exact fin _ [false, false, true] _ (by decide +kernel) (wfs_nil (wfs_nil q))
end
end Lw
namespace Lw
open PySem Itp L2
local macro_rules | `(tactic| walk_at "w1") => `(tactic| first
  | ((with_reducible show WP (ev _ _ _ _) _); first
    | ((with_reducible show WP (ev _ (E.var _) _ _) _); refine wp_var rfl ?_)
    | with_reducible refine wp_int ?_
    | with_reducible refine wp_str ?_
    | with_reducible refine wp_bl ?_
    | with_reducible refine wp_non ?_
    | with_reducible refine wp_idx ?_
    | with_reducible refine wp_bin ?_
    | with_reducible refine wp_call ?_
    | with_reducible refine wp_lst ?_
    | with_reducible refine wp_cmp ?_
    | with_reducible refine wp_tup ?_
    | with_reducible refine wp_slc ?_
    | with_reducible refine wp_bf ?_
    | with_reducible refine wp_not ?_
    | with_reducible refine wp_isi ?_
    | with_reducible refine wp_bop ?_
    | with_reducible refine wp_bm ?_
    | with_reducible refine wp_gint ?_
    | with_reducible refine wp_gstr ?_
    | with_reducible refine wp_neg ?_
    | with_reducible refine wp_chn ?_
    | with_reducible refine wp_ite ?_
    | with_reducible refine wp_new ?_
    | with_reducible refine wp_isT ?_
    | with_reducible refine wp_frz ?_
    | with_reducible refine wp_trk ?_
    | with_reducible refine wp_mth ?_
    | with_reducible refine wp_smt ?_
    | with_reducible refine wp_cmt ?_
    | with_reducible refine wp_mk ?_
    | with_reducible refine wp_att ?_
    | with_reducible refine wp_cst ?_
    | with_reducible refine wp_own ?_
    | with_reducible refine wp_fst ?_)
  | ((with_reducible show WP (evs _ _ _ _) _); first
    | with_reducible refine wps_nil ?_
    | ((with_reducible show WP (evs _ (E.star _ :: _) _ _) _); refine wps_star ?_)
    | ((with_reducible show WP (evs _ (_ :: _) _ _) _); refine wps_cons rfl ?_))
  | ((with_reducible show WF (exs _ _ _ _) _ _ _); first
    | with_reducible refine wfs_cons ?_
    | with_reducible refine wfs_nil ?_)
  | ((with_reducible show WF (ex _ _ _ _) _ _ _); first
    | with_reducible refine wf_set ?_
    | with_reducible refine wf_asg ?_
    | with_reducible refine wf_par ?_
    | with_reducible refine wf_idx ?_
    | with_reducible refine wf_expr ?_
    | with_reducible refine wf_ret ?_
    | with_reducible refine wf_if ?_
    | with_reducible refine wf_retN ?_
    | with_reducible refine wf_cont ?_
    | with_reducible refine wf_pass ?_
    | with_reducible refine wf_flds ?_)
  | ((with_reducible show WP (evB _ _ _ _ _) _); first
    | with_reducible refine wpB_a ?_
    | with_reducible refine wpB_o ?_
    | with_reducible refine wpB_one ?_)
  | ((with_reducible show WP (evO _ _ _ _) _); first
    | with_reducible refine wpO_none ?_
    | with_reducible refine wpO_some ?_)
  | ((with_reducible show WP (trkD (D.lst _) _) _); refine wp_trkL ?_)
  | ((with_reducible show WP (attD _ _ _ _ _) _); first
    | refine wp_fld rfl rfl rfl ?_
    | refine wp_prp rfl rfl ?_
    | refine wp_acon rfl rfl rfl ?_)
  | ((with_reducible show WP (ownD _ OK.eq _ _ _ _) _); refine wp_oeq ?_)
  | ((with_reducible show WP (ownD _ OK.ne _ _ _ _) _); refine wp_one ?_)
  | ((with_reducible show Exists _); first
    | ((with_reducible show ∃ z, truD _ _ = some z ∧ _); refine ⟨_, rfl, ?_⟩)
    | ((with_reducible show ∃ z, cmpD _ _ _ _ = some z ∧ _); refine ⟨_, rfl, ?_⟩)
    | ((with_reducible show ∃ z, idxD _ _ _ = some z ∧ _); refine ⟨_, rfl, ?_⟩)
    | ((with_reducible show ∃ z, slcD _ _ _ _ = some z ∧ _); refine ⟨_, rfl, ?_⟩)
    | ((with_reducible show ∃ z, isD _ _ _ = some z ∧ _); refine ⟨_, rfl, ?_⟩)
    | ((with_reducible show ∃ z, isAny _ _ _ = some z ∧ _); refine ⟨_, rfl, ?_⟩)
    | ((with_reducible show ∃ z, bfD _ _ _ = some z ∧ _); refine ⟨_, rfl, ?_⟩)
    | ((with_reducible show ∃ z, bindP _ _ _ = some z ∧ _); refine ⟨_, rfl, ?_⟩)
    | ((with_reducible show ∃ z, setTg _ _ _ = some z ∧ _); refine ⟨_, rfl, ?_⟩)
    | ((with_reducible show ∃ z, binD BO.add (D.int _) (D.int _) _ = some z ∧ _); refine ⟨_, rfl, ?_⟩)
    | ((with_reducible show ∃ z, binD BO.sub _ _ _ = some z ∧ _); refine ⟨_, rfl, ?_⟩)
    | ((with_reducible show ∃ z, binD BO.mul (D.int _) (D.int _) _ = some z ∧ _); refine ⟨_, rfl, ?_⟩)
    | ((with_reducible show ∃ z, binD BO.mod _ _ _ = some z ∧ _); refine ⟨_, rfl, ?_⟩)
    | ((with_reducible show ∃ z, binD BO.fdiv _ _ _ = some z ∧ _); refine ⟨_, rfl, ?_⟩)
    | ((with_reducible show ∃ z, binD BO.pow _ _ _ = some z ∧ _); refine ⟨_, rfl, ?_⟩)
    | ((with_reducible show ∃ p, insOf _ _ = some p ∧ _); refine ⟨_, rfl, rfl, _, rfl, ?_⟩)
    | ((with_reducible show ∃ z, D.int _ = D.int z ∧ _); refine ⟨_, rfl, ?_⟩)
    | ((with_reducible show ∃ z, D.loc _ = D.loc z ∧ _); refine ⟨_, rfl, ?_⟩)
    | ((with_reducible show ∃ z, D.lst _ = D.lst z ∧ _); refine ⟨_, rfl, ?_⟩))
  | ((with_reducible show And _ _); first
    | ((with_reducible show List.length _ ≤ 16777216 ∧ _); refine ⟨Nat.le_of_ble_eq_true rfl, ?_⟩)
    | ((with_reducible refine two_t ?hk ?_); (case hk => exact rfl))
    | ((with_reducible refine two_f ?hk ?_); (case hk => exact rfl)))
  | ((with_reducible show WP (mkD _ _ _ _ _ _ _ _) _); (with_reducible refine of_mkD (k := ?kk) ?hk ?_); (case hk => with_reducible assumption))
  | ((with_reducible show WP (eqO _ _ _ _ _ _ _) _); (with_reducible refine of_eqO (c := ?kk) ?hk ?_); (case hk => with_reducible assumption))
  | ((with_reducible refine of_cal (c := ?kk) ?hk ?_); (case hk => with_reducible assumption)))
local macro_rules | `(tactic| walk_at "w") => `(tactic| repeat walk_at "w1")
abbrev fil : D := .tup [.tup [.int 0], .tup []]
section
variable {n : Nat} {S : Sto}
theorem chk4 : callN prog (n + 2) 4 [.int 2, .int 1] S = .ok .non S := by
  refine eq_of_wp (wp_fn (fn := f4) rfl rfl ?_)
  dsimp only [List.map, Nat.sub, List.replicate, List.append, f4, ir4]
  refine wfs_cons (wf_for (wps_cons rfl (wp_tup (wps_cons rfl (wp_var rfl (wps_cons rfl (wp_var rfl (wps_nil ⟨Nat.le_of_ble_eq_true rfl, wps_nil ⟨_, rfl, ?_⟩⟩))))))))
  refine wf_fcons rfl ?_
  walk_at "w"
  refine wp_eq (is_num_t p0 (by decide) (by decide)) ⟨_, rfl, _, rfl, two_f rfl ?_⟩
  refine wfs_nil (wfs_nil (wf_fcons rfl ?_))
  walk_at "w"
  refine wp_eq (is_num_t p0 (by decide) (by decide)) ⟨_, rfl, _, rfl, two_f rfl ?_⟩
  refine wfs_nil (wfs_nil (wf_fnil ?_))
  refine wfs_cons (wf_if (wp_cmp (wp_bin (wp_var rfl (wp_var rfl ⟨_, bd_mul (by decide +kernel), wp_gint ⟨_, rfl, _, rfl, two_f (by decide) ?_⟩⟩)))))
  exact wfs_nil (wfs_nil ⟨rfl, trim_self _ _⟩)
theorem fil2 : callN prog (n + 3) 2 [fil, .int 2, .int 1] S = .ok (.bl true) S := by
  refine eq_of_wp (wp_fn (fn := f2) rfl rfl ?_)
  dsimp only [List.map, Nat.sub, List.replicate, List.append, f2, ir2]
  refine wfs_cons (wf_if (wp_bop (wpB_o (wp_not (wp_isi (wp_var rfl ⟨_, rfl, _, rfl, _, rfl, two_f rfl ?_⟩))))))
  refine wpB_one (wp_cmp (wp_bf (wps_cons rfl (wp_var rfl (wps_nil ⟨_, rfl, wp_var rfl ⟨_, rfl, _, rfl, two_f ?_ ?_⟩⟩)))))
  · rw [eqv_int]; rfl
  refine wfs_nil (wfs_cons (wf_for (wps_cons rfl (wp_var rfl (wps_nil ⟨_, rfl, ?_⟩)))))
  refine wf_fcons rfl ?_
  refine wfs_cons (wf_if (wp_bop (wpB_o (wp_not (wp_isi (wp_var rfl ⟨_, rfl, _, rfl, _, rfl, two_f rfl ?_⟩))))))
  refine wpB_one (wp_not (wp_bf (wps_cons rfl (wp_lc (wps_cons rfl (wp_var rfl (wps_nil ⟨_, rfl, Nat.le_of_ble_eq_true rfl, ?_⟩)))))))
  refine wp_loop1 rfl (wp_turn0 ?_)
  walk_at "w"
  refine wp_eq (is_num_t p0 (by decide) (by decide)) ?_
  refine wp_loop0 (wps_nil ⟨_, rfl, _, rfl, _, rfl, two_f rfl ?_⟩)
  refine wfs_nil (wfs_cons (wf_if (wp_not (wp_call (wps_cons rfl (wp_var rfl (wps_nil (wps_nil ⟨_, rfl, ?_⟩))))))))
  refine wp_eq (is_ris (r := [0]) p1 rfl (asc_of (List.pairwise_singleton _ _)) (by decide)) ⟨_, rfl, _, rfl, two_f rfl ?_⟩
  refine wfs_nil (wfs_nil (wf_fcons rfl ?_))
  refine wfs_cons (wf_if (wp_bop (wpB_o (wp_not (wp_isi (wp_var rfl ⟨_, rfl, _, rfl, _, rfl, two_f rfl ?_⟩))))))
  refine wpB_one (wp_not (wp_bf (wps_cons rfl (wp_lc (wps_cons rfl (wp_var rfl (wps_nil ⟨_, rfl, Nat.le_of_ble_eq_true rfl, ?_⟩)))))))
  refine wp_loop0 (wps_nil ⟨_, rfl, _, rfl, _, rfl, two_f rfl ?_⟩)
  refine wfs_nil (wfs_cons (wf_if (wp_not (wp_call (wps_cons rfl (wp_var rfl (wps_nil (wps_nil ⟨_, rfl, ?_⟩))))))))
  refine wp_eq (is_ris (r := []) p1 rfl (asc_of List.Pairwise.nil) (by decide)) ⟨_, rfl, _, rfl, two_f rfl ?_⟩
  refine wfs_nil (wfs_nil (wf_fnil ?_))
  exact wfs_cons (wf_ret (wp_bl ⟨rfl, trim_self _ _⟩))
theorem full3 : callN prog (n + 1) 3 [fil, .int 1] S = .ok (.bl true) S := by
  refine eq_of_wp (wp_fn (fn := f3) rfl rfl ?_)
  dsimp only [List.map, Nat.sub, List.replicate, List.append, f3, ir3]
  refine wfs_cons (wf_ret (wp_bf (wps_cons rfl (wp_lc (wps_cons rfl (wp_var rfl (wps_nil ⟨_, itD_rng (by decide) (by decide), Nat.le_of_ble_eq_true rfl, ?_⟩)))))))
  refine wp_loop1 rfl (wp_turn0 (wp_bf (wps_cons rfl (wp_lc (wps_cons rfl (wp_var rfl (wps_nil ⟨_, rfl, Nat.le_of_ble_eq_true rfl, ?_⟩)))))))
  refine wp_loop1 rfl (wp_turn0 (wp_cmp (wp_var rfl (wp_var rfl ⟨_, cmp_inT (r := [0]), ?_⟩))))
  refine wp_loop1 rfl (wp_turn0 (wp_cmp (wp_var rfl (wp_var rfl ⟨_, cmp_inT (r := []), ?_⟩))))
  refine wp_loop0 (wps_nil ⟨.bl true, rfl, ?_⟩)
  exact wp_loop0 (wps_nil ⟨_, rfl, rfl, trim_self _ _⟩)
theorem sent0 : callN prog (n + 4) 9 [sndO 0 [1, 0], fil, .int 1] S = .ok .non S := by
  refine eq_of_wp (wp_fn (fn := f9) rfl rfl ?_)
  dsimp only [List.map, Nat.sub, List.replicate, List.append, f9, ir9]
  refine wfs_cons (wf_expr (wp_call (wps_cons rfl (wp_bf (wps_cons rfl (wp_att (wp_var rfl (wp_fld rfl rfl rfl (wps_nil ⟨_, rfl, wps_cons rfl (wp_var rfl (wps_nil (wps_nil ⟨_, rfl, ?_⟩)))⟩)))))))))
  refine wp_eq (chk4 (n := n + 1)) ?_
  refine wfs_cons (wf_if (wp_not (wp_call (wps_cons rfl (wp_var rfl (wps_cons rfl (wp_bf (wps_cons rfl (wp_att (wp_var rfl (wp_fld rfl rfl rfl (wps_nil ⟨_, rfl, wps_cons rfl (wp_var rfl (wps_nil (wps_nil ⟨_, rfl, ?_⟩)))⟩))))))))))))
  refine wp_eq (fil2 (n := n)) ⟨_, rfl, _, rfl, two_f rfl ?_⟩
  refine wfs_nil (wfs_cons (wf_ret (wp_ite (wp_call (wps_cons rfl (wp_var rfl (wps_cons rfl (wp_var rfl (wps_nil (wps_nil ⟨_, rfl, ?_⟩))))))))))
  refine wp_eq (full3 (n := n + 2)) ⟨_, rfl, two_t rfl ?_⟩
  refine wp_mth (wp_var rfl ⟨_, rfl, rfl, _, rfl, wps_cons rfl (wp_var rfl (wps_cons rfl (wp_var rfl (wps_nil (wps_nil ⟨_, rfl, ?_⟩)))))⟩)
  exact wp_eq (call_pure (fn := f8) rfl rfl rfl) ⟨rfl, trim_self _ _⟩
theorem parc0 : callN prog (n + 5) 10 [sndO 0 [1, 0], fil, .int 1] S = .ok .non S := by
  refine eq_of_wp (wp_fn (fn := f10) rfl rfl ?_)
  dsimp only [List.map, Nat.sub, List.replicate, List.append, f10, ir10]
  refine wfs_cons (wf_set (wp_mth (wp_var rfl ⟨_, rfl, rfl, _, rfl, wps_cons rfl (wp_var rfl (wps_cons rfl (wp_var rfl (wps_nil (wps_nil ⟨_, rfl, ?_⟩)))))⟩)))
  refine wp_eq (sent0 (n := n)) ?_
  exact wfs_cons (wf_ret (wp_ite (wp_cmp (wp_var rfl (wp_non ⟨_, rfl, _, rfl, two_t rfl (wp_non ⟨rfl, trim_self _ _⟩)⟩)))))
end
theorem okBare : okSn [1, 0] := ⟨by decide, by decide, by decide, by decide⟩
theorem text0 : sndText 0 = ("Sender(sender)" : Str) := by decide +kernel
theorem eqO_back {cal : Nat → List D → Sto → Out D} {tb sb : List (Nat × Nat)} {x y : D} {S : Sto} {c c' f : Nat} {p : List Nat × List D} {Q : D → Sto → Prop} (h1 : insOf x S = some (c, p)) (h3 : tkD y S = some (.obj c')) (h4 : sb.contains (c, c') = true) (h2 : tb.lookup c' = some f) (h : WP (cal f [y, x] S) fun v S => ∃ b, v = .bl b ∧ Q (.bl (b != false)) S) : WP (eqO cal false tb sb x y S) Q := by
  unfold eqO
  rw [h1, h3]
  dsimp only
  rw [if_pos h4, h2]
  exact WP.bind (h.imp fun _ _ ⟨i, e, q⟩ => by subst e; exact q)
theorem hl (ns : List Int) (_ : ns.length ≤ 63) : ∃ S, callN prog 40 22 [.scr ns] [] = .ok (.bl true) S := by
  have go : WP (callN prog 40 22 [.scr ns] []) fun d _ => d = .bl true := by
    refine wp_fn rfl rfl ?_
    dsimp only [List.map, Nat.sub, List.replicate, List.append, f22, ir22]
    generalize hcal : callN prog 39 = cal
    walk_at "w"
    refine src_spec p14 fun s hs => ?_
    walk_at "w"
    refine wf_for (wps_cons rfl (wp_int (wps_nil ⟨_, itD_rng (by decide) (by decide), ?_⟩)))
    refine wf_loop (fun j γ S => ∃ s R x2 x3 x4 x5 x6 x7 x8 x9 x10 x11, γ = [some (.scr ns), some (.loc 0), x2, x3, x4, x5, x6, x7, x8, x9, x10, x11] ∧ S = Sr.so s :: R ∧ s.ok ∧ Low (s.so :: R)) (i := 0) ⟨s, [], _, _, _, _, _, _, _, _, _, _, rfl, rfl, hs, ?_⟩ ?_ ?_
    · intro o ho
      rw [List.mem_singleton.mp ho]
      show (D.lows _ (s.cells.map D.int) && true) = true
      rw [low_ints]; rfl
    · rintro j x γ S hx ⟨s, R, x2, x3, x4, x5, x6, x7, x8, x9, x10, x11, rfl, rfl, hs, lw⟩
      refine ⟨_, rfl, ?_⟩
      refine wfs_app (ss := lawB) 3 (partA hcal hs lw fun c row c' row' s hs hc hc' ok ok' lw => ?_)
      refine wfs_app 1 (partB hcal hc ok lw fun R y8 y9 lw => ?_)
      refine wfs_app 2 (partC hcal hc hc' ok lw ?_)
      exact partD hcal hc ⟨s, R, _, _, _, _, _, _, _, _, _, _, rfl, rfl, hs, lw⟩
    · rintro γ S ⟨s, R, x2, x3, x4, x5, x6, x7, x8, x9, x10, x11, rfl, rfl, hs, lw⟩
      generalize s.so :: R = S0
      walk_at "w"
      show WP (mkD (callN prog 39) false 0 5 ⟨1, true, [.pos 0, .rest]⟩ (([1, 0] : List Int).map D.int) [] _) _
      with_reducible refine snd_mk (n := 37) (row := [1, 0]) p5 p0 ?h0 okBare ?_
      case h0 => rfl
      generalize S0 ++ [.dead] = S1
      have k1 : ∀ S : Sto, callN prog 39 9 [sndO 0 [1, 0], .tup [.tup [.int 0], .tup []], .int 1] S = .ok .non S := fun S => sent0 (n := 35)
      have k2 : ∀ S : Sto, callN prog 39 10 [sndO 0 [1, 0], .tup [.tup [.int 0], .tup []], .int 1] S = .ok .non S := fun S => parc0 (n := 34)
      have k3 : ∀ S : Sto, callN prog 39 7 [sndO 0 [1, 0]] S = .ok (.loc S.length) (S ++ [.lst [.int 1, .int 0]]) := fun S => snd_rowT (n := 38) (row := [1, 0]) p7 rfl
      have k4 : ∀ S : Sto, callN prog 39 13 [sndO 0 [1, 0]] S = .ok (.str "Sender(sender)") S := fun S => by
        have := snd_repr (n := 38) (row := [1, 0]) (S := S) p13 (.inl rfl) rfl
        rw [text0] at this
        exact this
      have k5 : ∀ S : Sto, callN prog 39 11 [sndO 1 [1, 0], sndO 0 [1, 0]] S = .ok (.bl false) S := fun S => snd_eq (n := 38) (c := 1) (c' := 0) p11 (by decide) (by decide) rfl rfl rfl rfl rfl
      walk_at "w"
      with_reducible refine wp_eq (k3 _) ?_
      walk_at "w"
      with_reducible refine wp_eq (k1 _) ?_
      walk_at "w"
      with_reducible refine wp_eq (k2 _) ?_
      walk_at "w"
      show WP (mkD (callN prog 39) false 1 5 ⟨1, true, [.pos 0, .rest]⟩ (([1, 0] : List Int).map D.int) [] _) _
      with_reducible refine snd_mk (n := 37) (row := [1, 0]) p5 p0 ?h0 okBare ?_
      case h0 => rfl
      walk_at "w"
      with_reducible refine eqO_back (c := 0) (c' := 1) (f := 11) (p := ([41], [.lst [.int 1, .int 0]])) ?h1 ?h2 ?h3 ?h4 (wp_eq (k5 _) ?_)
      case h1 => rfl
      case h2 => rfl
      case h3 => rfl
      case h4 => rfl
      refine ⟨_, rfl, ?_⟩
      refine wps_cons rfl (wp_own (wps_cons rfl (wp_var rfl (wps_nil (wp_repr rfl rfl (of_cal hcal ?_))))))
      with_reducible refine wp_eq (k4 _) ?_
      refine ⟨_, rfl, ?_⟩
      walk_at "w"
      have g : (S1 ++ [SO.lst [.int 1, .int 0]] ++ [SO.dead])[S1.length]? = some (.lst (([1, 0] : List Int).map .int)) := by
        rw [List.getElem?_append_left (by simp)]; exact get_last
      have e := same_spec p18 38 (.l [.l (([1, 0] : List Int).map .i), .s "sender", .n, .n, .s "order", .s "most", .s "fewest", .b false, .s "Sender(sender)"]) (.lst [.loc S1.length, .str "sender", .non, .non, .str "order", .str "most", .str "fewest", .bl false, .str "Sender(sender)"]) (.lst [.lst [.int 1, .int 0], .str "sender", .non, .non, .str "order", .str "most", .str "fewest", .bl false, .str "Sender(sender)"]) (S1 ++ [SO.lst [.int 1, .int 0]] ++ [SO.dead]) (by decide) (by decide)
        ⟨_, rfl, _, _, rfl, ⟨_, lst_loc g, ress_ints⟩, _, _, rfl, rfl, _, _, rfl, rfl, _, _, rfl, rfl, _, _, rfl, rfl, _, _, rfl, rfl, _, _, rfl, rfl, _, _, rfl, rfl, _, _, rfl, rfl, rfl⟩
        ⟨_, rfl, _, _, rfl, ⟨_, rfl, ress_ints⟩, _, _, rfl, rfl, _, _, rfl, rfl, _, _, rfl, rfl, _, _, rfl, rfl, _, _, rfl, rfl, _, _, rfl, rfl, _, _, rfl, rfl, _, _, rfl, rfl, rfl⟩
      show WP (callN prog 39 18 [.lst [.loc S1.length, .str "sender", .non, .non, .str "order", .str "most", .str "fewest", .bl false, .str "Sender(sender)"], .lst [.lst [.int 1, .int 0], .str "sender", .non, .non, .str "order", .str "most", .str "fewest", .bl false, .str "Sender(sender)"]] (S1 ++ [SO.lst [.int 1, .int 0]] ++ [SO.dead])) _
      with_reducible refine wp_eq e ?_
      rfl
  obtain ⟨d, S, e, h⟩ := go.ex
  subst h
  exact ⟨S, e⟩
theorem done : PySem.Challenge.rw_splitsent_k42_senders_made.Holds := walk hl
end Lw
theorem PySem.Challenge.cw_splitsent_k42_senders_made_holds : PySem.Challenge.rw_splitsent_k42_senders_made.Holds := by
  exact Lw.done
