import PyProof.Rows.All
import Wide.All
import OpenK.AllK
import Wide.FinOn
import HandS.ForMost
import HandS.Walk
import HandS.Star
import HandS.Conv
import HandS.IsInst
import HandS.Deep
import HandS.Flow
import HandS.Zip
import HandS.TupAny
import HandS.Style
import HandS.Head0
import HandS.Head1
import HandS.Head2
import HandS.HeadEnd
import HandS.HeadHook1
import HandS.HeadHook2
import PySem.Challenge.RW_splitsent_k02_kinds_numbers_and_lines
set_option Elab.async false
set_option linter.all false
set_option maxRecDepth 100000
set_option maxHeartbeats 20000000
namespace Itp
open PySem L2
/-- values as trees; loc: an object of the store -/
inductive D where
  | non | bl (b : Bool) | int (i : Int) | str (x : Str)
  | lst (xs : List D) | tup (xs : List D)
  | obj (c : Nat) (ns : List Nat) (ds : List D)
  | loc (n : Nat)
  | scr (xs : List Int)
  deriving Inhabited
/-- what the store holds -/
inductive SO where
  | lst (xs : List D) | ins (c : Nat) (ns : List Nat) (ds : List D) | dead
  deriving Inhabited
abbrev Sto := List SO
abbrev Gm := List (Option D)
/-- the end of an expression -/
inductive Out (β : Type) where
  | ok (b : β) (S : Sto) | exc (c : Nat) (ds : List D) (S : Sto) | bad
@[reducible] def Out.bind {β δ : Type} (o : Out β) (k : β → Sto → Out δ) : Out δ := match o with
  | .ok b S => k b S
  | .exc c ds S => .exc c ds S
  | .bad => .bad
/-- texts that may be -/
def okS (x : Str) : Bool := x.cps.all (· < 0x110000) && decide (x.length ≤ 16777216)
/-- where the program's things stand -/
structure Gb where
  nc : Nat
  cA : Nat → Addr
  fA : Nat → Addr
  nm : Nat → Str
section
variable (K : PySem.W.Frag) (g : Gb) (α : Nat → Option Addr) (F : Hp)
mutual
def Rep : D → V → Prop
  | .non, v => v = .non
  | .bl b, v => v = .bl b
  | .int i, v => v = .int i
  | .str x, v => v = .str x ∧ okS x = true
  | .lst xs, v => ∃ a vs, v = .ref a ∧ F a = some (.lst vs) ∧ Reps xs vs
  | .tup xs, v => ∃ a vs, v = .ref a ∧ F a = some (.tup vs) ∧ Reps xs vs
  | .obj c ns ds, v => ∃ a dx vs, v = .ref a ∧ F a = some (.ins (g.cA c) dx ((ns.map g.nm).zip vs)) ∧ (ns.length = ds.length ∧ c < g.nc) ∧ Reps ds vs
  | .loc n, v => ∃ a, v = .ref a ∧ α n = some a
  | .scr ns, v => ∃ a, v = .ref a ∧ SqL K F a (ns.map V.int)
def Reps : List D → List V → Prop
  | [], vs => vs = []
  | d :: ds, vs => ∃ v r, vs = v :: r ∧ Rep d v ∧ Reps ds r
end
def SOk (H : Hp) (n : Nat) : SO → Prop
  | .lst xs => ∃ a vs, α n = some a ∧ F a = none ∧ H a = some (.lst vs) ∧ Reps K g α F xs vs
  | .ins c ns ds => ∃ a dx vs, α n = some a ∧ F a = none ∧ H a = some (.ins (g.cA c) dx ((ns.map g.nm).zip vs)) ∧ (ns.length = ds.length ∧ c < g.nc) ∧ Reps K g α F ds vs
  | .dead => True
structure World (K : PySem.W.Frag) (g : Gb) (R : Hp) (α : Nat → Option Addr) (F : Hp) (S : Sto) (H : Hp) : Prop where
  fz : ∀ a o, F a = some o → H a = some o
  st : ∀ n o, S[n]? = some o → SOk K g α F H n o
  inj : ∀ n m a, α n = some a → α m = some a → n = m
  occ : ∀ n a, α n = some a → H a ≠ none
  bd : ∀ n, S.length ≤ n → α n = none
  fr : ∀ a o, R a = some o → H a = some o ∧ F a = none ∧ ∀ n, α n ≠ some a
end
structure Ext (α : Nat → Option Addr) (F : Hp) (α' : Nat → Option Addr) (F' : Hp) : Prop where
  al : ∀ n a, α n = some a → α' n = some a
  fr : ∀ a o, F a = some o → F' a = some o
section
variable {K : PySem.W.Frag} {g : Gb} {α α' α'' : Nat → Option Addr} {F F' F'' H H' R : Hp} {S : Sto}
theorem Ext.refl : Ext α F α F := ⟨fun _ _ h => h, fun _ _ h => h⟩
theorem Ext.trans (a : Ext α F α' F') (b : Ext α' F' α'' F'') : Ext α F α'' F'' := ⟨fun n x h => b.al n x (a.al n x h), fun n x h => b.fr n x (a.fr n x h)⟩
theorem Rd.mono {a : Addr} {u : HO} (e : ∀ a o, F a = some o → F' a = some o) (h : Rd F a u) : Rd F' a u := by
  rcases h with h | ⟨o, h⟩
  · exact .inl (e _ _ h)
  · exact .inr ⟨o, e _ _ h⟩
theorem SqL.mono' {a : Addr} {vs : List V} (e : ∀ a o, F a = some o → F' a = some o) (h : SqL K F a vs) : SqL K F' a vs := h.imp (Rd.mono e) id
theorem SqT.mono' {a : Addr} {vs : List V} (e : ∀ a o, F a = some o → F' a = some o) (h : SqT K F a vs) : SqT K F' a vs := h.imp (Rd.mono e) id
mutual
theorem Rep.mono (e : Ext α F α' F') : ∀ (d : D) (v : V), Rep K g α F d v → Rep K g α' F' d v
  | .non, v, h => h
  | .bl b, v, h => h
  | .int i, v, h => h
  | .str x, v, h => h
  | .lst xs, v, h => by
    obtain ⟨a, vs, e1, h1, h2⟩ := h
    exact ⟨a, vs, e1, e.fr _ _ h1, Reps.mono e xs vs h2⟩
  | .tup xs, v, h => by
    obtain ⟨a, vs, e1, h1, h2⟩ := h
    exact ⟨a, vs, e1, e.fr _ _ h1, Reps.mono e xs vs h2⟩
  | .obj c ns ds, v, h => by
    obtain ⟨a, dx, vs, e1, h1, hl, h2⟩ := h
    exact ⟨a, dx, vs, e1, e.fr _ _ h1, hl, Reps.mono e ds vs h2⟩
  | .loc n, v, h => by
    obtain ⟨a, e1, h1⟩ := h
    exact ⟨a, e1, e.al _ _ h1⟩
  | .scr ns, v, h => by
    obtain ⟨a, e1, h1⟩ := h
    exact ⟨a, e1, SqL.mono' e.fr h1⟩
theorem Reps.mono (e : Ext α F α' F') : ∀ (ds : List D) (vs : List V), Reps K g α F ds vs → Reps K g α' F' ds vs
  | [], vs, h => h
  | d :: ds, vs, h => by
    obtain ⟨v, r, e1, h1, h2⟩ := h
    exact ⟨v, r, e1, Rep.mono e d v h1, Reps.mono e ds r h2⟩
end
theorem Reps.length : ∀ {ds : List D} {vs : List V}, Reps K g α F ds vs → ds.length = vs.length
  | [], vs, h => by cases h; rfl
  | d :: ds, vs, h => by
    obtain ⟨v, r, e1, h1, h2⟩ := h
    subst e1
    simp [Reps.length h2]
theorem Reps.get : ∀ {ds : List D} {vs : List V} {i : Nat} {d : D}, Reps K g α F ds vs → ds[i]? = some d → ∃ v, vs[i]? = some v ∧ Rep K g α F d v
  | [], vs, i, d, h, q => by simp at q
  | d :: ds, vs, 0, d', h, q => by
    obtain ⟨v, r, e1, h1, h2⟩ := h
    subst e1
    simp at q; subst q
    exact ⟨v, rfl, h1⟩
  | d :: ds, vs, i + 1, d', h, q => by
    obtain ⟨v, r, e1, h1, h2⟩ := h
    subst e1
    simp at q
    obtain ⟨w, a, b⟩ := Reps.get h2 q
    exact ⟨w, by simpa using a, b⟩
theorem Reps.app : ∀ {ds es : List D} {vs ws : List V}, Reps K g α F ds vs → Reps K g α F es ws → Reps K g α F (ds ++ es) (vs ++ ws)
  | [], _, _, _, h, h' => by cases h; exact h'
  | d :: ds, es, vs, ws, h, h' => by
    obtain ⟨v, r, e1, h1, h2⟩ := h
    subst e1
    exact ⟨v, r ++ ws, rfl, h1, Reps.app h2 h'⟩
theorem Reps.drop : ∀ {ds : List D} {vs : List V} (n : Nat), Reps K g α F ds vs → Reps K g α F (ds.drop n) (vs.drop n)
  | ds, vs, 0, h => h
  | [], vs, n + 1, h => by cases h; rfl
  | d :: ds, vs, n + 1, h => by
    obtain ⟨v, r, e1, h1, h2⟩ := h
    subst e1
    exact Reps.drop n h2
theorem Reps.take : ∀ {ds : List D} {vs : List V} (n : Nat), Reps K g α F ds vs → Reps K g α F (ds.take n) (vs.take n)
  | ds, vs, 0, h => rfl
  | [], vs, n + 1, h => by cases h; rfl
  | d :: ds, vs, n + 1, h => by
    obtain ⟨v, r, e1, h1, h2⟩ := h
    subst e1
    exact ⟨v, r.take n, rfl, h1, Reps.take n h2⟩
theorem Reps.set : ∀ {ds : List D} {vs : List V} (n : Nat) {d : D} {v : V}, Reps K g α F ds vs → Rep K g α F d v → Reps K g α F (ds.set n d) (vs.set n v)
  | [], vs, n, d, v, h, _ => by cases h; rfl
  | _ :: ds, vs, 0, d, v, h, h' => by
    obtain ⟨w, r, e1, h1, h2⟩ := h
    subst e1
    exact ⟨v, r, rfl, h', h2⟩
  | _ :: ds, vs, n + 1, d, v, h, h' => by
    obtain ⟨w, r, e1, h1, h2⟩ := h
    subst e1
    exact ⟨w, r.set n v, rfl, h1, Reps.set n h2 h'⟩
theorem World.sqL (w : World K g R α F S H) {a : Addr} {vs : List V} (h : SqL K F a vs) : SqL K H a vs := SqL.mono' w.fz h
theorem World.sqT (w : World K g R α F S H) {a : Addr} {vs : List V} (h : SqT K F a vs) : SqT K H a vs := SqT.mono' w.fz h
theorem SOk.mono {n : Nat} {o : SO} (e : Ext α F α' F') (hn : ∀ a, α n = some a → F' a = none ∧ H' a = H a) (h : SOk K g α F H n o) : SOk K g α' F' H' n o := by
  cases o with
  | lst xs =>
    obtain ⟨a, vs, h1, h2, h3, h4⟩ := h
    exact ⟨a, vs, e.al _ _ h1, (hn a h1).1, (hn a h1).2.trans h3, Reps.mono e _ _ h4⟩
  | ins c ns ds =>
    obtain ⟨a, dx, vs, h1, h2, h3, hl, h4⟩ := h
    exact ⟨a, dx, vs, e.al _ _ h1, (hn a h1).1, (hn a h1).2.trans h3, hl, Reps.mono e _ _ h4⟩
  | dead => trivial
theorem World.fnone (w : World K g R α F S H) {p : Addr} (hp : H p = none) : F p = none := by
  cases q : F p with
  | none => rfl
  | some o => have := w.fz p o q; rw [hp] at this; cases this
/-- a frozen object is laid -/
theorem World.lay (w : World K g R α F S H) {p : Addr} {o : HO} (hp : H p = none) : World K g R α (upd F p o) S (upd H p o) ∧ Ext α F α (upd F p o) := by
  have e : Ext α F α (upd F p o) := ⟨fun _ _ h => h, fun a u h => by rw [upd_ne]; exact h; intro z; subst z; rw [w.fnone hp] at h; cases h⟩
  have np : ∀ n a, α n = some a → a ≠ p := fun n a h z => w.occ n a h (by rw [z]; exact hp)
  refine ⟨⟨fun a u h => ?_, fun n u h => ?_, w.inj, fun n a h => ?_, w.bd, fun a u h => ?_⟩, e⟩
  · by_cases q : a = p
    · subst q; rw [upd_same] at h ⊢; exact h
    · rw [upd_ne q] at h ⊢; exact w.fz a u h
  · have k := w.st n u h
    cases u with
    | lst xs =>
      obtain ⟨a, vs, h1, h2, h3, h4⟩ := k
      exact ⟨a, vs, h1, by rw [upd_ne (np n a h1)]; exact h2, by rw [upd_ne (np n a h1)]; exact h3, Reps.mono e _ _ h4⟩
    | ins c ns ds =>
      obtain ⟨a, dx, vs, h1, h2, h3, hl, h4⟩ := k
      exact ⟨a, dx, vs, h1, by rw [upd_ne (np n a h1)]; exact h2, by rw [upd_ne (np n a h1)]; exact h3, hl, Reps.mono e _ _ h4⟩
    | dead => trivial
  · rw [upd_ne (np n a h)]; exact w.occ n a h
  · obtain ⟨h1, h2, h3⟩ := w.fr a u h
    have z : a ≠ p := fun z => by rw [z, hp] at h1; cases h1
    exact ⟨by rw [upd_ne z]; exact h1, by rw [upd_ne z]; exact h2, h3⟩
/-- an object that nobody looks at is laid -/
theorem World.idle (w : World K g R α F S H) {p : Addr} {o : HO} (hp : H p = none) : World K g R α F S (upd H p o) := by
  have np : ∀ n a, α n = some a → a ≠ p := fun n a h z => w.occ n a h (by rw [z]; exact hp)
  refine ⟨fun a u h => ?_, fun n u h => ?_, w.inj, fun n a h => ?_, w.bd, fun a u h => ?_⟩
  · rw [upd_ne]; exact w.fz a u h; intro z; subst z; rw [w.fnone hp] at h; cases h
  · have k := w.st n u h
    cases u with
    | lst xs =>
      obtain ⟨a, vs, h1, h2, h3, h4⟩ := k
      exact ⟨a, vs, h1, h2, by rw [upd_ne (np n a h1)]; exact h3, h4⟩
    | ins c ns ds =>
      obtain ⟨a, dx, vs, h1, h2, h3, hl, h4⟩ := k
      exact ⟨a, dx, vs, h1, h2, by rw [upd_ne (np n a h1)]; exact h3, hl, h4⟩
    | dead => trivial
  · rw [upd_ne (np n a h)]; exact w.occ n a h
  · obtain ⟨h1, h2, h3⟩ := w.fr a u h
    have z : a ≠ p := fun z => by rw [z, hp] at h1; cases h1
    exact ⟨by rw [upd_ne z]; exact h1, h2, h3⟩
/-- the address of a new object of the store -/
def pushA (α : Nat → Option Addr) (n : Nat) (p : Addr) : Nat → Option Addr := fun m => if m = n then some p else α m
theorem World.push_ext (w : World K g R α F S H) {p : Addr} : Ext α F (pushA α S.length p) F :=
  ⟨fun n a h => (by
    unfold pushA
    rw [if_neg]; exact h
    intro z; subst z; rw [w.bd _ (Nat.le_refl _)] at h; cases h), fun _ _ h => h⟩
/-- an object of the store is laid -/
theorem World.push (w : World K g R α F S H) {p : Addr} {o : HO} {so : SO} (hp : H p = none) (ho : SOk K g (pushA α S.length p) F (upd H p o) S.length so) :
    World K g R (pushA α S.length p) F (S ++ [so]) (upd H p o) := by
  have np : ∀ n a, α n = some a → a ≠ p := fun n a h z => w.occ n a h (by rw [z]; exact hp)
  have e := w.push_ext (p := p)
  refine ⟨fun a u h => ?_, fun n u h => ?_, fun n m a h h' => ?_, fun n a h => ?_, fun n h => ?_, fun a u h => ?_⟩
  · rw [upd_ne]; exact w.fz a u h; intro z; subst z; rw [w.fnone hp] at h; cases h
  · by_cases q : n < S.length
    · rw [List.getElem?_append_left q] at h
      have k := w.st n u h
      cases u with
      | lst xs =>
        obtain ⟨a, vs, h1, h2, h3, h4⟩ := k
        exact ⟨a, vs, e.al _ _ h1, h2, by rw [upd_ne (np n a h1)]; exact h3, Reps.mono e _ _ h4⟩
      | ins c ns ds =>
        obtain ⟨a, dx, vs, h1, h2, h3, hl, h4⟩ := k
        exact ⟨a, dx, vs, e.al _ _ h1, h2, by rw [upd_ne (np n a h1)]; exact h3, hl, Reps.mono e _ _ h4⟩
      | dead => trivial
    · have q' : S.length ≤ n := Nat.le_of_not_lt q
      rw [List.getElem?_append_right q'] at h
      have z : n - S.length = 0 := by
        by_cases z : n - S.length = 0
        · exact z
        · rw [List.getElem?_eq_none (by simp; omega)] at h; cases h
      rw [z] at h
      have h : so = u := by simpa using h
      subst h
      have : n = S.length := by omega
      subst this
      exact ho
  · unfold pushA at h h'
    by_cases q : n = S.length <;> by_cases q' : m = S.length
    · rw [q, q']
    · rw [if_pos q] at h; rw [if_neg q'] at h'
      cases h
      exact absurd rfl (np m p h')
    · rw [if_neg q] at h; rw [if_pos q'] at h'
      cases h'
      exact absurd rfl (np n p h)
    · rw [if_neg q] at h; rw [if_neg q'] at h'
      exact w.inj n m a h h'
  · unfold pushA at h
    by_cases q : n = S.length
    · rw [if_pos q] at h; cases h; rw [upd_same]; exact Option.some_ne_none _
    · rw [if_neg q] at h; rw [upd_ne (np n a h)]; exact w.occ n a h
  · unfold pushA
    rw [List.length_append] at h
    have h : S.length + 1 ≤ n := h
    rw [if_neg (by omega)]
    exact w.bd n (by omega)
  · obtain ⟨h1, h2, h3⟩ := w.fr a u h
    have z : a ≠ p := fun z => by rw [z, hp] at h1; cases h1
    refine ⟨by rw [upd_ne z]; exact h1, h2, fun n e => ?_⟩
    unfold pushA at e
    by_cases q : n = S.length
    · rw [if_pos q] at e; exact z (Option.some.inj e).symm
    · rw [if_neg q] at e; exact h3 n e
/-- an object of the store is written -/
theorem World.write (w : World K g R α F S H) {n : Nat} {a : Addr} {o : HO} {so : SO} (ha : α n = some a) (hF : F a = none) (ho : SOk K g α F (upd H a o) n so) :
    World K g R α F (S.set n so) (upd H a o) := by
  have np : ∀ m b, m ≠ n → α m = some b → b ≠ a := fun m b hm h z => hm (w.inj m n a (z ▸ h) ha)
  refine ⟨fun b u h => ?_, fun m u h => ?_, w.inj, fun m b h => ?_, fun m h => w.bd m (by simpa using h), fun b u h => ?_⟩
  · rw [upd_ne]; exact w.fz b u h; intro z; subst z; rw [hF] at h; cases h
  · by_cases q : m = n
    · subst q
      by_cases hl : m < S.length
      · rw [List.getElem?_set_self hl] at h
        cases h
        exact ho
      · rw [List.getElem?_eq_none (by simpa using hl)] at h; cases h
    · rw [List.getElem?_set_ne (Ne.symm q)] at h
      have k := w.st m u h
      cases u with
      | lst xs =>
        obtain ⟨b, vs, h1, h2, h3, h4⟩ := k
        exact ⟨b, vs, h1, h2, by rw [upd_ne (np m b q h1)]; exact h3, h4⟩
      | ins c ns ds =>
        obtain ⟨b, dx, vs, h1, h2, h3, hl, h4⟩ := k
        exact ⟨b, dx, vs, h1, h2, by rw [upd_ne (np m b q h1)]; exact h3, hl, h4⟩
      | dead => trivial
  · by_cases q : b = a
    · subst q; rw [upd_same]; exact Option.some_ne_none _
    · rw [upd_ne q]; exact w.occ m b h
  · obtain ⟨h1, h2, h3⟩ := w.fr b u h
    exact ⟨by rw [upd_ne (fun z => h3 n (by rw [z]; exact ha))]; exact h1, h2, h3⟩
/-- an object of the store is frozen -/
theorem World.freeze (w : World K g R α F S H) {n : Nat} {a : Addr} {o : HO} (ha : α n = some a) (hF : F a = none) (ho : H a = some o) :
    World K g R α (upd F a o) (S.set n .dead) H ∧ Ext α F α (upd F a o) := by
  have np : ∀ m b, m ≠ n → α m = some b → b ≠ a := fun m b hm h z => hm (w.inj m n a (z ▸ h) ha)
  have e : Ext α F α (upd F a o) := ⟨fun _ _ h => h, fun b u h => by rw [upd_ne]; exact h; intro z; subst z; rw [hF] at h; cases h⟩
  refine ⟨⟨fun b u h => ?_, fun m u h => ?_, w.inj, w.occ, fun m h => w.bd m (by simpa using h), fun b u h => ?_⟩, e⟩
  · by_cases q : b = a
    · subst q; rw [upd_same] at h; rw [ho]; exact h
    · rw [upd_ne q] at h; exact w.fz b u h
  · by_cases q : m = n
    · subst q
      by_cases hl : m < S.length
      · rw [List.getElem?_set_self hl] at h
        cases h
        trivial
      · rw [List.getElem?_eq_none (by simpa using hl)] at h; cases h
    · rw [List.getElem?_set_ne (Ne.symm q)] at h
      have k := w.st m u h
      cases u with
      | lst xs =>
        obtain ⟨b, vs, h1, h2, h3, h4⟩ := k
        exact ⟨b, vs, h1, by rw [upd_ne (np m b q h1)]; exact h2, h3, Reps.mono e _ _ h4⟩
      | ins c ns ds =>
        obtain ⟨b, dx, vs, h1, h2, h3, hl, h4⟩ := k
        exact ⟨b, dx, vs, h1, by rw [upd_ne (np m b q h1)]; exact h2, h3, hl, Reps.mono e _ _ h4⟩
      | dead => trivial
  · obtain ⟨h1, h2, h3⟩ := w.fr b u h
    exact ⟨h1, by rw [upd_ne (fun z => h3 n (by rw [z]; exact ha))]; exact h2, h3⟩
end
end Itp
namespace Itp
open PySem L2
inductive BO where | add | sub | mul | fdiv | mod | pow
inductive CO where | eq | ne | lt | le | gt | ge | isN | notN | inn | nin
inductive Ty where | int | bool | str | list | tuple | own (c : Nat)
inductive IK where | val | rng | enum | zip
inductive Tg where | name (i : Nat) | tup (ts : List Tg)
inductive BF where | len | int | list | tuple | all | any | str | range
inductive BM where | join | append
/-- where a parameter's value comes from: the j-th of the given ones -/
abbrev Src := Nat
inductive E where
  | var (i : Nat)
  | non | bl (b : Bool) | int (i : Int) | str (x : Str)
  | gint (n : Str) (i : Int) | gstr (n : Str) (x : Str)
  | bin (o : BO) (a b : E) | neg (a : E) | not (a : E)
  | cmp (o : CO) (a b : E) | chn (o p : CO) (a b c : E)
  | bop (o : Bool) (es : List E) | ite (c a b : E)
  | tup (es : List E) | lst (t : Bool) (es : List E)
  | spt (e : E)
  | idx (a b : E) | slc (a : E) (lo hi : Option E)
  | isi (e : E) (t : Ty) | isT (e : E) (ts : List Ty)
  | bf (b : BF) (es : List E)
  | bm (m : BM) (e : E) (es : List E)
  | call (f : Nat) (es : List E)
  | callP (f : Nat) (es kes : List E) (pi : List Src)
  | lc (tg : Tg) (own : List Nat) (k : IK) (its : List E) (ifs : List E) (e : E)
  | frz (e : E)
inductive St where
  | set (i : Nat) (e : E)
  | asg (tg : Tg) (e : E)
  | par (tgs : List Nat) (es : List E)
  | idx (o i e : E)
  | expr (e : E)
  | ret (e : E)
  | retN
  | pass
  | ifs (c : E) (a b : List St)
  | for (tg : Tg) (k : IK) (its : List E) (b : List St)
  | while (c : E) (b : List St)
  | never
/-! ### values -/
def lstOf : D → Sto → Option (List D)
  | .lst xs, _ => some xs
  | .loc n, S => match S[n]? with
    | some (.lst xs) => some xs
    | _ => none
  | _, _ => none
def truD : D → Sto → Option Bool
  | .non, _ => some false
  | .bl b, _ => some b
  | .int i, _ => some (i != 0)
  | .str x, _ => some ((x.length : Int) != 0)
  | .lst xs, _ => some !xs.isEmpty
  | .tup xs, _ => some !xs.isEmpty
  | .loc n, S => match S[n]? with
    | some (.lst xs) => some !xs.isEmpty
    | _ => none
  | _, _ => none
mutual
def toP : Nat → D → Option PyData
  | _, .non => some .none
  | _, .bl b => some (.bool b)
  | _, .int i => some (.int i)
  | _, .str x => some (.str x)
  | n + 1, .lst xs => (toPs n xs).map .list
  | n + 1, .tup xs => (toPs n xs).map .tuple
  | _, _ => none
def toPs : Nat → List D → Option (List PyData)
  | _, [] => some []
  | n, d :: ds => match toP n d, toPs n ds with
    | some p, some ps => some (p :: ps)
    | _, _ => none
end
def ofO {β : Type} (o : Option β) (S : Sto) : Out β := match o with
  | some b => .ok b S
  | none => .bad
def eqD (a b : D) : Option Bool := match toP 20 a, toP 20 b with
  | some p, some q => some (PyData.eqv p q)
  | _, _ => none
def inD (a : D) (b : D) (S : Sto) : Option Bool := match b with
  | .str z => match a with
    | .str x => if x.length = 1 then some (decide (x.cps.getD 0 0 ∈ z.cps.toList)) else none
    | _ => none
  | b => match lstOf b S with
    | some ys => match toP 19 a, toPs 19 ys with
      | some p, some qs => some (qs.any fun z => PyData.eqv z p)
      | _, _ => none
    | none => none
def isNon : D → Bool
  | .non => true
  | _ => false
def cmpD : CO → D → D → Sto → Option Bool
  | .eq, a, b, _ => eqD a b
  | .ne, a, b, _ => (eqD a b).map (!·)
  | .lt, .int i, .int j, _ => some (decide (i < j))
  | .le, .int i, .int j, _ => some (decide (i ≤ j))
  | .gt, .int i, .int j, _ => some (decide (j < i))
  | .ge, .int i, .int j, _ => some (decide (j ≤ i))
  | .isN, a, .non, _ => some (isNon a)
  | .notN, a, .non, _ => some (!isNon a)
  | .inn, a, b, S => inD a b S
  | .nin, a, b, S => (inD a b S).map (!·)
  | _, _, _, _ => none
def c64 (i : Int) : Bool := decide (-(2 ^ 64) < i) && decide (i < 2 ^ 64)
def binD : BO → D → D → Sto → Option D
  | .add, .int i, .int j, _ => some (.int (i + j))
  | .sub, .int i, .int j, _ => some (.int (i - j))
  | .mul, .int i, .int j, _ => if c64 i || c64 j then some (.int (i * j)) else none
  | .fdiv, .int i, .int j, _ => if 0 < j ∧ j < 1073741824 then some (.int (i / j)) else none
  | .mod, .int i, .int j, _ => if 0 < j then some (.int (i % j)) else none
  | .pow, .int i, .int j, _ => if 0 ≤ j ∧ j ≤ 1000 ∧ i.natAbs < 2 ^ 64 then some (.int (i ^ j.toNat)) else none
  | .add, .str a, .str b, _ => if a.length + b.length ≤ 16777216 then some (.str (a ++ b)) else none
  | .add, .tup xs, .tup ys, _ => if xs.length + ys.length ≤ 16777216 then some (.tup (xs ++ ys)) else none
  | .add, a, b, S => match lstOf a S, lstOf b S with
    | some xs, some ys => if xs.length + ys.length ≤ 16777216 then some (.lst (xs ++ ys)) else none
    | _, _ => none
  | _, _, _, _ => none
def idxD (a b : D) (S : Sto) : Option D := match b with
  | .int i => match a with
    | .str z => (atI z.cps.toList i).map fun c => .str ⟨#[c]⟩
    | .tup xs => atI xs i
    | a => (lstOf a S).bind fun xs => atI xs i
  | _ => none
def cutD {β : Type} (xs : List β) (lo hi : Option Int) : List β := (xs.drop (HT.sIx xs.length 0 lo)).take (HT.sIx xs.length xs.length hi - HT.sIx xs.length 0 lo)
def slcD (a : D) (lo hi : Option Int) (S : Sto) : Option D := match a with
  | .str z => some (.str (cutS z lo hi))
  | .tup xs => some (.tup (cutD xs lo hi))
  | .scr ns => some (.lst ((cutD ns lo hi).map D.int))
  | a => (lstOf a S).map fun xs => .lst (cutD xs lo hi)
inductive TK where | non | bl | int | str | lst | tup | obj (c : Nat)
def tkD : D → Sto → Option TK
  | .non, _ => some .non
  | .bl _, _ => some .bl
  | .int _, _ => some .int
  | .str _, _ => some .str
  | .lst _, _ => some .lst
  | .tup _, _ => some .tup
  | .obj c _ _, _ => some (.obj c)
  | .loc n, S => match S[n]? with
    | some (.lst _) => some .lst
    | some (.ins c _ _) => some (.obj c)
    | _ => none
  | .scr _, _ => none
def isK : TK → Ty → Bool
  | .bl, .int => true
  | .bl, .bool => true
  | .int, .int => true
  | .str, .str => true
  | .lst, .list => true
  | .tup, .tuple => true
  | .obj c, .own k => k == c
  | _, _ => false
def isD (d : D) (t : Ty) (S : Sto) : Option Bool := (tkD d S).map (isK · t)
def isAny (d : D) (ts : List Ty) (S : Sto) : Option Bool := (tkD d S).map fun k => ts.any (isK k)
def blsOf : List D → Option (List Bool)
  | [] => some []
  | .bl b :: r => (blsOf r).map (b :: ·)
  | _ => none
def strsOf : List D → Option (List Str)
  | [] => some []
  | .str b :: r => (strsOf r).map (b :: ·)
  | _ => none
def signs (x : Str) : List D := x.cps.toList.map fun c => .str ⟨#[c]⟩
def bfD : BF → List D → Sto → Option D
  | .len, [.str x], _ => some (.int x.length)
  | .len, [.tup xs], _ => some (.int xs.length)
  | .len, [a], S => (lstOf a S).map fun xs => .int xs.length
  | .int, [.int i], _ => some (.int i)
  | .list, [.tup xs], _ => some (.lst xs)
  | .list, [.str x], _ => some (.lst (signs x))
  | .list, [a], S => (lstOf a S).map .lst
  | .tuple, [.tup xs], _ => some (.tup xs)
  | .tuple, [a], S => (lstOf a S).map .tup
  | .all, [a], S => (lstOf a S).bind fun xs => (blsOf xs).map fun bs => .bl (bs.all id)
  | .any, [a], S => (lstOf a S).bind fun xs => (blsOf xs).map fun bs => .bl (bs.any id)
  | .str, [.int i], _ => if i.natAbs < 2 ^ 64 then some (.str (toString i)) else none
  | _, _, _ => none
/-- items of what is walked -/
def itD : IK → List D → Sto → Option (List D)
  | .val, [.tup xs], _ => some xs
  | .val, [.str x], _ => some (signs x)
  | .val, [.lst xs], _ => some xs
  | .rng, [.int n], _ => if -(2 ^ 62) ≤ n ∧ n ≤ 16777216 then some ((List.range n.toNat).map fun (k : Nat) => .int (0 + (k : Int))) else none
  | .rng, [.int a, .int b], _ => if -(2 ^ 62) ≤ a ∧ a < 2 ^ 62 ∧ -(2 ^ 62) ≤ b ∧ b < 2 ^ 62 ∧ b - a ≤ 16777216 then some ((List.range (b - a).toNat).map fun (k : Nat) => .int (a + (k : Int))) else none
  | .enum, [.lst xs], _ => some ((List.range xs.length).map fun (k : Nat) => .tup [.int (k : Int), xs.getD k .non])
  | .zip, [.lst xs, .lst ys], _ => some ((List.range (min xs.length ys.length)).map fun (k : Nat) => .tup [xs.getD k .non, ys.getD k .non])
  | .zip, [.tup xs, .tup ys], _ => some ((List.range (min xs.length ys.length)).map fun (k : Nat) => .tup [xs.getD k .non, ys.getD k .non])
  | _, _, _ => none
mutual
def setTg : Tg → D → Gm → Option Gm
  | .name i, d, γ => some (γ.set i (some d))
  | .tup ts, .tup ds, γ => if ts.length = ds.length then setTgs ts ds γ else none
  | .tup _, _, _ => none
def setTgs : List Tg → List D → Gm → Option Gm
  | [], [], γ => some γ
  | t :: ts, d :: ds, γ => match setTg t d γ with
    | some γ' => setTgs ts ds γ'
    | none => none
  | _, _, _ => none
end
def wipeG (γ : Gm) : List Nat → Gm
  | [] => γ
  | v :: vs => (wipeG γ vs).set v none
def pick (ds : List D) : List Src → Option (List D)
  | [] => some []
  | j :: r => match ds[j]?, pick ds r with
    | some d, some rs => some (d :: rs)
    | _, _ => none
def bmOk : BM → D → Sto → Bool
  | .join, .str _, _ => true
  | .append, x, S => (lstOf x S).isSome
  | _, _, _ => false
/-- the methods of texts and lists -/
def bmD : BM → D → List D → Sto → Out D
  | .join, .str a, [l], S => (match lstOf l S with
    | some xs => (match strsOf xs with
      | some ys => if (ys.map (·.length)).sum + ys.length * a.length ≤ 16777216 then .ok (.str (Str.join a ys)) S else .bad
      | none => .bad)
    | none => .bad)
  | .append, .loc n, [d], S => (match S[n]? with
    | some (.lst xs) => if xs.length < 16777216 then .ok .non (S.set n (.lst (xs ++ [d]))) else .bad
    | _ => .bad)
  | _, _, _, _ => .bad
/-! ### the evaluator -/
/-- a comprehension's turns -/
def loopC (turn : Gm → Sto → Out (Option D)) (tg : Tg) (γ : Gm) : List D → List D → Sto → Out (List D)
  | [], acc, S => .ok acc S
  | d :: r, acc, S => match setTg tg d γ with
    | none => .bad
    | some γ' => match turn γ' S with
      | .ok (some x) S' => loopC turn tg γ r (acc ++ [x]) S'
      | .ok none S' => loopC turn tg γ r acc S'
      | .exc .. => .bad
      | .bad => .bad
section
variable (cal : Nat → List D → Sto → Out D)
mutual
def ev : E → Gm → Sto → Out D
  | .var i, γ, S => match γ[i]? with
    | some (some d) => .ok d S
    | _ => .bad
  | .non, _, S => .ok .non S
  | .bl b, _, S => .ok (.bl b) S
  | .int i, _, S => .ok (.int i) S
  | .str x, _, S => .ok (.str x) S
  | .gint _ i, _, S => .ok (.int i) S
  | .gstr _ x, _, S => .ok (.str x) S
  | .bin o a b, γ, S => (ev a γ S).bind fun x S => (ev b γ S).bind fun y S => ofO (binD o x y S) S
  | .neg a, γ, S => (ev a γ S).bind fun x S => match x with
    | .int i => .ok (.int (-i)) S
    | _ => .bad
  | .not a, γ, S => (ev a γ S).bind fun x S => match truD x S with
    | some b => .ok (.bl !b) S
    | none => .bad
  | .cmp o a b, γ, S => (ev a γ S).bind fun x S => (ev b γ S).bind fun y S => match cmpD o x y S with
    | some k => .ok (.bl k) S
    | none => .bad
  | .chn o p a b c, γ, S => (ev a γ S).bind fun x S => (ev b γ S).bind fun y S => match cmpD o x y S with
    | some true => (ev c γ S).bind fun z S => match cmpD p y z S with
      | some k => .ok (.bl k) S
      | none => .bad
    | some false => .ok (.bl false) S
    | none => .bad
  | .bop o es, γ, S => evB o es γ S
  | .ite c a b, γ, S => (ev c γ S).bind fun x S => match truD x S with
    | some true => ev a γ S
    | some false => ev b γ S
    | none => .bad
  | .tup es, γ, S => (evs es γ S).bind fun ds S => .ok (.tup ds) S
  | .lst t es, γ, S => (evs es γ S).bind fun ds S => if t then .ok (.loc S.length) (S ++ [.lst ds]) else .ok (.lst ds) S
  | .spt e, γ, S => (ev e γ S).bind fun x S => match x with
    | .lst xs => if xs.length ≤ 16777216 then .ok (.tup xs) S else .bad
    | _ => .bad
  | .idx a b, γ, S => (ev a γ S).bind fun x S => (ev b γ S).bind fun y S => ofO (idxD x y S) S
  | .slc a lo hi, γ, S => (ev a γ S).bind fun x S => (evO lo γ S).bind fun l S => (evO hi γ S).bind fun h S => ofO (slcD x l h S) S
  | .isi e t, γ, S => (ev e γ S).bind fun x S => match isD x t S with
    | some b => .ok (.bl b) S
    | none => .bad
  | .isT e ts, γ, S => (ev e γ S).bind fun x S => match isAny x ts S with
    | some b => .ok (.bl b) S
    | none => .bad
  | .bf b es, γ, S => (evs es γ S).bind fun ds S => ofO (bfD b ds S) S
  | .bm m e es, γ, S => (ev e γ S).bind fun x S => if bmOk m x S then (evs es γ S).bind fun ds S => bmD m x ds S else .bad
  | .call f es, γ, S => (evs es γ S).bind fun ds S => cal f ds S
  | .callP f es kes pi, γ, S => (evs es γ S).bind fun ds S => (evs kes γ S).bind fun ks S => match pick (ds ++ ks) pi with
    | some ds => cal f ds S
    | none => .bad
  | .lc tg own k its ifs e, γ, S => (evs its γ S).bind fun ds S => match itD k ds S with
    | some xs => if xs.length ≤ 16777216 then (loopC (fun γ' S => match evF ifs γ' S with
        | .ok true S => (match ev e γ' S with | .ok d S => .ok (some d) S | _ => .bad)
        | .ok false S => .ok none S
        | _ => .bad) tg (wipeG γ own) xs [] S).bind fun ys S => .ok (.lst ys) S else .bad
    | none => .bad
  | .frz e, γ, S => (ev e γ S).bind fun x S => match x with
    | .loc n => match S[n]? with
      | some (.lst xs) => .ok (.lst xs) (S.set n .dead)
      | some (.ins c ns ds) => .ok (.obj c ns ds) (S.set n .dead)
      | _ => .bad
    | _ => .bad
def evs : List E → Gm → Sto → Out (List D)
  | [], _, S => .ok [] S
  | e :: r, γ, S => (ev e γ S).bind fun d S => (evs r γ S).bind fun ds S => .ok (d :: ds) S
def evO : Option E → Gm → Sto → Out (Option Int)
  | none, _, S => .ok none S
  | some e, γ, S => (ev e γ S).bind fun x S => match x with
    | .int i => .ok (some i) S
    | _ => .bad
def evB : Bool → List E → Gm → Sto → Out D
  | _, [], _, _ => .bad
  | o, e :: r, γ, S => match r with
    | [] => ev e γ S
    | _ :: _ => (ev e γ S).bind fun x S => match truD x S with
      | some b => if b = o then evB o r γ S else .ok x S
      | none => .bad
/-- the ifs of a comprehension -/
def evF : List E → Gm → Sto → Out Bool
  | [], _, S => .ok true S
  | e :: r, γ, S => (ev e γ S).bind fun x S => match truD x S with
    | some true => evF r γ S
    | some false => .ok false S
    | none => .bad
end
/-- the end of a statement -/
inductive Fl where
  | nx (γ : Gm) (S : Sto) | ret (d : D) (S : Sto) | exc (c : Nat) (ds : List D) (S : Sto) | bad
@[reducible] def Fl.of {β : Type} (o : Out β) (k : β → Sto → Fl) : Fl := match o with
  | .ok b S => k b S
  | .exc c ds S => .exc c ds S
  | .bad => .bad
def setAll : List Nat → List D → Gm → Gm
  | i :: is, d :: ds, γ => setAll is ds (γ.set i (some d))
  | _, _, γ => γ
def loopF (body : Gm → Sto → Fl) (tg : Tg) : List D → Gm → Sto → Fl
  | [], γ, S => .nx γ S
  | d :: r, γ, S => match setTg tg d γ with
    | none => .bad
    | some γ' => match body γ' S with
      | .nx γ'' S' => loopF body tg r γ'' S'
      | o => o
def loopW (c : Gm → Sto → Out D) (body : Gm → Sto → Fl) : Nat → Gm → Sto → Fl
  | 0, _, _ => .bad
  | n + 1, γ, S => .of (c γ S) fun x S => match truD x S with
    | some true => (match body γ S with
      | .nx γ' S' => loopW c body n γ' S'
      | o => o)
    | some false => .nx γ S
    | none => .bad
mutual
def ex : St → Gm → Sto → Fl
  | .set i e, γ, S => .of (ev cal e γ S) fun d S => .nx (γ.set i (some d)) S
  | .asg tg e, γ, S => .of (ev cal e γ S) fun d S => match setTg tg d γ with
    | some γ' => .nx γ' S
    | none => .bad
  | .par is es, γ, S => .of (evs cal es γ S) fun ds S => if is.length = ds.length then .nx (setAll is ds γ) S else .bad
  | .idx o i e, γ, S => .of (ev cal e γ S) fun d S => .of (ev cal o γ S) fun x S => .of (ev cal i γ S) fun y S => match x, y with
    | .loc n, .int k => (match S[n]? with
      | some (.lst xs) => (match ixN xs.length k with
        | some j => .nx γ (S.set n (.lst (xs.set j d)))
        | none => .bad)
      | _ => .bad)
    | _, _ => .bad
  | .expr e, γ, S => .of (ev cal e γ S) fun _ S => .nx γ S
  | .ret e, γ, S => .of (ev cal e γ S) fun d S => .ret d S
  | .retN, _, S => .ret .non S
  | .pass, γ, S => .nx γ S
  | .ifs c a b, γ, S => .of (ev cal c γ S) fun x S => match truD x S with
    | some true => exs a γ S
    | some false => exs b γ S
    | none => .bad
  | .for tg k its b, γ, S => .of (evs cal its γ S) fun ds S => match itD k ds S with
    | some xs => loopF (fun γ S => exs b γ S) tg xs γ S
    | none => .bad
  | .while c b, γ, S => loopW (fun γ S => ev cal c γ S) (fun γ S => exs b γ S) 100000 γ S
  | .never, _, _ => .bad
def exs : List St → Gm → Sto → Fl
  | [], γ, S => .nx γ S
  | s :: r, γ, S => match ex s γ S with
    | .nx γ' S' => exs r γ' S'
    | o => o
end
end
mutual
def D.low (n : Nat) : D → Bool
  | .loc m => decide (m < n)
  | .lst xs => D.lows n xs
  | .tup xs => D.lows n xs
  | .obj _ _ xs => D.lows n xs
  | _ => true
def D.lows (n : Nat) : List D → Bool
  | [] => true
  | d :: ds => d.low n && D.lows n ds
end
def SO.low (n : Nat) : SO → Bool
  | .lst xs => D.lows n xs
  | .ins _ _ xs => D.lows n xs
  | .dead => true
/-- what a call has made and nobody sees is dropped -/
def trim (n : Nat) (d : D) (S : Sto) : Sto := if S.length ≤ n then S else if d.low n && (S.take n).all (SO.low n) then S.take n else S
structure Fn where
  np : Nat
  nv : Nat
  body : List St
/-- the end of a def's body -/
def fin (n : Nat) : Fl → Out D
  | .nx _ S' => .ok .non (trim n .non S')
  | .ret d S' => .ok d (trim n d S')
  | .exc c ds S' => .exc c ds S'
  | .bad => .bad
/-- a call, by at most n calls in one another -/
def callN (P : List Fn) : Nat → Nat → List D → Sto → Out D
  | 0, _, _, _ => .bad
  | n + 1, f, ds, S => match P[f]? with
    | none => .bad
    | some fn => if ds.length = fn.np then fin S.length (exs (callN P n) fn.body (ds.map some ++ List.replicate (fn.nv - fn.np) none) S) else .bad
theorem trim_self (d : D) (S : Sto) : trim S.length d S = S := by
  unfold trim
  rw [if_pos (Nat.le_refl _)]
theorem callN_eq {P : List Fn} {n f : Nat} {fn : Fn} {ds : List D} {S : Sto} (h : P[f]? = some fn) (hl : ds.length = fn.np) : callN P (n + 1) f ds S = fin S.length (exs (callN P n) fn.body (ds.map some ++ List.replicate (fn.nv - fn.np) none) S) := by
  unfold callN
  rw [h]
  exact if_pos hl
/-- a call that leaves the store as it was -/
theorem call_pure {P : List Fn} {n f : Nat} {fn : Fn} {ds : List D} {S : Sto} {d : D} (h : P[f]? = some fn) (hl : ds.length = fn.np) (e : exs (callN P n) fn.body (ds.map some ++ List.replicate (fn.nv - fn.np) none) S = .ret d S) : callN P (n + 1) f ds S = .ok d S := by
  rw [callN_eq h hl, e]
  show Out.ok d (trim S.length d S) = _
  rw [trim_self]
/-- .. that leaves a store as long -/
theorem call_same {P : List Fn} {n f : Nat} {fn : Fn} {ds : List D} {S S' : Sto} {d : D} (h : P[f]? = some fn) (hl : ds.length = fn.np) (hs : S'.length = S.length) (e : exs (callN P n) fn.body (ds.map some ++ List.replicate (fn.nv - fn.np) none) S = .ret d S') : callN P (n + 1) f ds S = .ok d S' := by
  rw [callN_eq h hl, e]
  show Out.ok d (trim S.length d S') = _
  rw [← hs, trim_self]
end Itp
namespace Itp
open PySem PySem.Spec PyProof.Rows L2
/-! ### judgements over the evaluator -/
section
variable {K : PySem.W.Frag} {g : Gb} {α α' : Nat → Option Addr} {F F' R : Hp} {X : Cx}
def Slots (K : PySem.W.Frag) (g : Gb) (α : Nat → Option Addr) (F : Hp) (γ : Gm) (σ : L2.St) : Prop :=
  γ.length = σ.length ∧ ∀ (i : Nat) d, γ[i]? = some (some d) → ∃ v, σ[i]? = some (some v) ∧ Rep K g α F d v
theorem Slots.mono {γ : Gm} {σ : L2.St} (e : Ext α F α' F') (h : Slots K g α F γ σ) : Slots K g α' F' γ σ :=
  ⟨h.1, fun i d q => let ⟨v, a, b⟩ := h.2 i d q; ⟨v, a, Rep.mono e _ _ b⟩⟩
theorem Slots.set {γ : Gm} {σ : L2.St} {i : Nat} {d : D} {v : V} (h : Slots K g α F γ σ) (r : Rep K g α F d v) : Slots K g α F (γ.set i (some d)) (σ.set i (some v)) := by
  refine ⟨by simp [h.1], fun j e q => ?_⟩
  by_cases hj : i = j
  · subst hj
    by_cases hl : i < γ.length
    · rw [List.getElem?_set_self hl] at q
      have q := Option.some.inj (Option.some.inj q)
      subst q
      exact ⟨v, by rw [List.getElem?_set_self (h.1 ▸ hl)], r⟩
    · rw [List.getElem?_eq_none (by simpa using hl)] at q; cases q
  · rw [List.getElem?_set_ne hj] at q
    obtain ⟨w, a, b⟩ := h.2 j e q
    exact ⟨w, by rw [List.getElem?_set_ne hj]; exact a, b⟩
theorem Slots.unset {γ : Gm} {σ : L2.St} {i : Nat} (h : Slots K g α F γ σ) : Slots K g α F (γ.set i none) (σ.set i none) := by
  refine ⟨by simp [h.1], fun j e q => ?_⟩
  by_cases hj : i = j
  · subst hj
    by_cases hl : i < γ.length
    · rw [List.getElem?_set_self hl] at q
      cases q
    · rw [List.getElem?_eq_none (by simpa using hl)] at q; cases q
  · rw [List.getElem?_set_ne hj] at q
    obtain ⟨w, a, b⟩ := h.2 j e q
    exact ⟨w, by rw [List.getElem?_set_ne hj]; exact a, b⟩
theorem Slots.wipe {γ : Gm} {σ : L2.St} (h : Slots K g α F γ σ) : ∀ vs : List Nat, Slots K g α F (wipeG γ vs) (L2.wipe σ vs)
  | [] => h
  | v :: vs => (Slots.wipe h vs).unset
/-- behind an expression: rep tells what its value stands for -/
def Aft (K : PySem.W.Frag) (g : Gb) (R : Hp) {β ρ : Type} (rep : (Nat → Option Addr) → Hp → β → ρ → Prop) (α : Nat → Option Addr) (F : Hp) (o : Out β) (Q : ρ → Hp → Prop) : Prop := match o with
  | .ok b S => ∀ r H α' F', Ext α F α' F' → World K g R α' F' S H → rep α' F' b r → Q r H
  | _ => False
theorem Aft.ext {β ρ : Type} {rep : (Nat → Option Addr) → Hp → β → ρ → Prop} {o : Out β} {Q : ρ → Hp → Prop} (e : Ext α F α' F') (h : Aft K g R rep α F o Q) : Aft K g R rep α' F' o Q := by
  cases o with
  | ok b S => exact fun r H α2 F2 e2 => h r H α2 F2 (e.trans e2)
  | exc => exact h
  | bad => exact h
theorem Aft.bind {β δ ρ τ : Type} {rep : (Nat → Option Addr) → Hp → β → ρ → Prop} {rep2 : (Nat → Option Addr) → Hp → δ → τ → Prop} {o : Out β} {k : β → Sto → Out δ} {Q : τ → Hp → Prop} {Q1 : ρ → Hp → Prop}
    (h : Aft K g R rep2 α F (o.bind k) Q) (f : ∀ b S r H α' F', Ext α F α' F' → World K g R α' F' S H → rep α' F' b r → Aft K g R rep2 α' F' (k b S) Q → Q1 r H) : Aft K g R rep α F o Q1 := by
  cases o with
  | ok b S => exact fun r H α2 F2 e2 w2 r2 => f b S r H α2 F2 e2 w2 r2 (Aft.ext e2 h)
  | exc => exact h
  | bad => exact h
theorem Aft.mono {β ρ : Type} {rep : (Nat → Option Addr) → Hp → β → ρ → Prop} {o : Out β} {Q Q' : ρ → Hp → Prop} (h : Aft K g R rep α F o Q) (q : ∀ r H, Q r H → Q' r H) : Aft K g R rep α F o Q' := by
  cases o with
  | ok b S => exact fun r H α2 F2 e2 w2 r2 => q _ _ (h r H α2 F2 e2 w2 r2)
  | exc => exact h
  | bad => exact h
def tG (K : PySem.W.Frag) (g : Gb) {β ρ : Type} (rep : (Nat → Option Addr) → Hp → β → ρ → Prop) (m : Gm → Sto → Out β) (σ : L2.St) (H : Hp) (Q : ρ → Hp → Prop) : Prop :=
  ∃ γ S α F R, Slots K g α F γ σ ∧ World K g R α F S H ∧ Aft K g R rep α F (m γ S) Q
abbrev tI (K : PySem.W.Frag) (g : Gb) (m : Gm → Sto → Out D) : TE := tG K g (Rep K g) m
abbrev tIs (K : PySem.W.Frag) (g : Gb) (m : Gm → Sto → Out (List D)) : TA := tG K g (Reps K g) m
abbrev tIo (K : PySem.W.Frag) (g : Gb) (m : Gm → Sto → Out (Option Int)) : TO := tG K g (fun _ _ a b => a = b) m
abbrev tIb (K : PySem.W.Frag) (g : Gb) (m : Gm → Sto → Out Bool) : TT := tG K g (fun _ _ a b => a = b) m
theorem tG.bind {β δ ρ τ : Type} {rep : (Nat → Option Addr) → Hp → β → ρ → Prop} {rep2 : (Nat → Option Addr) → Hp → δ → τ → Prop} {m : Gm → Sto → Out β} {k : Gm → β → Sto → Out δ} {σ : L2.St} {H : Hp} {Q : τ → Hp → Prop} {Q1 : ρ → Hp → Prop}
    (h : tG K g rep2 (fun γ S => (m γ S).bind (k γ)) σ H Q) (f : ∀ γ b S r H α F R, Slots K g α F γ σ → World K g R α F S H → rep α F b r → Aft K g R rep2 α F (k γ b S) Q → Q1 r H) : tG K g rep m σ H Q1 := by
  obtain ⟨γ, S, α, F, R, s, w, a⟩ := h
  exact ⟨γ, S, α, F, R, s, w, Aft.bind a fun b S r H α' F' e w' r' a' => f γ b S r H α' F' R (s.mono e) w' r' a'⟩
theorem _root_.L2.PE.imp {e : Expr} {t t' : TE} (h : PE X e t) (f : ∀ σ H Q, t' σ H Q → t σ H Q) : PE X e t' := ⟨fun pins s σ H Q I q => h.run pins s σ H Q I (f σ H Q q)⟩
theorem _root_.L2.PT.imp {e : Expr} {t t' : TT} (h : PT X e t) (f : ∀ σ H Q, t' σ H Q → t σ H Q) : PT X e t' := ⟨fun pins s σ H Q I q => h.run pins s σ H Q I (f σ H Q q)⟩
theorem _root_.L2.PA.imp {e : List Expr} {t t' : TA} (h : PA X e t) (f : ∀ σ H Q, t' σ H Q → t σ H Q) : PA X e t' := ⟨fun pos pins s σ H Q I q => h.run pos pins s σ H Q I (f σ H Q q)⟩
theorem _root_.L2.PO.imp {e : Option Expr} {t t' : TO} (h : PO X e t) (f : ∀ σ H Q, t' σ H Q → t σ H Q) : PO X e t' := ⟨fun pins s σ H Q I q => h.run pins s σ H Q I (f σ H Q q)⟩
end
/-! ### values -/
section
variable {K : PySem.W.Frag} {g : Gb} {α : Nat → Option Addr} {F H R : Hp} {S : Sto} {X : Cx}
theorem lst_of (w : World K g R α F S H) {d : D} {v : V} {xs : List D} (r : Rep K g α F d v) (e : lstOf d S = some xs) : ∃ a vs, v = .ref a ∧ H a = some (.lst vs) ∧ Reps K g α F xs vs := by
  cases d with
  | lst ys =>
    have e : ys = xs := Option.some.inj e
    subst e
    obtain ⟨a, vs, h1, h2, h3⟩ := r
    exact ⟨a, vs, h1, w.fz _ _ h2, h3⟩
  | loc n =>
    obtain ⟨a, h1, h2⟩ := r
    have e : (match S[n]? with | some (.lst xs) => some xs | _ => none) = some xs := e
    cases q : S[n]? with
    | none => rw [q] at e; cases e
    | some o =>
      cases o with
      | lst ys =>
        rw [q] at e
        have e : ys = xs := Option.some.inj e
        subst e
        obtain ⟨b, vs, k1, k2, k3, k4⟩ := w.st n _ q
        rw [h2] at k1; cases k1
        exact ⟨a, vs, h1, k3, k4⟩
      | ins c ns ds => rw [q] at e; cases e
      | dead => rw [q] at e; cases e
  | non => cases e
  | bl b => cases e
  | int i => cases e
  | str x => cases e
  | tup xs => cases e
  | obj c ns ds => cases e
  | scr ns => cases e
theorem size16 : sizeLine = 16777216 := sizeLine_eq
theorem okS_len {x : Str} (h : okS x = true) : x.length ≤ sizeLine := by
  unfold okS at h
  rw [Bool.and_eq_true] at h
  rw [size16]
  exact of_decide_eq_true h.2
theorem tru_of (w : World X.K g R α F S H) {d : D} {v : V} {k : Bool} (r : Rep X.K g α F d v) (e : truD d S = some k) : TruV X.K v H k := by
  cases d with
  | non => cases r; exact (Option.some.inj e).symm
  | bl b => cases r; exact (Option.some.inj e).symm
  | int i => cases r; exact (Option.some.inj e).symm
  | str x => obtain ⟨rfl, h⟩ := r; exact ⟨okS_len h, (Option.some.inj e).symm⟩
  | lst xs =>
    obtain ⟨a, vs, rfl, h2, h3⟩ := r
    refine .inl ⟨vs, SqL.of (w.fz _ _ h2), ?_⟩
    rw [← Option.some.inj e]
    have := h3.length
    cases xs <;> cases vs <;> simp_all
  | tup xs =>
    obtain ⟨a, vs, rfl, h2, h3⟩ := r
    refine .inr (.inl ⟨vs, SqT.of (w.fz _ _ h2), ?_⟩)
    rw [← Option.some.inj e]
    have := h3.length
    cases xs <;> cases vs <;> simp_all
  | loc n =>
    have e : (match S[n]? with | some (.lst xs) => some !xs.isEmpty | _ => none) = some k := e
    cases q : S[n]? with
    | none => rw [q] at e; cases e
    | some o =>
      cases o with
      | lst xs =>
        rw [q] at e
        obtain ⟨a, vs, rfl, h2, h3⟩ := lst_of (xs := xs) w r (by show (match S[n]? with | some (.lst xs) => some xs | _ => none) = _; rw [q])
        refine .inl ⟨vs, SqL.of h2, ?_⟩
        rw [← Option.some.inj e]
        have := h3.length
        cases xs <;> cases vs <;> simp_all
      | ins c ns ds => rw [q] at e; cases e
      | dead => rw [q] at e; cases e
  | obj c ns ds => cases e
  | scr ns => cases e
mutual
theorem dp_of (w : World K g R α F S H) : ∀ (n : Nat) (d : D) (v : V) (p : PyData), Rep K g α F d v → toP n d = some p → Dp K H v p ∧ p.canLay0 = true ∧ p.depth ≤ n
  | n, .non, v, p, r, e => by cases r; cases n <;> (cases e; exact ⟨.non, rfl, Nat.zero_le _⟩)
  | n, .bl b, v, p, r, e => by cases r; cases n <;> (cases e; exact ⟨.bl b, rfl, Nat.zero_le _⟩)
  | n, .int b, v, p, r, e => by cases r; cases n <;> (cases e; exact ⟨.int b, rfl, Nat.zero_le _⟩)
  | n, .str x, v, p, r, e => by
    obtain ⟨rfl, h⟩ := r
    have h' : PyData.canLay0 (.str x) = true := by
      unfold okS at h
      rw [Bool.and_eq_true] at h
      exact h.1
    cases n <;> (cases e; exact ⟨.str x, h', Nat.zero_le _⟩)
  | 0, .lst xs, v, p, r, e => by cases e
  | 0, .tup xs, v, p, r, e => by cases e
  | n + 1, .lst xs, v, p, r, e => by
    obtain ⟨a, vs, rfl, h2, h3⟩ := r
    have e : (toPs n xs).map PyData.list = some p := e
    cases q : toPs n xs with
    | none => rw [q] at e; cases e
    | some ps =>
      rw [q] at e
      cases e
      obtain ⟨k1, k2, k3⟩ := dps_of w n xs vs ps h3 q
      exact ⟨.lst (SqL.of (w.fz _ _ h2)) k1, k2, Nat.succ_le_succ k3⟩
  | n + 1, .tup xs, v, p, r, e => by
    obtain ⟨a, vs, rfl, h2, h3⟩ := r
    have e : (toPs n xs).map PyData.tuple = some p := e
    cases q : toPs n xs with
    | none => rw [q] at e; cases e
    | some ps =>
      rw [q] at e
      cases e
      obtain ⟨k1, k2, k3⟩ := dps_of w n xs vs ps h3 q
      exact ⟨.tup (SqT.of (w.fz _ _ h2)) k1, k2, Nat.succ_le_succ k3⟩
  | 0, .obj c ns ds, v, p, r, e => by cases e
  | 0, .loc m, v, p, r, e => by cases e
  | 0, .scr m, v, p, r, e => by cases e
  | n + 1, .obj c ns ds, v, p, r, e => by cases e
  | n + 1, .loc m, v, p, r, e => by cases e
  | n + 1, .scr m, v, p, r, e => by cases e
theorem dps_of (w : World K g R α F S H) : ∀ (n : Nat) (ds : List D) (vs : List V) (ps : List PyData), Reps K g α F ds vs → toPs n ds = some ps → DpAll K H vs ps ∧ PyData.canLayAll0 ps = true ∧ PyData.depthAll ps ≤ n
  | n, [], vs, ps, r, e => by cases r; cases n <;> (cases e; exact ⟨.nil, rfl, Nat.zero_le _⟩)
  | n, d :: ds, vs, ps, r, e => by
    obtain ⟨v, rs, rfl, h1, h2⟩ := r
    have e : (match toP n d, toPs n ds with | some p, some ps => some (p :: ps) | _, _ => none) = some ps := by
      cases n <;> exact e
    cases q1 : toP n d with
    | none => rw [q1] at e; cases e
    | some p =>
      cases q2 : toPs n ds with
      | none => rw [q1, q2] at e; cases e
      | some ps' =>
        rw [q1, q2] at e
        cases e
        obtain ⟨a1, a2, a3⟩ := dp_of w n d v p h1 q1
        obtain ⟨b1, b2, b3⟩ := dps_of w n ds rs ps' h2 q2
        refine ⟨.cons a1 b1, ?_, ?_⟩
        · show (p.canLay0 && PyData.canLayAll0 ps') = true
          rw [a2, b2]; rfl
        · show max p.depth (PyData.depthAll ps') ≤ n
          omega
end
theorem shaped_of {p : PyData} {n : Nat} (h : p.canLay0 = true) (d : p.depth ≤ n) (hn : n ≤ 64) : SeqAt.shaped p = true := by
  unfold SeqAt.shaped
  rw [h, decide_eq_true (show p.depth ≤ 64 by omega)]
  rfl
end
end Itp
namespace Itp
open PySem PySem.Spec PyProof.Rows L2
section
variable {g : Gb} {α : Nat → Option Addr} {F H R : Hp} {S : Sto} {X : Cx} {x y d : D} {vx vy v : V} {Q : VK}
/-- the end of a value that needs no object -/
theorem Aft.now {K : PySem.W.Frag} (h : Aft K g R (Rep K g) α F (.ok d S) Q) (w : World K g R α F S H) (r : Rep K g α F d v) : Q v H := h v H α F Ext.refl w r
theorem Aft.newT {K : PySem.W.Frag} {xs : List D} {vs : List V} (h : Aft K g R (Rep K g) α F (.ok (.tup xs) S) Q) (w : World K g R α F S H) (r : Reps K g α F xs vs) : ∀ p, H p = none → Q (.ref p) (upd H p (.tup vs)) := fun p hp => by
  obtain ⟨w', e⟩ := w.lay (o := .tup vs) hp
  exact h _ _ α _ e w' ⟨p, vs, rfl, upd_same, Reps.mono e _ _ r⟩
theorem Aft.newL {K : PySem.W.Frag} {xs : List D} {vs : List V} (h : Aft K g R (Rep K g) α F (.ok (.lst xs) S) Q) (w : World K g R α F S H) (r : Reps K g α F xs vs) : ∀ p, H p = none → Q (.ref p) (upd H p (.lst vs)) := fun p hp => by
  obtain ⟨w', e⟩ := w.lay (o := .lst vs) hp
  exact h _ _ α _ e w' ⟨p, vs, rfl, upd_same, Reps.mono e _ _ r⟩
theorem Aft.newS {K : PySem.W.Frag} {xs : List D} {vs : List V} (h : Aft K g R (Rep K g) α F (.ok (.loc S.length) (S ++ [.lst xs])) Q) (w : World K g R α F S H) (r : Reps K g α F xs vs) : ∀ p, H p = none → Q (.ref p) (upd H p (.lst vs)) := fun p hp => by
  have e := w.push_ext (p := p)
  have hp' : pushA α S.length p S.length = some p := by unfold pushA; rw [if_pos rfl]
  exact h _ _ _ _ e (w.push hp ⟨p, vs, hp', w.fnone hp, upd_same, Reps.mono e _ _ r⟩) ⟨p, rfl, hp'⟩
theorem okS_app {a b : Str} (ha : okS a = true) (hb : okS b = true) (hl : a.length + b.length ≤ 16777216) : okS (a ++ b) = true := by
  unfold okS at *
  rw [Bool.and_eq_true] at *
  refine ⟨?_, decide_eq_true ?_⟩
  · show (a.cps ++ b.cps).all _ = true
    rw [Array.all_append, ha.1, hb.1]; rfl
  · show (a.cps ++ b.cps).size ≤ _
    rw [Array.size_append]; exact hl
theorem okS_sub {a b : Str} (ha : okS a = true) (h : ∀ c ∈ b.cps, c ∈ a.cps) (hl : b.length ≤ a.length) : okS b = true := by
  unfold okS at *
  rw [Bool.and_eq_true] at *
  refine ⟨?_, decide_eq_true (Nat.le_trans hl (of_decide_eq_true ha.2))⟩
  rw [Array.all_eq_true'] at *
  exact fun c hc => ha.1 c (h c hc)
/-! ### operators -/
def BO.py : BO → Operator
  | .add => .Add | .sub => .Sub | .mul => .Mult | .fdiv => .FloorDiv | .mod => .Mod | .pow => .Pow
def rBin (K : PySem.W.Frag) : BO → R2
  | .add => fun x y H Q => (∃ i j, x = .int i ∧ y = .int j ∧ Q (.int (i + j)) H) ∨ (∃ i j, x = .str i ∧ y = .str j ∧ i.length + j.length ≤ sizeLine ∧ Q (.str (i ++ j)) H) ∨ rCatA K x y H Q ∨ rCat x y H Q
  | .sub => rI0 fun i j => .int (i - j)
  | .mul => rI CMul fun i j => .int (i * j)
  | .fdiv => rI CDiv fun i j => .int (i / j)
  | .mod => rI (fun _ j => 0 < j) fun i j => .int (i % j)
  | .pow => rI CPow fun i j => .int (i ^ j.toNat)
theorem op_bin : ∀ o : BO, OpR X (binaryOp o.py) (rBin X.K o)
  | .add => op_add.or (op_add_str.or (op_catA.or op_cat))
  | .sub => op_sub
  | .mul => op_mul
  | .fdiv => op_fdiv
  | .mod => op_mod
  | .pow => op_pow
theorem c64_ok {i : Int} (h : c64 i = true) : -(2 ^ 64) < i ∧ i < 2 ^ 64 := by
  unfold c64 at h
  rw [Bool.and_eq_true] at h
  exact ⟨of_decide_eq_true h.1, of_decide_eq_true h.2⟩
theorem ofO_some {β : Type} {K : PySem.W.Frag} {ρ : Type} {rep : (Nat → Option Addr) → Hp → β → ρ → Prop} {o : Option β} {Q : ρ → Hp → Prop} (h : Aft K g R rep α F (ofO o S) Q) : ∃ b, o = some b ∧ Aft K g R rep α F (.ok b S) Q := by
  cases o with
  | none => exact False.elim h
  | some b => exact ⟨b, rfl, h⟩
theorem bin_lst {a b : D} {va vb : V} (w : World X.K g R α F S H) (ra : Rep X.K g α F a va) (rb : Rep X.K g α F b vb) {xs ys : List D} (ea : lstOf a S = some xs) (eb : lstOf b S = some ys) (hl : xs.length + ys.length ≤ 16777216)
    (h : Aft X.K g R (Rep X.K g) α F (.ok (.lst (xs ++ ys)) S) Q) : rCat va vb H Q := by
  obtain ⟨p, vs, rfl, h2, h3⟩ := lst_of w ra ea
  obtain ⟨p', vs', rfl, k2, k3⟩ := lst_of w rb eb
  exact ⟨p, p', vs, vs', rfl, rfl, h2, k2, by rw [size16, ← h3.length, ← k3.length]; exact hl, h.newL w (h3.app k3)⟩
theorem bin_val (o : BO) (w : World X.K g R α F S H) (rx : Rep X.K g α F x vx) (ry : Rep X.K g α F y vy) (h : Aft X.K g R (Rep X.K g) α F (ofO (binD o x y S) S) Q) : rBin X.K o vx vy H Q := by
  obtain ⟨d, e, h⟩ := ofO_some h
  cases o with
  | sub =>
    unfold binD at e
    split at e
    all_goals first | (contradiction) | (cases e; done) | skip
    cases rx; cases ry
    have e := Option.some.inj e
    subst e
    exact ⟨_, _, rfl, rfl, h.now w rfl⟩
  | mul =>
    unfold binD at e
    split at e
    all_goals first | (cases e; done) | (contradiction) | skip
    cases rx; cases ry
    split at e
    · rename_i hc
      cases e
      refine ⟨_, _, rfl, rfl, ?_, h.now w rfl⟩
      rcases Bool.or_eq_true_iff.mp hc with hc | hc
      · exact .inl (c64_ok hc)
      · exact .inr (c64_ok hc)
    · cases e
  | fdiv =>
    unfold binD at e
    split at e
    all_goals first | (cases e; done) | (contradiction) | skip
    cases rx; cases ry
    split at e
    · rename_i hc
      cases e
      exact ⟨_, _, rfl, rfl, hc, h.now w rfl⟩
    · cases e
  | mod =>
    unfold binD at e
    split at e
    all_goals first | (cases e; done) | (contradiction) | skip
    cases rx; cases ry
    split at e
    · rename_i hc
      cases e
      exact ⟨_, _, rfl, rfl, hc, h.now w rfl⟩
    · cases e
  | pow =>
    unfold binD at e
    split at e
    all_goals first | (cases e; done) | (contradiction) | skip
    cases rx; cases ry
    split at e
    · rename_i hc
      cases e
      exact ⟨_, _, rfl, rfl, ⟨hc.1, by omega, hc.2.2⟩, h.now w rfl⟩
    · cases e
  | add =>
    unfold binD at e
    split at e
    all_goals first | (contradiction) | skip
    · cases rx; cases ry; cases e
      exact .inl ⟨_, _, rfl, rfl, h.now w rfl⟩
    · obtain ⟨rfl, ox⟩ := rx
      obtain ⟨rfl, oy⟩ := ry
      split at e
      · rename_i hc
        cases e
        exact .inr (.inl ⟨_, _, rfl, rfl, by rw [size16]; exact hc, h.now w ⟨rfl, okS_app ox oy hc⟩⟩)
      · cases e
    · obtain ⟨a, vs, rfl, h2, h3⟩ := rx
      obtain ⟨b, ws, rfl, k2, k3⟩ := ry
      split at e
      · rename_i hc
        cases e
        have l1 := h3.length
        have l2 := k3.length
        refine .inr (.inr (.inl ⟨a, b, vs, ws, rfl, rfl, SqT.of (w.fz _ _ h2), SqT.of (w.fz _ _ k2), by rw [size16, ← l1, ← l2]; exact hc, fun e => ?_, fun _ e => ?_, fun _ _ => h.newT w (h3.app k3)⟩))
        · subst e
          have : (_ : List D) = [] := List.eq_nil_of_length_eq_zero l1
          subst this
          exact h.now w ⟨b, ws, rfl, k2, k3⟩
        · subst e
          have : (_ : List D) = [] := List.eq_nil_of_length_eq_zero l2
          subst this
          exact h.now w ⟨a, vs, rfl, h2, by rw [List.append_nil]; exact h3⟩
      · cases e
    · split at e
      · rename_i xs ys q1 q2
        split at e
        · rename_i hc
          cases e
          exact .inr (.inr (.inr (bin_lst w rx ry q1 q2 hc h)))
        · cases e
      · cases e
end
section
variable {g : Gb} {X : Cx} {a b : Expr} {ma mb : Gm → Sto → Out D} {pos : Pos}
/-- two expressions, then what their values ask -/
theorem tOp_of {r : R2} {k : D → D → Sto → Out D} {σ : L2.St} {H : Hp} {Q : VK} (h : tI X.K g (fun γ S => (ma γ S).bind fun x S => (mb γ S).bind fun y S => k x y S) σ H Q)
    (f : ∀ x y vx vy S H α F R, World X.K g R α F S H → Rep X.K g α F x vx → Rep X.K g α F y vy → Aft X.K g R (Rep X.K g) α F (k x y S) Q → r vx vy H Q) : tOp r (tI X.K g ma) (tI X.K g mb) σ H Q := by
  refine tG.bind (k := fun γ x S => (mb γ S).bind fun y S => k x y S) h fun γ x S vx H α F R s w rx h => ?_
  exact ⟨γ, S, α, F, R, s, w, Aft.bind h fun y S vy H α' F' e w' ry h => f x y vx vy S H α' F' R w' (Rep.mono e _ _ rx) ry h⟩
theorem je_bin (o : BO) (ha : PE X a (tI X.K g ma)) (hb : PE X b (tI X.K g mb)) : PE X (.BinOp a o.py b pos) (tI X.K g fun γ S => (ma γ S).bind fun x S => (mb γ S).bind fun y S => ofO (binD o x y S) S) :=
  (pe_op (op_bin o) ha hb).imp fun σ H Q h => tOp_of h fun x y vx vy S H α F R w rx ry h => bin_val o w rx ry h
end
end Itp
namespace Itp
open PySem PySem.Spec PyProof.Rows L2
section
variable {g : Gb} {α : Nat → Option Addr} {F H R : Hp} {S : Sto} {X : Cx} {x y d : D} {vx vy v : V} {Q : VK}
/-! ### comparisons -/
def CO.py : CO → CmpOp
  | .eq => .Eq | .ne => .NotEq | .lt => .Lt | .le => .LtE | .gt => .Gt | .ge => .GtE | .isN => .Is | .notN => .IsNot | .inn => .In | .nin => .NotIn
def rCmp (K : PySem.W.Frag) : CO → R2
  | .eq => rEqD K
  | .ne => rNeD K
  | .lt => rI0 fun i j => .bl (decide (i < j))
  | .le => rI0 fun i j => .bl (decide (i ≤ j))
  | .gt => rI0 fun i j => .bl (decide (j < i))
  | .ge => rI0 fun i j => .bl (decide (j ≤ i))
  | .isN => fun x y H Q => y = .non ∧ Q (.bl (decide (x = .non))) H
  | .notN => fun x y H Q => y = .non ∧ Q (.bl (!decide (x = .non))) H
  | .inn => fun x y H Q => (∃ (c : Nat) (z : Str), x = .str ⟨#[c]⟩ ∧ y = .str z ∧ Q (.bl (decide (c ∈ z.cps.toList))) H) ∨ rInD K x y H Q
  | .nin => fun x y H Q => (∃ (c : Nat) (z : Str), x = .str ⟨#[c]⟩ ∧ y = .str z ∧ Q (.bl (!decide (c ∈ z.cps.toList))) H) ∨ rNotInD K x y H Q
theorem op_cmp (hu : X.A.units + 65 < cLine) : ∀ o : CO, OpR X (compareOp o.py) (rCmp X.K o)
  | .eq => op_eqD (by omega)
  | .ne => op_neD (by omega)
  | .lt => op_lt
  | .le => op_le
  | .gt => op_gt
  | .ge => op_ge
  | .isN => op_isN
  | .notN => op_notN
  | .inn => op_in_sign.or (op_inD hu)
  | .nin => op_notIn_sign.or (op_notInD hu)
theorem Rep.isNon {K : PySem.W.Frag} (r : Rep K g α F d v) : decide (v = .non) = isNon d := by
  cases d with
  | non => cases r; rfl
  | bl b => cases r; rfl
  | int b => cases r; rfl
  | str b => obtain ⟨rfl, _⟩ := r; rfl
  | lst b => obtain ⟨a, vs, rfl, _⟩ := r; rfl
  | tup b => obtain ⟨a, vs, rfl, _⟩ := r; rfl
  | obj c ns ds => obtain ⟨a, dx, vs, rfl, _⟩ := r; rfl
  | loc n => obtain ⟨a, rfl, _⟩ := r; rfl
  | scr n => obtain ⟨a, rfl, _⟩ := r; rfl
theorem eq_val {K : PySem.W.Frag} {k : Bool} (w : World K g R α F S H) (rx : Rep K g α F x vx) (ry : Rep K g α F y vy) (e : eqD x y = some k) : ∃ d e, Dp K H vx d ∧ Dp K H vy e ∧ SeqAt.shaped d = true ∧ SeqAt.shaped e = true ∧ PyData.eqv d e = k := by
  unfold eqD at e
  cases q1 : toP 20 x with
  | none => rw [q1] at e; cases e
  | some p =>
    cases q2 : toP 20 y with
    | none => rw [q1, q2] at e; cases e
    | some q =>
      rw [q1, q2] at e
      obtain ⟨a1, a2, a3⟩ := dp_of w _ _ _ _ rx q1
      obtain ⟨b1, b2, b3⟩ := dp_of w _ _ _ _ ry q2
      exact ⟨p, q, a1, b1, shaped_of a2 a3 (by decide), shaped_of b2 b3 (by decide), Option.some.inj e⟩
theorem in_val {K : PySem.W.Frag} {k : Bool} (w : World K g R α F S H) (rx : Rep K g α F x vx) (ry : Rep K g α F y vy) (e : inD x y S = some k) :
    (∃ (c : Nat) (z : Str), vx = .str ⟨#[c]⟩ ∧ vy = .str z ∧ decide (c ∈ z.cps.toList) = k) ∨ ∃ d ds, Dp K H vx d ∧ Dp K H vy (.list ds) ∧ SeqAt.shaped d = true ∧ SeqAt.shaped (.list ds) = true ∧ (ds.any fun z => PyData.eqv z d) = k := by
  have go : ∀ ys, lstOf y S = some ys → (match toP 19 x, toPs 19 ys with | some p, some qs => some (qs.any fun z => PyData.eqv z p) | _, _ => none) = some k →
      ∃ d ds, Dp K H vx d ∧ Dp K H vy (.list ds) ∧ SeqAt.shaped d = true ∧ SeqAt.shaped (.list ds) = true ∧ (ds.any fun z => PyData.eqv z d) = k := by
    intro ys hy e
    obtain ⟨a, vs, rfl, h2, h3⟩ := lst_of w ry hy
    cases q1 : toP 19 x with
    | none => rw [q1] at e; cases e
    | some p =>
      cases q2 : toPs 19 ys with
      | none => rw [q1, q2] at e; cases e
      | some qs =>
        rw [q1, q2] at e
        obtain ⟨a1, a2, a3⟩ := dp_of w _ _ _ _ rx q1
        obtain ⟨b1, b2, b3⟩ := dps_of w _ _ _ _ h3 q2
        exact ⟨p, qs, a1, .lst (SqL.of h2) b1, shaped_of a2 a3 (by decide), shaped_of (n := 20) (p := .list qs) b2 (Nat.succ_le_succ b3) (by decide), Option.some.inj e⟩
  by_cases hs : ∃ z, y = .str z
  · obtain ⟨z, rfl⟩ := hs
    by_cases hs' : ∃ z, x = .str z
    · obtain ⟨x', rfl⟩ := hs'
      obtain ⟨rfl, _⟩ := rx
      obtain ⟨rfl, _⟩ := ry
      have e : (if x'.length = 1 then some (decide (x'.cps.getD 0 0 ∈ z.cps.toList)) else none) = some k := e
      split at e
      · rename_i hl
        refine .inl ⟨x'.cps.getD 0 0, z, ?_, rfl, Option.some.inj e⟩
        have : x' = ⟨#[x'.cps.getD 0 0]⟩ := by
          obtain ⟨⟨l⟩⟩ := x'
          cases l with
          | nil => cases hl
          | cons c r =>
            cases r with
            | nil => rfl
            | cons c' r' => simp [Str.length] at hl
        exact congrArg V.str this
      · cases e
    · cases x <;> first | (cases e; done) | exact absurd ⟨_, rfl⟩ hs'
  · have e : (match lstOf y S with | some ys => (match toP 19 x, toPs 19 ys with | some p, some qs => some (qs.any fun z => PyData.eqv z p) | _, _ => none) | none => none) = some k := by
      cases y <;> first | exact e | exact absurd ⟨_, rfl⟩ hs
    cases q : lstOf y S with
    | none => rw [q] at e; cases e
    | some ys => rw [q] at e; exact .inr (go _ q e)
theorem cmp_val (o : CO) {k : Bool} (w : World X.K g R α F S H) (rx : Rep X.K g α F x vx) (ry : Rep X.K g α F y vy) (e : cmpD o x y S = some k) (h : Q (.bl k) H) : rCmp X.K o vx vy H Q := by
  cases o with
  | eq =>
    have e : eqD x y = some k := by unfold cmpD at e; exact e
    obtain ⟨d, d', h1, h2, h3, h4, h5⟩ := eq_val w rx ry e
    exact ⟨d, d', h1, h2, h3, h4, by rw [h5]; exact h⟩
  | ne =>
    have e : (eqD x y).map (!·) = some k := by unfold cmpD at e; exact e
    cases q : eqD x y with
    | none => rw [q] at e; cases e
    | some k' =>
      rw [q] at e
      cases e
      obtain ⟨d, d', h1, h2, h3, h4, h5⟩ := eq_val w rx ry q
      exact ⟨d, d', h1, h2, h3, h4, by rw [h5]; exact h⟩
  | lt => unfold cmpD at e; split at e <;> first | contradiction | (cases e; done) | skip
          all_goals (cases rx; cases ry; have e := Option.some.inj e; subst e; exact ⟨_, _, rfl, rfl, h⟩)
  | le => unfold cmpD at e; split at e <;> first | contradiction | (cases e; done) | skip
          all_goals (cases rx; cases ry; have e := Option.some.inj e; subst e; exact ⟨_, _, rfl, rfl, h⟩)
  | gt => unfold cmpD at e; split at e <;> first | contradiction | (cases e; done) | skip
          all_goals (cases rx; cases ry; have e := Option.some.inj e; subst e; exact ⟨_, _, rfl, rfl, h⟩)
  | ge => unfold cmpD at e; split at e <;> first | contradiction | (cases e; done) | skip
          all_goals (cases rx; cases ry; have e := Option.some.inj e; subst e; exact ⟨_, _, rfl, rfl, h⟩)
  | isN => unfold cmpD at e; split at e <;> first | contradiction | (cases e; done) | skip
           all_goals (have z : vy = V.non := ry; refine ⟨z, ?_⟩; rw [rx.isNon]; have e := Option.some.inj e; rw [← e] at h; exact h)
  | notN => unfold cmpD at e; split at e <;> first | contradiction | (cases e; done) | skip
            all_goals (have z : vy = V.non := ry; refine ⟨z, ?_⟩; rw [rx.isNon]; have e := Option.some.inj e; rw [← e] at h; exact h)
  | inn =>
    have e : inD x y S = some k := by unfold cmpD at e; exact e
    rcases in_val w rx ry e with ⟨c, z, h1, h2, h3⟩ | ⟨d, ds, h1, h2, h3, h4, h5⟩
    · exact .inl ⟨c, z, h1, h2, by rw [h3]; exact h⟩
    · exact .inr ⟨d, ds, h1, h2, h3, h4, by rw [h5]; exact h⟩
  | nin =>
    have e : (inD x y S).map (!·) = some k := by unfold cmpD at e; exact e
    cases q : inD x y S with
    | none => rw [q] at e; cases e
    | some k' =>
      rw [q] at e
      cases e
      rcases in_val w rx ry q with ⟨c, z, h1, h2, h3⟩ | ⟨d, ds, h1, h2, h3, h4, h5⟩
      · exact .inl ⟨c, z, h1, h2, by rw [h3]; exact h⟩
      · exact .inr ⟨d, ds, h1, h2, h3, h4, by rw [h5]; exact h⟩
/-! ### items and slices -/
theorem atI_rep {K : PySem.W.Frag} {ds : List D} {vs : List V} {i : Int} {d : D} (r : Reps K g α F ds vs) (e : atI ds i = some d) : ∃ v, atI vs i = some v ∧ Rep K g α F d v := by
  unfold atI at e ⊢
  rw [← r.length]
  cases q : ixN ds.length i with
  | none => rw [q] at e; cases e
  | some j => rw [q] at e; exact r.get e
theorem atI_mem {β : Type} {xs : List β} {i : Int} {c : β} (e : atI xs i = some c) : c ∈ xs := by
  unfold atI at e
  cases q : ixN xs.length i with
  | none => rw [q] at e; cases e
  | some j => rw [q] at e; exact List.mem_of_getElem? e
theorem idx_val (w : World X.K g R α F S H) (rx : Rep X.K g α F x vx) (ry : Rep X.K g α F y vy) (h0 : Aft X.K g R (Rep X.K g) α F (ofO (idxD x y S) S) Q) : rIx X.K vx vy H Q := by
  obtain ⟨d, e, h⟩ := ofO_some h0
  clear h0
  by_cases hy : ∃ i, y = .int i
  · obtain ⟨i, rfl⟩ := hy
    cases ry
    by_cases hs : ∃ z, x = .str z
    · obtain ⟨z, rfl⟩ := hs
      obtain ⟨rfl, ox⟩ := rx
      have e : (atI z.cps.toList i).map (fun c => D.str ⟨#[c]⟩) = some d := e
      cases q : atI z.cps.toList i with
      | none => rw [q] at e; cases e
      | some c =>
        rw [q] at e
        cases e
        refine .inr (.inr ⟨z, _, c, rfl, rfl, okS_len ox, q, h.now w ⟨rfl, okS_sub ox (fun c' hc => ?_) ?_⟩⟩)
        · have : c' = c := by simpa using hc
          subst this
          exact Array.mem_toList_iff.mp (atI_mem q)
        · show 1 ≤ z.cps.size
          have h1 := List.length_pos_of_mem (atI_mem q)
          rw [Array.length_toList] at h1
          exact h1
    · by_cases ht : ∃ xs, x = .tup xs
      · obtain ⟨xs, rfl⟩ := ht
        obtain ⟨a, vs, rfl, h2, h3⟩ := rx
        have e : atI xs i = some d := e
        obtain ⟨v, q1, q2⟩ := atI_rep h3 e
        exact .inr (.inl ⟨a, vs, _, v, rfl, rfl, SqT.of (w.fz _ _ h2), q1, h.now w q2⟩)
      · have e : (lstOf x S).bind (fun xs => atI xs i) = some d := by
          cases x <;> first | exact e | exact absurd ⟨_, rfl⟩ hs | exact absurd ⟨_, rfl⟩ ht
        cases q : lstOf x S with
        | none => rw [q] at e; cases e
        | some xs =>
          rw [q] at e
          obtain ⟨a, vs, rfl, h2, h3⟩ := lst_of w rx q
          obtain ⟨v, q1, q2⟩ := atI_rep h3 e
          exact .inl ⟨a, vs, _, v, rfl, rfl, SqL.of h2, q1, h.now w q2⟩
  · cases y <;> first | (cases e; done) | exact absurd ⟨_, rfl⟩ hy
def rSlc (K : PySem.W.Frag) : V → Option Int → Option Int → Hp → VK → Prop := fun x lo hi H Q => rSlL K x lo hi H Q ∨ rSlA K x lo hi H Q ∨ rSlS x lo hi H Q
theorem sl_any : SlR X (rSlc X.K) := sl_list.or (sl_tupA.or sl_str)
theorem cut_rep {K : PySem.W.Frag} {ds : List D} {vs : List V} (lo hi : Option Int) (r : Reps K g α F ds vs) : Reps K g α F (cutD ds lo hi) (cutV vs lo hi) := by
  unfold cutD cutV
  rw [r.length]
  exact (r.drop _).take _
theorem cut_ints (ns : List Int) (lo hi : Option Int) : cutV (ns.map V.int) lo hi = (cutD ns lo hi).map V.int := by
  unfold cutD cutV
  rw [List.length_map, List.map_take, List.map_drop]
theorem reps_ints {K : PySem.W.Frag} : ∀ ns : List Int, Reps K g α F (ns.map D.int) (ns.map V.int)
  | [] => rfl
  | n :: ns => ⟨.int n, _, rfl, rfl, reps_ints ns⟩
theorem okS_cut {z : Str} {lo hi : Option Int} (o : okS z = true) : okS (cutS z lo hi) = true := by
  refine okS_sub o (fun c hc => ?_) ?_
  · unfold cutS at hc
    have hc : c ∈ (z.cps.toList.drop (HT.sIx z.length 0 lo)).take (HT.sIx z.length z.length hi - HT.sIx z.length 0 lo) := by simpa using hc
    exact Array.mem_toList_iff.mp (List.mem_of_mem_drop (List.mem_of_mem_take hc))
  · unfold cutS
    show ((z.cps.toList.drop (HT.sIx z.length 0 lo)).take (HT.sIx z.length z.length hi - HT.sIx z.length 0 lo)).toArray.size ≤ z.cps.size
    rw [List.size_toArray, List.length_take, List.length_drop, Array.length_toList]
    omega
theorem slc_val {lo hi : Option Int} (w : World X.K g R α F S H) (rx : Rep X.K g α F x vx) (h0 : Aft X.K g R (Rep X.K g) α F (ofO (slcD x lo hi S) S) Q) : rSlc X.K vx lo hi H Q := by
  obtain ⟨d, e, h⟩ := ofO_some h0
  clear h0
  unfold slcD at e
  split at e
  · obtain ⟨rfl, ox⟩ := rx
    cases e
    exact .inr (.inr ⟨_, rfl, okS_len ox, h.now w ⟨rfl, okS_cut ox⟩⟩)
  · obtain ⟨a, vs, rfl, h2, h3⟩ := rx
    cases e
    refine .inr (.inl ⟨a, vs, rfl, SqT.of (w.fz _ _ h2), fun ⟨q1, q2⟩ => ?_, fun _ => h.newT w (cut_rep lo hi h3)⟩)
    refine h.now w ⟨a, vs, rfl, h2, ?_⟩
    unfold cutD
    rw [h3.length, q1, q2, List.drop_zero, Nat.sub_zero, ← h3.length, List.take_length]
    exact h3
  · obtain ⟨a, rfl, h2⟩ := rx
    cases e
    refine .inl ⟨a, _, rfl, w.sqL h2, ?_⟩
    rw [cut_ints]
    exact h.newL w (reps_ints _)
  · cases q : lstOf x S with
    | none => rw [q] at e; cases e
    | some xs =>
      rw [q] at e
      cases e
      obtain ⟨a, vs, rfl, h2, h3⟩ := lst_of w rx q
      exact .inl ⟨a, vs, rfl, SqL.of h2, h.newL w (cut_rep lo hi h3)⟩
/-! ### isinstance -/
def Ty.val (g : Gb) : Ty → V
  | .int => .ty "int" | .bool => .ty "bool" | .str => .ty "str" | .list => .ty "list" | .tuple => .ty "tuple" | .own c => .ref (g.cA c)
def Ty.py (g : Gb) : Ty → Value
  | .int => .type "int" | .bool => .type "bool" | .str => .type "str" | .list => .type "list" | .tuple => .type "tuple" | .own c => .ref (g.cA c)
theorem Ty.cls (g : Gb) (t : Ty) : ClsV (t.val g) (t.py g) := by cases t <;> first | exact .ty _ | exact .own _
/-- the classes of the program, as isinstance asks of them -/
structure IsOk (K : PySem.W.Frag) (g : Gb) (ncls : Nat) : Prop where
  cl : ∀ c, c < ncls → Cls K (g.cA c)
  ha : ∀ c, c < ncls → PySem.W.findIn K (.ref (g.cA c)) "__class__" = some (some (.builtin "object.__class__"))
  hn : 0 < ncls → PySem.W.specialIn K (.builtin "object.__class__") "__get__" = some (some (.builtin "getset_descriptor.__get__"))
  ht : 0 < ncls → PySem.W.takesIn K (.builtin "object.__class__") = some true
  hm : ∀ c, c < ncls → PySem.W.mroIn K (g.cA c) (.type "object") = some true
  kB : ∀ c t, c < ncls → (match t with | Ty.own _ => False | _ => True) → PySem.W.kitOne K (.ref (g.cA c)) (t.py g) = some false
  kO : ∀ c k, c < ncls → k < ncls → PySem.W.kitOne K (.ref (g.cA c)) (.ref (g.cA k)) = some (k == c)
  kT : ∀ n k, k < ncls → n ∈ (["NoneType", "bool", "int", "str", "list", "tuple"] : List String) → PySem.W.kitOne K (.type n) (.ref (g.cA k)) = some false
end
end Itp
namespace Itp
open PySem PySem.Spec PyProof.Rows L2
section
variable {g : Gb} {α : Nat → Option Addr} {F H R : Hp} {S : Sto} {X : Cx} {x y d : D} {vx vy v : V} {Q : VK}
/-! ### isinstance -/
def TK.py (g : Gb) : TK → Value
  | .non => .type "NoneType" | .bl => .type "bool" | .int => .type "int" | .str => .type "str" | .lst => .type "list" | .tup => .type "tuple" | .obj c => .ref (g.cA c)
def TK.ok (g : Gb) : TK → Prop
  | .obj c => c < g.nc
  | _ => True
theorem tk_of (I : IsOk X.K g g.nc) (w : World X.K g R α F S H) {t : TK} (r : Rep X.K g α F d v) (e : tkD d S = some t) : TyX X.K H v (t.py g) ∧ t.ok g := by
  cases d with
  | non => cases r; cases e; exact ⟨.base .non, trivial⟩
  | bl b => cases r; cases e; exact ⟨.base (.bl b), trivial⟩
  | int b => cases r; cases e; exact ⟨.base (.int b), trivial⟩
  | str b => obtain ⟨rfl, _⟩ := r; cases e; exact ⟨.base (.str b), trivial⟩
  | lst xs => obtain ⟨a, vs, rfl, h2, _⟩ := r; cases e; exact ⟨.base (.lst (w.fz _ _ h2)), trivial⟩
  | tup xs => obtain ⟨a, vs, rfl, h2, _⟩ := r; cases e; exact ⟨.base (.tup (w.fz _ _ h2)), trivial⟩
  | obj c ns ds => obtain ⟨a, dx, vs, rfl, h2, h3, _⟩ := r; cases e; exact ⟨.base (.ins (w.fz _ _ h2) (I.cl c h3.2) (I.ha c h3.2) (I.hn (Nat.lt_of_le_of_lt (Nat.zero_le _) h3.2)) (I.ht (Nat.lt_of_le_of_lt (Nat.zero_le _) h3.2)) (I.hm c h3.2)), h3.2⟩
  | loc n =>
    obtain ⟨a, rfl, h1⟩ := r
    have e : (match S[n]? with | some (.lst _) => some TK.lst | some (.ins c _ _) => some (.obj c) | _ => none) = some t := e
    cases q : S[n]? with
    | none => rw [q] at e; cases e
    | some o =>
      have k := w.st n o q
      cases o with
      | lst xs => rw [q] at e; cases e; obtain ⟨b, vs, k1, k2, k3, _⟩ := k; rw [h1] at k1; cases k1; exact ⟨.base (.lst k3), trivial⟩
      | ins c ns ds => rw [q] at e; cases e; obtain ⟨b, dx, vs, k1, k2, k3, k4, _⟩ := k; rw [h1] at k1; cases k1; exact ⟨.base (.ins k3 (I.cl c k4.2) (I.ha c k4.2) (I.hn (Nat.lt_of_le_of_lt (Nat.zero_le _) k4.2)) (I.ht (Nat.lt_of_le_of_lt (Nat.zero_le _) k4.2)) (I.hm c k4.2)), k4.2⟩
      | dead => rw [q] at e; cases e
  | scr n => cases e
def Ty.ok (g : Gb) : Ty → Bool
  | .own k => decide (k < g.nc)
  | _ => true
theorem kit_is (I : IsOk X.K g g.nc) {k : TK} {t : Ty} (hk : k.ok g) (ht : t.ok g = true) : PySem.W.kitOne X.K (k.py g) (t.py g) = some (isK k t) := by
  cases t with
  | own j =>
    have hj : j < g.nc := of_decide_eq_true ht
    cases k with
    | obj c => exact I.kO c j hk hj
    | _ => exact I.kT _ j hj (by decide)
  | _ =>
    cases k with
    | obj c => exact I.kB c _ hk trivial
    | _ => exact kit_ty (by decide +kernel)
theorem kit_any (I : IsOk X.K g g.nc) {k : TK} (hk : k.ok g) : ∀ {ts : List Ty}, ts.all (Ty.ok g) = true → PySem.W.kitAny X.K (k.py g) (ts.map (Ty.py g)) = some (ts.any (isK k))
  | [], _ => rfl
  | t :: ts, h => by
    rw [List.all_cons, Bool.and_eq_true] at h
    rw [List.map_cons, List.any_cons]
    refine kitAny_cons (kit_is I hk h.1) (fun hb => ?_) (fun hb => by rw [hb]; rfl)
    rw [hb, Bool.false_or]
    exact kit_any I hk h.2
/-! ### built-in functions -/
def signsV (x : Str) : List V := x.cps.toList.map fun c => .str ⟨#[c]⟩
theorem vals_of {f : Nat → V} : ∀ {cs : List Nat} {us : List Value}, us.length = cs.length → (∀ (j : Nat) (v : Value), us[j]? = some v → ∃ c, cs[j]? = some c ∧ RelV (f c) v) → Vals (cs.map f) us
  | [], [], _, _ => .nil
  | c :: cs, u :: us, hl, h => by
    obtain ⟨c', e, r⟩ := h 0 u rfl
    have e : c = c' := Option.some.inj e
    subst e
    exact .cons r (vals_of (by simpa using hl) fun j v q => h (j + 1) v q)
theorem vals_signs {x : Str} {acc : Array Value} (h : ItemsOf (SignAt x) acc x.cps.size) : Vals (signsV x) acc.toList := by
  obtain ⟨h1, h2⟩ := h
  refine vals_of (by rw [Array.length_toList, Array.length_toList]; exact h1) fun j v q => ?_
  obtain ⟨c, u, k1, k2⟩ := h2 j v (by rw [← Array.getElem?_toList]; exact q)
  exact ⟨c, by rw [Array.getElem?_toList]; exact k1, ⟨u, k2⟩⟩
theorem call_list_txt (hc : X.calm = true) : CallR X (.type "list") (fun xs H Q => ∃ x, xs = [.str x] ∧ x.length ≤ sizeLine ∧ ∀ l, H l = none → Q (.ref l) (upd H l (.lst (signsV x)))) := by
  intro pins s σ H xs us Q I r h
  obtain ⟨x, rfl, hz, q⟩ := h
  obtain ⟨u, rfl, t, rfl⟩ := vals1 r
  refine PySem.call_list_str (I.ok.hd hc) x t (fun h' tk acc c k e hi => ?_) hz
  refine ⟨.ref s.heap.objs.size, _, I.laid (o := .lst (signsV x)) k (Nat.le_refl _) ⟨?_, acc.toList, c, vals_signs hi, by simpa using e⟩, rfl, q _ (I.hok.fresh (Nat.le_refl _))⟩
  unfold signsV
  rw [List.length_map, Array.length_toList]
  exact hz
end
end Itp
namespace Itp
open PySem PySem.Spec PyProof.Rows L2
/-! ### built-in functions -/
def BF.nm : BF → Str
  | .len => "len" | .int => "int" | .list => "list" | .tuple => "tuple" | .all => "all" | .any => "any" | .str => "str" | .range => "range"
def rBf (K : PySem.W.Frag) : BF → List V → Hp → VK → Prop
  | .len => fun xs H Q => ∃ x n, xs = [x] ∧ LenV K x H n ∧ Q (.int n) H
  | .int => fun xs H Q => (∃ i, xs = [.int i] ∧ Q (.int i) H) ∨ ∃ k, xs = [.bl k] ∧ Q (.int (if k then 1 else 0)) H
  | .list => fun xs H Q => (∃ x, xs = [.str x] ∧ x.length ≤ sizeLine ∧ ∀ l, H l = none → Q (.ref l) (upd H l (.lst (signsV x)))) ∨ ∃ p ys, xs = [.ref p] ∧ (SqL K H p ys ∨ SqT K H p ys) ∧ ∀ l, H l = none → Q (.ref l) (upd H l (.lst ys))
  | .tuple => fun xs H Q => ∃ p ys, xs = [.ref p] ∧ ((SqL K H p ys ∧ ∀ l, H l = none → Q (.ref l) (upd H l (.tup ys))) ∨ (SqT K H p ys ∧ Q (.ref p) H))
  | .all => rAll K
  | .any => rAny K
  | .str => fun xs H Q => ∃ i, xs = [.int i] ∧ i.natAbs.log2 < 1920 ∧ Q (.str (toString i)) H
  | .range => fun _ _ _ => False
section
variable {g : Gb} {α : Nat → Option Addr} {F H R : Hp} {S : Sto} {X : Cx} {x y d : D} {vx vy v : V} {Q : VK}
theorem bls_of {K : PySem.W.Frag} : ∀ {xs : List D} {vs : List V} {bs : List Bool}, Reps K g α F xs vs → blsOf xs = some bs → vs = bs.map V.bl
  | [], vs, bs, r, e => by cases r; cases e; rfl
  | d :: xs, vs, bs, r, e => by
    obtain ⟨v, r', rfl, h1, h2⟩ := r
    cases d with
    | bl b =>
      have e : (blsOf xs).map (b :: ·) = some bs := e
      cases q : blsOf xs with
      | none => rw [q] at e; cases e
      | some bs' =>
        rw [q] at e
        cases e
        cases h1
        rw [bls_of h2 q]
        rfl
    | _ => cases e
theorem strs_of {K : PySem.W.Frag} : ∀ {xs : List D} {vs : List V} {bs : List Str}, Reps K g α F xs vs → strsOf xs = some bs → vs = bs.map V.str ∧ ∀ b ∈ bs, okS b = true
  | [], vs, bs, r, e => by cases r; cases e; exact ⟨rfl, fun _ h => nomatch h⟩
  | d :: xs, vs, bs, r, e => by
    obtain ⟨v, r', rfl, h1, h2⟩ := r
    cases d with
    | str b =>
      have e : (strsOf xs).map (b :: ·) = some bs := e
      cases q : strsOf xs with
      | none => rw [q] at e; cases e
      | some bs' =>
        rw [q] at e
        cases e
        obtain ⟨rfl, ob⟩ := h1
        obtain ⟨k1, k2⟩ := strs_of h2 q
        rw [k1]
        refine ⟨rfl, fun b' hb => ?_⟩
        rcases List.mem_cons.mp hb with e | hb
        · rw [e]; exact ob
        · exact k2 b' hb
    | _ => cases e
theorem reps_one {K : PySem.W.Frag} {d : D} {vs : List V} (r : Reps K g α F [d] vs) : ∃ v, vs = [v] ∧ Rep K g α F d v := by
  obtain ⟨v, r', rfl, h1, h2⟩ := r
  cases h2
  exact ⟨v, rfl, h1⟩
theorem reps_two {K : PySem.W.Frag} {d e : D} {vs : List V} (r : Reps K g α F [d, e] vs) : ∃ v w, vs = [v, w] ∧ Rep K g α F d v ∧ Rep K g α F e w := by
  obtain ⟨v, r', rfl, h1, h2⟩ := r
  obtain ⟨w, rfl, h3⟩ := reps_one h2
  exact ⟨v, w, rfl, h1, h3⟩
theorem reps_signs {K : PySem.W.Frag} {x : Str} (o : okS x = true) : Reps K g α F (signs x) (signsV x) := by
  have all : ∀ cs : List Nat, (∀ c ∈ cs, c ∈ x.cps.toList) → Reps K g α F (cs.map fun c => D.str ⟨#[c]⟩) (cs.map fun c => V.str ⟨#[c]⟩) := by
    intro cs
    induction cs with
    | nil => intro _; rfl
    | cons c cs ih =>
      intro h
      refine ⟨_, _, rfl, ⟨rfl, okS_sub o (fun c' hc => ?_) ?_⟩, ih fun c' hc => h c' (List.mem_cons_of_mem _ hc)⟩
      · have : c' = c := by simpa using hc
        subst this
        exact Array.mem_toList_iff.mp (h _ List.mem_cons_self)
      · show 1 ≤ x.cps.size
        have h1 := List.length_pos_of_mem (h c List.mem_cons_self)
        rw [Array.length_toList] at h1
        exact h1
  exact all _ fun _ h => h
theorem okS_ofString (s : String) (h : (Str.ofString s).length ≤ sizeLine) : okS (Str.ofString s) = true := by
  unfold okS
  rw [Bool.and_eq_true]
  refine ⟨?_, decide_eq_true (by rw [size16] at h; exact h)⟩
  rw [Str.ofString_eq_toList, Array.all_eq_true']
  intro c hc
  have hc : c ∈ s.toList.map Char.toNat := by simpa using hc
  obtain ⟨ch, _, rfl⟩ := List.mem_map.mp hc
  have := ch.valid
  refine decide_eq_true ?_
  show ch.val.toNat < 0x110000
  rcases this with h | h
  · have : ch.val.toNat < 0xd800 := h
    omega
  · exact h.2
theorem log2_small {i : Int} (h : i.natAbs < 2 ^ 64) : i.natAbs.log2 < 1920 := by
  by_cases z : i.natAbs = 0
  · rw [z]; decide
  · have := (Nat.log2_lt z).mpr h
    omega
theorem okS_num (i : Int) (h : i.natAbs < 2 ^ 64) : okS (toString i : Str) = true := okS_ofString _ (int_text_fits (log2_small h))
theorem bf_val (b : BF) {ds : List D} {vs : List V} (w : World X.K g R α F S H) (r : Reps X.K g α F ds vs) (h0 : Aft X.K g R (Rep X.K g) α F (ofO (bfD b ds S) S) Q) : rBf X.K b vs H Q := by
  obtain ⟨d, e, h⟩ := ofO_some h0
  clear h0
  cases ds with
  | nil => cases b <;> cases e
  | cons d1 rest =>
    cases rest with
    | cons d2 rest => cases b <;> (first | (cases e; done) | (cases d1 <;> cases e))
    | nil =>
      obtain ⟨v, rfl, r1⟩ := reps_one r
      clear r
      have hL : ∀ {k : List D → D}, (lstOf d1 S).map k = some d → ∃ xs a vs, d = k xs ∧ v = .ref a ∧ H a = some (.lst vs) ∧ Reps X.K g α F xs vs := by
        intro k e
        cases q : lstOf d1 S with
        | none => rw [q] at e; cases e
        | some xs =>
          rw [q] at e
          obtain ⟨a, vs, h1, h2, h3⟩ := lst_of w r1 q
          exact ⟨xs, a, vs, (Option.some.inj e).symm, h1, h2, h3⟩
      have hB : ∀ {k : List Bool → D}, ((lstOf d1 S).bind fun xs => (blsOf xs).map k) = some d → ∃ bs a, d = k bs ∧ v = .ref a ∧ H a = some (.lst (bs.map V.bl)) := by
        intro k e
        cases q : lstOf d1 S with
        | none => rw [q] at e; cases e
        | some xs =>
          rw [q] at e
          have e : (blsOf xs).map k = some d := e
          cases q2 : blsOf xs with
          | none => rw [q2] at e; cases e
          | some bs =>
            rw [q2] at e
            obtain ⟨a, vs, h1, h2, h3⟩ := lst_of w r1 q
            rw [bls_of h3 q2] at h2
            exact ⟨bs, a, (Option.some.inj e).symm, h1, h2⟩
      cases b with
      | len =>
        have fin : (lstOf d1 S).map (fun xs => D.int xs.length) = some d → rBf X.K .len [v] H Q := fun e => by
          obtain ⟨xs, a, vs, rfl, rfl, h2, h3⟩ := hL e
          exact ⟨_, xs.length, rfl, .inl ⟨vs, SqL.of h2, h3.length⟩, h.now w rfl⟩
        cases d1 with
        | str x => obtain ⟨rfl, ox⟩ := r1; cases e; exact ⟨_, x.length, rfl, ⟨okS_len ox, rfl⟩, h.now w rfl⟩
        | tup xs => obtain ⟨a, vs, rfl, h2, h3⟩ := r1; cases e; exact ⟨_, xs.length, rfl, .inr ⟨vs, SqT.of (w.fz _ _ h2), h3.length⟩, h.now w rfl⟩
        | _ => exact fin e
      | int =>
        cases d1 with
        | int i => cases r1; cases e; exact .inl ⟨i, rfl, h.now w rfl⟩
        | _ => cases e
      | list =>
        have fin : (lstOf d1 S).map D.lst = some d → rBf X.K .list [v] H Q := fun e => by
          obtain ⟨xs, a, vs, rfl, rfl, h2, h3⟩ := hL e
          exact .inr ⟨a, vs, rfl, .inl (SqL.of h2), h.newL w h3⟩
        cases d1 with
        | str x => obtain ⟨rfl, ox⟩ := r1; cases e; exact .inl ⟨x, rfl, okS_len ox, h.newL w (reps_signs ox)⟩
        | tup xs => obtain ⟨a, vs, rfl, h2, h3⟩ := r1; cases e; exact .inr ⟨a, vs, rfl, .inr (SqT.of (w.fz _ _ h2)), h.newL w h3⟩
        | _ => exact fin e
      | tuple =>
        have fin : (lstOf d1 S).map D.tup = some d → rBf X.K .tuple [v] H Q := fun e => by
          obtain ⟨xs, a, vs, rfl, rfl, h2, h3⟩ := hL e
          exact ⟨a, vs, rfl, .inl ⟨SqL.of h2, h.newT w h3⟩⟩
        cases d1 with
        | tup xs => obtain ⟨a, vs, rfl, h2, h3⟩ := r1; cases e; exact ⟨a, vs, rfl, .inr ⟨SqT.of (w.fz _ _ h2), h.now w ⟨a, vs, rfl, h2, h3⟩⟩⟩
        | _ => exact fin e
      | all =>
        obtain ⟨bs, a, rfl, rfl, h2⟩ := hB (k := fun bs => .bl (bs.all id)) e
        exact ⟨a, bs, rfl, SqL.of h2, h.now w rfl⟩
      | any =>
        obtain ⟨bs, a, rfl, rfl, h2⟩ := hB (k := fun bs => .bl (bs.any id)) e
        exact ⟨a, bs, rfl, SqL.of h2, h.now w rfl⟩
      | str =>
        cases d1 with
        | int i =>
          cases r1
          have e : (if i.natAbs < 2 ^ 64 then some (D.str (toString i)) else none) = some d := e
          split at e
          · rename_i hi
            cases e
            exact ⟨i, rfl, log2_small hi, h.now w ⟨rfl, okS_num i hi⟩⟩
          · cases e
        | _ => cases e
      | range => cases e
end
/-! ### what the checker asks -/
def noStar : Expr → Bool
  | .Starred .. => false
  | _ => true
theorem star_cons {e : Expr} {es : List Expr} {env : Env} (h : noStar e = true) : starEach (e :: es) env = (false, eval e env) :: starEach es env := by
  cases e <;> first | rfl | cases h
theorem star_none {pos : Pos} {env : Env} : ∀ {es : List Expr}, es.all noStar = true → (backTo pos (starEach es env)).any (·.1) = false
  | [], _ => rfl
  | e :: es, h => by
    rw [List.all_cons, Bool.and_eq_true] at h
    rw [star_cons h.1]
    show (false || (backTo pos (starEach es env)).any (·.1)) = false
    rw [star_none h.2]
    rfl
theorem star_all {pos : Pos} {env : Env} : ∀ {es : List Expr}, es.all noStar = true → (backTo pos (starEach es env)).all (fun x => !x.1) = true
  | [], _ => rfl
  | e :: es, h => by
    rw [List.all_cons, Bool.and_eq_true] at h
    rw [star_cons h.1]
    show (!false && (backTo pos (starEach es env)).all (fun x => !x.1)) = true
    rw [star_all h.2]
    rfl
/-- no call of a name without arguments (super()) -/
def noSup : Expr → Bool
  | .Call (.Name _ _) [] [] _ => false
  | _ => true
theorem base_of {o : Expr} {n : Str} {env : Env} {w : Sem Value} (h : noSup o = true) : attributeBase o n env w = w := by
  unfold attributeBase
  split
  · cases h
  · rfl
def noSlc : Expr → Bool
  | .Slice .. => false
  | _ => true
theorem plain_of {b : Expr} (h : noSlc b = true) : PlainIx b := by
  intro o i
  cases b <;> first | rfl | cases h
def noSet : Expr → Bool
  | .Set .. => false
  | _ => true
theorem mark_of {b : Expr} {op : CmpOp} (h : noSet b = true) : behindInMarks op b = false := by
  cases b <;> first | rfl | cases h
theorem fold_of {b : Expr} {env : Env} {x : Value} (h : noSet b = true) : foldedSetIterable b env x = pure x := by
  cases b <;> first | rfl | cases h
end Itp
namespace Itp
open PySem PySem.Spec PyProof.Rows L2
structure Tab where
  fn : List Str
  ci : List (Str × Int)
  cs : List (Str × Str)
  free : List Str
  cls : List Str
  kb : List (Nat × Nat × List Str × List Nat) := []
def visB (sc : Scope) (x : Str) : Bool := match sc.names.lookup x with | some .local => true | some .cell => true | some .free => true | _ => false
def gloB (sc : Scope) (x : Str) : Bool := match sc.names.lookup x with | some .globalImplicit => true | _ => false
def stoB (sc : Scope) (x : Str) : Bool := match sc.names.lookup x with | some .local => true | some .cell => true | _ => false
/-! ### the parts of an expression -/
def pName : Expr → Option Str
  | .Name x _ => some x
  | _ => none
def pConst : Expr → Option Const
  | .Constant c _ _ => some c
  | _ => none
def pBin : Expr → Option (Expr × Operator × Expr)
  | .BinOp l o r _ => some (l, o, r)
  | _ => none
def pUn : Expr → Option (UnaryOp × Expr)
  | .UnaryOp o e _ => some (o, e)
  | _ => none
def pCmp : Expr → Option (Expr × List CmpOp × List Expr)
  | .Compare l o r _ => some (l, o, r)
  | _ => none
def pBool : Expr → Option (BoolOp × List Expr)
  | .BoolOp o vs _ => some (o, vs)
  | _ => none
def pIf : Expr → Option (Expr × Expr × Expr)
  | .IfExp c a b _ => some (c, a, b)
  | _ => none
def pTup : Expr → Option (List Expr)
  | .Tuple es _ _ => some es
  | _ => none
def pLst : Expr → Option (List Expr)
  | .List es _ => some es
  | _ => none
def pStar : Expr → Option Expr
  | .Starred e _ => some e
  | _ => none
def pSub : Expr → Option (Expr × Expr)
  | .Subscript a b _ => some (a, b)
  | _ => none
def pSlc : Expr → Option (Option Expr × Option Expr)
  | .Slice l h none _ => some (l, h)
  | _ => none
def pCall : Expr → Option (Expr × List Expr × List Keyword × Pos)
  | .Call f as ks p => some (f, as, ks, p)
  | _ => none
def pAttr : Expr → Option (Expr × Str × Pos)
  | .Attribute o n p => some (o, n, p)
  | _ => none
def pLc : Expr → Option (Expr × List Comprehension × Scope × Pos)
  | .ListComp e gs sc p => some (e, gs, sc, p)
  | _ => none
section
variable {py : Expr}
theorem pName_inv {x} (h : pName py = some x) : ∃ p, py = .Name x p := by cases py <;> first | (cases h; exact ⟨_, rfl⟩) | cases h
theorem pConst_inv {c} (h : pConst py = some c) : ∃ k p, py = .Constant c k p := by cases py <;> first | (cases h; exact ⟨_, _, rfl⟩) | cases h
theorem pBin_inv {l o r} (h : pBin py = some (l, o, r)) : ∃ p, py = .BinOp l o r p := by cases py <;> first | (cases h; exact ⟨_, rfl⟩) | cases h
theorem pUn_inv {o r} (h : pUn py = some (o, r)) : ∃ p, py = .UnaryOp o r p := by cases py <;> first | (cases h; exact ⟨_, rfl⟩) | cases h
theorem pCmp_inv {l o r} (h : pCmp py = some (l, o, r)) : ∃ p, py = .Compare l o r p := by cases py <;> first | (cases h; exact ⟨_, rfl⟩) | cases h
theorem pBool_inv {o r} (h : pBool py = some (o, r)) : ∃ p, py = .BoolOp o r p := by cases py <;> first | (cases h; exact ⟨_, rfl⟩) | cases h
theorem pIf_inv {l o r} (h : pIf py = some (l, o, r)) : ∃ p, py = .IfExp l o r p := by cases py <;> first | (cases h; exact ⟨_, rfl⟩) | cases h
theorem pTup_inv {es} (h : pTup py = some es) : ∃ k p, py = .Tuple es k p := by cases py <;> first | (cases h; exact ⟨_, _, rfl⟩) | cases h
theorem pLst_inv {es} (h : pLst py = some es) : ∃ p, py = .List es p := by cases py <;> first | (cases h; exact ⟨_, rfl⟩) | cases h
theorem pStar_inv {e} (h : pStar py = some e) : ∃ p, py = .Starred e p := by cases py <;> first | (cases h; exact ⟨_, rfl⟩) | cases h
theorem pSub_inv {a b} (h : pSub py = some (a, b)) : ∃ p, py = .Subscript a b p := by cases py <;> first | (cases h; exact ⟨_, rfl⟩) | cases h
theorem pSlc_inv {a b} (h : pSlc py = some (a, b)) : ∃ p, py = .Slice a b none p := by
  cases py <;> first | (cases h; done) | skip
  rename_i l u s p
  cases s with
  | none => cases h; exact ⟨_, rfl⟩
  | some s => cases h
theorem pCall_inv {f as ks p} (h : pCall py = some (f, as, ks, p)) : py = .Call f as ks p := by cases py <;> first | (cases h; rfl) | cases h
theorem pAttr_inv {o n p} (h : pAttr py = some (o, n, p)) : py = .Attribute o n p := by cases py <;> first | (cases h; rfl) | cases h
theorem pLc_inv {e gs sc p} (h : pLc py = some (e, gs, sc, p)) : py = .ListComp e gs sc p := by cases py <;> first | (cases h; rfl) | cases h
end
def kwNames : List Keyword → Option (List Str)
  | [] => some []
  | ⟨some x, _, _⟩ :: r => (kwNames r).map (x :: ·)
  | _ => none
/-- the name of a class that isinstance asks for -/
def Ty.name (T : Tab) : Ty → Option Str
  | .int => some "int" | .bool => some "bool" | .str => some "str" | .list => some "list" | .tuple => some "tuple" | .own c => T.cls[c]?
mutual
/-- may stand as a test -/
def tst : E → Bool
  | .ite .. => false
  | .frz .. => false
  | .not a => tst a
  | .bop _ es => tsts es
  | _ => true
def tsts : List E → Bool
  | [] => true
  | e :: es => tst e && tsts es
end
/-! ### the checker -/
section
variable (T : Tab) (N : List Str)
def mtTy (sc : Scope) (t : Ty) (py : Expr) : Bool := match pName py, t.name T with
  | some x, some y => decide (x = y) && gloB sc x && !(x == "__debug__") && (match t with | .own _ => true | _ => T.free.contains x)
  | _, _ => false
def mtTys (sc : Scope) : List Ty → List Expr → Bool
  | [], [] => true
  | t :: ts, p :: ps => mtTy T sc t p && mtTys sc ts ps
  | _, _ => false
mutual
def mtTg (sc : Scope) : Tg → Expr → Bool
  | .name i, py => (match pName py with
    | some x => decide (N[i]? = some x) && stoB sc x
    | none => false)
  | .tup ts, py => (match pTup py with
    | some ps => mtTgs sc ts ps
    | none => false)
def mtTgs (sc : Scope) : List Tg → List Expr → Bool
  | [], [] => true
  | t :: ts, p :: ps => mtTg sc t p && mtTgs sc ts ps
  | _, _ => false
end
mutual
def Tg.slots : Tg → List Nat
  | .name i => [i]
  | .tup ts => Tg.slotss ts
def Tg.slotss : List Tg → List Nat
  | [] => []
  | t :: ts => t.slots ++ Tg.slotss ts
end
def blt (sc : Scope) (x : Str) (py : Expr) : Bool := match pName py with
  | some y => decide (y = x) && gloB sc x && T.free.contains x
  | none => false
/-- the arguments of what is walked -/
def itArgs : IK → Scope → Expr → Expr → Option (List Expr)
  | .val, _, _, py => some [py]
  | .rng, sc, _, py => (match pCall py with
    | some (f, as, [], _) => if blt T sc "range" f && (as.length == 1 || as.length == 2) then some as else none
    | _ => none)
  | .enum, sc, t, py => (match pCall py with
    | some (f, as, [], _) => if blt T sc "enumerate" f && (pTup t).isSome && as.length == 1 then some as else none
    | _ => none)
  | .zip, sc, t, py => (match pCall py with
    | some (f, as, [], _) => if blt T sc "zip" f && (pTup t).isSome && as.length == 2 then some as else none
    | _ => none)
mutual
def mtE : E → Scope → Expr → Bool
  | .var i, sc, py => (match pName py with
    | some x => decide (N[i]? = some x) && visB sc x && !(x == "__debug__") && !(x == "__classdict__")
    | none => false)
  | .non, _, py => (match pConst py with | some .none => true | _ => false)
  | .bl b, _, py => (match pConst py with | some (.bool c) => decide (c = b) | _ => false)
  | .int i, _, py => (match pConst py with | some (.int c) => decide (c = i) | _ => false)
  | .str x, _, py => (match pConst py with | some (.str c) => decide (c = x) && okS x | _ => false)
  | .gint n i, sc, py => (match pName py with
    | some x => decide (x = n) && gloB sc x && !(x == "__debug__") && T.ci.contains (n, i)
    | none => false)
  | .gstr n z, sc, py => (match pName py with
    | some x => decide (x = n) && gloB sc x && !(x == "__debug__") && T.cs.contains (n, z) && okS z
    | none => false)
  | .bin o a b, sc, py => (match pBin py with
    | some (l, op, r) => decide (op = o.py) && mtE a sc l && mtE b sc r
    | none => false)
  | .neg a, sc, py => (match pUn py with
    | some (op, r) => decide (op = .USub) && mtE a sc r
    | none => false)
  | .not a, sc, py => (match pUn py with
    | some (op, r) => decide (op = .Not) && mtE a sc r
    | none => false)
  | .cmp o a b, sc, py => (match pCmp py with
    | some (l, [op], [r]) => decide (op = o.py) && noSet r && mtE a sc l && mtE b sc r
    | _ => false)
  | .chn o p a b c, sc, py => (match pCmp py with
    | some (l, [op, op'], [r, r']) => decide (op = o.py) && decide (op' = p.py) && noSet r' && mtE a sc l && mtE b sc r && mtE c sc r'
    | _ => false)
  | .bop o es, sc, py => (match pBool py with
    | some (op, vs) => decide (op = (if o then .And else .Or)) && mtEs es sc vs
    | none => false)
  | .ite c a b, sc, py => (match pIf py with
    | some (t, l, r) => tst c && mtE c sc t && mtE a sc l && mtE b sc r
    | none => false)
  | .tup es, sc, py => (match pTup py with
    | some ps => decide (ps.length ≤ 1000) && mtEs es sc ps
    | none => false)
  | .lst _ es, sc, py => (match pLst py with
    | some ps => decide (ps.length ≤ 1000) && mtEs es sc ps
    | none => false)
  | .spt e, sc, py => (match pTup py with
    | some [p] => (match pStar p with
      | some q => mtE e sc q
      | none => false)
    | _ => false)
  | .idx a b, sc, py => (match pSub py with
    | some (l, r) => noSlc r && mtE a sc l && mtE b sc r
    | none => false)
  | .slc a lo hi, sc, py => (match pSub py with
    | some (l, r) => (match pSlc r with
      | some (x, y) => mtE a sc l && mtO lo sc x && mtO hi sc y
      | none => false)
    | none => false)
  | .isi e t, sc, py => (match pCall py with
    | some (f, [a, b], [], _) => blt T sc "isinstance" f && mtE e sc a && mtTy T sc t b
    | _ => false)
  | .isT e ts, sc, py => (match pCall py with
    | some (f, [a, b], [], _) => blt T sc "isinstance" f && mtE e sc a && (match pTup b with
      | some bs => decide (ts.length ≤ 1000) && mtTys T sc ts bs
      | none => false)
    | _ => false)
  | .bf b es, sc, py => (match pCall py with
    | some (f, a :: as, [], _) => blt T sc b.nm f && mtEs es sc (a :: as)
    | _ => false)
  | .bm m e es, sc, py => (match pCall py with
    | some (f, a :: as, [], p) => (match pAttr f with
      | some (o, n, q) => decide (n = (match m with | .join => "join" | .append => "append")) && decide (q.endLine = p.line) && noSup o && mtE e sc o && mtEs es sc (a :: as) && as.isEmpty
      | none => false)
    | _ => false)
  | .call f es, sc, py => (match pCall py with
    | some (h, as, [], _) => (match pName h with
      | some x => decide (T.fn[f]? = some x) && gloB sc x && !(x == "__debug__") && mtEs es sc as
      | none => false)
    | _ => false)
  | .callP f es kes pi, sc, py => (match pCall py with
    | some (h, as, kws, _) => (match pName h with
      | some x => decide (T.fn[f]? = some x) && gloB sc x && !(x == "__debug__") && mtEs es sc as && mtEs kes sc (kws.map (·.value)) && (match kwNames kws with
        | some ks => T.kb.contains (f, as.length, ks, pi)
        | none => false)
      | none => false)
    | none => false)
  | .lc tg own k its ifs e, sc, py => (match pLc py with
    | some (elt, [⟨t, iter, fs, 0⟩], scope, _) => blkC N sc scope (own.map fun i => (N.getD i "", i)) && noSet iter && (match itArgs T k sc t iter with | some as => mtEs its sc as | none => false) && mtTg N scope tg t && tg.slots.all (own.contains ·) && mtFs ifs scope fs && mtE e scope elt
    | _ => false)
  | .frz e, sc, py => mtE e sc py
def mtEs : List E → Scope → List Expr → Bool
  | [], _, ps => ps.isEmpty
  | e :: es, sc, ps => (match ps with
    | [] => false
    | p :: ps => noStar p && mtE e sc p && mtEs es sc ps)
def mtO : Option E → Scope → Option Expr → Bool
  | none, _, p => p.isNone
  | some e, sc, p => (match p with
    | none => false
    | some p => mtE e sc p)
/-- the ifs of a comprehension: none or one -/
def mtFs : List E → Scope → List Expr → Bool
  | [], _, ps => ps.isEmpty
  | e :: es, sc, ps => (match ps with
    | [p] => es.isEmpty && tst e && mtE e sc p
    | _ => false)
end
end
example (T : Tab) (N : List Str) (sc : Scope) (p : Pos) : mtE T N (.bin .add (.int 1) (.int 2)) sc (.BinOp (.Constant (.int 1) 0 p) .Add (.Constant (.int 2) 0 p) p) = true := by rfl
end Itp
namespace Itp
open PySem PySem.Spec PyProof.Rows L2
/-- a name table as it stands in the running frame -/
structure ScOk (X : Cx) (sc : Scope) : Prop where
  vis : ∀ x, visB sc x = true → Vis X.env.scope x
  glo : ∀ x, gloB sc x = true → Gl X x
  sto : ∀ x, stoB sc x = true → Loc X.env.scope x ∧ (X.fn x = true ∨ X.env.scope.names.lookup x = some .local)
  fre : ∀ x, (sc.names.lookup x = some .cell ∨ sc.names.lookup x = some .free) → (X.env.scope.names.lookup x = some .cell ∨ X.env.scope.names.lookup x = some .free)
  lcl : ∀ x, sc.names.lookup x = some .local → X.env.scope.names.lookup x = some .local
/-- a def's promise: what the evaluator says -/
def spI (K : PySem.W.Frag) (g : Gb) (cal : Nat → List D → Sto → Out D) (f np : Nat) : Sp := fun vs H Q _ =>
  ∃ ds S α F R, ds.length = np ∧ Reps K g α F ds vs ∧ World K g R α F S H ∧ Aft K g R (Rep K g) α F (cal f ds S) Q
def pickV {β : Type} (ds : List β) : List Nat → Option (List β)
  | [] => some []
  | j :: r => match ds[j]?, pickV ds r with
    | some d, some rs => some (d :: rs)
    | _, _ => none
/-- how a call with keywords binds -/
def KbOk (K : PySem.W.Frag) (fd : FuncData) (ps : List Str) (n : Nat) (ks : List Str) (pi : List Nat) : Prop :=
  ∀ (s : Shared) (us ws zs : List Value), K.In s.heap → us.length = n → ws.length = ks.length → pickV (us ++ ws) pi = some zs → BindsTo s fd ⟨us, ks.zip ws⟩ (ps.zip zs)
structure FnI (T : Tab) (X : Cx) (g : Gb) (cal : Nat → List D → Sto → Out D) (n f : Nat) (x : Str) : Prop where
  mg : X.mg x = some (.ref (g.fA f))
  kp : PySem.W.keepIn X.K (.ref (g.fA f)) = true
  fn : ∃ fd ps np, FnOk X.prog X.w X.K X.mg X.base CX0 n (g.fA f) fd ps (spI X.K g cal f np) ∧ Binds X.K fd ps [] ∧ (∀ ds S, ds.length ≠ np → cal f ds S = .bad) ∧ ps.length = np ∧ ∀ m ks pi, (f, m, ks, pi) ∈ T.kb → KbOk X.K fd ps m ks pi
structure Cok (T : Tab) (g : Gb) (cal : Nat → List D → Sto → Out D) (X : Cx) (n : Nat) : Prop where
  calm : X.calm = true
  nd : X.N.Nodup
  room : Room n X.A
  fr : ∀ x ∈ T.free, X.mg x = none
  fo : ∀ x ∈ T.free, x ≠ "__name__" ∧ (x == ("__debug__" : Str)) = false
  ci : ∀ p ∈ T.ci, ∃ t, X.mg p.1 = some (.int p.2 t)
  cs : ∀ p ∈ T.cs, ∃ t, X.mg p.1 = some (.str p.2 t)
  cl : ∀ (c : Nat) x, T.cls[c]? = some x → X.mg x = some (.ref (g.cA c)) ∧ c < g.nc
  is : IsOk X.K g g.nc
  fn : ∀ (f : Nat) x, T.fn[f]? = some x → FnI T X g cal n f x
theorem Cok.hu {T : Tab} {g : Gb} {cal : Nat → List D → Sto → Out D} {X : Cx} {n : Nat} (C : Cok T g cal X n) : X.A.units + 65 < cLine := by
  have := C.room.un
  omega
section
variable {g : Gb} {X : Cx} {a b c : Expr} {ma mb mc : Gm → Sto → Out D} {pos : Pos}
theorem je_var {i : Nat} {x : Str} (hN : X.N[i]? = some x) (hv : Vis X.env.scope x) (h1 : (x == ("__debug__" : Str)) = false) (h2 : (x == ("__classdict__" : Str)) = false) :
    PE X (.Name x pos) (tI X.K g fun γ S => match γ[i]? with | some (some d) => .ok d S | _ => .bad) := by
  refine (pe_var hN hv h1 h2).imp fun σ H Q h => ?_
  obtain ⟨γ, S, α, F, R, s, w, h⟩ := h
  dsimp only at h
  cases q : γ[i]? with
  | none => rw [q] at h; exact False.elim h
  | some o =>
    cases o with
    | none => rw [q] at h; exact False.elim h
    | some d =>
      rw [q] at h
      obtain ⟨v, e, r⟩ := s.2 i d q
      exact ⟨v, e, h.now w r⟩
theorem je_con {d : D} {v : V} (h : PE X a (tC v)) (r : ∀ α F, Rep X.K g α F d v) : PE X a (tI X.K g fun _ S => .ok d S) := by
  refine h.imp fun σ H Q h => ?_
  obtain ⟨γ, S, α, F, R, s, w, h⟩ := h
  exact h.now w (r α F)
theorem je_neg (ha : PE X a (tI X.K g ma)) : PE X (.UnaryOp .USub a pos) (tI X.K g fun γ S => (ma γ S).bind fun x S => match x with | .int i => .ok (.int (-i)) S | _ => .bad) := by
  refine (pe_un un_neg ha).imp fun σ H Q h => ?_
  refine tG.bind (δ := D) (k := fun γ (x : D) S => match x with | .int i => .ok (.int (-i)) S | _ => .bad) h fun γ x S v H α F R s w r h => ?_
  cases x with
  | int i => cases r; exact ⟨i, rfl, h.now w rfl⟩
  | _ => exact False.elim h
/-- a value's truth, as a test -/
def trm (m : Gm → Sto → Out D) : Gm → Sto → Out Bool := fun γ S => (m γ S).bind fun x S => ofO (truD x S) S
abbrev tT (K : PySem.W.Frag) (g : Gb) (m : Gm → Sto → Out D) : TT := tIb K g (trm m)
theorem Aft.tru {α : Nat → Option Addr} {F H R : Hp} {S : Sto} {x : D} {v : V} {Q : Bool → Hp → Prop} (h : Aft X.K g R (fun _ _ (a b : Bool) => a = b) α F (ofO (truD x S) S) Q) (w : World X.K g R α F S H) (r : Rep X.K g α F x v) : ∃ k, TruV X.K v H k ∧ Q k H := by
  obtain ⟨k, e, h⟩ := ofO_some h
  exact ⟨k, tru_of w r e, h k H α F Ext.refl w rfl⟩
theorem je_not (ha : PE X a (tI X.K g ma)) : PE X (.UnaryOp .Not a pos) (tI X.K g fun γ S => (ma γ S).bind fun x S => match truD x S with | some b => .ok (.bl !b) S | none => .bad) := by
  refine (pe_notT ha).imp fun σ H Q h => ?_
  refine tG.bind (δ := D) (k := fun γ x S => match truD x S with | some b => .ok (.bl !b) S | none => .bad) h fun γ x S v H α F R s w r h => ?_
  cases q : truD x S with
  | none => rw [q] at h; exact False.elim h
  | some k => rw [q] at h; exact ⟨k, tru_of w r q, h.now w rfl⟩
/-- the end of a comparison -/
theorem cmp_end {o : CO} {x y : D} {vx vy : V} {α : Nat → Option Addr} {F H R : Hp} {S : Sto} {Q : VK} (w : World X.K g R α F S H) (rx : Rep X.K g α F x vx) (ry : Rep X.K g α F y vy)
    (h : Aft X.K g R (Rep X.K g) α F (match cmpD o x y S with | some k => .ok (.bl k) S | none => .bad) Q) : rCmp X.K o vx vy H Q := by
  cases q : cmpD o x y S with
  | none => rw [q] at h; exact False.elim h
  | some k => rw [q] at h; exact cmp_val o w rx ry q (h.now w rfl)
theorem je_cmp (hu : X.A.units + 65 < cLine) (o : CO) (hm : noSet b = true) (ha : PE X a (tI X.K g ma)) (hb : PE X b (tI X.K g mb)) : PE X (.Compare a [o.py] [b] pos) (tI X.K g fun γ S => (ma γ S).bind fun x S => (mb γ S).bind fun y S => match cmpD o x y S with | some k => .ok (.bl k) S | none => .bad) :=
  (pe_cmpR (op_cmp hu o) ha hb (mark_of hm)).imp fun σ H Q h => tOp_of h fun x y vx vy S H α F R w rx ry h => cmp_end w rx ry h
theorem tI_bl {m : Gm → Sto → Out D} {σ : L2.St} {H : Hp} {Q : Bool → Hp → Prop} (h : tT X.K g m σ H Q) (hb : ∀ γ S d S', m γ S = .ok d S' → ∃ k, d = .bl k) : tI X.K g m σ H fun v H' => ∃ k, v = .bl k ∧ Q k H' := by
  obtain ⟨γ, S, α, F, R, s, w, h⟩ := h
  refine ⟨γ, S, α, F, R, s, w, ?_⟩
  unfold trm at h
  cases q : m γ S with
  | ok d S' =>
    rw [q] at h
    obtain ⟨k, rfl⟩ := hb γ S d S' q
    intro v H' α' F' e w' r
    cases r
    exact ⟨k, rfl, h k H' α' F' e w' rfl⟩
  | exc => rw [q] at h; exact h
  | bad => rw [q] at h; exact h
theorem bind_ok {β δ : Type} {o : Out β} {k : β → Sto → Out δ} {d : δ} {S : Sto} (h : o.bind k = .ok d S) : ∃ b S', o = .ok b S' ∧ k b S' = .ok d S := by
  cases o with
  | ok b S' => exact ⟨b, S', rfl, h⟩
  | exc => cases h
  | bad => cases h
theorem jt_cmp (hu : X.A.units + 65 < cLine) (o : CO) (hm : noSet b = true) (ha : PE X a (tI X.K g ma)) (hb : PE X b (tI X.K g mb)) : PT X (.Compare a [o.py] [b] pos) (tT X.K g fun γ S => (ma γ S).bind fun x S => (mb γ S).bind fun y S => match cmpD o x y S with | some k => .ok (.bl k) S | none => .bad) := by
  refine (pt_cmpR (op_cmp hu o) ha hb (mark_of hm)).imp fun σ H Q h => ?_
  have h := tI_bl h fun γ S d S' q => by
    obtain ⟨x, S1, q1, q⟩ := bind_ok q
    obtain ⟨y, S2, q2, q⟩ := bind_ok q
    split at q
    · cases q; exact ⟨_, rfl⟩
    · cases q
  exact tOp_of h fun x y vx vy S H α F R w rx ry h => cmp_end w rx ry h
theorem chn_of {o p : CO} {σ : L2.St} {H : Hp} {Q : VK} (h : tI X.K g (fun γ S => (ma γ S).bind fun x S => (mb γ S).bind fun y S => match cmpD o x y S with
    | some true => (mc γ S).bind fun z S => (match cmpD p y z S with | some k => .ok (.bl k) S | none => .bad)
    | some false => .ok (.bl false) S
    | none => .bad) σ H Q) : tChain (rCmp X.K o) (rCmp X.K p) (tI X.K g ma) (tI X.K g mb) (tI X.K g mc) σ H Q := by
  refine tG.bind (δ := D) (k := fun γ x S => (mb γ S).bind fun y S => match cmpD o x y S with
    | some true => (mc γ S).bind fun z S => (match cmpD p y z S with | some k => .ok (.bl k) S | none => .bad)
    | some false => .ok (.bl false) S
    | none => .bad) h fun γ x S vx H α F R s w rx h => ?_
  refine ⟨γ, S, α, F, R, s, w, Aft.bind h fun y S vy H α' F' e w' ry h => ?_⟩
  have rx' := Rep.mono e _ _ rx
  cases q : cmpD o x y S with
  | none => rw [q] at h; exact False.elim h
  | some k =>
    rw [q] at h
    refine cmp_val o w' rx' ry q ⟨k, rfl, ?_⟩
    cases k with
    | true =>
      rw [if_pos rfl]
      exact ⟨γ, S, α', F', R, s.mono e, w', Aft.bind h fun z S vz H α2 F2 e2 w2 rz h => cmp_end w2 (Rep.mono e2 _ _ ry) rz h⟩
    | false =>
      rw [if_neg Bool.false_ne_true]
      exact h.now w' rfl
theorem last_of {o p : CmpOp} (h : noSet c = true) : lastMarks [o, p] [b, c] = false := mark_of h
theorem je_chn (hu : X.A.units + 65 < cLine) (o p : CO) (hm : noSet c = true) (ha : PE X a (tI X.K g ma)) (hb : PE X b (tI X.K g mb)) (hc : PE X c (tI X.K g mc)) :
    PE X (.Compare a [o.py, p.py] [b, c] pos) (tI X.K g fun γ S => (ma γ S).bind fun x S => (mb γ S).bind fun y S => match cmpD o x y S with
    | some true => (mc γ S).bind fun z S => (match cmpD p y z S with | some k => .ok (.bl k) S | none => .bad)
    | some false => .ok (.bl false) S
    | none => .bad) := (pe_chain (op_cmp hu o) (op_cmp hu p) ha hb hc (last_of hm)).imp fun σ H Q h => chn_of h
theorem jt_chn (hu : X.A.units + 65 < cLine) (o p : CO) (hm : noSet c = true) (ha : PE X a (tI X.K g ma)) (hb : PE X b (tI X.K g mb)) (hc : PE X c (tI X.K g mc)) :
    PT X (.Compare a [o.py, p.py] [b, c] pos) (tT X.K g fun γ S => (ma γ S).bind fun x S => (mb γ S).bind fun y S => match cmpD o x y S with
    | some true => (mc γ S).bind fun z S => (match cmpD p y z S with | some k => .ok (.bl k) S | none => .bad)
    | some false => .ok (.bl false) S
    | none => .bad) := by
  refine (pt_chain (op_cmp hu o) (op_cmp hu p) ha hb hc (last_of hm)).imp fun σ H Q h => ?_
  have h := tI_bl h fun γ S d S' q => by
    obtain ⟨x, S1, q1, q⟩ := bind_ok q
    obtain ⟨y, S2, q2, q⟩ := bind_ok q
    split at q
    · obtain ⟨z, S3, q3, q⟩ := bind_ok q
      split at q
      · cases q; exact ⟨_, rfl⟩
      · cases q
    · cases q; exact ⟨_, rfl⟩
    · cases q
  exact chn_of h
/-- a value as a test, where the model asks its truth -/
theorem jt_val (ha : PE X a (tI X.K g ma)) (he : ∀ whole, isTrue a X.env whole = (do let v ← whole; standAt a.pos; holding [v] (truthy v))) : PT X a (tT X.K g ma) := by
  refine (pt_truth ha he).imp fun σ H Q h => ?_
  exact tG.bind (k := fun _ x S => ofO (truD x S) S) h fun γ x S v H α F R s w r h => h.tru w r
theorem jt_not (ha : PT X a (tT X.K g ma)) : PT X (.UnaryOp .Not a pos) (tT X.K g fun γ S => (ma γ S).bind fun x S => match truD x S with | some b => .ok (.bl !b) S | none => .bad) := by
  refine (pt_not ha).imp fun σ H Q h => ?_
  obtain ⟨γ, S, α, F, R, s, w, h⟩ := h
  refine ⟨γ, S, α, F, R, s, w, ?_⟩
  unfold trm at h ⊢
  dsimp only at h ⊢
  cases q : ma γ S with
  | ok d S' =>
    rw [q] at h
    dsimp only [Out.bind] at h ⊢
    cases q2 : truD d S' with
    | none => rw [q2] at h; exact h
    | some k =>
      rw [q2] at h
      intro r H' α' F' e w' er
      subst er
      exact h _ H' α' F' e w' rfl
  | exc => rw [q] at h; exact h
  | bad => rw [q] at h; exact h
theorem je_ite (hc : PT X c (tT X.K g mc)) (ha : PE X a (tI X.K g ma)) (hb : PE X b (tI X.K g mb)) : PE X (.IfExp c a b pos) (tI X.K g fun γ S => (mc γ S).bind fun x S => match truD x S with
    | some true => ma γ S
    | some false => mb γ S
    | none => .bad) := by
  refine (pe_ifExp hc ha hb).imp fun σ H Q h => ?_
  obtain ⟨γ, S, α, F, R, s, w, h⟩ := h
  refine ⟨γ, S, α, F, R, s, w, ?_⟩
  unfold trm
  dsimp only at h ⊢
  cases q : mc γ S with
  | ok d S' =>
    rw [q] at h
    dsimp only [Out.bind] at h ⊢
    cases q2 : truD d S' with
    | none => rw [q2] at h; exact h
    | some k =>
      rw [q2] at h
      intro r H' α' F' e w' er
      subst er
      cases k with
      | true => rw [if_pos rfl]; exact ⟨γ, S', α', F', R, s.mono e, w', Aft.ext e h⟩
      | false => rw [if_neg Bool.false_ne_true]; exact ⟨γ, S', α', F', R, s.mono e, w', Aft.ext e h⟩
  | exc => rw [q] at h; exact h
  | bad => rw [q] at h; exact h
/-! ### and, or -/
theorem jb_one {o : BoolOp} (ha : PE X a (tI X.K g ma)) : PE X (.BoolOp o [a] pos) (tI X.K g ma) := pe_one ha
theorem jb_cons {o : Bool} {r : List Expr} (ha : PE X a (tI X.K g ma)) (hb : PE X (.BoolOp (if o then .And else .Or) (b :: r) pos) (tI X.K g mb)) : PE X (.BoolOp (if o then .And else .Or) (a :: b :: r) pos) (tI X.K g fun γ S => (ma γ S).bind fun x S => match truD x S with
    | some k => if k = o then mb γ S else .ok x S
    | none => .bad) := by
  cases o with
  | true =>
    refine (pe_andT ha hb).imp fun σ H Q h => ?_
    refine tG.bind (δ := D) (k := fun γ x S => match truD x S with | some k => if k = true then mb γ S else .ok x S | none => .bad) h fun γ x S v H α F R s w r h => ?_
    cases q : truD x S with
    | none => rw [q] at h; exact False.elim h
    | some k =>
      rw [q] at h
      refine ⟨k, tru_of w r q, ?_⟩
      cases k with
      | true => rw [if_pos rfl]; exact ⟨γ, S, α, F, R, s, w, h⟩
      | false => rw [if_neg Bool.false_ne_true]; exact Aft.now (d := x) h w r
  | false =>
    refine (pe_orT ha hb).imp fun σ H Q h => ?_
    refine tG.bind (δ := D) (k := fun γ x S => match truD x S with | some k => if k = false then mb γ S else .ok x S | none => .bad) h fun γ x S v H α F R s w r h => ?_
    cases q : truD x S with
    | none => rw [q] at h; exact False.elim h
    | some k =>
      rw [q] at h
      refine ⟨k, tru_of w r q, ?_⟩
      cases k with
      | true => rw [if_pos rfl]; exact Aft.now (d := x) h w r
      | false => rw [if_neg Bool.false_ne_true]; exact ⟨γ, S, α, F, R, s, w, h⟩
theorem _root_.L2.PW.imp {e : Expr} {t t' : TT} (h : PW X e t) (f : ∀ σ H Q, t' σ H Q → t σ H Q) : PW X e t' := ⟨fun wh pins s σ H Q I q => h.run wh pins s σ H Q I (f σ H Q q)⟩
theorem jw_one {o : Bool} (ha : PT X a (tT X.K g ma)) : PW X (.BoolOp (if o then .And else .Or) [a] pos) (tT X.K g ma) := by
  cases o with
  | true => exact pw_and1 ha
  | false => exact pw_or1 ha
theorem jw_cons {o : Bool} {r : List Expr} (ha : PT X a (tT X.K g ma)) (hb : PW X (.BoolOp (if o then .And else .Or) (b :: r) pos) (tT X.K g mb)) : PW X (.BoolOp (if o then .And else .Or) (a :: b :: r) pos) (tT X.K g fun γ S => (ma γ S).bind fun x S => match truD x S with
    | some k => if k = o then mb γ S else .ok x S
    | none => .bad) := by
  have go : ∀ σ H Q, tT X.K g (fun γ S => (ma γ S).bind fun x S => match truD x S with | some k => if k = o then mb γ S else .ok x S | none => .bad) σ H Q → tT X.K g ma σ H fun c H1 => if c = o then tT X.K g mb σ H1 Q else Q (!o) H1 := by
    intro σ H Q h
    obtain ⟨γ, S, α, F, R, s, w, h⟩ := h
    refine ⟨γ, S, α, F, R, s, w, ?_⟩
    unfold trm at h ⊢
    dsimp only at h ⊢
    cases q : ma γ S with
    | ok d S' =>
      rw [q] at h
      dsimp only [Out.bind] at h ⊢
      cases q2 : truD d S' with
      | none => rw [q2] at h; exact h
      | some k =>
        rw [q2] at h
        dsimp only at h
        intro r H' α' F' e w' er
        subst er
        by_cases hk : k = o
        · rw [if_pos hk] at h ⊢
          exact ⟨γ, S', α', F', R, s.mono e, w', Aft.ext e h⟩
        · rw [if_neg hk] at h ⊢
          dsimp only at h
          rw [q2] at h
          have : k = !o := by cases k <;> cases o <;> simp_all
          rw [← this]
          exact h k H' α' F' e w' rfl
    | exc => rw [q] at h; exact h
    | bad => rw [q] at h; exact h
  cases o with
  | true =>
    refine (pw_and ha hb).imp fun σ H Q h => ?_
    exact go σ H Q h
  | false =>
    refine (pw_or ha hb).imp fun σ H Q h => ?_
    obtain ⟨γ, S, α, F, R, s, w, h⟩ := go σ H Q h
    refine ⟨γ, S, α, F, R, s, w, Aft.mono h fun c H1 q => ?_⟩
    cases c with
    | true => exact q
    | false => exact q
end
end Itp
namespace Itp
open PySem PySem.Spec PyProof.Rows L2
section
variable {K : PySem.W.Frag} {g : Gb} {α : Nat → Option Addr} {F H R : Hp} {S : Sto}
theorem World.rnone (w : World K g R α F S H) {p : Addr} (hp : H p = none) : R p = none := by
  cases q : R p with
  | none => rfl
  | some o => have := (w.fr p o q).1; rw [hp] at this; cases this
theorem World.frame (w : World K g R α F S H) {p : Addr} {o : HO} (hp : H p = none) : World K g (upd R p o) α F S (upd H p o) := by
  have w' := w.idle (o := o) hp
  refine ⟨w'.fz, w'.st, w'.inj, w'.occ, w'.bd, fun a u h => ?_⟩
  by_cases q : a = p
  · subst q
    rw [upd_same] at h
    cases h
    exact ⟨upd_same, w.fnone hp, fun n e => w.occ n _ e hp⟩
  · rw [upd_ne q] at h
    exact w'.fr a u h
theorem World.reframe (w : World K g (upd R p o) α F S H) {o' : HO} : World K g (upd R p o') α F S (upd H p o') := by
  obtain ⟨h1, h2, h3⟩ := w.fr p o upd_same
  refine ⟨fun a u h => ?_, fun n u h => ?_, w.inj, fun n a h => ?_, w.bd, fun a u h => ?_⟩
  · rw [upd_ne]; exact w.fz a u h
    intro z; rw [z, h2] at h; cases h
  · have k := w.st n u h
    cases u with
    | lst xs =>
      obtain ⟨a, vs, k1, k2, k3, k4⟩ := k
      exact ⟨a, vs, k1, k2, by rw [upd_ne (fun z => h3 n (by rw [← z]; exact k1))]; exact k3, k4⟩
    | ins c ns ds =>
      obtain ⟨a, dx, vs, k1, k2, k3, hl, k4⟩ := k
      exact ⟨a, dx, vs, k1, k2, by rw [upd_ne (fun z => h3 n (by rw [← z]; exact k1))]; exact k3, hl, k4⟩
    | dead => trivial
  · by_cases q : a = p
    · rw [q, upd_same]; exact Option.some_ne_none _
    · rw [upd_ne q]; exact w.occ n a h
  · by_cases q : a = p
    · subst q
      rw [upd_same] at h
      cases h
      exact ⟨upd_same, h2, h3⟩
    · rw [upd_ne q] at h ⊢
      exact w.fr a u (by rw [upd_ne q]; exact h)
theorem World.unframe (w : World K g (upd R p o) α F S H) (hp : R p = none) : World K g R α (upd F p o) S H ∧ Ext α F α (upd F p o) := by
  obtain ⟨h1, h2, h3⟩ := w.fr p o upd_same
  have e : Ext α F α (upd F p o) := ⟨fun _ _ h => h, fun a u h => by rw [upd_ne]; exact h; intro z; rw [z, h2] at h; cases h⟩
  refine ⟨⟨fun a u h => ?_, fun n u h => ?_, w.inj, w.occ, w.bd, fun a u h => ?_⟩, e⟩
  · by_cases q : a = p
    · rw [q, upd_same] at h; rw [q, h1]; exact h
    · rw [upd_ne q] at h; exact w.fz a u h
  · have k := w.st n u h
    cases u with
    | lst xs =>
      obtain ⟨a, vs, k1, k2, k3, k4⟩ := k
      exact ⟨a, vs, k1, by rw [upd_ne (fun z => h3 n (by rw [← z]; exact k1))]; exact k2, k3, Reps.mono e _ _ k4⟩
    | ins c ns ds =>
      obtain ⟨a, dx, vs, k1, k2, k3, hl, k4⟩ := k
      exact ⟨a, dx, vs, k1, by rw [upd_ne (fun z => h3 n (by rw [← z]; exact k1))]; exact k2, k3, hl, Reps.mono e _ _ k4⟩
    | dead => trivial
  · have q : a ≠ p := fun z => by rw [z, hp] at h; cases h
    obtain ⟨k1, k2, k3⟩ := w.fr a u (by rw [upd_ne q]; exact h)
    exact ⟨k1, by rw [upd_ne q]; exact k2, k3⟩
end
section
variable {g : Gb} {X : Cx} {a b c : Expr} {ma mb mc : Gm → Sto → Out D} {ml : Gm → Sto → Out (List D)} {pos : Pos} {es : List Expr}
/-! ### argument lists -/
theorem ja_nil : PA X [] (tIs X.K g fun _ S => .ok [] S) := pa_nil.imp fun σ H Q h => by
  obtain ⟨γ, S, α, F, R, s, w, h⟩ := h
  exact h [] H α F Ext.refl w rfl
theorem ja_cons (hn : noStar a = true) (ha : PE X a (tI X.K g ma)) (hl : PA X es (tIs X.K g ml)) : PA X (a :: es) (tIs X.K g fun γ S => (ma γ S).bind fun d S => (ml γ S).bind fun ds S => .ok (d :: ds) S) := by
  refine (pa_cons ha hl (star_cons hn)).imp fun σ H Q h => ?_
  refine tG.bind (δ := List D) (k := fun γ d S => (ml γ S).bind fun ds S => .ok (d :: ds) S) h fun γ x S vx H α F R s w rx h => ?_
  refine ⟨γ, S, α, F, R, s, w, Aft.bind (δ := List D) h fun ds S vs H α' F' e w' rs h => ?_⟩
  exact h (vx :: vs) H α' F' Ext.refl w' ⟨vx, vs, rfl, Rep.mono e _ _ rx, rs⟩
/-- what stands behind argument values -/
theorem tIs_of {k : List D → Sto → Out D} {σ : L2.St} {H : Hp} {Q : VK} {Q1 : List V → Hp → Prop} (h : tI X.K g (fun γ S => (ml γ S).bind fun ds S => k ds S) σ H Q)
    (f : ∀ ds vs S H α F R, World X.K g R α F S H → Reps X.K g α F ds vs → Aft X.K g R (Rep X.K g) α F (k ds S) Q → Q1 vs H) : tIs X.K g ml σ H Q1 :=
  tG.bind (δ := D) (k := fun _ ds S => k ds S) h fun γ ds S vs H α F R s w r h => f ds vs S H α F R w r h
theorem je_tup {k : Nat} (hz : ∀ γ S ds S', ml γ S = .ok ds S' → ds.length ≤ 1000) (hl : PA X es (tIs X.K g ml)) : PE X (.Tuple es k pos) (tI X.K g fun γ S => (ml γ S).bind fun ds S => .ok (.tup ds) S) := by
  refine (pe_tup hl).imp fun σ H Q h => ?_
  obtain ⟨γ, S, α, F, R, s, w, h⟩ := h
  refine ⟨γ, S, α, F, R, s, w, ?_⟩
  dsimp only at h
  cases q : ml γ S with
  | ok ds S' =>
    rw [q] at h
    intro vs H' α' F' e w' r
    have hl := hz γ S ds S' q
    exact ⟨by rw [← r.length, size16]; omega, Aft.newT (Aft.ext e h) w' r⟩
  | exc => rw [q] at h; exact h
  | bad => rw [q] at h; exact h
theorem je_lst {t : Bool} (hz : ∀ γ S ds S', ml γ S = .ok ds S' → ds.length ≤ 1000) (hl : PA X es (tIs X.K g ml)) : PE X (.List es pos) (tI X.K g fun γ S => (ml γ S).bind fun ds S => if t then .ok (.loc S.length) (S ++ [.lst ds]) else .ok (.lst ds) S) := by
  refine (pe_lst hl).imp fun σ H Q h => ?_
  obtain ⟨γ, S, α, F, R, s, w, h⟩ := h
  refine ⟨γ, S, α, F, R, s, w, ?_⟩
  dsimp only at h
  cases q : ml γ S with
  | ok ds S' =>
    rw [q] at h
    intro vs H' α' F' e w' r
    have hl := hz γ S ds S' q
    refine ⟨by rw [← r.length, size16]; omega, ?_⟩
    cases t with
    | true => exact Aft.newS (Aft.ext e h) w' r
    | false => exact Aft.newL (Aft.ext e h) w' r
  | exc => rw [q] at h; exact h
  | bad => rw [q] at h; exact h
theorem je_spt {k : Nat} {p : Pos} (ha : PE X a (tI X.K g ma)) : PE X (.Tuple [.Starred a p] k pos) (tI X.K g fun γ S => (ma γ S).bind fun x S => match x with | .lst xs => if xs.length ≤ 16777216 then .ok (.tup xs) S else .bad | _ => .bad) := by
  refine (pe_tup (StX.pa_star ha pa_nil)).imp fun σ H Q h => ?_
  refine tG.bind (δ := D) (k := fun γ (x : D) S => match x with | .lst xs => if xs.length ≤ 16777216 then .ok (.tup xs) S else .bad | _ => .bad) h fun γ x S v H α F R s w r h => ?_
  cases x with
  | lst xs =>
    obtain ⟨a, vs, rfl, h2, h3⟩ := r
    refine ⟨a, vs, rfl, .inr (SqL.of (w.fz _ _ h2)), ?_⟩
    dsimp only at h
    split at h
    · rename_i hz
      show (vs ++ []).length ≤ sizeLine ∧ _
      rw [List.append_nil]
      exact ⟨by rw [← h3.length, size16]; exact hz, h.newT w h3⟩
    · exact False.elim h
  | _ => exact False.elim h
theorem je_idx (hn : noSlc b = true) (ha : PE X a (tI X.K g ma)) (hb : PE X b (tI X.K g mb)) : PE X (.Subscript a b pos) (tI X.K g fun γ S => (ma γ S).bind fun x S => (mb γ S).bind fun y S => ofO (idxD x y S) S) :=
  (pe_ix ix_seq ha hb (plain_of hn)).imp fun σ H Q h => tOp_of h fun x y vx vy S H α F R w rx ry h => idx_val w rx ry h
theorem jo_none : PO X none (tIo X.K g fun _ S => .ok none S) := po_none.imp fun σ H Q h => by
  obtain ⟨γ, S, α, F, R, s, w, h⟩ := h
  exact h none H α F Ext.refl w rfl
theorem jo_some (ha : PE X a (tI X.K g ma)) : PO X (some a) (tIo X.K g fun γ S => (ma γ S).bind fun x S => match x with | .int i => .ok (some i) S | _ => .bad) := by
  refine (po_some ha).imp fun σ H Q h => ?_
  refine tG.bind (δ := Option Int) (k := fun γ (x : D) S => match x with | .int i => .ok (some i) S | _ => .bad) h fun γ x S v H α F R s w r h => ?_
  cases x with
  | int i => cases r; exact ⟨i, rfl, h (some i) H α F Ext.refl w rfl⟩
  | _ => exact False.elim h
theorem je_slc {lo hi : Option Expr} {mo mh : Gm → Sto → Out (Option Int)} {p2 : Pos} (ha : PE X a (tI X.K g ma)) (hl : PO X lo (tIo X.K g mo)) (hh : PO X hi (tIo X.K g mh)) :
    PE X (.Subscript a (.Slice lo hi none p2) pos) (tI X.K g fun γ S => (ma γ S).bind fun x S => (mo γ S).bind fun l S => (mh γ S).bind fun u S => ofO (slcD x l u S) S) := by
  refine (pe_slice sl_any ha hl hh).imp fun σ H Q h => ?_
  refine tG.bind (δ := D) (k := fun γ x S => (mo γ S).bind fun l S => (mh γ S).bind fun u S => ofO (slcD x l u S) S) h fun γ x S v H α F R s w r h => ?_
  refine ⟨γ, S, α, F, R, s, w, Aft.bind (δ := D) h fun l S l' H α' F' e w' el h => ?_⟩
  refine ⟨γ, S, α', F', R, s.mono e, w', Aft.bind (δ := D) h fun u S u' H α2 F2 e2 w2 eu h => ?_⟩
  subst el eu
  exact slc_val w2 (Rep.mono (e.trans e2) _ _ r) h
end
end Itp
namespace Itp
open PySem PySem.Spec PyProof.Rows L2
theorem contains_mem {l : List Str} {x : Str} (h : l.contains x = true) : x ∈ l := by simpa using h
section
variable {T : Tab} {g : Gb} {cal : Nat → List D → Sto → Out D} {n : Nat} {X : Cx} {a b c : Expr} {ma mb mc : Gm → Sto → Out D} {ml : Gm → Sto → Out (List D)} {pos : Pos} {es : List Expr} {sc : Scope}
theorem blt_of {f : Expr} {x : Str} (C : Cok T g cal X n) (hs : ScOk X sc) (h : blt T sc x f = true) : (∃ p, f = .Name x p) ∧ Gl X x ∧ X.mg x = none ∧ x ≠ "__name__" ∧ (x == ("__debug__" : Str)) = false := by
  unfold blt at h
  cases q : pName f with
  | none => rw [q] at h; cases h
  | some y =>
    rw [q] at h
    simp only [Bool.and_eq_true] at h
    obtain ⟨⟨h1, h2⟩, h3⟩ := h
    have h1 := of_decide_eq_true h1
    subst h1
    have m := contains_mem h3
    exact ⟨pName_inv q, hs.glo _ h2, C.fr _ m, (C.fo _ m).1, (C.fo _ m).2⟩
theorem ty_pe {t : Ty} {py : Expr} (C : Cok T g cal X n) (hs : ScOk X sc) (h : mtTy T sc t py = true) : PE X py (tC (t.val g)) ∧ t.ok g = true ∧ noStar py = true := by
  unfold mtTy at h
  cases q : pName py with
  | none => rw [q] at h; cases h
  | some x =>
    cases q2 : t.name T with
    | none => rw [q, q2] at h; cases h
    | some y =>
      rw [q, q2] at h
      simp only [Bool.and_eq_true] at h
      obtain ⟨⟨⟨h1, h2⟩, h3⟩, h4⟩ := h
      have h1 := of_decide_eq_true h1
      subst h1
      obtain ⟨p, rfl⟩ := pName_inv q
      have hg := hs.glo _ h2
      have hd : (x == ("__debug__" : Str)) = false := by simpa using h3
      cases t with
      | own k =>
        obtain ⟨k1, k2⟩ := C.cl k x q2
        exact ⟨pe_glob hg k1 rfl hd, decide_eq_true k2, rfl⟩
      | int => cases q2; exact ⟨pe_bltn hg (C.fr _ (contains_mem h4)) boot_int rfl, rfl, rfl⟩
      | bool => cases q2; exact ⟨pe_bltn hg (C.fr _ (contains_mem h4)) (by decide +kernel) rfl, rfl, rfl⟩
      | str => cases q2; exact ⟨pe_bltn hg (C.fr _ (contains_mem h4)) (by decide +kernel) rfl, rfl, rfl⟩
      | list => cases q2; exact ⟨pe_bltn hg (C.fr _ (contains_mem h4)) boot_list rfl, rfl, rfl⟩
      | tuple => cases q2; exact ⟨pe_bltn hg (C.fr _ (contains_mem h4)) boot_tuple rfl, rfl, rfl⟩
theorem je_isi {f : Expr} {t : Ty} (C : Cok T g cal X n) (hs : ScOk X sc) (hf : blt T sc "isinstance" f = true) (hn : noStar a = true) (ha : PE X a (tI X.K g ma)) (ht : mtTy T sc t b = true) :
    PE X (.Call f [a, b] [] pos) (tI X.K g fun γ S => (ma γ S).bind fun x S => match isD x t S with | some b => .ok (.bl b) S | none => .bad) := by
  obtain ⟨⟨p, rfl⟩, hg, hm, _, _⟩ := blt_of C hs hf
  obtain ⟨hb, ho, hnb⟩ := ty_pe C hs ht
  refine (pe_callB call_isi hg hm boot_isinstance (pa_cons ha (pa_cons hb pa_nil (star_cons hnb)) (star_cons hn)) (by decide) (by decide) (star_cons hn) (star_none (by rw [List.all_cons, hnb]; rfl))).imp fun σ H Q h => ?_
  refine tG.bind (δ := D) (k := fun γ x S => match isD x t S with | some b => .ok (.bl b) S | none => .bad) h fun γ x S v H α F R s w r h => ?_
  cases q : isD x t S with
  | none => rw [q] at h; exact False.elim h
  | some k =>
    rw [q] at h
    unfold isD at q
    cases q2 : tkD x S with
    | none => rw [q2] at q; cases q
    | some tk =>
      rw [q2] at q
      have q := Option.some.inj q
      subst q
      obtain ⟨h1, h2⟩ := tk_of C.is w r q2
      exact ⟨_, _, _, _, _, rfl, t.cls g, h1, kit_is C.is h2 ho, h.now w rfl⟩
theorem tys_pa (C : Cok T g cal X n) (hs : ScOk X sc) : ∀ {ts : List Ty} {ps : List Expr}, mtTys T sc ts ps = true → PA X ps (fun _ H Q => Q (ts.map (Ty.val g)) H) ∧ ts.all (Ty.ok g) = true ∧ ps.length = ts.length
  | [], [], _ => ⟨pa_nil, rfl, rfl⟩
  | t :: ts, p :: ps, h => by
    unfold mtTys at h
    rw [Bool.and_eq_true] at h
    obtain ⟨h1, h2, h3⟩ := ty_pe C hs h.1
    obtain ⟨k1, k2, k3⟩ := tys_pa C hs h.2
    refine ⟨(pa_cons h1 k1 (star_cons h3)).imp fun σ H Q h => h, by rw [List.all_cons, h2, k2]; rfl, by simp [k3]⟩
  | [], _ :: _, h => by cases h
  | _ :: _, [], h => by cases h
theorem cls_all (g : Gb) : ∀ ts : List Ty, Paired ClsV (ts.map (Ty.val g)) (ts.map (Ty.py g))
  | [] => .nil
  | t :: ts => .cons (t.cls g) (cls_all g ts)
theorem je_isT {f : Expr} {ts : List Ty} {bs : List Expr} {k : Nat} {tp : Pos} (hz : ts.length ≤ 1000) (C : Cok T g cal X n) (hs : ScOk X sc) (hf : blt T sc "isinstance" f = true) (hn : noStar a = true) (ha : PE X a (tI X.K g ma)) (ht : mtTys T sc ts bs = true) :
    PE X (.Call f [a, .Tuple bs k tp] [] pos) (tI X.K g fun γ S => (ma γ S).bind fun x S => match isAny x ts S with | some b => .ok (.bl b) S | none => .bad) := by
  obtain ⟨⟨p, rfl⟩, hg, hm, _, _⟩ := blt_of C hs hf
  obtain ⟨hb, ho, hl⟩ := tys_pa C hs ht
  refine (pe_callB call_isiT hg hm boot_isinstance (pa_cons ha (pa_cons (pe_tup hb) pa_nil) (star_cons hn)) (by decide) (by decide) (star_cons hn) rfl).imp fun σ H Q h => ?_
  refine tG.bind (δ := D) (k := fun γ x S => match isAny x ts S with | some b => .ok (.bl b) S | none => .bad) h fun γ x S v H α F R s w r h => ?_
  refine ⟨by rw [List.length_map, size16]; omega, fun p hp => ?_⟩
  have w' := w.idle (o := .tup (ts.map (Ty.val g))) hp
  cases q : isAny x ts S with
  | none => rw [q] at h; exact False.elim h
  | some k =>
    rw [q] at h
    unfold isAny at q
    cases q2 : tkD x S with
    | none => rw [q2] at q; cases q
    | some tk =>
      rw [q2] at q
      have q := Option.some.inj q
      subst q
      obtain ⟨h1, h2⟩ := tk_of C.is w' r q2
      exact ⟨_, _, _, _, _, _, rfl, upd_same, cls_all g ts, h1, kit_any C.is h2 ho, h.now w' rfl⟩
theorem je_bf {f : Expr} (bb : BF) (C : Cok T g cal X n) (hs : ScOk X sc) (hf : blt T sc bb.nm f = true) (hn : (a :: es).all noStar = true) (ha : PA X (a :: es) (tIs X.K g ml)) :
    PE X (.Call f (a :: es) [] pos) (tI X.K g fun γ S => (ml γ S).bind fun ds S => ofO (bfD bb ds S) S) := by
  obtain ⟨⟨p, rfl⟩, hg, hm, h1, h2⟩ := blt_of C hs hf
  have hn' : noStar a = true ∧ es.all noStar = true := by rw [List.all_cons, Bool.and_eq_true] at hn; exact hn
  have fin : ∀ {σ : L2.St} {H : Hp} {Q : VK}, tI X.K g (fun γ S => (ml γ S).bind fun ds S => ofO (bfD bb ds S) S) σ H Q → tCB (rBf X.K bb) (tIs X.K g ml) σ H Q := fun h => tIs_of h fun ds vs S H α F R w r h => bf_val bb w r h
  cases bb with
  | len => exact (pe_callB call_len hg hm boot_len ha h1 h2 (star_cons hn'.1) (star_none hn'.2)).imp fun σ H Q h => fin h
  | int => exact (pe_callTy call_int1 hg hm boot_int ha h1 h2 (star_cons hn'.1) (star_none hn'.2)).imp fun σ H Q h => fin h
  | list => exact (pe_callTy ((call_list_txt C.calm).or call_list_of) hg hm boot_list ha h1 h2 (star_cons hn'.1) (star_none hn'.2)).imp fun σ H Q h => fin h
  | tuple => exact (pe_callTy call_tuple_of hg hm boot_tuple ha h1 h2 (star_cons hn'.1) (star_none hn'.2)).imp fun σ H Q h => fin h
  | all => exact (pe_callB (cr_all C.calm) hg hm boot_all ha h1 h2 (star_cons hn'.1) (star_none hn'.2)).imp fun σ H Q h => fin h
  | any => exact (pe_callB (cr_any C.calm) hg hm boot_any ha h1 h2 (star_cons hn'.1) (star_none hn'.2)).imp fun σ H Q h => fin h
  | str => exact (pe_callTy call_str_int hg hm (by decide +kernel) ha h1 h2 (star_cons hn'.1) (star_none hn'.2)).imp fun σ H Q h => fin h
  | range =>
    refine ⟨fun pins s σ H Q I h => ?_⟩
    obtain ⟨γ, S, α, F, R, s, w, h⟩ := h
    dsimp only at h
    cases q : ml γ S with
    | ok ds S' =>
      rw [q] at h
      cases ds with
      | nil => exact False.elim h
      | cons d r =>
        cases r with
        | nil => cases d <;> exact False.elim h
        | cons d' r' => cases d <;> exact False.elim h
    | exc => rw [q] at h; exact False.elim h
    | bad => rw [q] at h; exact False.elim h
theorem je_call0 {f : Nat} {x : Str} (C : Cok T g cal X n) (hx : T.fn[f]? = some x) (hg : Gl X x) (hd : (x == ("__debug__" : Str)) = false) : PE X (.Call (.Name x p) [] [] pos) (tI X.K g fun γ S => (Out.ok [] S).bind fun ds S => cal f ds S) := by
  obtain ⟨h1, h2, fd, ps, np, F1, B1, hb, _⟩ := C.fn f x hx
  refine (pe_call0 F1 C.room hg h1 h2 B1 .nil pass0 hd).imp fun σ H Q h => ?_
  obtain ⟨γ, S, α, F, R, s, w, h⟩ := h
  refine ⟨[], S, α, F, R, ?_, rfl, w, h⟩
  by_cases z : ([] : List D).length = np
  · exact z
  · have h : Aft X.K g R (Rep X.K g) α F (cal f [] S) Q := h
    rw [hb [] S z] at h
    exact False.elim h
theorem je_call {f : Nat} {x : Str} (C : Cok T g cal X n) (hx : T.fn[f]? = some x) (hg : Gl X x) (hd : (x == ("__debug__" : Str)) = false) (hn : (a :: es).all noStar = true) (ha : PA X (a :: es) (tIs X.K g ml)) : PE X (.Call (.Name x p) (a :: es) [] pos) (tI X.K g fun γ S => (ml γ S).bind fun ds S => cal f ds S) := by
  obtain ⟨h1, h2, fd, ps, np, F1, B1, hb, _⟩ := C.fn f x hx
  have hn' : noStar a = true ∧ es.all noStar = true := by rw [List.all_cons, Bool.and_eq_true] at hn; exact hn
  refine (pe_call F1 C.room hg h1 h2 B1 .nil pass0 ha hd (star_cons hn'.1) (star_none hn'.2)).imp fun σ H Q h => ?_
  refine tIs_of h fun ds vs S H α F R w r h => ?_
  refine ⟨ds, S, α, F, R, ?_, by rw [List.append_nil]; exact r, w, h⟩
  by_cases z : ds.length = np
  · exact z
  · rw [hb ds S z] at h
    exact False.elim h
theorem pick_rep {K : PySem.W.Frag} {α : Nat → Option Addr} {F : Hp} {ds : List D} {vs : List V} (r : Reps K g α F ds vs) : ∀ {pi : List Nat} {es : List D}, pick ds pi = some es → ∃ ws, pickV vs pi = some ws ∧ Reps K g α F es ws
  | [], es, h => by cases h; exact ⟨[], rfl, rfl⟩
  | j :: pi, es, h => by
    have h : (match ds[j]?, pick ds pi with | some d, some rs => some (d :: rs) | _, _ => none) = some es := h
    cases q1 : ds[j]? with
    | none => rw [q1] at h; cases h
    | some d =>
      cases q2 : pick ds pi with
      | none => rw [q1, q2] at h; cases h
      | some rs =>
        rw [q1, q2] at h
        cases h
        obtain ⟨v, k1, k2⟩ := r.get q1
        obtain ⟨ws, j1, j2⟩ := pick_rep r q2
        refine ⟨v :: ws, ?_, v, ws, rfl, k2, j2⟩
        unfold pickV
        rw [k1, j1]
theorem pick_vals {vs : List V} {us : List Value} (r : Vals vs us) : ∀ {pi : List Nat} {ws : List V}, pickV vs pi = some ws → ∃ zs, pickV us pi = some zs ∧ Vals ws zs
  | [], ws, h => by cases h; exact ⟨[], rfl, .nil⟩
  | j :: pi, ws, h => by
    unfold pickV at h
    cases q1 : vs[j]? with
    | none => rw [q1] at h; cases h
    | some d =>
      cases q2 : pickV vs pi with
      | none => rw [q1, q2] at h; cases h
      | some rs =>
        rw [q1, q2] at h
        cases h
        obtain ⟨v, k1, k2⟩ := r.get q1
        obtain ⟨zs, j1, j2⟩ := pick_vals r q2
        refine ⟨v :: zs, ?_, .cons k2 j2⟩
        unfold pickV
        rw [k1, j1]
theorem kw_all {env : Env} {pos : Pos} : ∀ {kws : List Keyword} {ks : List Str}, kwNames kws = some ks → (backToKw pos (keywordEach kws env)).all (·.1.isSome) = true ∧ (backToKw pos (keywordEach kws env)).filterMap (·.1) = ks ∧ (backToKw pos (keywordEach kws env)).any (·.1.isNone) = false ∧ ks.length = kws.length
  | [], ks, h => by cases h; exact ⟨rfl, rfl, rfl, rfl⟩
  | ⟨none, v, p⟩ :: r, ks, h => by cases h
  | ⟨some x, v, p⟩ :: r, ks, h => by
    have h : (kwNames r).map (x :: ·) = some ks := h
    cases q : kwNames r with
    | none => rw [q] at h; cases h
    | some ks' =>
      rw [q] at h
      cases h
      obtain ⟨h1, h2, h3, h4⟩ := kw_all (env := env) (pos := pos) q
      refine ⟨?_, ?_, ?_, by simp [h4]⟩
      · show (true && (backToKw pos (keywordEach r env)).all (·.1.isSome)) = true
        rw [h1]; rfl
      · show x :: (backToKw pos (keywordEach r env)).filterMap (·.1) = _
        rw [h2]
      · show (false || (backToKw pos (keywordEach r env)).any (·.1.isNone)) = false
        rw [h3]; rfl
/-- f(.., k = v, ..) -/
theorem je_callP {f : Nat} {x : Str} {as : List Expr} {kws : List Keyword} {ks : List Str} {pi : List Nat} {mk : Gm → Sto → Out (List D)} (C : Cok T g cal X n) (hx : T.fn[f]? = some x) (hg : Gl X x) (hd : (x == ("__debug__" : Str)) = false) (hn : as.all noStar = true) (ha : PA X as (tIs X.K g ml)) (hk : PK X kws (tIs X.K g mk))
    (hks : kwNames kws = some ks) (hkb : (f, as.length, ks, pi) ∈ T.kb) (hla : ∀ γ S ds S', ml γ S = .ok ds S' → ds.length = as.length) (hlk : ∀ γ S ds S', mk γ S = .ok ds S' → ds.length = kws.length) (hnil : as = [] → ∀ γ S, ml γ S = .ok [] S) :
    PE X (.Call (.Name x p) as kws pos) (tI X.K g fun γ S => (ml γ S).bind fun ds S => (mk γ S).bind fun ks S => match pick (ds ++ ks) pi with | some ds => cal f ds S | none => .bad) := by
  obtain ⟨h1, h2, fd, ps, np, F1, B1, hb, hnp, hkw⟩ := C.fn f x hx
  obtain ⟨k1, k2, k3, k4⟩ := kw_all (env := X.env) (pos := pos) hks
  have hpl : ((backTo pos (starEach as X.env)).any (·.1) || (backToKw pos (keywordEach kws X.env)).any (·.1.isNone)) = false := by rw [star_none hn, k3]; rfl
  -- the call behind the arguments
  have fin : ∀ {pins σ H s us ws vs zs Q} {γ : Gm} {ds es : List D} {S : Sto} {α F R}, Inv X pins σ H s → Vals vs us → Vals zs ws → us.length = as.length → ws.length = ks.length → World X.K g R α F S H → Reps X.K g α F ds vs → Reps X.K g α F es zs →
      Aft X.K g R (Rep X.K g) α F (match pick (ds ++ es) pi with | some ds => cal f ds S | none => .bad) Q → wpAny (model X.prog X.w) X.A (call (.ref (g.fA f)) us (ks.zip ws)) (EP X pins σ Q) X.xe s := by
    intro pins σ H s us ws vs zs Q γ ds es S α F R I rv rz lu lw w rd re h
    cases q : pick (ds ++ es) pi with
    | none => rw [q] at h; exact False.elim h
    | some fs =>
      rw [q] at h
      obtain ⟨xs, j1, j2⟩ := pick_rep (rd.app re) q
      obtain ⟨ys, i1, i2⟩ := pick_vals (rv.append rz) j1
      have hl : fs.length = np := by
        by_cases z : fs.length = np
        · exact z
        · have h : Aft X.K g R (Rep X.K g) α F (cal f fs S) Q := h
          rw [hb fs S z] at h; exact False.elim h
      refine wpAny_call (codeAny_mono (F1.run X.A X.stack s H ⟨us, ks.zip ws⟩ ys xs Q E0 C.room I.env0 (hkw _ _ _ hkb s us ws ys I.kIn lu lw i1) i2 ⟨fs, S, α, F, R, hl, j2, w, h⟩) fun r s' hq => ?_)
      cases r with
      | error e => exact hq.elim
      | ok fl =>
        cases fl with
        | ret u => exact I.after hq
        | next => exact False.elim hq
        | brk => exact False.elim hq
        | cont => exact False.elim hq
  refine ⟨fun pins s σ H Q I h => ?_⟩
  refine wpAny_Call_Name_kw (ld_glob I hg h1 ?_ hd)
  have hh : tIs X.K g ml σ H fun vs H1 => vs.length = as.length ∧ tIs X.K g mk σ H1 fun zs H2 => zs.length = ks.length ∧ ∃ (ds es : List D) (S : Sto) (α : Nat → Option Addr) (F R : Hp), World X.K g R α F S H2 ∧ Reps X.K g α F ds vs ∧ Reps X.K g α F es zs ∧
      Aft X.K g R (Rep X.K g) α F (match pick (ds ++ es) pi with | some ds => cal f ds S | none => .bad) Q := by
    obtain ⟨γ, S, α, F, R, s, w, h⟩ := h
    refine ⟨γ, S, α, F, R, s, w, ?_⟩
    dsimp only at h
    cases q : ml γ S with
    | exc => rw [q] at h; exact h
    | bad => rw [q] at h; exact h
    | ok ds S1 =>
      rw [q] at h
      intro vs H1 α1 F1 e1 w1 r1
      refine ⟨by rw [← r1.length]; exact hla _ _ _ _ q, γ, S1, α1, F1, R, s.mono e1, w1, ?_⟩
      dsimp only [Out.bind] at h
      cases q2 : mk γ S1 with
      | exc => rw [q2] at h; exact h
      | bad => rw [q2] at h; exact h
      | ok es S2 =>
        rw [q2] at h
        intro zs H2 α2 F2 e2 w2 r2
        exact ⟨by rw [← r2.length, k4]; exact hlk _ _ _ _ q2, ds, es, S2, α2, F2, R, w2, Reps.mono e2 _ _ r1, r2, Aft.ext (e1.trans e2) h⟩
  cases as with
  | nil =>
    refine PySem.W.callWith_KW0 (h₀ := X.base) I.ok.mod.kin h2 k1 ?_ hpl
    obtain ⟨γ, S, α, F, R, sl, w, hq⟩ := hh
    rw [hnil rfl γ S] at hq
    obtain ⟨lv, q⟩ := hq [] H α F Ext.refl w rfl
    refine thn (hk.run pos pins s σ H _ I q) fun ws s2 ⟨zs, H2, I2, rz, lz, ds, es, S, α, F, R, w, rd, re, h⟩ => ⟨I2.kIn, ?_⟩
    rw [k2, List.nil_append]
    exact fin (γ := []) I2 .nil rz rfl (by rw [← rz.length]; exact lz) w rd re h
  | cons a as =>
    have hn' : noStar a = true ∧ as.all noStar = true := by rw [List.all_cons, Bool.and_eq_true] at hn; exact hn
    refine PySem.W.callWith_KW (h₀ := X.base) I.ok.mod.kin h2 k1 (thn (ha.run pos pins s σ H _ I hh) fun us s1 ⟨vs, H1, I1, r, lv, q⟩ => ?_) hpl (star_cons hn'.1)
    refine thn (hk.run pos pins s1 σ H1 _ I1 q) fun ws s2 ⟨zs, H2, I2, rz, lz, ds, es, S, α, F, R, w, rd, re, h⟩ => ⟨I2.kIn, ?_⟩
    rw [k2, List.nil_append]
    exact fin (γ := []) I2 r rz (by rw [← r.length]; exact lv) (by rw [← rz.length]; exact lz) w rd re h
theorem je_frz (ha : PE X a (tI X.K g ma)) : PE X a (tI X.K g fun γ S => (ma γ S).bind fun x S => match x with
    | .loc n => (match S[n]? with
      | some (.lst xs) => .ok (.lst xs) (S.set n .dead)
      | some (.ins c ns ds) => .ok (.obj c ns ds) (S.set n .dead)
      | _ => .bad)
    | _ => .bad) := by
  refine ha.imp fun σ H Q h => ?_
  refine tG.bind (δ := D) (k := fun γ (x : D) S => match x with
    | .loc n => (match S[n]? with
      | some (.lst xs) => .ok (.lst xs) (S.set n .dead)
      | some (.ins c ns ds) => .ok (.obj c ns ds) (S.set n .dead)
      | _ => .bad)
    | _ => .bad) h fun γ x S v H α F R s w r h => ?_
  cases x with
  | loc n =>
    obtain ⟨a, rfl, h1⟩ := r
    dsimp only at h
    cases q : S[n]? with
    | none => rw [q] at h; exact False.elim h
    | some o =>
      rw [q] at h
      have k := w.st n o q
      cases o with
      | lst xs =>
        obtain ⟨b, vs, k1, k2, k3, k4⟩ := k
        rw [h1] at k1; cases k1
        obtain ⟨w', e⟩ := w.freeze h1 k2 k3
        exact h _ H α _ e w' ⟨a, vs, rfl, upd_same, Reps.mono e _ _ k4⟩
      | ins c ns ds =>
        obtain ⟨b, dx, vs, k1, k2, k3, hl, k4⟩ := k
        rw [h1] at k1; cases k1
        obtain ⟨w', e⟩ := w.freeze h1 k2 k3
        exact h _ H α _ e w' ⟨a, dx, vs, rfl, upd_same, hl, Reps.mono e _ _ k4⟩
      | dead => exact False.elim h
  | _ => exact False.elim h
end
end Itp
namespace Itp
open PySem PySem.Spec PyProof.Rows L2
theorem join_ok (a : Str) (ha : okS a = true) : ∀ ys : List Str, (∀ y ∈ ys, okS y = true) → (Str.join a ys).cps.all (· < 0x110000) = true ∧ (Str.join a ys).length ≤ (ys.map (·.length)).sum + ys.length * a.length
  | [], _ => ⟨by show (#[] : Array Nat).all _ = true; simp, Nat.zero_le _⟩
  | [x], h => by
    have hx := h x List.mem_cons_self
    unfold okS at hx
    rw [Bool.and_eq_true] at hx
    refine ⟨hx.1, ?_⟩
    show x.length ≤ _
    simp
  | x :: y :: r, h => by
    obtain ⟨k1, k2⟩ := join_ok a ha (y :: r) fun z hz => h z (List.mem_cons_of_mem _ hz)
    have hx := h x List.mem_cons_self
    unfold okS at hx ha
    rw [Bool.and_eq_true] at hx ha
    have e : Str.join a (x :: y :: r) = x ++ a ++ Str.join a (y :: r) := rfl
    rw [e]
    refine ⟨?_, ?_⟩
    · show ((x.cps ++ a.cps) ++ (Str.join a (y :: r)).cps).all _ = true
      rw [Array.all_append, Array.all_append, hx.1, ha.1, k1]
      rfl
    · show ((x.cps ++ a.cps) ++ (Str.join a (y :: r)).cps).size ≤ _
      rw [Array.size_append, Array.size_append]
      have k2 : (Str.join a (y :: r)).cps.size ≤ _ := k2
      have e1 : x.cps.size = x.length := rfl
      have e2 : a.cps.size = a.length := rfl
      simp only [List.map_cons, List.sum_cons, List.length_cons] at k2 ⊢
      rw [e1, e2]
      have e3 : (r.length + 1 + 1) * a.length = (r.length + 1) * a.length + a.length := by rw [Nat.add_mul, Nat.one_mul]
      omega
section
variable {T : Tab} {g : Gb} {cal : Nat → List D → Sto → Out D} {n : Nat} {X : Cx} {a b c o : Expr} {ma mb mc mo : Gm → Sto → Out D} {ml : Gm → Sto → Out (List D)} {pos apos : Pos} {es : List Expr} {sc : Scope}
theorem aft_bad {β ρ : Type} {rep : (Nat → Option Addr) → Hp → D → ρ → Prop} {α : Nat → Option Addr} {F R : Hp} {m : Out β} {k : β → Sto → Out D} {Q : ρ → Hp → Prop} (h : Aft X.K g R rep α F (m.bind k) Q) (hk : ∀ b S, k b S = .bad) : False := by
  cases m with
  | ok b S => rw [show (Out.ok b S).bind k = k b S from rfl, hk] at h; exact h
  | exc => exact h
  | bad => exact h
theorem je_join (hn : noStar a = true) (hb : noSup o = true) (hl : apos.endLine = pos.line) (ho : PE X o (tI X.K g mo)) (ha : PE X a (tI X.K g ma)) :
    PE X (.Call (.Attribute o "join" apos) [a] [] pos) (tI X.K g fun γ S => (mo γ S).bind fun x S => if bmOk .join x S then ((ma γ S).bind fun d S => .ok [d] S).bind fun ds S => bmD .join x ds S else .bad) := by
  refine (pe_join ho ha (star_cons hn) (base_of hb) (by rw [hl]; simp)).imp fun σ H Q h => ?_
  refine tG.bind (δ := D) (k := fun γ x S => if bmOk .join x S then ((ma γ S).bind fun d S => .ok [d] S).bind fun ds S => bmD .join x ds S else .bad) h fun γ x S v H α F R s w r h => ?_
  cases x with
  | str z =>
    obtain ⟨rfl, oz⟩ := r
    refine ⟨⟨z, rfl⟩, γ, S, α, F, R, s, w, ?_⟩
    rw [if_pos (show bmOk BM.join (D.str z) S = true from rfl)] at h
    cases q : ma γ S with
    | ok d S' =>
      rw [q] at h
      intro v H' α' F' e w' r
      have h : Aft X.K g R (Rep X.K g) α F (bmD .join (.str z) [d] S') Q := h
      have h : Aft X.K g R (Rep X.K g) α F (match lstOf d S' with
        | some xs => (match strsOf xs with
          | some ys => if (ys.map (·.length)).sum + ys.length * z.length ≤ 16777216 then .ok (.str (Str.join z ys)) S' else .bad
          | none => .bad)
        | none => .bad) Q := h
      cases q1 : lstOf d S' with
      | none => rw [q1] at h; exact False.elim h
      | some xs =>
        rw [q1] at h
        dsimp only at h
        cases q2 : strsOf xs with
        | none => rw [q2] at h; exact False.elim h
        | some ys =>
          rw [q2] at h
          dsimp only at h
          split at h
          · rename_i hz
            obtain ⟨p, vs, rfl, h2, h3⟩ := lst_of w' r q1
            obtain ⟨k1, k2⟩ := strs_of h3 q2
            rw [k1] at h2
            obtain ⟨j1, j2⟩ := join_ok z oz ys k2
            refine ⟨z, p, ys, rfl, rfl, .inl (SqL.of h2), hz, ?_⟩
            rw [show Txt.join z ys = Str.join z ys from TL.join_eq z ys]
            refine Aft.now (Aft.ext e h) w' ⟨rfl, ?_⟩
            unfold okS
            rw [Bool.and_eq_true]
            exact ⟨j1, decide_eq_true (Nat.le_trans j2 hz)⟩
          · exact False.elim h
    | exc => rw [q] at h; exact h
    | bad => rw [q] at h; exact h
  | _ => exact False.elim h
theorem je_app (hn : noStar a = true) (hb : noSup o = true) (hl : apos.endLine = pos.line) (ho : PE X o (tI X.K g mo)) (ha : PE X a (tI X.K g ma)) :
    PE X (.Call (.Attribute o "append" apos) [a] [] pos) (tI X.K g fun γ S => (mo γ S).bind fun x S => if bmOk .append x S then ((ma γ S).bind fun d S => .ok [d] S).bind fun ds S => bmD .append x ds S else .bad) := by
  refine (pe_bm PySem.F.plainAttrs_list PySem.F.slot_list_append PySem.F.type_list_append mt_append ho (pa_cons ha pa_nil (star_cons hn)) (base_of hb) ?_ (by rw [hl]; simp) (star_cons hn) rfl).imp fun σ H Q h => ?_
  · rw [star_cons hn]; rfl
  refine tG.bind (δ := D) (k := fun γ x S => if bmOk .append x S then ((ma γ S).bind fun d S => .ok [d] S).bind fun ds S => bmD .append x ds S else .bad) h fun γ x S v H α F R s w r h => ?_
  split at h
  · rename_i hx
    cases q0 : lstOf x S with
    | none => have hx : (lstOf x S).isSome = true := hx; rw [q0] at hx; cases hx
    | some xs0 =>
      obtain ⟨p, vs0, rfl, h20, _⟩ := lst_of w r q0
      refine ⟨.inl ⟨rfl, _, SqL.of h20⟩, γ, S, α, F, R, s, w, ?_⟩
      cases q : ma γ S with
      | exc => rw [q] at h; exact False.elim h
      | bad => rw [q] at h; exact False.elim h
      | ok d S' =>
        rw [q] at h
        intro y H' α' F' e w' ry
        have h : Aft X.K g R (Rep X.K g) α F (bmD .append x [d] S') Q := h
        cases x with
        | loc n =>
          have h : Aft X.K g R (Rep X.K g) α F (match S'[n]? with
            | some (.lst xs) => if xs.length < 16777216 then .ok .non (S'.set n (.lst (xs ++ [d]))) else .bad
            | _ => .bad) Q := h
          cases q1 : S'[n]? with
          | none => rw [q1] at h; exact False.elim h
          | some so =>
            cases so with
            | ins => rw [q1] at h; exact False.elim h
            | dead => rw [q1] at h; exact False.elim h
            | lst xs =>
              rw [q1] at h
              dsimp only at h
              split at h
              · rename_i hz
                obtain ⟨p', vs, k1, k2, k3, k4⟩ := w'.st n _ q1
                obtain ⟨p2, e2, k0⟩ := r
                cases e2
                rw [e.al _ _ k0] at k1
                cases k1
                refine ⟨p, vs, y, rfl, rfl, k3, by rw [← k4.length, size16]; exact hz, ?_⟩
                have h := Aft.ext e h
                refine h .non _ α' F' Ext.refl (w'.write (e.al _ _ k0) k2 ⟨p, vs ++ [y], e.al _ _ k0, k2, upd_same, k4.app ⟨y, [], rfl, ry, rfl⟩⟩) rfl
              · exact False.elim h
        | _ => exact False.elim h
  · exact False.elim h
end
end Itp
namespace Itp
open PySem PySem.Spec PyProof.Rows L2
/-! ### targets -/
theorem each_cons {e : Expr} {es : List Expr} {env : Env} (h : noStar e = true) : assignEach (e :: es) env = (false, assign e env) :: assignEach es env := by
  cases e <;> first | rfl | cases h
theorem each_len {env : Env} : ∀ {es : List Expr}, es.all noStar = true → (assignEach es env).length = es.length ∧ (assignEach es env).findIdx? (·.1) = none
  | [], _ => ⟨rfl, rfl⟩
  | e :: es, h => by
    rw [List.all_cons, Bool.and_eq_true] at h
    obtain ⟨h1, h2⟩ := each_len (env := env) h.2
    rw [each_cons h.1]
    exact ⟨by simp [h1], by rw [List.findIdx?_cons]; simp [h2]⟩
theorem wipe_set {σ : L2.St} {i : Nat} {x : Option V} : ∀ {vs : List Nat}, i ∈ vs → L2.wipe (σ.set i x) vs = L2.wipe σ vs
  | v :: vs, h => by
    unfold L2.wipe
    by_cases hv : i ∈ vs
    · rw [wipe_set hv]
    · have : i = v := by
        rcases List.mem_cons.mp h with e | e
        · exact e
        · exact absurd e hv
      subst this
      have all : ∀ vs : List Nat, (L2.wipe (σ.set i x) vs).set i none = (L2.wipe σ vs).set i none := by
        intro vs
        induction vs with
        | nil => exact List.set_set ..
        | cons w ws ih =>
          unfold L2.wipe
          by_cases hw : w = i
          · subst hw
            rw [List.set_set, List.set_set]
            exact ih
          · rw [List.set_comm _ _ hw, List.set_comm _ _ hw, ih]
      exact all vs
theorem wipe_wipe {σ : L2.St} : ∀ {vs us : List Nat}, (∀ v ∈ vs, v ∈ us) → L2.wipe (L2.wipe σ vs) us = L2.wipe σ us
  | [], us, _ => rfl
  | v :: vs, us, h => by
    show L2.wipe ((L2.wipe σ vs).set v none) us = _
    rw [wipe_set (h v List.mem_cons_self)]
    exact wipe_wipe fun w hw => h w (List.mem_cons_of_mem _ hw)
/-- a target's reading: the slots behind it -/
def gI (K : PySem.W.Frag) (g : Gb) (tg : Tg) : TG := fun v σ H Q => ∃ d γ γ' S α F R, Rep K g α F d v ∧ Slots K g α F γ σ ∧ World K g R α F S H ∧ setTg tg d γ = some γ' ∧
  ∀ σ', Slots K g α F γ' σ' → (∀ vs, (∀ i ∈ tg.slots, i ∈ vs) → L2.wipe σ' vs = L2.wipe σ vs) → Q σ' H
def gIs (K : PySem.W.Frag) (g : Gb) (ts : List Tg) : TGs := fun vs σ H Q => ∃ ds γ γ' S α F R, Reps K g α F ds vs ∧ Slots K g α F γ σ ∧ World K g R α F S H ∧ setTgs ts ds γ = some γ' ∧
  ∀ σ', Slots K g α F γ' σ' → (∀ vs, (∀ i ∈ Tg.slotss ts, i ∈ vs) → L2.wipe σ' vs = L2.wipe σ vs) → Q σ' H
theorem _root_.L2.PG.imp {X : Cx} {e : Expr} {t t' : TG} (h : PG X e t) (f : ∀ v σ H Q, t' v σ H Q → t v σ H Q) : PG X e t' := ⟨fun pins s σ H v u Q I r q => h.run pins s σ H v u Q I r (f v σ H Q q)⟩
theorem _root_.L2.PGs.imp {X : Cx} {e : List Expr} {t t' : TGs} (h : PGs X e t) (f : ∀ v σ H Q, t' v σ H Q → t v σ H Q) : PGs X e t' := ⟨fun pins s σ H v u Q I r q => h.run pins s σ H v u Q I r (f v σ H Q q)⟩
section
variable {g : Gb} {X : Cx} {sc : Scope}
mutual
theorem jg (hc : X.calm = true) (hN : X.N.Nodup) (hs : ScOk X sc) : ∀ (tg : Tg) (py : Expr), mtTg X.N sc tg py = true → PG X py (gI X.K g tg) ∧ noStar py = true
  | .name i, py, h => by
    unfold mtTg at h
    cases q : pName py with
    | none => rw [q] at h; cases h
    | some x =>
      rw [q] at h
      simp only [Bool.and_eq_true] at h
      obtain ⟨p, rfl⟩ := pName_inv q
      obtain ⟨k1, k2⟩ := hs.sto x h.2
      refine ⟨(pg_name hN (of_decide_eq_true h.1) k1 k2).imp fun v σ H Q h => ?_, rfl⟩
      obtain ⟨d, γ, γ', S, α, F, R, r, s, w, e, k⟩ := h
      have e : γ.set i (some d) = γ' := Option.some.inj e
      subst e
      exact k _ (s.set r) fun vs hv => wipe_set (hv i List.mem_cons_self)
  | .tup ts, py, h => by
    unfold mtTg at h
    cases q : pTup py with
    | none => rw [q] at h; cases h
    | some ps =>
      rw [q] at h
      obtain ⟨k, p, rfl⟩ := pTup_inv q
      obtain ⟨k1, k2, k3⟩ := jgs hc hN hs ts ps h
      obtain ⟨l1, l2⟩ := each_len (env := X.env) k2
      refine ⟨(pg_tup hc k1 l1 l2).imp fun v σ H Q h => ?_, rfl⟩
      obtain ⟨d, γ, γ', S, α, F, R, r, s, w, e, k⟩ := h
      cases d with
      | tup ds =>
        obtain ⟨a, vs, rfl, h2, h3⟩ := r
        have e : (if ts.length = ds.length then setTgs ts ds γ else none) = some γ' := e
        split at e
        · rename_i hl
          exact ⟨a, vs, rfl, SqT.of (w.fz _ _ h2), by rw [← h3.length, ← hl, k3], ds, γ, γ', S, α, F, R, h3, s, w, e, k⟩
        · cases e
      | _ => cases e
theorem jgs (hc : X.calm = true) (hN : X.N.Nodup) (hs : ScOk X sc) : ∀ (ts : List Tg) (ps : List Expr), mtTgs X.N sc ts ps = true → PGs X ps (gIs X.K g ts) ∧ ps.all noStar = true ∧ ps.length = ts.length
  | [], [], _ => by
    refine ⟨pgs_nil.imp fun vs σ H Q h => ?_, rfl, rfl⟩
    obtain ⟨ds, γ, γ', S, α, F, R, r, s, w, e, k⟩ := h
    cases ds with
    | nil =>
      cases r
      have e : γ = γ' := Option.some.inj e
      subst e
      exact ⟨rfl, k σ s fun _ _ => rfl⟩
    | cons d ds => cases e
  | t :: ts, p :: ps, h => by
    unfold mtTgs at h
    rw [Bool.and_eq_true] at h
    obtain ⟨k1, k2⟩ := jg hc hN hs t p h.1
    obtain ⟨j1, j2, j3⟩ := jgs hc hN hs ts ps h.2
    refine ⟨(pgs_cons k1 j1 (by rw [each_cons k2]; rfl)).imp fun vs σ H Q h => ?_, by rw [List.all_cons, k2, j2]; rfl, by simp [j3]⟩
    obtain ⟨ds, γ, γ', S, α, F, R, r, s, w, e, k⟩ := h
    cases ds with
    | nil => cases e
    | cons d ds =>
      obtain ⟨v, rs, rfl, r1, r2⟩ := r
      have e : (match setTg t d γ with | some γ' => setTgs ts ds γ' | none => none) = some γ' := e
      cases q : setTg t d γ with
      | none => rw [q] at e; cases e
      | some γ1 =>
        rw [q] at e
        refine ⟨v, rs, rfl, d, γ, γ1, S, α, F, R, r1, s, w, q, fun σ1 s1 wp1 => ?_⟩
        refine ⟨ds, γ1, γ', S, α, F, R, r2, s1, w, e, fun σ' s' wp' => k σ' s' fun vs hv => ?_⟩
        have hv : ∀ i ∈ t.slots ++ Tg.slotss ts, i ∈ vs := hv
        rw [wp' vs fun i hi => hv i (List.mem_append_right _ hi), wp1 vs fun i hi => hv i (List.mem_append_left _ hi)]
  | [], _ :: _, h => by cases h
  | _ :: _, [], h => by cases h
end
end
/-! ### what is walked -/
/-- what is asked of the rest: for each walk of the items -/
def WalkI (K : PySem.W.Frag) (g : Gb) (R : Hp) (xs : List D) (α : Nat → Option Addr) (F : Hp) (S : Sto) (Rr : It → Hp → Prop) : Prop :=
  ∀ H' α' F' J G Y, Ext α F α' F' → World K g R α' F' S H' → Walk J xs.length G Y → (∀ S2 H2 R2 α2 F2, Ext α' F' α2 F2 → World K g R2 α2 F2 S2 H2 → G H2) →
    (∀ i H1 x H2 S1 R1 α1 F1, i < xs.length → Ext α' F' α1 F1 → World K g R1 α1 F1 S1 H1 → Y i H1 x H2 → ∃ d α2 F2, xs[i]? = some d ∧ Ext α1 F1 α2 F2 ∧ World K g R1 α2 F2 S1 H2 ∧ Rep K g α2 F2 d x) → Rr J H'
def iI (K : PySem.W.Frag) (g : Gb) (k : IK) (m : Gm → Sto → Out (List D)) : TI := fun σ H Rr => ∃ γ S α F R, Slots K g α F γ σ ∧ World K g R α F S H ∧ match m γ S with
  | .ok ds S' => ∃ xs, itD k ds S' = some xs ∧ WalkI K g R xs α F S' Rr
  | _ => False
theorem _root_.L2.PI.imp {X : Cx} {tg e : Expr} {t t' : TI} (h : PI X tg e t) (f : ∀ σ H R, t' σ H R → t σ H R) : PI X tg e t' := ⟨fun pins s σ H R I q => h.run pins s σ H R I (f σ H R q)⟩
theorem _root_.L2.PI.or {X : Cx} {tg e : Expr} {t t' : TI} (h : PI X tg e t) (h' : PI X tg e t') : PI X tg e (fun σ H R => t σ H R ∨ t' σ H R) := ⟨fun pins s σ H R I q => q.elim (h.run pins s σ H R I) (h'.run pins s σ H R I)⟩
section
variable {T : Tab} {g : Gb} {cal : Nat → List D → Sto → Out D} {n : Nat} {X : Cx} {sc : Scope} {a b f tg : Expr} {ma : Gm → Sto → Out D} {ml : Gm → Sto → Out (List D)} {pos : Pos} {es : List Expr}
theorem get_some {β : Type} {xs : List β} {i : Nat} (h : i < xs.length) : ∃ d, xs[i]? = some d := ⟨xs[i], by simp [h]⟩
theorem walk_lst {K : PySem.W.Frag} {R : Hp} {xs : List D} {α : Nat → Option Addr} {F H : Hp} {S : Sto} {Rr : It → Hp → Prop} {p : Addr} {vs : List V} (w : World K g R α F S H) (hp : F p = some (.lst vs)) (r : Reps K g α F xs vs) (h : WalkI K g R xs α F S Rr) : Rr (Itl K p) H := by
  refine h H α F _ _ _ Ext.refl w (r.length ▸ walk_list (K := K) (a := p) (xs := vs)) (fun S2 H2 R2 α2 F2 e w2 => SqL.of (w2.fz _ _ (e.fr _ _ hp))) fun i H1 x H2 S1 R1 α1 F1 hi e w1 y => ?_
  obtain ⟨e1, e2⟩ := y
  subst e1
  obtain ⟨d, hd⟩ := get_some hi
  obtain ⟨v, h1, h2⟩ := (Reps.mono e _ _ r).get hd
  rw [e2] at h1
  cases h1
  exact ⟨d, α1, F1, hd, Ext.refl, w1, h2⟩
theorem walk_tpl {K : PySem.W.Frag} {R : Hp} {xs : List D} {α : Nat → Option Addr} {F H : Hp} {S : Sto} {Rr : It → Hp → Prop} {p : Addr} {vs : List V} (w : World K g R α F S H) (hp : F p = some (.tup vs)) (r : Reps K g α F xs vs) (h : WalkI K g R xs α F S Rr) : Rr (Itt K p) H := by
  refine h H α F _ _ _ Ext.refl w (r.length ▸ walk_tup (K := K) (a := p) (xs := vs)) (fun S2 H2 R2 α2 F2 e w2 => SqT.of (w2.fz _ _ (e.fr _ _ hp))) fun i H1 x H2 S1 R1 α1 F1 hi e w1 y => ?_
  obtain ⟨e1, e2⟩ := y
  subst e1
  obtain ⟨d, hd⟩ := get_some hi
  obtain ⟨v, h1, h2⟩ := (Reps.mono e _ _ r).get hd
  rw [e2] at h1
  cases h1
  exact ⟨d, α1, F1, hd, Ext.refl, w1, h2⟩
theorem walk_txt {K : PySem.W.Frag} {R : Hp} {α : Nat → Option Addr} {F H : Hp} {S : Sto} {Rr : It → Hp → Prop} {z : Str} (o : okS z = true) (w : World K g R α F S H) (h : WalkI K g R (signs z) α F S Rr) : Rr (Its z) H := by
  have hl : (signs z).length = z.cps.size := by unfold signs; rw [List.length_map, Array.length_toList]
  refine h H α F _ _ _ Ext.refl w (hl ▸ walk_str (z := z)) (fun _ _ _ _ _ _ _ => trivial) fun i H1 x H2 S1 R1 α1 F1 hi e w1 y => ?_
  obtain ⟨e1, c, e2, e3⟩ := y
  subst e1
  obtain ⟨d, hd⟩ := get_some hi
  obtain ⟨v, h1, h2⟩ := (reps_signs (K := K) (g := g) (α := α1) (F := F1) o).get hd
  have : v = x := by
    unfold signsV at h1
    rw [List.getElem?_map, Array.getElem?_toList, e2] at h1
    rw [e3]
    exact (Option.some.inj h1).symm
  subst this
  exact ⟨d, α1, F1, hd, Ext.refl, w1, h2⟩
theorem ji_val (ha : PE X a (tI X.K g ma)) : PI X tg a (iI X.K g .val fun γ S => (ma γ S).bind fun d S => .ok [d] S) := by
  refine ((pi_list ha).or ((pi_tup ha).or (pi_str ha))).imp fun σ H Rr h => ?_
  obtain ⟨γ, S, α, F, R, s, w, h⟩ := h
  dsimp only at h
  cases q : ma γ S with
  | exc => rw [q] at h; exact False.elim h
  | bad => rw [q] at h; exact False.elim h
  | ok d S' =>
    rw [q] at h
    obtain ⟨xs, e, h⟩ := h
    have ext : ∀ {α' F'}, Ext α F α' F' → WalkI X.K g R xs α' F' S' Rr := fun {α' F'} e => fun H2 α2 F2 J G Y e2 => h H2 α2 F2 J G Y (e.trans e2)
    cases d with
    | lst ys =>
      have e : ys = xs := Option.some.inj e
      subst e
      refine .inl ⟨γ, S, α, F, R, s, w, ?_⟩
      rw [q]
      intro v H' α' F' e w' r
      obtain ⟨p, vs, rfl, h2, h3⟩ := r
      exact ⟨p, rfl, ⟨vs, SqL.of (w'.fz _ _ h2)⟩, walk_lst w' h2 h3 (ext e)⟩
    | tup ys =>
      have e : ys = xs := Option.some.inj e
      subst e
      refine .inr (.inl ⟨γ, S, α, F, R, s, w, ?_⟩)
      rw [q]
      intro v H' α' F' e w' r
      obtain ⟨p, vs, rfl, h2, h3⟩ := r
      exact ⟨p, rfl, ⟨vs, SqT.of (w'.fz _ _ h2)⟩, walk_tpl w' h2 h3 (ext e)⟩
    | str z =>
      have e : signs z = xs := Option.some.inj e
      subst e
      refine .inr (.inr ⟨γ, S, α, F, R, s, w, ?_⟩)
      rw [q]
      intro v H' α' F' e w' r
      obtain ⟨rfl, o⟩ := r
      exact ⟨z, rfl, walk_txt o w' (ext e)⟩
    | _ => cases e
theorem walk_rng {K : PySem.W.Frag} {R : Hp} {α : Nat → Option Addr} {F H : Hp} {S : Sto} {Rr : It → Hp → Prop} {lo : Int} {k : Nat} (w : World K g R α F S H) (h : WalkI K g R ((List.range k).map fun (j : Nat) => D.int (lo + (j : Int))) α F S Rr) : Rr (Itr lo k) H := by
  have hl : ((List.range k).map fun (j : Nat) => D.int (lo + (j : Int))).length = k := by rw [List.length_map, List.length_range]
  refine h H α F _ _ _ Ext.refl w (by rw [hl]; exact walk_range (lo := lo) (n := k)) (fun _ _ _ _ _ _ _ => trivial) fun i H1 x H2 S1 R1 α1 F1 hi e w1 y => ?_
  obtain ⟨e1, e2⟩ := y
  subst e1 e2
  rw [hl] at hi
  exact ⟨.int (lo + i), α1, F1, by rw [List.getElem?_map, List.getElem?_range hi]; rfl, Ext.refl, w1, rfl⟩
theorem ji_rng1 (C : Cok T g cal X n) (hs : ScOk X sc) (hf : blt T sc "range" f = true) (hn : noStar a = true) (ha : PA X [a] (tIs X.K g ml)) (h1 : ∀ γ S ds S', ml γ S = .ok ds S' → ds.length = 1) : PI X tg (.Call f [a] [] pos) (iI X.K g .rng ml) := by
  obtain ⟨⟨p, rfl⟩, hg, hm, _, _⟩ := blt_of C hs hf
  refine (pi_range1 hg hm ha (star_cons hn)).imp fun σ H Rr h => ?_
  obtain ⟨γ, S, α, F, R, s, w, h⟩ := h
  refine ⟨γ, S, α, F, R, s, w, ?_⟩
  cases q : ml γ S with
  | exc => rw [q] at h; exact h
  | bad => rw [q] at h; exact h
  | ok ds S' =>
    rw [q] at h
    obtain ⟨xs, e, h⟩ := h
    intro vs H' α' F' e' w' r
    have ext : WalkI X.K g R xs α' F' S' Rr := fun H2 α2 F2 J G Y e2 => h H2 α2 F2 J G Y (e'.trans e2)
    have hl := h1 γ S ds S' q
    cases ds with
    | nil => cases hl
    | cons d r' =>
      cases r' with
      | cons _ _ => simp at hl
      | nil =>
        obtain ⟨v, rfl, r1⟩ := reps_one r
        cases d with
        | int k =>
          cases r1
          have e : (if -(2 ^ 62) ≤ k ∧ k ≤ 16777216 then some ((List.range k.toNat).map fun (j : Nat) => D.int (0 + (j : Int))) else none) = some xs := e
          split at e
          · rename_i hk
            have e := Option.some.inj e
            subst e
            exact ⟨k, rfl, hk.1, by omega, walk_rng w' ext⟩
          · cases e
        | _ => cases e
theorem ji_rng2 (C : Cok T g cal X n) (hs : ScOk X sc) (hf : blt T sc "range" f = true) (hn : noStar a = true) (hn' : noStar b = true) (ha : PA X [a, b] (tIs X.K g ml)) (h1 : ∀ γ S ds S', ml γ S = .ok ds S' → ds.length = 2) : PI X tg (.Call f [a, b] [] pos) (iI X.K g .rng ml) := by
  obtain ⟨⟨p, rfl⟩, hg, hm, _, _⟩ := blt_of C hs hf
  refine (pi_range2 hg hm ha (by rw [star_cons hn, star_cons hn']; rfl) (star_cons hn')).imp fun σ H Rr h => ?_
  obtain ⟨γ, S, α, F, R, s, w, h⟩ := h
  refine ⟨γ, S, α, F, R, s, w, ?_⟩
  cases q : ml γ S with
  | exc => rw [q] at h; exact h
  | bad => rw [q] at h; exact h
  | ok ds S' =>
    rw [q] at h
    obtain ⟨xs, e, h⟩ := h
    intro vs H' α' F' e' w' r
    have ext : WalkI X.K g R xs α' F' S' Rr := fun H2 α2 F2 J G Y e2 => h H2 α2 F2 J G Y (e'.trans e2)
    have hl := h1 γ S ds S' q
    cases ds with
    | nil => cases hl
    | cons d r' =>
      cases r' with
      | nil => simp at hl
      | cons d2 r' =>
        cases r' with
        | cons _ _ => simp at hl
        | nil =>
          obtain ⟨v, v2, rfl, r1, r2⟩ := reps_two r
          cases d with
          | int k =>
            cases d2 with
            | int k2 =>
              cases r1; cases r2
              have e : (if -(2 ^ 62) ≤ k ∧ k < 2 ^ 62 ∧ -(2 ^ 62) ≤ k2 ∧ k2 < 2 ^ 62 ∧ k2 - k ≤ 16777216 then some ((List.range (k2 - k).toNat).map fun (j : Nat) => D.int (k + (j : Int))) else none) = some xs := e
              split at e
              · rename_i hk
                have e := Option.some.inj e
                subst e
                exact ⟨k, k2, rfl, ⟨hk.1, hk.2.1, hk.2.2.1, hk.2.2.2.1⟩, walk_rng w' ext⟩
              · cases e
            | _ => cases e
          | _ => cases e
theorem ji_enum (C : Cok T g cal X n) (hs : ScOk X sc) (hf : blt T sc "enumerate" f = true) (hn : noStar a = true) (ht : (pTup tg).isSome = true) (ha : PA X [a] (tIs X.K g ml)) (h1 : ∀ γ S ds S', ml γ S = .ok ds S' → ds.length = 1) : PI X tg (.Call f [a] [] pos) (iI X.K g .enum ml) := by
  obtain ⟨⟨p, rfl⟩, hg, hm, _, _⟩ := blt_of C hs hf
  cases qt : pTup tg with
  | none => rw [qt] at ht; cases ht
  | some ts =>
  obtain ⟨k, p2, rfl⟩ := pTup_inv qt
  refine (pi_enum hg hm ha (star_cons hn)).imp fun σ H Rr h => ?_
  obtain ⟨γ, S, α, F, R, s, w, h⟩ := h
  refine ⟨γ, S, α, F, R, s, w, ?_⟩
  cases q : ml γ S with
  | exc => rw [q] at h; exact h
  | bad => rw [q] at h; exact h
  | ok ds S' =>
    rw [q] at h
    obtain ⟨xs, e, h⟩ := h
    intro vs H' α' F' e' w' r
    have ext : WalkI X.K g R xs α' F' S' Rr := fun H2 α2 F2 J G Y e2 => h H2 α2 F2 J G Y (e'.trans e2)
    have hl := h1 γ S ds S' q
    cases ds with
    | nil => cases hl
    | cons d r' =>
      cases r' with
      | cons _ _ => simp at hl
      | nil =>
        obtain ⟨v, rfl, r1⟩ := reps_one r
        cases d with
        | lst ys =>
          obtain ⟨pa, us, rfl, h2, h3⟩ := r1
          have e : ((List.range ys.length).map fun (k : Nat) => D.tup [.int (k : Int), ys.getD k .non]) = xs := Option.some.inj e
          subst e
          have hll : ((List.range ys.length).map fun (k : Nat) => D.tup [.int (k : Int), ys.getD k .non]).length = us.length := by rw [List.length_map, List.length_range, h3.length]
          refine ⟨pa, us, rfl, SqL.of (w'.fz _ _ h2), ?_⟩
          refine ext H' α' F' _ _ _ Ext.refl w' (hll ▸ walk_enum (K := X.K) (a := pa) (xs := us)) (fun S2 H2 R2 α2 F2 e w2 => SqL.of (w2.fz _ _ (e.fr _ _ h2))) fun i H1 x H2 S1 R1 α1 F1 hi e w1 y => ?_
          obtain ⟨t, x1, x2, rfl, k1, rfl, k3, k4⟩ := y
          cases k3
          rw [hll, ← h3.length] at hi
          obtain ⟨d, hd⟩ := get_some hi
          obtain ⟨v2, g1, g2⟩ := (Reps.mono e _ _ h3).get hd
          have k4 : us[i]? = some x2 := k4
          rw [k4] at g1
          cases g1
          obtain ⟨w2, e2⟩ := w1.lay (o := .tup [.int (i : Int), x2]) k1
          refine ⟨.tup [.int (i : Int), d], α1, _, ?_, e2, w2, ⟨t, _, rfl, upd_same, ⟨_, _, rfl, rfl, ⟨_, _, rfl, Rep.mono e2 _ _ g2, rfl⟩⟩⟩⟩
          rw [List.getElem?_map, List.getElem?_range hi]
          show some (D.tup [.int (i : Int), ys.getD i .non]) = _
          rw [List.getD_eq_getElem?_getD, hd]
          rfl
        | _ => cases e
theorem walk_zipT {K : PySem.W.Frag} {a b : Addr} {xs ys : List V} {n : Nat} (hn : n = min xs.length ys.length) : Walk (RZ.ItzT K a b) n (fun H => SqT K H a xs ∧ SqT K H b ys) (YPair (fun i => xs[i]?) (fun i => ys[i]?)) := by
  subst hn
  refine ⟨fun i _ hi q => ?_, fun _ q => ⟨xs, ys, q.1, q.2, by omega⟩, fun i H v H' _ q y => ?_⟩
  · have h1 : i < xs.length := by omega
    have h2 : i < ys.length := by omega
    exact ⟨xs, ys, xs[i], ys[i], q.1, q.2, by simp [h1], by simp [h2]⟩
  · obtain ⟨T, x, z, h1, h2, h3, h4, h5⟩ := y
    exact ⟨T, x, z, h1, h2, h3, h4 xs q.1, h5 ys q.2⟩
theorem ji_zip (C : Cok T g cal X n) (hs : ScOk X sc) (hf : blt T sc "zip" f = true) (hn : noStar a = true) (hn' : noStar b = true) (ht : (pTup tg).isSome = true) (ha : PA X [a, b] (tIs X.K g ml)) (h1 : ∀ γ S ds S', ml γ S = .ok ds S' → ds.length = 2) : PI X tg (.Call f [a, b] [] pos) (iI X.K g .zip ml) := by
  obtain ⟨⟨p, rfl⟩, hg, hm, _, _⟩ := blt_of C hs hf
  cases qt : pTup tg with
  | none => rw [qt] at ht; cases ht
  | some ts =>
  obtain ⟨k, p2, rfl⟩ := pTup_inv qt
  refine (RZ.pi_zipA hg hm ha (star_cons hn) (star_none (by rw [List.all_cons, hn']; rfl))).imp fun σ H Rr h => ?_
  obtain ⟨γ, S, α, F, R, s, w, h⟩ := h
  refine ⟨γ, S, α, F, R, s, w, ?_⟩
  cases q : ml γ S with
  | exc => rw [q] at h; exact h
  | bad => rw [q] at h; exact h
  | ok ds S' =>
    rw [q] at h
    obtain ⟨xs, e, h⟩ := h
    intro vs H' α' F' e' w' r
    have ext : WalkI X.K g R xs α' F' S' Rr := fun H2 α2 F2 J G Y e2 => h H2 α2 F2 J G Y (e'.trans e2)
    have hl := h1 γ S ds S' q
    cases ds with
    | nil => cases hl
    | cons d r' =>
      cases r' with
      | nil => simp at hl
      | cons d2 r' =>
        cases r' with
        | cons _ _ => simp at hl
        | nil =>
          obtain ⟨v, v2, rfl, r1, r2⟩ := reps_two r
          have pair : ∀ {ys zs : List D} {us ws : List V} {t : Addr} {x1 x2 : V} {i : Nat} {H1 : Hp} {S1 : Sto} {R1 : Hp} {α1 : Nat → Option Addr} {F1 : Hp}, Reps X.K g α' F' ys us → Reps X.K g α' F' zs ws → i < min ys.length zs.length → Ext α' F' α1 F1 → World X.K g R1 α1 F1 S1 H1 → H1 t = none → us[i]? = some x1 → ws[i]? = some x2 →
              ∃ d α2 F2, ((List.range (min ys.length zs.length)).map fun (k : Nat) => D.tup [ys.getD k .non, zs.getD k .non])[i]? = some d ∧ Ext α1 F1 α2 F2 ∧ World X.K g R1 α2 F2 S1 (upd H1 t (.tup [x1, x2])) ∧ Rep X.K g α2 F2 d (.ref t) := by
            intro ys zs us ws t x1 x2 i H1 S1 R1 α1 F1 h3 g3 hi e w1 k1 k3 k4
            obtain ⟨d, hd⟩ := get_some (xs := ys) (i := i) (by omega)
            obtain ⟨d', hd'⟩ := get_some (xs := zs) (i := i) (by omega)
            obtain ⟨u1, g1, g2⟩ := (Reps.mono e _ _ h3).get hd
            obtain ⟨u2, f1, f2⟩ := (Reps.mono e _ _ g3).get hd'
            rw [k3] at g1
            rw [k4] at f1
            cases g1; cases f1
            obtain ⟨w2, e2⟩ := w1.lay (o := .tup [x1, x2]) k1
            refine ⟨.tup [d, d'], α1, _, ?_, e2, w2, ⟨t, _, rfl, upd_same, ⟨_, _, rfl, Rep.mono e2 _ _ g2, ⟨_, _, rfl, Rep.mono e2 _ _ f2, rfl⟩⟩⟩⟩
            rw [List.getElem?_map, List.getElem?_range hi]
            show some (D.tup [ys.getD i .non, zs.getD i .non]) = _
            rw [List.getD_eq_getElem?_getD, List.getD_eq_getElem?_getD, hd, hd']
            rfl
          cases d with
          | lst ys =>
            cases d2 with
            | lst zs =>
              obtain ⟨pa, us, rfl, h2, h3⟩ := r1
              obtain ⟨pb, ws, rfl, g2, g3⟩ := r2
              have e := Option.some.inj e
              subst e
              have hll : ((List.range (min ys.length zs.length)).map fun (k : Nat) => D.tup [ys.getD k .non, zs.getD k .non]).length = min us.length ws.length := by rw [List.length_map, List.length_range, h3.length, g3.length]
              refine ⟨pa, pb, us, ws, rfl, .inl ⟨SqL.of (w'.fz _ _ h2), SqL.of (w'.fz _ _ g2), ?_⟩⟩
              refine ext H' α' F' _ _ _ Ext.refl w' (walk_zip (K := X.K) (a := pa) (b := pb) (xs := us) (ys := ws) hll) (fun S2 H2 R2 α2 F2 e w2 => ⟨SqL.of (w2.fz _ _ (e.fr _ _ h2)), SqL.of (w2.fz _ _ (e.fr _ _ g2))⟩) fun i H1 x H2 S1 R1 α1 F1 hi e w1 y => ?_
              obtain ⟨t, x1, x2, rfl, k1, rfl, k3, k4⟩ := y
              exact pair h3 g3 (by rw [List.length_map, List.length_range] at hi; exact hi) e w1 k1 k3 k4
            | _ => cases e
          | tup ys =>
            cases d2 with
            | tup zs =>
              obtain ⟨pa, us, rfl, h2, h3⟩ := r1
              obtain ⟨pb, ws, rfl, g2, g3⟩ := r2
              have e := Option.some.inj e
              subst e
              have hll : ((List.range (min ys.length zs.length)).map fun (k : Nat) => D.tup [ys.getD k .non, zs.getD k .non]).length = min us.length ws.length := by rw [List.length_map, List.length_range, h3.length, g3.length]
              refine ⟨pa, pb, us, ws, rfl, .inr ⟨SqT.of (w'.fz _ _ h2), SqT.of (w'.fz _ _ g2), ?_⟩⟩
              refine ext H' α' F' _ _ _ Ext.refl w' (walk_zipT (K := X.K) (a := pa) (b := pb) (xs := us) (ys := ws) hll) (fun S2 H2 R2 α2 F2 e w2 => ⟨SqT.of (w2.fz _ _ (e.fr _ _ h2)), SqT.of (w2.fz _ _ (e.fr _ _ g2))⟩) fun i H1 x H2 S1 R1 α1 F1 hi e w1 y => ?_
              obtain ⟨t, x1, x2, rfl, k1, rfl, k3, k4⟩ := y
              exact pair h3 g3 (by rw [List.length_map, List.length_range] at hi; exact hi) e w1 k1 k3 k4
            | _ => cases e
          | _ => cases e
end
end Itp
namespace Itp
open PySem PySem.Spec PyProof.Rows L2
section
variable {g : Gb} {X : Cx}
theorem wipeG_len (γ : Gm) : ∀ vs, (wipeG γ vs).length = γ.length
  | [] => rfl
  | v :: vs => by unfold wipeG; rw [List.length_set, wipeG_len γ vs]
abbrev turnC (mf : Gm → Sto → Out Bool) (me : Gm → Sto → Out D) : Gm → Sto → Out (Option D) := fun γ' S => match mf γ' S with
  | .ok true S => (match me γ' S with | .ok d S => .ok (some d) S | _ => .bad)
  | .ok false S => .ok none S
  | _ => .bad
abbrev lcM (k : IK) (tg : Tg) (own : List Nat) (ml : Gm → Sto → Out (List D)) (mf : Gm → Sto → Out Bool) (me : Gm → Sto → Out D) : Gm → Sto → Out D := fun γ S => (ml γ S).bind fun ds S => match itD k ds S with
    | some xs => if xs.length ≤ 16777216 then (loopC (turnC mf me) tg (wipeG γ own) xs [] S).bind fun ys S => .ok (.lst ys) S else .bad
    | none => .bad
theorem lc_of {k : IK} {tg : Tg} {own : List Nat} {ml : Gm → Sto → Out (List D)} {mf : Gm → Sto → Out Bool} {me : Gm → Sto → Out D} {σ : L2.St} {H : Hp} {Q : VK} (ht : ∀ i ∈ tg.slots, i ∈ own)
    (h : tI X.K g (lcM k tg own ml mf me) σ H Q) : tLc (iI X.K g k ml) (gI X.K g tg) (tIb X.K g mf) (tI X.K g me) own σ H Q := by
  obtain ⟨γ, S, α, F, R, s, w, h⟩ := h
  refine ⟨γ, S, α, F, R, s, w, ?_⟩
  unfold lcM at h
  cases q : ml γ S with
  | exc => rw [q] at h; exact h
  | bad => rw [q] at h; exact h
  | ok ds S' =>
    rw [q] at h
    dsimp only [Out.bind] at h
    cases q2 : itD k ds S' with
    | none => rw [q2] at h; exact False.elim h
    | some xs =>
      rw [q2] at h
      dsimp only at h
      split at h
      case isFalse => exact False.elim h
      case isTrue hlen =>
      refine ⟨xs, q2, fun H' α' F' J G Y e' w' wk hG hY D hD => ?_⟩
      have hR : R D = none := w'.rnone hD
      refine lc_it wk (Qd := fun H => Q (.ref D) H) (fun i H => ∃ S1 α1 F1 accD accV, Ext α' F' α1 F1 ∧ World X.K g (upd R D (.lst accV)) α1 F1 S1 H ∧ Reps X.K g α1 F1 accD accV ∧ accD.length ≤ i ∧
        Aft X.K g R (Rep X.K g) α1 F1 ((loopC (turnC mf me) tg (wipeG γ own) (xs.drop i) accD S1).bind fun ys S => .ok (.lst ys) S) Q) ?_ ?_ ?_ ?_
      · exact ⟨S', α', F', [], [], Ext.refl, w'.frame hD, rfl, Nat.le_refl _, Aft.ext e' h⟩
      · rintro i H _ ⟨S1, α1, F1, accD, accV, e1, w1, _⟩
        exact hG S1 H _ α1 F1 e1 w1
      · rintro i x H1 H2 hi ⟨S1, α1, F1, accD, accV, e1, w1, ra, hl, ha⟩ y
        obtain ⟨d, α2, F2, hd, e2, w2, rd⟩ := hY i H1 x H2 S1 _ α1 F1 hi e1 w1 y
        have dr : xs.drop i = d :: xs.drop (i + 1) := by
          rw [List.drop_eq_getElem_cons hi]
          rw [List.getElem?_eq_getElem hi] at hd
          rw [Option.some.inj hd]
        rw [dr] at ha
        have ha : Aft X.K g R (Rep X.K g) α1 F1 ((match setTg tg d (wipeG γ own) with
          | none => .bad
          | some γ' => match turnC mf me γ' S1 with
            | .ok (some x) S' => loopC (turnC mf me) tg (wipeG γ own) (xs.drop (i + 1)) (accD ++ [x]) S'
            | .ok none S' => loopC (turnC mf me) tg (wipeG γ own) (xs.drop (i + 1)) accD S'
            | .exc .. => .bad
            | .bad => .bad : Out (List Itp.D)).bind fun ys S => .ok (.lst ys) S) Q := ha
        cases qg : setTg tg d (wipeG γ own) with
        | none => rw [qg] at ha; exact False.elim ha
        | some γ' =>
          rw [qg] at ha
          dsimp only at ha
          have s2 : Slots X.K g α2 F2 (wipeG γ own) (L2.wipe σ own) := (s.mono ((e'.trans e1).trans e2)).wipe own
          refine ⟨d, wipeG γ own, γ', S1, α2, F2, _, rd, s2, w2, qg, fun σ' s' wp => ⟨?_, ?_⟩⟩
          · rw [wp own ht]
            exact wipe_wipe fun v hv => hv
          · refine ⟨γ', S1, α2, F2, _, s', w2, ?_⟩
            unfold turnC at ha
            cases qf : mf γ' S1 with
            | exc => rw [qf] at ha; exact False.elim ha
            | bad => rw [qf] at ha; exact False.elim ha
            | ok b S2 =>
              rw [qf] at ha
              intro b' H3 α3 F3 e3 w3 eb
              subst eb
              cases b with
              | false =>
                rw [if_neg Bool.false_ne_true]
                exact ⟨S2, α3, F3, accD, accV, (e1.trans e2).trans e3, w3, Reps.mono (e2.trans e3) _ _ ra, by omega, Aft.ext (e2.trans e3) ha⟩
              | true =>
                rw [if_pos rfl]
                refine ⟨γ', S2, α3, F3, _, s'.mono e3, w3, ?_⟩
                dsimp only at ha
                cases qe : me γ' S2 with
                | exc => rw [qe] at ha; exact False.elim ha
                | bad => rw [qe] at ha; exact False.elim ha
                | ok z S3 =>
                  rw [qe] at ha
                  intro vz H4 α4 F4 e4 w4 rz
                  have ra4 := Reps.mono ((e2.trans e3).trans e4) _ _ ra
                  refine ⟨accV, (w4.fr D _ upd_same).1, ?_, ?_⟩
                  · rw [← ra.length, size16]; omega
                  · refine ⟨S3, α4, F4, accD ++ [z], accV ++ [vz], ((e1.trans e2).trans e3).trans e4, w4.reframe, ra4.app ⟨vz, [], rfl, rz, rfl⟩, by simp; omega, Aft.ext ((e2.trans e3).trans e4) ha⟩
      · rintro H1 ⟨S1, α1, F1, accD, accV, e1, w1, ra, hl, ha⟩
        rw [List.drop_length] at ha
        obtain ⟨w2, e2⟩ := w1.unframe hR
        have ha : Aft X.K g R (Rep X.K g) α1 F1 (.ok (.lst accD) S1) Q := ha
        exact ha (.ref D) H1 α1 _ e2 w2 ⟨D, accV, rfl, upd_same, Reps.mono e2 _ _ ra⟩
/-! ### a block's names -/
theorem lookup_map {f : Str × NameKind → Str × NameKind} (hf : ∀ p, (f p).1 = p.1) : ∀ (l : List (Str × NameKind)) (x : Str), (l.map f).lookup x = (l.lookup x).map fun k => (f (x, k)).2
  | [], _ => rfl
  | (n, k) :: r, x => by
    rw [List.map_cons]
    have h1 : f (n, k) = (n, (f (n, k)).2) := Prod.ext (hf (n, k)) rfl
    rw [h1, List.lookup_cons, List.lookup_cons]
    by_cases hx : x = n
    · subst hx; simp
    · have : (x == n) = false := by simpa using hx
      rw [this]
      exact lookup_map hf r x
theorem scok_blk {sc scope : Scope} {own : List (Str × Nat)} {s : Shared} {H : Hp} {C : Addr} {cl : List (Str × Addr)} {fp : List Addr} (hk : scope.kind = .function) : ScOk (X.blk s H scope (compEnvC scope cl C X.env) fp) scope := by
  have lk : ∀ x, (relabel scope X.env).names.lookup x = (scope.names.lookup x).map fun k => if (k == .free && X.env.scope.kind == .function && X.env.kindOf x == some .cell) then NameKind.cell else k := by
    intro x
    unfold relabel
    rw [lookup_map (f := fun (n, k) => if (k == .free && X.env.scope.kind == .function && X.env.kindOf n == some .cell) then (n, .cell) else (n, k))]
    · congr 1
      funext k
      dsimp only
      split <;> rfl
    · intro p
      dsimp only
      split <;> rfl
  have lk2 : ∀ x k, scope.names.lookup x = some k → k ≠ .free → (relabel scope X.env).names.lookup x = some k := by
    intro x k h hk
    rw [lk, h]
    cases k <;> first | rfl | exact absurd rfl hk
  refine ⟨fun x h => ?_, fun x h => ?_, fun x h => ?_, fun x h => ?_, fun x h => lk2 x _ h (by decide)⟩
  · unfold visB at h
    cases q : scope.names.lookup x with
    | none => rw [q] at h; cases h
    | some k =>
      rw [q] at h
      cases k with
      | «local» => exact .inl (lk2 x _ q (by decide))
      | cell => exact .inr (.inl (lk2 x _ q (by decide)))
      | free =>
        have e := lk x
        rw [q] at e
        show (relabel scope X.env).names.lookup x = _ ∨ (relabel scope X.env).names.lookup x = _ ∨ (relabel scope X.env).names.lookup x = _
        rw [e]
        simp only [Option.map_some]
        split
        · exact .inr (.inl rfl)
        · exact .inr (.inr rfl)
      | globalExplicit => cases h
      | globalImplicit => cases h
  · unfold gloB at h
    cases q : scope.names.lookup x with
    | none => rw [q] at h; cases h
    | some k =>
      rw [q] at h
      cases k with
      | globalImplicit => exact lk2 x _ q (by decide)
      | _ => cases h
  · unfold stoB at h
    cases q : scope.names.lookup x with
    | none => rw [q] at h; cases h
    | some k =>
      rw [q] at h
      cases k with
      | «local» => exact ⟨.inl (lk2 x _ q (by decide)), .inr (lk2 x _ q (by decide))⟩
      | cell => exact ⟨.inr (lk2 x _ q (by decide)), .inl (by show (scope.names.lookup x == some .cell) = true; rw [q]; rfl)⟩
      | _ => cases h
  · show (relabel scope X.env).names.lookup x = _ ∨ (relabel scope X.env).names.lookup x = _
    rw [lk]
    rcases h with h | h <;> rw [h] <;> simp only [Option.map_some]
    · exact .inl rfl
    · split
      · exact .inl rfl
      · exact .inr rfl
theorem blk_of {N : List Str} {sc scope : Scope} {own : List (Str × Nat)} (hs : ScOk X sc) (h : blkC N sc scope own = true) : BlkOk N X.env.scope scope own := by
  obtain ⟨h1, h2, h3, h4, h5⟩ := blkOk_by h
  exact ⟨h1, h2, h3, fun y hy e => hs.fre _ (h4 y hy e), h5⟩
theorem own_snd (N : List Str) : ∀ own : List Nat, (own.map fun i => (N.getD i "", i)).map (·.2) = own
  | [] => rfl
  | i :: r => by
    rw [List.map_cons, List.map_cons, own_snd N r]
end
end Itp
namespace Itp
open PySem PySem.Spec PyProof.Rows L2
/-- a comprehension's parts -/
def LcP (X : Cx) (g : Gb) (cal : Nat → List D → Sto → Out D) (tg : Tg) (own : List Nat) (k : IK) (its ifs : List E) (e : E) (py : Expr) : Prop :=
  ∃ (elt t iter : Expr) (fs : List Expr) (scope : Scope) (p : Pos), py = .ListComp elt [⟨t, iter, fs, 0⟩] scope p ∧ PI X t iter (iI X.K g k (evs cal its)) ∧ BlkOk X.N X.env.scope scope (own.map fun i => (X.N.getD i "", i)) ∧
    (∀ (s : Shared) (H : Hp) (A : Addr) (cl : List (Str × Addr)) (fp : List Addr), PG (X.blk s H scope (compEnvC scope cl A X.env) fp) t (gI X.K g tg)) ∧
    (∀ (s : Shared) (H : Hp) (A : Addr) (cl : List (Str × Addr)) (fp : List Addr), PTs (X.blk s H scope (compEnvC scope cl A X.env) fp) fs (tIb X.K g (evF cal ifs))) ∧
    (∀ (s : Shared) (H : Hp) (A : Addr) (cl : List (Str × Addr)) (fp : List Addr), PE (X.blk s H scope (compEnvC scope cl A X.env) fp) elt (tI X.K g (ev cal e))) ∧ noSet iter = true ∧ ∀ i ∈ tg.slots, i ∈ own
theorem LcP.pe {X : Cx} {g : Gb} {cal : Nat → List D → Sto → Out D} {tg : Tg} {own : List Nat} {k : IK} {its ifs : List E} {e : E} {py : Expr} (L : LcP X g cal tg own k its ifs e py) (hc : X.calm = true) (hN : X.N.Nodup) : PE X py (tI X.K g (ev cal (.lc tg own k its ifs e))) := by
  obtain ⟨elt, t, iter, fs, scope, p, rfl, hi, ok, hg, ht, he, hn, hs⟩ := L
  have := pe_lc (elt := elt) (te := tI X.K g (ev cal e)) (tt := tIb X.K g (evF cal ifs)) (g := gI X.K g tg) hc hN hi ok hg ht he (pos := p) (fun x => fold_of hn)
  rw [own_snd] at this
  exact this.imp fun σ H Q h => lc_of hs h
structure JE (X : Cx) (g : Gb) (cal : Nat → List D → Sto → Out D) (e : E) (py : Expr) : Prop where
  pe : PE X py (tI X.K g (ev cal e))
  ns : noStar py = true
  pt : tst e = true → PT X py (tT X.K g (ev cal e))
  lc : ∀ tg own k its ifs e', e = .lc tg own k its ifs e' → LcP X g cal tg own k its ifs e' py
structure JEs (X : Cx) (g : Gb) (cal : Nat → List D → Sto → Out D) (es : List E) (pys : List Expr) : Prop where
  pa : PA X pys (tIs X.K g (evs cal es))
  ns : pys.all noStar = true
  ln : pys.length = es.length
  pb : es ≠ [] → ∀ (o : Bool) (pos : Pos), PE X (.BoolOp (if o then .And else .Or) pys pos) (tI X.K g (evB cal o es))
  pw : es ≠ [] → tsts es = true → ∀ (o : Bool) (pos : Pos), PW X (.BoolOp (if o then .And else .Or) pys pos) (tT X.K g (evB cal o es))
  pk : ∀ kws : List Keyword, kws.map (·.value) = pys → PK X kws (tIs X.K g (evs cal es))
  one : ∀ e py, es = [e] → pys = [py] → JE X g cal e py
def isLc : E → Bool
  | .lc .. => true
  | _ => false
section
variable {X : Cx} {g : Gb} {a : Expr} {ma : Gm → Sto → Out D} {ml : Gm → Sto → Out (List D)}
theorem _root_.L2.PK.imp {kws : List Keyword} {t t' : TA} (h : PK X kws t) (f : ∀ σ H Q, t' σ H Q → t σ H Q) : PK X kws t' := ⟨fun pos pins s σ H Q I q => h.run pos pins s σ H Q I (f σ H Q q)⟩
theorem pk_nil' : PK X [] (tIs X.K g fun _ S => .ok [] S) := pk_nil.imp fun σ H Q h => by
  obtain ⟨γ, S, α, F, R, s, w, h⟩ := h
  exact h [] H α F Ext.refl w rfl
theorem pk_cons' {nm : Option Str} {kp : Pos} {kws : List Keyword} (ha : PE X a (tI X.K g ma)) (hl : PK X kws (tIs X.K g ml)) : PK X (⟨nm, a, kp⟩ :: kws) (tIs X.K g fun γ S => (ma γ S).bind fun d S => (ml γ S).bind fun ds S => .ok (d :: ds) S) := by
  refine (pk_cons ha hl).imp fun σ H Q h => ?_
  refine tG.bind (δ := List D) (k := fun γ d S => (ml γ S).bind fun ds S => .ok (d :: ds) S) h fun γ x S vx H α F R s w rx h => ?_
  refine ⟨γ, S, α, F, R, s, w, Aft.bind (δ := List D) h fun ds S vs H α' F' e w' rs h => ?_⟩
  exact h (vx :: vs) H α' F' Ext.refl w' ⟨vx, vs, rfl, Rep.mono e _ _ rx, rs⟩
end
theorem evs_len {cal : Nat → List D → Sto → Out D} : ∀ {es : List E} {γ : Gm} {S : Sto} {ds : List D} {S' : Sto}, evs cal es γ S = .ok ds S' → ds.length = es.length
  | [], γ, S, ds, S', h => by
    have h : Out.ok ([] : List D) S = .ok ds S' := h
    cases h
    rfl
  | e :: es, γ, S, ds, S', h => by
    have h : ((ev cal e γ S).bind fun d S => (evs cal es γ S).bind fun ds S => .ok (d :: ds) S) = .ok ds S' := h
    obtain ⟨d, S1, h1, h⟩ := bind_ok h
    obtain ⟨ds', S2, h2, h⟩ := bind_ok h
    cases h
    simp [evs_len h2]
theorem Cok.blk {T : Tab} {g : Gb} {cal : Nat → List D → Sto → Out D} {X : Cx} {n : Nat} (C : Cok T g cal X n) (s : Shared) (H : Hp) (scope : Scope) (cenv : Env) (fp : List Addr) : Cok T g cal (X.blk s H scope cenv fp) n :=
  ⟨C.calm, C.nd, C.room, C.fr, C.fo, C.ci, C.cs, C.cl, C.is, fun f x h => ⟨(C.fn f x h).mg, (C.fn f x h).kp, (C.fn f x h).fn⟩⟩
section
variable {X : Cx} {g : Gb} {cal : Nat → List D → Sto → Out D} {e : E} {py : Expr}
theorem je_mk (h : PE X py (tI X.K g (ev cal e))) (hn : noStar py = true) (he : ∀ whole, isTrue py X.env whole = (do let v ← whole; standAt py.pos; holding [v] (truthy v))) : (hl : isLc e = false := by rfl) → JE X g cal e py := fun hl => ⟨h, hn, fun _ => jt_val h he, fun _ _ _ _ _ _ z => by subst z; cases hl⟩
end
theorem jI {T : Tab} {g : Gb} {cal : Nat → List D → Sto → Out D} {n : Nat} {X : Cx} {sc : Scope} {k : IK} {its : List E} {t iter : Expr} {as : List Expr} (C : Cok T g cal X n) (hs : ScOk X sc) (h : itArgs T k sc t iter = some as) (J : JEs X g cal its as) : PI X t iter (iI X.K g k (evs cal its)) := by
  cases k with
  | val =>
    cases h
    match its, J, J.ln with
    | [e], J, _ => exact ji_val (J.one e iter rfl rfl).pe
  | rng =>
    have hh : (match pCall iter with | some (f, as, [], _) => if blt T sc "range" f && (as.length == 1 || as.length == 2) then some as else none | _ => none) = some as := h
    cases q : pCall iter with
    | none => rw [q] at hh; cases hh
    | some u =>
      obtain ⟨f, as', ks, p⟩ := u
      rw [q] at hh
      clear h
      have e1 := pCall_inv q
      subst e1
      match ks, hh with
      | [], hh =>
        dsimp only at hh
        split at hh
        · rename_i hb
          cases hh
          simp only [Bool.and_eq_true, Bool.or_eq_true, beq_iff_eq] at hb
          have hn := J.ns
          match as, its, J, J.ln, hb, hn with
          | [], _, J, _, hb, hn => simp at hb
          | [a], [e], J, _, hb, hn => exact ji_rng1 C hs hb.1 (J.one e a rfl rfl).ns J.pa fun γ S ds S' h => evs_len h
          | [a, b], [e, e'], J, _, hb, hn =>
            simp only [List.all_cons, Bool.and_eq_true] at hn
            exact ji_rng2 C hs hb.1 hn.1 hn.2.1 J.pa fun γ S ds S' h => evs_len h
          | a :: b :: c :: r, _, J, _, hb, hn => simp at hb
        · cases hh
  | enum =>
    have hh : (match pCall iter with | some (f, as, [], _) => if blt T sc "enumerate" f && (pTup t).isSome && as.length == 1 then some as else none | _ => none) = some as := h
    cases q : pCall iter with
    | none => rw [q] at hh; cases hh
    | some u =>
      obtain ⟨f, as', ks, p⟩ := u
      rw [q] at hh
      clear h
      have e1 := pCall_inv q
      subst e1
      match ks, hh with
      | [], hh =>
        dsimp only at hh
        split at hh
        · rename_i hb
          cases hh
          simp only [Bool.and_eq_true, Bool.or_eq_true, beq_iff_eq] at hb
          have hn := J.ns
          match as, its, J, J.ln, hb, hn with
          | [], _, J, _, hb, hn => simp at hb
          | [a], [e], J, _, hb, hn => exact ji_enum C hs hb.1.1 (J.one e a rfl rfl).ns hb.1.2 J.pa fun γ S ds S' h => evs_len h
          | a :: b :: r, _, J, _, hb, hn => simp at hb
        · cases hh
  | zip =>
    have hh : (match pCall iter with | some (f, as, [], _) => if blt T sc "zip" f && (pTup t).isSome && as.length == 2 then some as else none | _ => none) = some as := h
    cases q : pCall iter with
    | none => rw [q] at hh; cases hh
    | some u =>
      obtain ⟨f, as', ks, p⟩ := u
      rw [q] at hh
      clear h
      have e1 := pCall_inv q
      subst e1
      match ks, hh with
      | [], hh =>
        dsimp only at hh
        split at hh
        · rename_i hb
          cases hh
          simp only [Bool.and_eq_true, Bool.or_eq_true, beq_iff_eq] at hb
          have hn := J.ns
          match as, its, J, J.ln, hb, hn with
          | [], _, J, _, hb, hn => simp at hb
          | [a], _, J, _, hb, hn => simp at hb
          | [a, b], [e, e'], J, _, hb, hn =>
            simp only [List.all_cons, Bool.and_eq_true] at hn
            exact ji_zip C hs hb.1.1 hn.1 hn.2.1 hb.1.2 J.pa fun γ S ds S' h => evs_len h
          | a :: b :: c :: r, _, J, _, hb, hn => simp at hb
        · cases hh
section
variable (T : Tab) (g : Gb) (cal : Nat → List D → Sto → Out D) (n : Nat)
mutual
theorem jE : ∀ (e : E) (X : Cx) (sc : Scope) (py : Expr), Cok T g cal X n → ScOk X sc → mtE T X.N e sc py = true → JE X g cal e py
  | .var i, X, sc, py, C, hs, h => by
    unfold mtE at h
    cases q : pName py with
    | none => rw [q] at h; cases h
    | some x =>
      rw [q] at h
      simp only [Bool.and_eq_true] at h
      obtain ⟨⟨⟨h1, h2⟩, h3⟩, h4⟩ := h
      obtain ⟨p, rfl⟩ := pName_inv q
      exact je_mk (je_var (of_decide_eq_true h1) (hs.vis x h2) (by simpa using h3) (by simpa using h4)) rfl fun _ => rfl
  | .non, X, sc, py, C, hs, h => by
    unfold mtE at h
    cases q : pConst py with
    | none => rw [q] at h; cases h
    | some c =>
      rw [q] at h
      obtain ⟨k, p, rfl⟩ := pConst_inv q
      cases c with
      | none => exact je_mk (je_con pe_non fun _ _ => rfl) rfl fun _ => rfl
      | _ => cases h
  | .bl b, X, sc, py, C, hs, h => by
    unfold mtE at h
    cases q : pConst py with
    | none => rw [q] at h; cases h
    | some c =>
      rw [q] at h
      obtain ⟨k, p, rfl⟩ := pConst_inv q
      cases c with
      | bool c => have h := of_decide_eq_true h; subst h; exact je_mk (je_con pe_bl fun _ _ => rfl) rfl fun _ => rfl
      | _ => cases h
  | .int i, X, sc, py, C, hs, h => by
    unfold mtE at h
    cases q : pConst py with
    | none => rw [q] at h; cases h
    | some c =>
      rw [q] at h
      obtain ⟨k, p, rfl⟩ := pConst_inv q
      cases c with
      | int c => have h := of_decide_eq_true h; subst h; exact je_mk (je_con pe_int fun _ _ => rfl) rfl fun _ => rfl
      | _ => cases h
  | .str x, X, sc, py, C, hs, h => by
    unfold mtE at h
    cases q : pConst py with
    | none => rw [q] at h; cases h
    | some c =>
      rw [q] at h
      obtain ⟨k, p, rfl⟩ := pConst_inv q
      cases c with
      | str c =>
        have h : (decide (c = x) && okS x) = true := h
        rw [Bool.and_eq_true] at h
        have h1 := of_decide_eq_true h.1
        subst h1
        exact je_mk (je_con pe_str fun _ _ => ⟨rfl, h.2⟩) rfl fun _ => rfl
      | _ => cases h
  | .gint m i, X, sc, py, C, hs, h => by
    unfold mtE at h
    cases q : pName py with
    | none => rw [q] at h; cases h
    | some x =>
      rw [q] at h
      simp only [Bool.and_eq_true] at h
      obtain ⟨⟨⟨h1, h2⟩, h3⟩, h4⟩ := h
      obtain ⟨p, rfl⟩ := pName_inv q
      have h1 := of_decide_eq_true h1
      subst h1
      obtain ⟨t, ht⟩ := C.ci (x, i) (by simpa using h4)
      exact je_mk (je_con (pe_glob (v := .int i) (hs.glo x h2) ht ⟨t, rfl⟩ (by simpa using h3)) fun _ _ => rfl) rfl fun _ => rfl
  | .gstr m z, X, sc, py, C, hs, h => by
    unfold mtE at h
    cases q : pName py with
    | none => rw [q] at h; cases h
    | some x =>
      rw [q] at h
      simp only [Bool.and_eq_true] at h
      obtain ⟨⟨⟨⟨h1, h2⟩, h3⟩, h4⟩, h5⟩ := h
      obtain ⟨p, rfl⟩ := pName_inv q
      have h1 := of_decide_eq_true h1
      subst h1
      obtain ⟨t, ht⟩ := C.cs (x, z) (by simpa using h4)
      exact je_mk (je_con (pe_glob (v := .str z) (hs.glo x h2) ht ⟨t, rfl⟩ (by simpa using h3)) fun _ _ => ⟨rfl, h5⟩) rfl fun _ => rfl
  | .bin o a b, X, sc, py, C, hs, h => by
    unfold mtE at h
    cases q : pBin py with
    | none => rw [q] at h; cases h
    | some t =>
      obtain ⟨l, op, r⟩ := t
      rw [q] at h
      simp only [Bool.and_eq_true] at h
      obtain ⟨⟨h1, h2⟩, h3⟩ := h
      obtain ⟨p, rfl⟩ := pBin_inv q
      have h1 := of_decide_eq_true h1
      subst h1
      exact je_mk (je_bin o (jE a X sc l C hs h2).pe (jE b X sc r C hs h3).pe) rfl fun _ => rfl
  | .neg a, X, sc, py, C, hs, h => by
    unfold mtE at h
    cases q : pUn py with
    | none => rw [q] at h; cases h
    | some t =>
      obtain ⟨op, r⟩ := t
      rw [q] at h
      simp only [Bool.and_eq_true] at h
      obtain ⟨p, rfl⟩ := pUn_inv q
      have h1 := of_decide_eq_true h.1
      subst h1
      exact je_mk (je_neg (jE a X sc r C hs h.2).pe) rfl fun _ => rfl
  | .not a, X, sc, py, C, hs, h => by
    unfold mtE at h
    cases q : pUn py with
    | none => rw [q] at h; cases h
    | some t =>
      obtain ⟨op, r⟩ := t
      rw [q] at h
      simp only [Bool.and_eq_true] at h
      obtain ⟨p, rfl⟩ := pUn_inv q
      have h1 := of_decide_eq_true h.1
      subst h1
      have J := jE a X sc r C hs h.2
      exact ⟨je_not J.pe, rfl, fun ht => jt_not (J.pt ht), fun _ _ _ _ _ _ z => by cases z⟩
  | .cmp o a b, X, sc, py, C, hs, h => by
    unfold mtE at h
    cases q : pCmp py with
    | none => rw [q] at h; cases h
    | some t =>
      obtain ⟨l, ops, rs⟩ := t
      rw [q] at h
      obtain ⟨p, rfl⟩ := pCmp_inv q
      match ops, rs, h with
      | [op], [r], h =>
        simp only [Bool.and_eq_true] at h
        obtain ⟨⟨⟨h1, h2⟩, h3⟩, h4⟩ := h
        have h1 := of_decide_eq_true h1
        subst h1
        have Ja := jE a X sc l C hs h3
        have Jb := jE b X sc r C hs h4
        exact ⟨je_cmp C.hu o h2 Ja.pe Jb.pe, rfl, fun _ => jt_cmp C.hu o h2 Ja.pe Jb.pe, fun _ _ _ _ _ _ z => by cases z⟩
  | .chn o p a b c, X, sc, py, C, hs, h => by
    unfold mtE at h
    cases q : pCmp py with
    | none => rw [q] at h; cases h
    | some t =>
      obtain ⟨l, ops, rs⟩ := t
      rw [q] at h
      obtain ⟨pp, rfl⟩ := pCmp_inv q
      match ops, rs, h with
      | [op, op'], [r, r'], h =>
        simp only [Bool.and_eq_true] at h
        obtain ⟨⟨⟨⟨⟨h1, h1'⟩, h2⟩, h3⟩, h4⟩, h5⟩ := h
        have h1 := of_decide_eq_true h1
        have h1' := of_decide_eq_true h1'
        subst h1 h1'
        have Ja := jE a X sc l C hs h3
        have Jb := jE b X sc r C hs h4
        have Jc := jE c X sc r' C hs h5
        exact ⟨je_chn C.hu o p h2 Ja.pe Jb.pe Jc.pe, rfl, fun _ => jt_chn C.hu o p h2 Ja.pe Jb.pe Jc.pe, fun _ _ _ _ _ _ z => by cases z⟩
  | .bop o es, X, sc, py, C, hs, h => by
    unfold mtE at h
    cases q : pBool py with
    | none => rw [q] at h; cases h
    | some t =>
      obtain ⟨op, vs⟩ := t
      rw [q] at h
      simp only [Bool.and_eq_true] at h
      obtain ⟨p, rfl⟩ := pBool_inv q
      have h1 := of_decide_eq_true h.1
      have J := jEs es X sc vs C hs h.2
      rw [h1]
      by_cases he : es = []
      · subst he
        refine ⟨⟨fun pins s σ H Q I h => ?_⟩, rfl, fun _ => ⟨fun pins s σ H Q I h => ?_⟩, fun _ _ _ _ _ _ z => by cases z⟩
        · obtain ⟨γ, S, α, F, R, s, w, h⟩ := h
          exact False.elim h
        · obtain ⟨γ, S, α, F, R, s, w, h⟩ := h
          exact False.elim h
      · exact ⟨J.pb he o p, rfl, fun ht => (J.pw he ht o p).pt, fun _ _ _ _ _ _ z => by cases z⟩
  | .ite c a b, X, sc, py, C, hs, h => by
    unfold mtE at h
    cases q : pIf py with
    | none => rw [q] at h; cases h
    | some t =>
      obtain ⟨t, l, r⟩ := t
      rw [q] at h
      simp only [Bool.and_eq_true] at h
      obtain ⟨⟨⟨h1, h2⟩, h3⟩, h4⟩ := h
      obtain ⟨p, rfl⟩ := pIf_inv q
      exact ⟨je_ite ((jE c X sc t C hs h2).pt h1) (jE a X sc l C hs h3).pe (jE b X sc r C hs h4).pe, rfl, (fun z => by cases z), fun _ _ _ _ _ _ z => by cases z⟩
  | .tup es, X, sc, py, C, hs, h => by
    unfold mtE at h
    cases q : pTup py with
    | none => rw [q] at h; cases h
    | some ps =>
      rw [q] at h
      simp only [Bool.and_eq_true] at h
      obtain ⟨k, p, rfl⟩ := pTup_inv q
      have J := jEs es X sc ps C hs h.2
      have hl : ps.length ≤ 1000 := of_decide_eq_true h.1
      exact je_mk (je_tup (fun γ S ds S' e => by rw [evs_len e, ← J.ln]; exact hl) J.pa) rfl fun _ => rfl
  | .lst t es, X, sc, py, C, hs, h => by
    unfold mtE at h
    cases q : pLst py with
    | none => rw [q] at h; cases h
    | some ps =>
      rw [q] at h
      simp only [Bool.and_eq_true] at h
      obtain ⟨p, rfl⟩ := pLst_inv q
      have J := jEs es X sc ps C hs h.2
      have hl : ps.length ≤ 1000 := of_decide_eq_true h.1
      exact je_mk (je_lst (fun γ S ds S' e => by rw [evs_len e, ← J.ln]; exact hl) J.pa) rfl fun _ => rfl
  | .spt e, X, sc, py, C, hs, h => by
    unfold mtE at h
    cases q : pTup py with
    | none => rw [q] at h; cases h
    | some ps =>
      rw [q] at h
      obtain ⟨k, p, rfl⟩ := pTup_inv q
      match ps, h with
      | [z], h =>
        dsimp only at h
        cases q2 : pStar z with
        | none => rw [q2] at h; cases h
        | some z' =>
          rw [q2] at h
          obtain ⟨p2, rfl⟩ := pStar_inv q2
          exact je_mk (je_spt (jE e X sc z' C hs h).pe) rfl fun _ => rfl
  | .idx a b, X, sc, py, C, hs, h => by
    unfold mtE at h
    cases q : pSub py with
    | none => rw [q] at h; cases h
    | some t =>
      obtain ⟨l, r⟩ := t
      rw [q] at h
      simp only [Bool.and_eq_true] at h
      obtain ⟨⟨h1, h2⟩, h3⟩ := h
      obtain ⟨p, rfl⟩ := pSub_inv q
      exact je_mk (je_idx h1 (jE a X sc l C hs h2).pe (jE b X sc r C hs h3).pe) rfl fun _ => rfl
  | .slc a lo hi, X, sc, py, C, hs, h => by
    unfold mtE at h
    cases q : pSub py with
    | none => rw [q] at h; cases h
    | some t =>
      obtain ⟨l, r⟩ := t
      rw [q] at h
      dsimp only at h
      cases q2 : pSlc r with
      | none => rw [q2] at h; cases h
      | some t2 =>
        obtain ⟨x, y⟩ := t2
        rw [q2] at h
        simp only [Bool.and_eq_true] at h
        obtain ⟨⟨h1, h2⟩, h3⟩ := h
        obtain ⟨p, rfl⟩ := pSub_inv q
        obtain ⟨p2, rfl⟩ := pSlc_inv q2
        exact je_mk (je_slc (jE a X sc l C hs h1).pe (jO lo X sc x C hs h2) (jO hi X sc y C hs h3)) rfl fun _ => rfl
  | .isi e t, X, sc, py, C, hs, h => by
    unfold mtE at h
    cases q : pCall py with
    | none => rw [q] at h; cases h
    | some u =>
      obtain ⟨f, as, ks, p⟩ := u
      rw [q] at h
      have e1 := pCall_inv q
      subst e1
      match as, ks, h with
      | [x, y], [], h =>
        simp only [Bool.and_eq_true] at h
        obtain ⟨⟨h1, h2⟩, h3⟩ := h
        have J := jE e X sc x C hs h2
        exact je_mk (je_isi C hs h1 J.ns J.pe h3) rfl fun _ => rfl
  | .isT e ts, X, sc, py, C, hs, h => by
    unfold mtE at h
    cases q : pCall py with
    | none => rw [q] at h; cases h
    | some u =>
      obtain ⟨f, as, ks, p⟩ := u
      rw [q] at h
      have e1 := pCall_inv q
      subst e1
      match as, ks, h with
      | [x, y], [], h =>
        simp only [Bool.and_eq_true] at h
        obtain ⟨⟨h1, h2⟩, h3⟩ := h
        cases q2 : pTup y with
        | none => rw [q2] at h3; cases h3
        | some bs =>
          rw [q2] at h3
          dsimp only at h3
          obtain ⟨k, p2, rfl⟩ := pTup_inv q2
          have J := jE e X sc x C hs h2
          rw [Bool.and_eq_true] at h3
          exact je_mk (je_isT (of_decide_eq_true h3.1) C hs h1 J.ns J.pe h3.2) rfl fun _ => rfl
  | .bf b es, X, sc, py, C, hs, h => by
    unfold mtE at h
    cases q : pCall py with
    | none => rw [q] at h; cases h
    | some u =>
      obtain ⟨f, as, ks, p⟩ := u
      rw [q] at h
      have e1 := pCall_inv q
      subst e1
      match as, ks, h with
      | x :: xs, [], h =>
        simp only [Bool.and_eq_true] at h
        have J := jEs es X sc (x :: xs) C hs h.2
        exact je_mk (je_bf b C hs h.1 J.ns J.pa) rfl fun _ => rfl
  | .bm m e es, X, sc, py, C, hs, h => by
    unfold mtE at h
    cases q : pCall py with
    | none => rw [q] at h; cases h
    | some u =>
      obtain ⟨f, as, ks, p⟩ := u
      rw [q] at h
      have e1 := pCall_inv q
      subst e1
      match as, ks, h with
      | x :: xs, [], h =>
        dsimp only at h
        cases q2 : pAttr f with
        | none => rw [q2] at h; cases h
        | some v =>
          obtain ⟨o, nm, p2⟩ := v
          rw [q2] at h
          simp only [Bool.and_eq_true] at h
          obtain ⟨⟨⟨⟨⟨h1, h2⟩, h3⟩, h4⟩, h5⟩, h6⟩ := h
          have e2 := pAttr_inv q2
          subst e2
          have e3 : xs = [] := by simpa using h6
          subst e3
          have h1 := of_decide_eq_true h1
          have h2 := of_decide_eq_true h2
          have J := jEs es X sc [x] C hs h5
          have Jo := jE e X sc o C hs h4
          have hl := J.ln
          match es, J, hl with
          | [e'], J, hl =>
            have J1 := J.one e' x rfl rfl
            cases m with
            | join => subst h1; exact je_mk (je_join J1.ns h3 h2 Jo.pe J1.pe) rfl fun _ => rfl
            | append => subst h1; exact je_mk (je_app J1.ns h3 h2 Jo.pe J1.pe) rfl fun _ => rfl
  | .call f es, X, sc, py, C, hs, h => by
    unfold mtE at h
    cases q : pCall py with
    | none => rw [q] at h; cases h
    | some u =>
      obtain ⟨hd, as, ks, p⟩ := u
      rw [q] at h
      have e1 := pCall_inv q
      subst e1
      match ks, h with
      | [], h =>
        dsimp only at h
        cases q2 : pName hd with
        | none => rw [q2] at h; cases h
        | some x =>
          rw [q2] at h
          simp only [Bool.and_eq_true] at h
          obtain ⟨⟨⟨h1, h2⟩, h3⟩, h4⟩ := h
          obtain ⟨p2, rfl⟩ := pName_inv q2
          have J := jEs es X sc as C hs h4
          have h1 := of_decide_eq_true h1
          match as, es, J, J.ln with
          | [], [], J, _ => exact je_mk (je_call0 C h1 (hs.glo x h2) (by simpa using h3)) rfl fun _ => rfl
          | a :: as, es, J, _ => exact je_mk (je_call C h1 (hs.glo x h2) (by simpa using h3) J.ns J.pa) rfl fun _ => rfl
  | .callP f es kes pi, X, sc, py, C, hs, h => by
    unfold mtE at h
    cases q : pCall py with
    | none => rw [q] at h; cases h
    | some u =>
      obtain ⟨hd, as, ks, p⟩ := u
      rw [q] at h
      have e1 := pCall_inv q
      subst e1
      dsimp only at h
      cases q2 : pName hd with
      | none => rw [q2] at h; cases h
      | some x =>
        rw [q2] at h
        simp only [Bool.and_eq_true] at h
        obtain ⟨⟨⟨⟨⟨h1, h2⟩, h3⟩, h4⟩, h5⟩, h6⟩ := h
        obtain ⟨p2, rfl⟩ := pName_inv q2
        have J := jEs es X sc as C hs h4
        have Jk := jEs kes X sc (ks.map (·.value)) C hs h5
        cases q3 : kwNames ks with
        | none => rw [q3] at h6; cases h6
        | some kn =>
          rw [q3] at h6
          refine je_mk (je_callP C (of_decide_eq_true h1) (hs.glo x h2) (by simpa using h3) J.ns J.pa (Jk.pk ks rfl) q3 (by simpa using h6) (fun γ S ds S' h => by rw [evs_len h, J.ln]) (fun γ S ds S' h => by rw [evs_len h, ← Jk.ln, List.length_map]) (fun z γ S => ?_)) rfl fun _ => rfl
          have hl := J.ln
          rw [z] at hl
          match es, hl with
          | [], _ => rfl
  | .lc tg own k its ifs e, X, sc, py, C, hs, h => by
    unfold mtE at h
    cases q : pLc py with
    | none => rw [q] at h; cases h
    | some u =>
      obtain ⟨elt, gs, scope, p⟩ := u
      rw [q] at h
      have e1 := pLc_inv q
      subst e1
      match gs, h with
      | [⟨t, iter, fs, 0⟩], h =>
        simp only [Bool.and_eq_true] at h
        obtain ⟨⟨⟨⟨⟨⟨h1, h2⟩, h3⟩, h4⟩, h5⟩, h6⟩, h7⟩ := h
        have hk := (blkOk_by h1).kind
        cases q2 : itArgs T k sc t iter with
        | none => rw [q2] at h3; cases h3
        | some as =>
          rw [q2] at h3
          dsimp only at h3
          have J := jEs its X sc as C hs h3
          have L : LcP X g cal tg own k its ifs e (.ListComp elt [⟨t, iter, fs, 0⟩] scope p) :=
            ⟨elt, t, iter, fs, scope, p, rfl, jI C hs q2 J, blk_of hs h1, fun s H A cl fp => (jg (X := X.blk s H scope (compEnvC scope cl A X.env) fp) (g := g) C.calm C.nd (scok_blk (own := []) (sc := sc) hk) tg t h4).1,
              fun s H A cl fp => jF ifs (X.blk s H scope (compEnvC scope cl A X.env) fp) scope fs (C.blk s H scope _ fp) (scok_blk (own := []) (sc := sc) hk) h6,
              fun s H A cl fp => (jE e (X.blk s H scope (compEnvC scope cl A X.env) fp) scope elt (C.blk s H scope _ fp) (scok_blk (own := []) (sc := sc) hk) h7).pe, h2, fun i hi => by
                have := List.all_eq_true.mp h5 i hi
                simpa using this⟩
          exact ⟨L.pe C.calm C.nd, rfl, fun _ => jt_val (L.pe C.calm C.nd) fun _ => rfl, fun tg' own' k' its' ifs' e' z => by cases z; exact L⟩
  | .frz e, X, sc, py, C, hs, h => by
    have J := jE e X sc py C hs h
    exact ⟨je_frz J.pe, J.ns, (fun z => by cases z), fun _ _ _ _ _ _ z => by cases z⟩
theorem jEs : ∀ (es : List E) (X : Cx) (sc : Scope) (pys : List Expr), Cok T g cal X n → ScOk X sc → mtEs T X.N es sc pys = true → JEs X g cal es pys
  | [], X, sc, pys, C, hs, h => by
    have e : pys = [] := by
      have h : pys.isEmpty = true := h
      simpa using h
    subst e
    exact ⟨ja_nil, rfl, rfl, fun z => absurd rfl z, fun z => absurd rfl z, fun kws hk => (by
      have : kws = [] := by simpa using hk
      subst this
      exact pk_nil'), fun e py z => by cases z⟩
  | e :: es, X, sc, pys, C, hs, h => by
    cases pys with
    | nil => cases h
    | cons p ps =>
      have h : (noStar p && mtE T X.N e sc p && mtEs T X.N es sc ps) = true := h
      simp only [Bool.and_eq_true] at h
      obtain ⟨⟨h1, h2⟩, h3⟩ := h
      have J := jE e X sc p C hs h2
      have Js := jEs es X sc ps C hs h3
      refine ⟨ja_cons h1 J.pe Js.pa, by rw [List.all_cons, h1, Js.ns]; rfl, by simp [Js.ln], fun _ o pos => ?_, fun _ ht o pos => ?_, fun kws hk => ?_, fun e' py' z z' => by cases z; cases z'; exact J⟩
      · match es, ps, Js, Js.ln with
        | [], [], Js, _ => exact jb_one J.pe
        | e2 :: es, p2 :: ps, Js, _ => exact jb_cons J.pe (Js.pb (fun z => by cases z) o pos)
      · have ht : (tst e && tsts es) = true := ht
        rw [Bool.and_eq_true] at ht
        match es, ps, Js, Js.ln, ht with
        | [], [], Js, _, ht => exact jw_one (J.pt ht.1)
        | e2 :: es, p2 :: ps, Js, _, ht => exact jw_cons (J.pt ht.1) (Js.pw (fun z => by cases z) ht.2 o pos)
      · cases kws with
        | nil => cases hk
        | cons kw kws =>
          obtain ⟨nm, v, kp⟩ := kw
          have hk : v :: kws.map (·.value) = p :: ps := hk
          cases hk
          exact pk_cons' J.pe (Js.pk kws rfl)
theorem jO : ∀ (e : Option E) (X : Cx) (sc : Scope) (py : Option Expr), Cok T g cal X n → ScOk X sc → mtO T X.N e sc py = true → PO X py (tIo X.K g (evO cal e))
  | none, X, sc, py, C, hs, h => by
    cases py with
    | none => exact jo_none
    | some p => cases h
  | some e, X, sc, py, C, hs, h => by
    cases py with
    | none => cases h
    | some p => exact jo_some (jE e X sc p C hs h).pe
theorem jF : ∀ (es : List E) (X : Cx) (sc : Scope) (pys : List Expr), Cok T g cal X n → ScOk X sc → mtFs T X.N es sc pys = true → PTs X pys (tIb X.K g (evF cal es))
  | [], X, sc, pys, C, hs, h => by
    have e : pys = [] := by
      have h : pys.isEmpty = true := h
      simpa using h
    subst e
    refine ⟨fun pins s σ H Q I h => pts_nil.run pins s σ H Q I ?_⟩
    obtain ⟨γ, S, α, F, R, s, w, h⟩ := h
    exact h true H α F Ext.refl w rfl
  | e :: es, X, sc, pys, C, hs, h => by
    match pys, h with
    | [p], h =>
      have h : (es.isEmpty && tst e && mtE T X.N e sc p) = true := h
      simp only [Bool.and_eq_true] at h
      obtain ⟨⟨h1, h2⟩, h3⟩ := h
      have h1 : es = [] := by simpa using h1
      subst h1
      have J := jE e X sc p C hs h3
      refine ⟨fun pins s σ H Q I h => (pts_one (J.pt h2)).run pins s σ H Q I ?_⟩
      obtain ⟨γ, S, α, F, R, s, w, h⟩ := h
      refine ⟨γ, S, α, F, R, s, w, ?_⟩
      have h : Aft X.K g R _ α F ((ev cal e γ S).bind fun x S => match truD x S with | some true => .ok true S | some false => .ok false S | none => .bad) Q := h
      unfold trm
      cases q : ev cal e γ S with
      | exc => rw [q] at h; exact h
      | bad => rw [q] at h; exact h
      | ok d S' =>
        rw [q] at h
        dsimp only [Out.bind] at h ⊢
        cases q2 : truD d S' with
        | none => rw [q2] at h; exact h
        | some b => rw [q2] at h; cases b <;> exact h
end
end
end Itp
namespace Itp
open PySem PySem.Spec PyProof.Rows L2
/-- the names that are stored from the right (swappedStores), as a plain function -/
def swN (ts vs : List Expr) (fn : Bool) (ko : Str → Option NameKind) : Option (Option (List Str)) :=
  if !(ts.length == 2 || ts.length == 3) || vs.length != ts.length || !fn then some none
  else if vs.any (fun | .Starred .. => true | _ => false) then some none
  else
    let line := (ts.head?.map (·.pos.line)).getD 0
    let names := ts.filterMap fun
      | .Name id pos => if ko id == some .local && pos.line == line then some id else none
      | _ => none
    if names.length != ts.length || names.eraseDups.length != names.length then some none
    else if vs.all (foldedForSure 8) then some none
    else if vs.all (constantsAlone 8) then none
    else some (some names)
def swO (tg value : Expr) (sc : Scope) : Option (Option (List Str)) := match pTup tg, pTup value with
  | some ts, some vs => swN ts vs (sc.kind == .function) (fun x => sc.names.lookup x)
  | _, _ => some none
theorem swO_ok {tg value : Expr} {env : Env} {r : Option (List Str)} (hk : env.scope.kind = .function) (hl : ∀ es p, tg ≠ .List es p) (h : swO tg value env.scope = some r) : swappedStores [tg] value env = pure r := by
  unfold swO at h
  have hb : (env.blockKind != ScopeKind.function) = false := by unfold Env.blockKind; rw [hk]; rfl
  cases q : pTup tg with
  | none =>
    rw [q] at h
    have h : some none = some r := h
    cases h
    unfold swappedStores
    cases tg <;> first | (cases q; done) | rfl | exact absurd rfl (hl _ _)
  | some ts =>
    obtain ⟨k, p, rfl⟩ := pTup_inv q
    cases q2 : pTup value with
    | none =>
      rw [q, q2] at h
      have h : some none = some r := h
      cases h
      unfold swappedStores
      cases value <;> first | (cases q2; done) | rfl
    | some vs =>
      obtain ⟨k2, p2, rfl⟩ := pTup_inv q2
      rw [q, q2] at h
      dsimp only at h
      unfold swN at h
      have hf : (env.scope.kind == ScopeKind.function) = true := by rw [hk]; rfl
      rw [hf] at h
      unfold swappedStores
      simp only [hb, Bool.not_true, Bool.or_false] at h ⊢
      split at h
      · rename_i c
        cases h
        simp only [c, if_true]
      · rename_i c
        rw [if_neg c]
        split at h
        · rename_i c2
          cases h
          exact if_pos c2
        · rename_i c2
          refine (if_neg c2).trans ?_
          split at h
          · rename_i c3
            cases h
            exact if_pos c3
          · rename_i c3
            refine (if_neg c3).trans ?_
            split at h
            · rename_i c4
              cases h
              exact if_pos c4
            · rename_i c4
              refine (if_neg c4).trans ?_
              split at h
              · cases h
              · rename_i c5
                cases h
                exact if_neg c5
end Itp
namespace Itp
open PySem PySem.Spec PyProof.Rows L2
/-! ### the parts of a statement -/
def qAsg : Stmt → Option (Expr × Expr × Pos)
  | .Assign [t] v p => some (t, v, p)
  | _ => none
def qExpr : Stmt → Option (Expr × Pos)
  | .Expr v p => some (v, p)
  | _ => none
def qRet : Stmt → Option (Option Expr)
  | .Return v _ => some v
  | _ => none
def qIf : Stmt → Option (Expr × List Stmt × List Stmt)
  | .If c a b _ => some (c, a, b)
  | _ => none
def qFor : Stmt → Option (Expr × Expr × List Stmt)
  | .For t i b [] _ => some (t, i, b)
  | _ => none
def qWhile : Stmt → Option (Expr × List Stmt)
  | .While c b [] _ => some (c, b)
  | _ => none
def qPass : Stmt → Bool
  | .Pass _ => true
  | _ => false
section
variable {py : Stmt}
theorem qAsg_inv {t v p} (h : qAsg py = some (t, v, p)) : py = .Assign [t] v p := by
  cases py <;> first | (cases h; done) | skip
  rename_i ts v' p'
  match ts, h with
  | [t'], h => cases h; rfl
theorem qExpr_inv {v p} (h : qExpr py = some (v, p)) : py = .Expr v p := by cases py <;> first | (cases h; rfl) | cases h
theorem qRet_inv {v} (h : qRet py = some v) : ∃ p, py = .Return v p := by cases py <;> first | (cases h; exact ⟨_, rfl⟩) | cases h
theorem qIf_inv {c a b} (h : qIf py = some (c, a, b)) : ∃ p, py = .If c a b p := by cases py <;> first | (cases h; exact ⟨_, rfl⟩) | cases h
theorem qFor_inv {t i b} (h : qFor py = some (t, i, b)) : ∃ p, py = .For t i b [] p := by
  cases py <;> first | (cases h; done) | skip
  rename_i t' i' b' o' p'
  match o', h with
  | [], h => cases h; exact ⟨_, rfl⟩
theorem qWhile_inv {c b} (h : qWhile py = some (c, b)) : ∃ p, py = .While c b [] p := by
  cases py <;> first | (cases h; done) | skip
  rename_i t' b' o' p'
  match o', h with
  | [], h => cases h; exact ⟨_, rfl⟩
theorem qPass_inv (h : qPass py = true) : ∃ p, py = .Pass p := by cases py <;> first | exact ⟨_, rfl⟩ | cases h
end
/-- a comprehension -/
def noComp : Expr → Bool
  | .ListComp .. => false
  | .SetComp .. => false
  | .DictComp .. => false
  | _ => true
/-- a comprehension whose list is stored by its own block -/
def swc (sc : Scope) (x : Str) (line : Nat) (v : Expr) : Bool := match v with
  | .ListComp _ _ s p => (match sc.names.lookup x with | some .local => true | _ => false) && line == p.line && !(s.names.any fun (n, k) => n == x && (k == .local || k == .cell))
  | _ => false
theorem swc_false {x : Str} {p : Pos} {v : Expr} {line : Nat} {env : Env} (hk : env.scope.kind = .function) (hv : noComp v = true ∨ ∃ a b c d, v = .ListComp a b c d) (h : swc env.scope x p.line v = false) : swapsWith v (some (.Name x p)) line env = pure false := by
  have hb : (env.blockKind == ScopeKind.function) = true := by unfold Env.blockKind; rw [hk]; rfl
  rcases hv with hv | ⟨a, b, c, d, rfl⟩
  · cases v <;> first | rfl | cases hv
  · unfold swapsWith
    show (pure (env.blockKind == ScopeKind.function && env.kindOf x == some .local && p.line == d.line && !(c.names.any fun (n, k) => n == x && (k == .local || k == .cell))) : Sem Bool) = pure false
    congr 1
    have h : ((match env.scope.names.lookup x with | some .local => true | _ => false) && p.line == d.line && !(c.names.any fun (n, k) => n == x && (k == .local || k == .cell))) = false := h
    rw [hb, Bool.true_and]
    rw [← h]
    congr 2
    show (env.scope.names.lookup x == some .local) = _
    cases env.scope.names.lookup x with
    | none => rfl
    | some k => cases k <;> rfl
theorem swc_true {x : Str} {p : Pos} {a b c d} {line : Nat} {env : Env} (hk : env.scope.kind = .function) (h : swc env.scope x p.line (.ListComp a b c d) = true) : swapsWith (.ListComp a b c d) (some (.Name x p)) line env = pure true ∧ env.scope.names.lookup x = some .local := by
  have hb : (env.blockKind == ScopeKind.function) = true := by unfold Env.blockKind; rw [hk]; rfl
  have h : ((match env.scope.names.lookup x with | some .local => true | _ => false) && p.line == d.line && !(c.names.any fun (n, k) => n == x && (k == .local || k == .cell))) = true := h
  simp only [Bool.and_eq_true] at h
  obtain ⟨⟨h1, h2⟩, h3⟩ := h
  have hl : env.scope.names.lookup x = some .local := by
    cases q : env.scope.names.lookup x with
    | none => rw [q] at h1; cases h1
    | some k => rw [q] at h1; cases k <;> first | rfl | cases h1
  refine ⟨?_, hl⟩
  unfold swapsWith
  show (pure (env.blockKind == ScopeKind.function && env.kindOf x == some .local && p.line == d.line && !(c.names.any fun (n, k) => n == x && (k == .local || k == .cell))) : Sem Bool) = pure true
  congr 1
  have e : (env.kindOf x == some .local) = true := by
    show (env.scope.names.lookup x == some .local) = true
    rw [hl]; rfl
  rw [hb, e, h2, h3]
  rfl
/-! ### the checker of statements -/
section
variable (T : Tab) (N : List Str)
def namesOf : List Expr → Option (List Str)
  | [] => some []
  | p :: ps => match pName p, namesOf ps with
    | some x, some xs => some (x :: xs)
    | _, _ => none
mutual
def mtS : St → Scope → Stmt → Bool
  | .set i e, sc, py => (match qAsg py with
    | some (t, v, _) => (match pName t with
      | some x => decide (N[i]? = some x) && stoB sc x && mtE T N e sc v && (noComp v || isLc e) && (!(swc sc x t.pos.line v) || isLc e)
      | none => false)
    | none => false)
  | .asg tg e, sc, py => (match qAsg py with
    | some (t, v, _) => (pTup t).isSome && mtTg N sc tg t && mtE T N e sc v && decide (swO t v sc = some none)
    | none => false)
  | .par is es, sc, py => (match qAsg py with
    | some (t, v, _) => (match pTup t, pTup v with
      | some ts, some vs => (match namesOf ts with
        | some xs => decide (is.map (N[·]?) = xs.map some) && decide is.Nodup && (xs.all fun x => decide (sc.names.lookup x = some .local)) && mtEs T N es sc vs && decide (swO t v sc = some (some xs)) && (is.length == 2 || is.length == 3) && vs.length == is.length
        | none => false)
      | _, _ => false)
    | none => false)
  | .idx o i e, sc, py => (match qAsg py with
    | some (t, v, _) => (match pSub t with
      | some (a, b) => noSlc b && mtE T N o sc a && mtE T N i sc b && mtE T N e sc v
      | none => false)
    | none => false)
  | .expr e, sc, py => (match qExpr py with
    | some (v, _) => noComp v && mtE T N e sc v
    | none => false)
  | .ret e, sc, py => (match qRet py with
    | some (some v) => mtE T N e sc v
    | _ => false)
  | .retN, _, py => (match qRet py with
    | some none => true
    | _ => false)
  | .pass, _, py => qPass py
  | .ifs c a b, sc, py => (match qIf py with
    | some (c', a', b') => tst c && mtE T N c sc c' && mtSs a sc a' && mtSs b sc b'
    | none => false)
  | .for tg k its b, sc, py => (match qFor py with
    | some (t, iter, b') => noSet iter && (match itArgs T k sc t iter with | some as => mtEs T N its sc as | none => false) && mtTg N sc tg t && mtSs b sc b'
    | none => false)
  | .while c b, sc, py => (match qWhile py with
    | some (c', b') => tst c && mtE T N c sc c' && mtSs b sc b'
    | none => false)
  | .never, _, _ => true
def mtSs : List St → Scope → List Stmt → Bool
  | [], _, ps => ps.isEmpty
  | s :: ss, sc, ps => (match ps with
    | [] => false
    | p :: ps => mtS s sc p && mtSs ss sc ps)
end
end
/-! ### readings -/
def AftS (K : PySem.W.Frag) (g : Gb) (R : Hp) (α : Nat → Option Addr) (F : Hp) (o : Fl) (D : Ends) : Prop := match o with
  | .nx γ S => ∀ σ H α' F', Ext α F α' F' → Slots K g α' F' γ σ → World K g R α' F' S H → D.nx σ H
  | .ret d S => ∀ v H α' F', Ext α F α' F' → World K g R α' F' S H → Rep K g α' F' d v → D.rt v H
  | _ => False
def tS (K : PySem.W.Frag) (g : Gb) (m : Gm → Sto → Fl) : TS := fun D σ H => ∃ γ S α F R, Slots K g α F γ σ ∧ World K g R α F S H ∧ AftS K g R α F (m γ S) D
theorem AftS.ext {K : PySem.W.Frag} {g : Gb} {R : Hp} {α α' : Nat → Option Addr} {F F' : Hp} {o : Fl} {D : Ends} (e : Ext α F α' F') (h : AftS K g R α F o D) : AftS K g R α' F' o D := by
  cases o with
  | nx γ S => exact fun σ H α2 F2 e2 => h σ H α2 F2 (e.trans e2)
  | ret d S => exact fun v H α2 F2 e2 => h v H α2 F2 (e.trans e2)
  | exc => exact h
  | bad => exact h
theorem AftS.of {β ρ : Type} {K : PySem.W.Frag} {g : Gb} {R : Hp} {α : Nat → Option Addr} {F : Hp} {rep : (Nat → Option Addr) → Hp → β → ρ → Prop} {o : Out β} {k : β → Sto → Fl} {D : Ends} {Q1 : ρ → Hp → Prop}
    (h : AftS K g R α F (.of o k) D) (f : ∀ b S r H α' F', Ext α F α' F' → World K g R α' F' S H → rep α' F' b r → AftS K g R α' F' (k b S) D → Q1 r H) : Aft K g R rep α F o Q1 := by
  cases o with
  | ok b S => exact fun r H α2 F2 e2 w2 r2 => f b S r H α2 F2 e2 w2 r2 (AftS.ext e2 h)
  | exc => exact h
  | bad => exact h
theorem tS.of {β ρ : Type} {K : PySem.W.Frag} {g : Gb} {rep : (Nat → Option Addr) → Hp → β → ρ → Prop} {m : Gm → Sto → Out β} {k : Gm → β → Sto → Fl} {D : Ends} {σ : L2.St} {H : Hp} {Q1 : ρ → Hp → Prop}
    (h : tS K g (fun γ S => .of (m γ S) (k γ)) D σ H) (f : ∀ γ b S r H α F R, Slots K g α F γ σ → World K g R α F S H → rep α F b r → AftS K g R α F (k γ b S) D → Q1 r H) : tG K g rep m σ H Q1 := by
  obtain ⟨γ, S, α, F, R, s, w, a⟩ := h
  exact ⟨γ, S, α, F, R, s, w, AftS.of a fun b S r H α' F' e w' r' a' => f γ b S r H α' F' R (s.mono e) w' r' a'⟩
theorem _root_.L2.PS.imp {X : Cx} {e : Stmt} {t t' : TS} (h : PS X e t) (f : ∀ D σ H, t' D σ H → t D σ H) : PS X e t' := ⟨fun pins s σ H D I q => h.run pins s σ H D I (f D σ H q)⟩
theorem _root_.L2.PSs.imp {X : Cx} {e : List Stmt} {t t' : TS} (h : PSs X e t) (f : ∀ D σ H, t' D σ H → t D σ H) : PSs X e t' := ⟨fun pins s σ H D I q => h.run pins s σ H D I (f D σ H q)⟩
section
variable {X : Cx} {g : Gb}
theorem js_set {x : Str} {i : Nat} {v : Expr} {m : Gm → Sto → Out D} {p pos : Pos} (hN : X.N.Nodup) (hi : X.N[i]? = some x) (hl : Loc X.env.scope x) (hf : X.fn x = true ∨ X.env.scope.names.lookup x = some .local) (he : PE X v (tI X.K g m)) (hs : swapsWith v (some (.Name x p)) pos.line X.env = pure false) :
    PS X (.Assign [.Name x p] v pos) (tS X.K g fun γ S => .of (m γ S) fun d S => .nx (γ.set i (some d)) S) :=
  (ps_set hN hi hl he hs hf).imp fun D σ H h => tS.of (k := fun γ d S => .nx (γ.set i (some d)) S) h fun γ d S v H α F R s w r h => h _ H α F Ext.refl (s.set r) w
theorem set_of {i : Nat} {m : Gm → Sto → Out D} {D : Ends} {σ : L2.St} {H : Hp} (h : tS X.K g (fun γ S => .of (m γ S) fun d S => .nx (γ.set i (some d)) S) D σ H) : tAsg (tI X.K g m) (gName i) D σ H :=
  tS.of (k := fun γ d S => .nx (γ.set i (some d)) S) h fun γ d S v H α F R s w r h => h _ H α F Ext.refl (s.set r) w
theorem js_expr {v : Expr} {m : Gm → Sto → Out D} {pos : Pos} (he : PE X v (tI X.K g m)) (hn : noComp v = true) : PS X (.Expr v pos) (tS X.K g fun γ S => .of (m γ S) fun _ S => .nx γ S) :=
  (ps_expr he (by cases v <;> first | rfl | cases hn)).imp fun D σ H h => tS.of (k := fun γ d S => .nx γ S) h fun γ d S v H α F R s w r h => h _ H α F Ext.refl s w
theorem js_ret {v : Expr} {m : Gm → Sto → Out D} {pos : Pos} (he : PE X v (tI X.K g m)) : PS X (.Return (some v) pos) (tS X.K g fun γ S => .of (m γ S) fun d S => .ret d S) :=
  (ps_ret he).imp fun D σ H h => tS.of (k := fun γ d S => .ret d S) h fun γ d S v H α F R s w r h => h _ H α F Ext.refl w r
theorem js_retN {pos : Pos} : PS X (.Return none pos) (tS X.K g fun _ S => .ret .non S) := ps_retN.imp fun D σ H h => by
  obtain ⟨γ, S, α, F, R, s, w, h⟩ := h
  exact h .non H α F Ext.refl w rfl
theorem js_pass {pos : Pos} : PS X (.Pass pos) (tS X.K g fun γ S => .nx γ S) := ps_pass.imp fun D σ H h => by
  obtain ⟨γ, S, α, F, R, s, w, h⟩ := h
  exact h σ H α F Ext.refl s w
theorem js_if {c : Expr} {a b : List Stmt} {mc : Gm → Sto → Out D} {ma mb : Gm → Sto → Fl} {pos : Pos} (hc : PT X c (tT X.K g mc)) (ha : PSs X a (tS X.K g ma)) (hb : PSs X b (tS X.K g mb)) :
    PS X (.If c a b pos) (tS X.K g fun γ S => .of (mc γ S) fun x S => match truD x S with | some true => ma γ S | some false => mb γ S | none => .bad) := by
  refine (ps_if hc ha hb).imp fun D σ H h => ?_
  obtain ⟨γ, S, α, F, R, s, w, h⟩ := h
  refine ⟨γ, S, α, F, R, s, w, ?_⟩
  unfold trm
  dsimp only at h ⊢
  cases q : mc γ S with
  | exc => rw [q] at h; exact h
  | bad => rw [q] at h; exact h
  | ok d S' =>
    rw [q] at h
    dsimp only [Out.bind, Fl.of] at h ⊢
    cases q2 : truD d S' with
    | none => rw [q2] at h; exact h
    | some k =>
      rw [q2] at h
      intro r H' α' F' e w' er
      subst er
      cases k with
      | true => rw [if_pos rfl]; exact ⟨γ, S', α', F', R, s.mono e, w', AftS.ext e h⟩
      | false => rw [if_neg Bool.false_ne_true]; exact ⟨γ, S', α', F', R, s.mono e, w', AftS.ext e h⟩
theorem jss_nil : PSs X [] (tS X.K g fun γ S => .nx γ S) := pss_nil.imp fun D σ H h => by
  obtain ⟨γ, S, α, F, R, s, w, h⟩ := h
  exact h σ H α F Ext.refl s w
theorem jss_cons {a : Stmt} {r : List Stmt} {ma mr : Gm → Sto → Fl} (ha : PS X a (tS X.K g ma)) (hr : PSs X r (tS X.K g mr)) : PSs X (a :: r) (tS X.K g fun γ S => match ma γ S with | .nx γ' S' => mr γ' S' | o => o) := by
  refine (pss_cons ha hr).imp fun D σ H h => ?_
  obtain ⟨γ, S, α, F, R, s, w, h⟩ := h
  refine ⟨γ, S, α, F, R, s, w, ?_⟩
  dsimp only at h
  cases q : ma γ S with
  | exc => rw [q] at h; exact h
  | bad => rw [q] at h; exact h
  | ret d S' => rw [q] at h; exact h
  | nx γ' S' =>
    rw [q] at h
    exact fun σ' H' α' F' e s' w' => ⟨γ', S', α', F', R, s', w', AftS.ext e h⟩
theorem js_never {st : Stmt} : PS X st (tS X.K g fun _ _ => .bad) := ps_never.imp fun D σ H h => by
  obtain ⟨γ, S, α, F, R, s, w, h⟩ := h
  exact h
theorem js_asg {tg : Tg} {t v : Expr} {m : Gm → Sto → Out D} {pos : Pos} (ht : (pTup t).isSome = true) (hk : X.env.scope.kind = .function) (hg : PG X t (gI X.K g tg)) (he : PE X v (tI X.K g m)) (hw : swO t v X.env.scope = some none) :
    PS X (.Assign [t] v pos) (tS X.K g fun γ S => .of (m γ S) fun d S => match setTg tg d γ with | some γ' => .nx γ' S | none => .bad) := by
  cases q : pTup t with
  | none => rw [q] at ht; cases ht
  | some ts =>
    obtain ⟨k, p, rfl⟩ := pTup_inv q
    refine (ps_asg he hg (by cases v <;> rfl) (swO_ok hk (fun _ _ z => by cases z) hw) rfl).imp fun D σ H h => ?_
    refine tS.of (k := fun γ d S => match setTg tg d γ with | some γ' => .nx γ' S | none => .bad) h fun γ d S v H α F R s w r h => ?_
    cases q2 : setTg tg d γ with
    | none => rw [q2] at h; exact False.elim h
    | some γ' =>
      rw [q2] at h
      exact ⟨d, γ, γ', S, α, F, R, r, s, w, q2, fun σ' s' _ => h σ' H α F Ext.refl s' w⟩
theorem js_idx {a b v : Expr} {mo mi me : Gm → Sto → Out D} {p pos : Pos} (hk : X.env.scope.kind = .function) (hb : noSlc b = true) (ho : PE X a (tI X.K g mo)) (hi : PE X b (tI X.K g mi)) (he : PE X v (tI X.K g me)) :
    PS X (.Assign [.Subscript a b p] v pos) (tS X.K g fun γ S => .of (me γ S) fun d S => .of (mo γ S) fun x S => .of (mi γ S) fun y S => match x, y with
    | .loc n, .int k => (match S[n]? with
      | some (.lst xs) => (match ixN xs.length k with
        | some j => .nx γ (S.set n (.lst (xs.set j d)))
        | none => .bad)
      | _ => .bad)
    | _, _ => .bad) := by
  refine (ps_asg he (pg_sub ho hi set_list (by intro _; cases b <;> first | rfl | cases hb)) (by cases v <;> rfl) (swO_ok hk (fun _ _ z => by cases z) (by unfold swO; rfl)) rfl).imp fun D σ H h => ?_
  refine tS.of (k := fun γ d S => .of (mo γ S) fun x S => .of (mi γ S) fun y S => match x, y with
    | .loc n, .int k => (match S[n]? with
      | some (.lst xs) => (match ixN xs.length k with
        | some j => .nx γ (S.set n (.lst (xs.set j d)))
        | none => .bad)
      | _ => .bad)
    | _, _ => .bad) h fun γ d S v H α F R s w r h => ?_
  refine ⟨γ, S, α, F, R, s, w, AftS.of h fun x S vx H α1 F1 e1 w1 rx h => ?_⟩
  refine ⟨γ, S, α1, F1, R, s.mono e1, w1, AftS.of h fun y S vy H α2 F2 e2 w2 ry h => ?_⟩
  cases x with
  | loc n =>
    cases y with
    | int k =>
      cases ry
      dsimp only at h
      cases q : S[n]? with
      | none => rw [q] at h; exact False.elim h
      | some so =>
        cases so with
        | ins => rw [q] at h; exact False.elim h
        | dead => rw [q] at h; exact False.elim h
        | lst xs =>
          rw [q] at h
          dsimp only at h
          cases q2 : ixN xs.length k with
          | none => rw [q2] at h; exact False.elim h
          | some j =>
            rw [q2] at h
            obtain ⟨p', vs, k1, k2, k3, k4⟩ := w2.st n _ q
            obtain ⟨p2, rfl, k0⟩ := rx
            have ka := e2.al _ _ k0
            rw [ka] at k1
            have k1 := Option.some.inj k1
            subst k1
            refine ⟨p2, vs, k, j, rfl, rfl, k3, by rw [← k4.length]; exact q2, ?_⟩
            refine h σ _ α2 F2 Ext.refl (s.mono (e1.trans e2)) (w2.write ka k2 ⟨p2, vs.set j v, ka, k2, upd_same, k4.set j (Rep.mono (e1.trans e2) _ _ r)⟩)
    | _ => exact False.elim h
  | _ => exact False.elim h
theorem namesOf_inv : ∀ {ts : List Expr} {xs : List Str}, namesOf ts = some xs → ∃ ps : List Pos, ps.length = xs.length ∧ ts = (xs.zip ps).map fun p => Expr.Name p.1 p.2
  | [], xs, h => by cases h; exact ⟨[], rfl, rfl⟩
  | t :: ts, xs, h => by
    have h : (match pName t, namesOf ts with | some x, some xs => some (x :: xs) | _, _ => none) = some xs := h
    cases q : pName t with
    | none => rw [q] at h; cases h
    | some x =>
      cases q2 : namesOf ts with
      | none => rw [q, q2] at h; cases h
      | some xs' =>
        rw [q, q2] at h
        cases h
        obtain ⟨p, rfl⟩ := pName_inv q
        obtain ⟨ps, h1, h2⟩ := namesOf_inv q2
        exact ⟨p :: ps, by simp [h1], by rw [h2]; rfl⟩
theorem par_of {is : List Nat} {ml : Gm → Sto → Out (List D)} {D : Ends} {σ : L2.St} {H : Hp} (h : tS X.K g (fun γ S => .of (ml γ S) fun ds S => if is.length = ds.length then .nx (setAll is ds γ) S else .bad) D σ H) :
    tIs X.K g ml σ H fun us H1 => us.length = is.length ∧ ∀ σ', (∀ γ ds α F, Slots X.K g α F γ σ → Reps X.K g α F ds us → Slots X.K g α F (setAll is ds γ) σ') → D.nx σ' H1 := by
  refine tS.of (k := fun γ ds S => if is.length = ds.length then .nx (setAll is ds γ) S else .bad) h fun γ ds S us H α F R s w r h => ?_
  split at h
  · rename_i hl
    exact ⟨by rw [← r.length]; exact hl.symm, fun σ' k => h σ' H α F Ext.refl (k γ ds α F s r) w⟩
  · exact False.elim h
theorem js_par2 {i j : Nat} {x y : Str} {a b : Expr} {kt kv : Nat} {px py pt pv pos : Pos} {ml : Gm → Sto → Out (List D)} (hc : X.calm = true) (hN : X.N.Nodup) (hk : X.env.scope.kind = .function) (hi : X.N[i]? = some x) (hj : X.N[j]? = some y) (hij : i ≠ j)
    (hx : X.env.scope.names.lookup x = some .local) (hy : X.env.scope.names.lookup y = some .local) (ha : PA X [a, b] (tIs X.K g ml)) (hw : swO (.Tuple [.Name x px, .Name y py] kt pt) (.Tuple [a, b] kv pv) X.env.scope = some (some [x, y])) :
    PS X (.Assign [.Tuple [.Name x px, .Name y py] kt pt] (.Tuple [a, b] kv pv) pos) (tS X.K g fun γ S => .of (ml γ S) fun ds S => if [i, j].length = ds.length then .nx (setAll [i, j] ds γ) S else .bad) := by
  refine (ps_par hc hN hi hj hij hx hy ha (swO_ok hk (fun _ _ z => by cases z) hw) rfl).imp fun D σ H h => ?_
  obtain ⟨γ, S, α, F, R, s, w, h⟩ := par_of h
  refine ⟨γ, S, α, F, R, s, w, Aft.mono h fun us H1 ⟨hu, k⟩ => ?_⟩
  match us, hu, k with
  | [u, v], _, k =>
    refine ⟨u, v, rfl, k _ fun γ ds α F s r => ?_⟩
    have hl := r.length
    match ds, hl, r with
    | [d1, d2], _, r =>
      obtain ⟨v1, v2, e, r1, r2⟩ := reps_two r
      cases e
      exact (s.set r1).set r2
theorem js_par3 {i j l : Nat} {x y z : Str} {a b c : Expr} {kt kv : Nat} {px py pz pt pv pos : Pos} {ml : Gm → Sto → Out (List D)} (hc : X.calm = true) (hN : X.N.Nodup) (hk : X.env.scope.kind = .function) (hi : X.N[i]? = some x) (hj : X.N[j]? = some y) (hl : X.N[l]? = some z) (hij : i ≠ j) (hil : i ≠ l) (hjl : j ≠ l)
    (hx : X.env.scope.names.lookup x = some .local) (hy : X.env.scope.names.lookup y = some .local) (hz : X.env.scope.names.lookup z = some .local) (ha : PA X [a, b, c] (tIs X.K g ml)) (hw : swO (.Tuple [.Name x px, .Name y py, .Name z pz] kt pt) (.Tuple [a, b, c] kv pv) X.env.scope = some (some [x, y, z])) :
    PS X (.Assign [.Tuple [.Name x px, .Name y py, .Name z pz] kt pt] (.Tuple [a, b, c] kv pv) pos) (tS X.K g fun γ S => .of (ml γ S) fun ds S => if [i, j, l].length = ds.length then .nx (setAll [i, j, l] ds γ) S else .bad) := by
  refine (ps_par3 hc hN hi hj hl hij hil hjl hx hy hz ha (swO_ok hk (fun _ _ z => by cases z) hw) rfl).imp fun D σ H h => ?_
  obtain ⟨γ, S, α, F, R, s, w, h⟩ := par_of h
  refine ⟨γ, S, α, F, R, s, w, Aft.mono h fun us H1 ⟨hu, k⟩ => ?_⟩
  match us, hu, k with
  | [u, v, w'], _, k =>
    refine ⟨u, v, w', rfl, k _ fun γ ds α F s r => ?_⟩
    have hl := r.length
    match ds, hl, r with
    | [d1, d2, d3], _, r =>
      obtain ⟨v1, r', e, r1, r2⟩ := r
      cases e
      obtain ⟨v2, v3, e, r2, r3⟩ := reps_two r2
      cases e
      exact ((s.set r1).set r2).set r3
/-! ### loops -/
theorem js_for {t iter : Expr} {k : IK} {tg : Tg} {ml : Gm → Sto → Out (List D)} {body : List Stmt} {mb : Gm → Sto → Fl} {pos : Pos} (hp : PassesOwn (model X.prog X.w) X.A X.env X.xe) (hc : X.calm = true) (hi : PI X t iter (iI X.K g k ml)) (hg : PG X t (gI X.K g tg)) (hb : PSs X body (tS X.K g mb)) (hn : noSet iter = true) :
    PS X (.For t iter body [] pos) (tS X.K g fun γ S => .of (ml γ S) fun ds S => match itD k ds S with | some xs => loopF mb tg xs γ S | none => .bad) := by
  refine (ps_for hp hc hi hg hb (fun x => fold_of hn)).imp fun D σ H h => ?_
  obtain ⟨γ, S, α, F, R, s, w, h⟩ := h
  refine ⟨γ, S, α, F, R, s, w, ?_⟩
  dsimp only at h
  cases q : ml γ S with
  | exc => rw [q] at h; exact h
  | bad => rw [q] at h; exact h
  | ok ds S' =>
    rw [q] at h
    dsimp only [Fl.of] at h ⊢
    cases q2 : itD k ds S' with
    | none => rw [q2] at h; exact False.elim h
    | some xs =>
      rw [q2] at h
      dsimp only at h
      refine ⟨xs, rfl, fun H' α' F' J G Y e' w' wk hG hY => ?_⟩
      refine for_it wk (fun i σ H => ∃ γ1 S1 α1 F1, Ext α' F' α1 F1 ∧ Slots X.K g α1 F1 γ1 σ ∧ World X.K g R α1 F1 S1 H ∧ AftS X.K g R α1 F1 (loopF mb tg (xs.drop i) γ1 S1) D) ?_ ?_ ?_ ?_
      · exact ⟨γ, S', α', F', Ext.refl, s.mono e', w', AftS.ext e' h⟩
      · rintro i σ H _ ⟨γ1, S1, α1, F1, e1, _, w1, _⟩
        exact hG S1 H R α1 F1 e1 w1
      · rintro i x σ1 H1 H2 hi ⟨γ1, S1, α1, F1, e1, s1, w1, ha⟩ y
        obtain ⟨d, α2, F2, hd, e2, w2, rd⟩ := hY i H1 x H2 S1 R α1 F1 hi e1 w1 y
        have dr : xs.drop i = d :: xs.drop (i + 1) := by
          rw [List.drop_eq_getElem_cons hi]
          rw [List.getElem?_eq_getElem hi] at hd
          rw [Option.some.inj hd]
        rw [dr] at ha
        have ha : AftS X.K g R α1 F1 (match setTg tg d γ1 with
          | none => .bad
          | some γ' => match mb γ' S1 with
            | .nx γ'' S' => loopF mb tg (xs.drop (i + 1)) γ'' S'
            | o => o) D := ha
        cases qg : setTg tg d γ1 with
        | none => rw [qg] at ha; exact False.elim ha
        | some γ' =>
          rw [qg] at ha
          dsimp only at ha
          refine ⟨d, γ1, γ', S1, α2, F2, R, rd, s1.mono e2, w2, qg, fun σ' s' _ => ?_⟩
          refine ⟨γ', S1, α2, F2, R, s', w2, ?_⟩
          cases qb : mb γ' S1 with
          | exc => rw [qb] at ha; exact ha
          | bad => rw [qb] at ha; exact ha
          | ret d S2 => rw [qb] at ha; exact AftS.ext (o := .ret d S2) e2 ha
          | nx γ2 S2 =>
            rw [qb] at ha
            exact fun σ3 H3 α3 F3 e3 s3 w3 => ⟨γ2, S2, α3, F3, (e1.trans e2).trans e3, s3, w3, AftS.ext (e2.trans e3) ha⟩
      · rintro σ1 H1 ⟨γ1, S1, α1, F1, e1, s1, w1, ha⟩
        rw [List.drop_length] at ha
        exact ha σ1 H1 α1 F1 Ext.refl s1 w1
theorem js_while {c : Expr} {mc : Gm → Sto → Out D} {body : List Stmt} {mb : Gm → Sto → Fl} {pos : Pos} {fuel : Nat} (hp : PassesOwn (model X.prog X.w) X.A X.env X.xe) (hc : PT X c (tT X.K g mc)) (hb : PSs X body (tS X.K g mb)) :
    PS X (.While c body [] pos) (tS X.K g fun γ S => loopW mc mb fuel γ S) := by
  refine (ps_while hp hc hb).imp fun D σ H h => ?_
  obtain ⟨γ, S, α, F, R, s, w, h⟩ := h
  refine ⟨fun m σ H => ∃ γ1 S1 α1 F1, Slots X.K g α1 F1 γ1 σ ∧ World X.K g R α1 F1 S1 H ∧ AftS X.K g R α1 F1 (loopW mc mb m γ1 S1) D, ⟨fuel, γ, S, α, F, s, w, h⟩, ?_⟩
  rintro m σ1 H1 ⟨γ1, S1, α1, F1, s1, w1, ha⟩
  cases m with
  | zero => exact False.elim ha
  | succ m =>
    have ha : AftS X.K g R α1 F1 (.of (mc γ1 S1) fun x S => match truD x S with
      | some true => (match mb γ1 S with
        | .nx γ' S' => loopW mc mb m γ' S'
        | o => o)
      | some false => .nx γ1 S
      | none => .bad) D := ha
    refine ⟨γ1, S1, α1, F1, R, s1, w1, ?_⟩
    unfold trm
    cases q : mc γ1 S1 with
    | exc => rw [q] at ha; exact ha
    | bad => rw [q] at ha; exact ha
    | ok d S2 =>
      rw [q] at ha
      dsimp only [Out.bind, Fl.of] at ha ⊢
      cases q2 : truD d S2 with
      | none => rw [q2] at ha; exact ha
      | some k =>
        rw [q2] at ha
        intro r H2 α2 F2 e2 w2 er
        subst er
        cases k with
        | false =>
          rw [if_neg Bool.false_ne_true]
          exact ha σ1 H2 α2 F2 e2 (s1.mono e2) w2
        | true =>
          rw [if_pos rfl]
          dsimp only at ha
          refine ⟨fun σ H => ∃ γ1 S1 α1 F1, Slots X.K g α1 F1 γ1 σ ∧ World X.K g R α1 F1 S1 H ∧ AftS X.K g R α1 F1 (loopW mc mb m γ1 S1) D, fun σ' H' k => ⟨m, Nat.lt_succ_self m, k⟩, γ1, S2, α2, F2, R, s1.mono e2, w2, ?_⟩
          cases qb : mb γ1 S2 with
          | exc => rw [qb] at ha; exact ha
          | bad => rw [qb] at ha; exact ha
          | ret d S3 => rw [qb] at ha; exact AftS.ext (o := .ret d S3) e2 ha
          | nx γ3 S3 =>
            rw [qb] at ha
            exact fun σ3 H3 α3 F3 e3 s3 w3 => ⟨γ3, S3, α3, F3, s3, w3, AftS.ext (e2.trans e3) ha⟩
end
end Itp
namespace Itp
open PySem PySem.Spec PyProof.Rows L2
theorem LcP.set {X : Cx} {g : Gb} {cal : Nat → List D → Sto → Out D} {tg : Tg} {own : List Nat} {k : IK} {its ifs : List E} {e : E} {v : Expr} {x : Str} {i : Nat} {p pos : Pos} (L : LcP X g cal tg own k its ifs e v) (hc : X.calm = true) (hN : X.N.Nodup) (hk : X.env.scope.kind = .function) (hi : X.N[i]? = some x) (hw : swc X.env.scope x p.line v = true) :
    PS X (.Assign [.Name x p] v pos) (tS X.K g fun γ S => .of (ev cal (.lc tg own k its ifs e) γ S) fun d S => .nx (γ.set i (some d)) S) := by
  obtain ⟨elt, t, iter, fs, scope, p2, rfl, hI, ok, hg, ht, he, hn, hs⟩ := L
  obtain ⟨h1, h2⟩ := swc_true (line := pos.line) hk hw
  have := ps_setLc (elt := elt) (te := tI X.K g (ev cal e)) (tt := tIb X.K g (evF cal ifs)) (g := gI X.K g tg) (spos := pos) hc hN hi h2 h1 hI ok hg ht he (fun x => fold_of hn)
  rw [own_snd] at this
  refine this.imp fun D σ H h => ?_
  have h := set_of h
  exact lc_of hs h
theorem isLc_inv {e : E} (h : isLc e = true) : ∃ tg own k its ifs e', e = .lc tg own k its ifs e' := by
  cases e <;> first | exact ⟨_, _, _, _, _, _, rfl⟩ | cases h
section
variable (T : Tab) (g : Gb) (cal : Nat → List D → Sto → Out D) (n : Nat)
mutual
theorem jS (X : Cx) (hp : PassesOwn (model X.prog X.w) X.A X.env X.xe) (C : Cok T g cal X n) (hs : ScOk X X.env.scope) (hk : X.env.scope.kind = .function) : ∀ (s : St) (py : Stmt), mtS T X.N s X.env.scope py = true → PS X py (tS X.K g (ex cal s))
  | .set i e, py, h => by
    unfold mtS at h
    cases q : qAsg py with
    | none => rw [q] at h; cases h
    | some u =>
      obtain ⟨t, v, p⟩ := u
      rw [q] at h
      have e1 := qAsg_inv q
      subst e1
      dsimp only at h
      cases q2 : pName t with
      | none => rw [q2] at h; cases h
      | some x =>
        rw [q2] at h
        simp only [Bool.and_eq_true, Bool.or_eq_true] at h
        obtain ⟨⟨⟨⟨h1, h2⟩, h3⟩, h4⟩, h5⟩ := h
        obtain ⟨p2, rfl⟩ := pName_inv q2
        obtain ⟨k1, k2⟩ := hs.sto x h2
        have h1 := of_decide_eq_true h1
        have J := jE T g cal n e X _ v C hs h3
        cases hw : swc X.env.scope x p2.line v with
        | true =>
          have hl : isLc e = true := by
            rcases h5 with h5 | h5
            · have h5 : (!swc X.env.scope x p2.line v) = true := h5
              have : swc X.env.scope x p2.line v = false := by simpa using h5
              rw [hw] at this; cases this
            · exact h5
          obtain ⟨tg, own, k, its, ifs, e', rfl⟩ := isLc_inv hl
          exact (J.lc _ _ _ _ _ _ rfl).set C.calm C.nd hk h1 hw
        | false =>
          refine js_set C.nd h1 k1 k2 J.pe (swc_false hk ?_ hw)
          rcases h4 with h4 | h4
          · exact .inl h4
          · obtain ⟨tg, own, k, its, ifs, e', rfl⟩ := isLc_inv h4
            obtain ⟨elt, t, iter, fs, scope, p3, e2, _⟩ := J.lc _ _ _ _ _ _ rfl
            exact .inr ⟨_, _, _, _, e2⟩
  | .asg tg e, py, h => by
    unfold mtS at h
    cases q : qAsg py with
    | none => rw [q] at h; cases h
    | some u =>
      obtain ⟨t, v, p⟩ := u
      rw [q] at h
      have e1 := qAsg_inv q
      subst e1
      simp only [Bool.and_eq_true] at h
      obtain ⟨⟨⟨h1, h2⟩, h3⟩, h4⟩ := h
      exact js_asg h1 hk (jg C.calm C.nd hs tg t h2).1 (jE T g cal n e X _ v C hs h3).pe (of_decide_eq_true h4)
  | .par is es, py, h => by
    unfold mtS at h
    cases q : qAsg py with
    | none => rw [q] at h; cases h
    | some u =>
      obtain ⟨t, v, p⟩ := u
      rw [q] at h
      have e1 := qAsg_inv q
      subst e1
      dsimp only at h
      cases q2 : pTup t with
      | none => rw [q2] at h; cases h
      | some ts =>
        cases q3 : pTup v with
        | none => rw [q2, q3] at h; cases h
        | some vs =>
          rw [q2, q3] at h
          dsimp only at h
          cases q4 : namesOf ts with
          | none => rw [q4] at h; cases h
          | some xs =>
            rw [q4] at h
            simp only [Bool.and_eq_true, Bool.or_eq_true, beq_iff_eq] at h
            obtain ⟨⟨⟨⟨⟨⟨h1, h2⟩, h3⟩, h4⟩, h5⟩, h6⟩, h7⟩ := h
            obtain ⟨kt, pt, rfl⟩ := pTup_inv q2
            obtain ⟨kv, pv, rfl⟩ := pTup_inv q3
            obtain ⟨ps, hps, rfl⟩ := namesOf_inv q4
            have h1 := of_decide_eq_true h1
            have h2 := of_decide_eq_true h2
            have h5 := of_decide_eq_true h5
            have J := jEs T g cal n es X _ vs C hs h4
            have hl : ∀ x ∈ xs, X.env.scope.names.lookup x = some .local := fun x hx => of_decide_eq_true (List.all_eq_true.mp h3 x hx)
            have hlen : is.length = xs.length := by simpa using congrArg List.length h1
            match is, xs, ps, vs, h6, h7, hlen, hps, h1, h2, h5, hl, J with
            | [i, j], [x, y], [px, py], [a, b], _, _, _, _, h1, h2, h5, hl, J =>
              have k : X.N[i]? = some x ∧ X.N[j]? = some y := by simpa using h1
              exact js_par2 C.calm C.nd hk k.1 k.2 (by simpa using h2) (hl x (by simp)) (hl y (by simp)) J.pa h5
            | [i, j, l], [x, y, z], [px, py, pz], [a, b, c], _, _, _, _, h1, h2, h5, hl, J =>
              have k : X.N[i]? = some x ∧ X.N[j]? = some y ∧ X.N[l]? = some z := by simpa using h1
              have d : (i ≠ j ∧ i ≠ l) ∧ j ≠ l := by simpa using h2
              exact js_par3 C.calm C.nd hk k.1 k.2.1 k.2.2 d.1.1 d.1.2 d.2 (hl x (by simp)) (hl y (by simp)) (hl z (by simp)) J.pa h5
  | .idx o i e, py, h => by
    unfold mtS at h
    cases q : qAsg py with
    | none => rw [q] at h; cases h
    | some u =>
      obtain ⟨t, v, p⟩ := u
      rw [q] at h
      have e1 := qAsg_inv q
      subst e1
      dsimp only at h
      cases q2 : pSub t with
      | none => rw [q2] at h; cases h
      | some ab =>
        obtain ⟨a, b⟩ := ab
        rw [q2] at h
        simp only [Bool.and_eq_true] at h
        obtain ⟨⟨⟨h1, h2⟩, h3⟩, h4⟩ := h
        obtain ⟨p2, rfl⟩ := pSub_inv q2
        exact js_idx hk h1 (jE T g cal n o X _ a C hs h2).pe (jE T g cal n i X _ b C hs h3).pe (jE T g cal n e X _ v C hs h4).pe
  | .expr e, py, h => by
    unfold mtS at h
    cases q : qExpr py with
    | none => rw [q] at h; cases h
    | some u =>
      obtain ⟨v, p⟩ := u
      rw [q] at h
      simp only [Bool.and_eq_true] at h
      have e1 := qExpr_inv q
      subst e1
      exact js_expr (jE T g cal n e X _ v C hs h.2).pe h.1
  | .ret e, py, h => by
    unfold mtS at h
    cases q : qRet py with
    | none => rw [q] at h; cases h
    | some u =>
      cases u with
      | none => rw [q] at h; cases h
      | some v =>
        rw [q] at h
        obtain ⟨p, rfl⟩ := qRet_inv q
        exact js_ret (jE T g cal n e X _ v C hs h).pe
  | .retN, py, h => by
    unfold mtS at h
    cases q : qRet py with
    | none => rw [q] at h; cases h
    | some u =>
      cases u with
      | none =>
        obtain ⟨p, rfl⟩ := qRet_inv q
        exact js_retN
      | some v => rw [q] at h; cases h
  | .pass, py, h => by
    obtain ⟨p, rfl⟩ := qPass_inv h
    exact js_pass
  | .ifs c a b, py, h => by
    unfold mtS at h
    cases q : qIf py with
    | none => rw [q] at h; cases h
    | some u =>
      obtain ⟨c', a', b'⟩ := u
      rw [q] at h
      simp only [Bool.and_eq_true] at h
      obtain ⟨⟨⟨h1, h2⟩, h3⟩, h4⟩ := h
      obtain ⟨p, rfl⟩ := qIf_inv q
      exact js_if ((jE T g cal n c X _ c' C hs h2).pt h1) (jSs X hp C hs hk a a' h3) (jSs X hp C hs hk b b' h4)
  | .for tg k its b, py, h => by
    unfold mtS at h
    cases q : qFor py with
    | none => rw [q] at h; cases h
    | some u =>
      obtain ⟨t, iter, b'⟩ := u
      rw [q] at h
      simp only [Bool.and_eq_true] at h
      obtain ⟨⟨⟨h1, h2⟩, h3⟩, h4⟩ := h
      obtain ⟨p, rfl⟩ := qFor_inv q
      cases q2 : itArgs T k X.env.scope t iter with
      | none => rw [q2] at h2; cases h2
      | some as =>
        rw [q2] at h2
        exact js_for hp C.calm (jI C hs q2 (jEs T g cal n its X _ as C hs h2)) (jg C.calm C.nd hs tg t h3).1 (jSs X hp C hs hk b b' h4) h1
  | .while c b, py, h => by
    unfold mtS at h
    cases q : qWhile py with
    | none => rw [q] at h; cases h
    | some u =>
      obtain ⟨c', b'⟩ := u
      rw [q] at h
      simp only [Bool.and_eq_true] at h
      obtain ⟨⟨h1, h2⟩, h3⟩ := h
      obtain ⟨p, rfl⟩ := qWhile_inv q
      exact js_while hp ((jE T g cal n c X _ c' C hs h2).pt h1) (jSs X hp C hs hk b b' h3)
  | .never, py, h => js_never
theorem jSs (X : Cx) (hp : PassesOwn (model X.prog X.w) X.A X.env X.xe) (C : Cok T g cal X n) (hs : ScOk X X.env.scope) (hk : X.env.scope.kind = .function) : ∀ (ss : List St) (pys : List Stmt), mtSs T X.N ss X.env.scope pys = true → PSs X pys (tS X.K g (exs cal ss))
  | [], pys, h => by
    have e : pys = [] := by
      have h : pys.isEmpty = true := h
      simpa using h
    subst e
    exact jss_nil
  | s :: ss, pys, h => by
    cases pys with
    | nil => cases h
    | cons p ps =>
      have h : (mtS T X.N s X.env.scope p && mtSs T X.N ss X.env.scope ps) = true := h
      rw [Bool.and_eq_true] at h
      exact jss_cons (jS X hp C hs hk s p h.1) (jSs X hp C hs hk ss ps h.2)
end
end
end Itp
namespace Itp
open PySem PySem.Spec PyProof.Rows L2
/-! ### the store is cut back -/
section
variable {K : PySem.W.Frag} {g : Gb} {α : Nat → Option Addr} {F H R : Hp} {S : Sto}
def cutA (α : Nat → Option Addr) (n : Nat) : Nat → Option Addr := fun m => if m < n then α m else none
mutual
theorem Rep.cut {n : Nat} : ∀ (d : D) (v : V), d.low n = true → Rep K g α F d v → Rep K g (cutA α n) F d v
  | .non, v, _, h => h
  | .bl b, v, _, h => h
  | .int i, v, _, h => h
  | .str x, v, _, h => h
  | .lst xs, v, l, h => by
    obtain ⟨a, vs, e1, h1, h2⟩ := h
    exact ⟨a, vs, e1, h1, Reps.cut xs vs l h2⟩
  | .tup xs, v, l, h => by
    obtain ⟨a, vs, e1, h1, h2⟩ := h
    exact ⟨a, vs, e1, h1, Reps.cut xs vs l h2⟩
  | .obj c ns ds, v, l, h => by
    obtain ⟨a, dx, vs, e1, h1, hl, h2⟩ := h
    exact ⟨a, dx, vs, e1, h1, hl, Reps.cut ds vs l h2⟩
  | .loc m, v, l, h => by
    obtain ⟨a, e1, h1⟩ := h
    refine ⟨a, e1, ?_⟩
    unfold cutA
    rw [if_pos (of_decide_eq_true l)]
    exact h1
  | .scr ns, v, _, h => h
theorem Reps.cut {n : Nat} : ∀ (ds : List D) (vs : List V), D.lows n ds = true → Reps K g α F ds vs → Reps K g (cutA α n) F ds vs
  | [], vs, _, h => h
  | d :: ds, vs, l, h => by
    obtain ⟨v, r, e1, h1, h2⟩ := h
    have l : (d.low n && D.lows n ds) = true := l
    rw [Bool.and_eq_true] at l
    exact ⟨v, r, e1, Rep.cut d v l.1 h1, Reps.cut ds r l.2 h2⟩
end
theorem World.cut (w : World K g R α F S H) {n : Nat} (hn : n ≤ S.length) (l : (S.take n).all (SO.low n) = true) : World K g R (cutA α n) F (S.take n) H := by
  have sub : ∀ m a, cutA α n m = some a → α m = some a := fun m a h => by
    unfold cutA at h
    split at h
    · exact h
    · cases h
  refine ⟨w.fz, fun m o h => ?_, fun m m' a h h' => w.inj m m' a (sub _ _ h) (sub _ _ h'), fun m a h => w.occ m a (sub _ _ h), fun m h => ?_, fun a o h => ?_⟩
  · have hm : m < n := by
      have := (List.getElem?_eq_some_iff.mp h).1
      rw [List.length_take] at this
      omega
    have lo : o.low n = true := List.all_eq_true.mp l o (List.mem_of_getElem? h)
    rw [List.getElem?_take_of_lt hm] at h
    have k := w.st m o h
    have ca : ∀ a, α m = some a → cutA α n m = some a := fun a e => by unfold cutA; rw [if_pos hm]; exact e
    cases o with
    | lst xs =>
      obtain ⟨a, vs, h1, h2, h3, h4⟩ := k
      exact ⟨a, vs, ca a h1, h2, h3, Reps.cut _ _ lo h4⟩
    | ins c ns ds =>
      obtain ⟨a, dx, vs, h1, h2, h3, hl, h4⟩ := k
      exact ⟨a, dx, vs, ca a h1, h2, h3, hl, Reps.cut _ _ lo h4⟩
    | dead => trivial
  · rw [List.length_take, Nat.min_eq_left hn] at h
    unfold cutA
    rw [if_neg (by omega)]
  · obtain ⟨h1, h2, h3⟩ := w.fr a o h
    exact ⟨h1, h2, fun m e => h3 m (sub _ _ e)⟩
/-- behind a call -/
theorem Aft.trim {α0 : Nat → Option Addr} {F0 : Hp} {n : Nat} {d : D} {Q : VK} (hb : ∀ m, n ≤ m → α0 m = none) (h : Aft K g R (Rep K g) α0 F0 (.ok d (trim n d S)) Q) (e : Ext α0 F0 α F) (w : World K g R α F S H) {v : V} (r : Rep K g α F d v) : Q v H := by
  unfold Itp.trim at h
  split at h
  · exact h v H α F e w r
  · rename_i hn
    split at h
    · rename_i hl
      rw [Bool.and_eq_true] at hl
      refine h v H (cutA α n) F ⟨fun m a q => ?_, e.fr⟩ (w.cut (by omega) hl.2) (Rep.cut d v hl.1 r)
      have hm : m < n := by
        apply Classical.byContradiction
        intro hm
        rw [hb m (by omega)] at q
        cases q
      unfold cutA
      rw [if_pos hm]
      exact e.al m a q
    · exact h v H α F e w r
end
/-! ### a def of the text -/
structure Df where
  d : He.DefD
  N : List Str
  ps : List Str
  fn : Fn
def Df.ok (T : Tab) (f : Df) : Bool := decide (f.d.scope.kind = .function) && !f.d.scope.isCoroutine && !f.d.scope.isGenerator && decide f.N.Nodup && decide (f.N.take f.ps.length = f.ps) && f.ps.all (stoB f.d.scope) &&
  (f.d.scope.names.all fun y => decide (y.2 ≠ .free)) && decide (f.fn.np = f.ps.length) && decide (f.fn.nv = f.N.length) && mtSs T f.N f.fn.body f.d.scope f.d.body
theorem Df.scope {T : Tab} {f : Df} (h : f.ok T = true) : FnScope f.N f.ps f.d.scope ∧ f.fn.np = f.ps.length ∧ f.fn.nv = f.N.length ∧ mtSs T f.N f.fn.body f.d.scope f.d.body = true := by
  unfold Df.ok at h
  simp only [Bool.and_eq_true] at h
  obtain ⟨⟨⟨⟨⟨⟨⟨⟨⟨h1, h2⟩, h3⟩, h4⟩, h5⟩, h6⟩, h7⟩, h8⟩, h9⟩, h10⟩ := h
  refine ⟨⟨of_decide_eq_true h1, by simpa using h2, by simpa using h3, of_decide_eq_true h4, of_decide_eq_true h5, fun x hx => ?_, fun y hy => of_decide_eq_true (List.all_eq_true.mp h7 y hy)⟩, of_decide_eq_true h8, of_decide_eq_true h9, h10⟩
  have := List.all_eq_true.mp h6 x hx
  unfold stoB at this
  split at this
  · exact .inl (by assumption)
  · exact .inr (by assumption)
  · cases this
/-- what the head has told, of every context -/
structure Hd (T : Tab) (g : Gb) (K : PySem.W.Frag) (mg : Str → Option Value) (dfs : List Df) : Prop where
  fr : ∀ x ∈ T.free, mg x = none
  fo : ∀ x ∈ T.free, x ≠ "__name__" ∧ (x == ("__debug__" : Str)) = false
  ci : ∀ p ∈ T.ci, ∃ t, mg p.1 = some (.int p.2 t)
  cs : ∀ p ∈ T.cs, ∃ t, mg p.1 = some (.str p.2 t)
  cl : ∀ (c : Nat) x, T.cls[c]? = some x → mg x = some (.ref (g.cA c)) ∧ c < g.nc
  is : IsOk K g g.nc
  mf : ∀ (f : Nat) x, T.fn[f]? = some x → mg x = some (.ref (g.fA f)) ∧ f < dfs.length
  ok : ∀ f ∈ dfs, f.ok T = true
  fd : ∀ (f : Nat) df, dfs[f]? = some df → ∃ fd, FunD K df.d.name df.d.qual df.d.params df.d.body df.d.scope [] [] (g.fA f) fd ∧ L2.Binds K fd df.ps [] ∧ ∀ m ks pi, (f, m, ks, pi) ∈ T.kb → KbOk K fd df.ps m ks pi
section
variable {T : Tab} {g : Gb} {K : PySem.W.Frag} {mg : Str → Option Value} {dfs : List Df} {P : Program} {w : PySem.World} {base : Heap}
theorem _root_.L2.FunD.uniq {x q : Str} {a : Arguments} {b : List Stmt} {sc : Scope} {dv : List V} {kw : List (Str × V)} {x' q' : Str} {a' : Arguments} {b' : List Stmt} {sc' : Scope} {dv' : List V} {kw' : List (Str × V)} {f : Addr} {fd fd' : FuncData} (F : FunD K x q a b sc dv kw f fd) (F' : FunD K x' q' a' b' sc' dv' kw' f fd') : fd' = fd := by
  obtain ⟨_, _, _, _, _, _, _, _, _, _, _, l1, _⟩ := F.ex
  obtain ⟨_, _, _, _, _, _, _, _, _, _, _, l2, _⟩ := F'.ex
  rw [l1] at l2
  cases l2
  rfl
theorem start_slots {α : Nat → Option Addr} {F : Hp} {N : List Str} {ds : List D} {vs : List V} {nv np : Nat} (hl : ds.length = np) (hv : nv = N.length) (r : Reps K g α F ds vs) : Slots K g α F (ds.map some ++ List.replicate (nv - np) none) (L2.start N vs) := by
  have e := r.length
  refine ⟨?_, fun i d q => ?_⟩
  · unfold L2.start
    simp [hl, hv, ← e]
  · by_cases hi : i < ds.length
    · rw [List.getElem?_append_left (by simpa using hi), List.getElem?_map] at q
      cases q2 : ds[i]? with
      | none => rw [q2] at q; cases q
      | some d' =>
        rw [q2] at q
        have q := Option.some.inj (Option.some.inj q)
        subst q
        obtain ⟨v, h1, h2⟩ := r.get q2
        refine ⟨v, ?_, h2⟩
        unfold L2.start
        rw [List.getElem?_append_left (by rw [List.length_map, ← e]; exact hi), List.getElem?_map, h1]
        rfl
    · rw [List.getElem?_append_right (by simpa using hi), List.getElem?_replicate] at q
      split at q <;> cases q
theorem fns_ok (h : Hd T g K mg dfs) : ∀ (n : Nat) (f : Nat) (df : Df), dfs[f]? = some df → ∃ fd, FunD K df.d.name df.d.qual df.d.params df.d.body df.d.scope [] [] (g.fA f) fd ∧ FnOk P w K mg base CX0 n (g.fA f) fd df.ps (spI K g (callN (dfs.map (·.fn)) n) f df.ps.length) ∧ L2.Binds K fd df.ps [] ∧ PySem.W.keepIn K (.ref (g.fA f)) = true ∧ ∀ m ks pi, (f, m, ks, pi) ∈ T.kb → KbOk K fd df.ps m ks pi
  | 0, f, df, hf => by
    obtain ⟨fd, F1, B1, KB1⟩ := h.fd f df hf
    refine ⟨fd, F1, ⟨fun vs H Q E ⟨ds, S, α, F, R, hl, r, _⟩ => by rw [← r.length]; exact hl, fun A outer s H args us vs Q E _ _ _ _ ⟨ds, S, α, F, R, hl, r, w, k⟩ => False.elim k⟩, B1, F1.kp, KB1⟩
  | n + 1, f, df, hf => by
    obtain ⟨fd, F1, B1, KB1⟩ := h.fd f df hf
    obtain ⟨hsc, hnp, hnv, hmt⟩ := Df.scope (h.ok df (List.mem_of_getElem? hf))
    refine ⟨fd, F1, ?_, B1, F1.kp, KB1⟩
    refine F1.ok hsc (fun vs H Q E ⟨ds, S, α, F, R, hl, r, _⟩ => by rw [← r.length]; exact hl) fun cdv A outer s H vs Q E hr hsp => ?_
    obtain ⟨ds, S, α, F, R, hl, r, w1, k⟩ := hsp
    refine ⟨tS K g (exs (callN (dfs.map (·.fn)) n) df.fn.body), PSs.nox (jSs T g (callN (dfs.map (·.fn)) n) n _ PassesOwn.never ?_ ?_ hsc.kind df.fn.body df.d.body hmt), ?_⟩
    · refine ⟨rfl, hsc.nd, hr, h.fr, h.fo, h.ci, h.cs, h.cl, h.is, fun f' x hx => ?_⟩
      obtain ⟨h1, h2⟩ := h.mf f' x hx
      obtain ⟨df', hdf'⟩ : ∃ df', dfs[f']? = some df' := ⟨dfs[f'], by simp [h2]⟩
      obtain ⟨fd', _, G1, G2, G3, G4⟩ := fns_ok h n f' df' hdf'
      refine ⟨h1, G3, fd', df'.ps, df'.ps.length, G1, G2, fun ds' S' hne => ?_, rfl, G4⟩
      cases n with
      | zero => rfl
      | succ n =>
        unfold callN
        have e : (dfs.map (·.fn))[f']? = some df'.fn := by rw [List.getElem?_map, hdf']; rfl
        have hnp' := (Df.scope (h.ok df' (List.mem_of_getElem? hdf'))).2.1
        rw [e]
        dsimp only
        rw [if_neg (by rw [hnp']; exact hne)]
    · refine ⟨fun x hx => ?_, fun x hx => ?_, fun x hx => ?_, fun x hx => hx, fun x hx => hx⟩
      · unfold visB at hx
        split at hx
        · exact .inl (by assumption)
        · exact .inr (.inl (by assumption))
        · exact .inr (.inr (by assumption))
        · cases hx
      · unfold gloB at hx
        split at hx
        · rename_i q
          exact q
        · cases hx
      · unfold stoB at hx
        split at hx
        · rename_i q
          exact ⟨.inl q, .inl rfl⟩
        · rename_i q
          exact ⟨.inr q, .inl rfl⟩
        · cases hx
    · refine ⟨ds.map some ++ List.replicate (df.fn.nv - df.fn.np) none, S, α, F, R, start_slots (by rw [hnp]; exact hl) hnv r, w1, ?_⟩
      unfold callN at k
      have e : (dfs.map (·.fn))[f]? = some df.fn := by rw [List.getElem?_map, hf]; rfl
      rw [e] at k
      dsimp only at k
      rw [if_pos (by rw [hnp]; exact hl)] at k
      cases q : exs (callN (dfs.map (·.fn)) n) df.fn.body (ds.map some ++ List.replicate (df.fn.nv - df.fn.np) none) S with
      | exc => rw [q] at k; exact k
      | bad => rw [q] at k; exact k
      | nx γ S' =>
        rw [q] at k
        exact fun σ H' α' F' e' _ w' => Aft.trim (d := .non) w1.bd k e' w' rfl
      | ret d S' =>
        rw [q] at k
        exact fun v H' α' F' e' w' rv => Aft.trim w1.bd k e' w' rv
end
end Itp
namespace Itp
open PySem PySem.Spec PyProof.Rows L2
/-- the law's own promise -/
theorem law_sp {K : PySem.W.Frag} {g : Gb} {P : List Fn} {n f : Nat} (hl : ∀ ns : List Int, ns.length ≤ 63 → ∃ S, callN P n f [.scr ns] [] = .ok (.bl true) S) (H : Hp) (a : Addr) (ns : List Int) (hn : ns.length ≤ 63) (hq : SqL K H a (ns.map V.int)) :
    spI K g (callN P n) f 1 [.ref a] H (fun v _ => v = .bl true) fun _ _ _ => False := by
  refine ⟨[.scr ns], [], fun _ => none, H, fun _ => none, rfl, ⟨.ref a, [], rfl, ⟨a, rfl, hq⟩, rfl⟩, ⟨fun _ _ h => h, fun n o h => by simp at h, fun _ _ _ h => (nomatch h), fun _ _ h => (nomatch h), fun _ _ => rfl, fun _ _ h => (nomatch h)⟩, ?_⟩
  obtain ⟨S, e⟩ := hl ns hn
  rw [e]
  exact fun v H' α' F' _ _ r => r
end Itp
namespace Itp
open PySem L2
/-! ### the evaluator, rule by rule -/
section
variable {cal : Nat → List D → Sto → Out D} {γ γ1 : Gm} {S S1 S2 S3 : Sto} {a b c e : E} {x y z d : D} {es : List E} {ds : List D} {k k2 : Bool}
theorem ev_var {i : Nat} (h : γ[i]? = some (some d)) : ev cal (.var i) γ S = .ok d S := by
  show (match γ[i]? with | some (some d) => Out.ok d S | _ => .bad) = _
  rw [h]
theorem ev_bin {o : BO} (ha : ev cal a γ S = .ok x S1) (hb : ev cal b γ S1 = .ok y S2) (h : binD o x y S2 = some z) : ev cal (.bin o a b) γ S = .ok z S2 := by
  show ((ev cal a γ S).bind fun x S => (ev cal b γ S).bind fun y S => ofO (binD o x y S) S) = _
  rw [ha]; dsimp only [Out.bind]; rw [hb]; dsimp only [Out.bind]; rw [h]; rfl
theorem ev_neg {i : Int} (ha : ev cal a γ S = .ok (.int i) S1) : ev cal (.neg a) γ S = .ok (.int (-i)) S1 := by
  show ((ev cal a γ S).bind fun x S => match x with | .int i => Out.ok (D.int (-i)) S | _ => .bad) = _
  rw [ha]
theorem ev_not (ha : ev cal a γ S = .ok x S1) (h : truD x S1 = some k) : ev cal (.not a) γ S = .ok (.bl !k) S1 := by
  show ((ev cal a γ S).bind fun x S => match truD x S with | some b => Out.ok (D.bl !b) S | none => .bad) = _
  rw [ha]; dsimp only [Out.bind]; rw [h]
theorem ev_cmp {o : CO} (ha : ev cal a γ S = .ok x S1) (hb : ev cal b γ S1 = .ok y S2) (h : cmpD o x y S2 = some k) : ev cal (.cmp o a b) γ S = .ok (.bl k) S2 := by
  show ((ev cal a γ S).bind fun x S => (ev cal b γ S).bind fun y S => match cmpD o x y S with | some k => Out.ok (D.bl k) S | none => .bad) = _
  rw [ha]; dsimp only [Out.bind]; rw [hb]; dsimp only [Out.bind]; rw [h]
theorem ev_chn {o p : CO} (ha : ev cal a γ S = .ok x S1) (hb : ev cal b γ S1 = .ok y S2) (h : cmpD o x y S2 = some k) (hc : ev cal c γ S2 = .ok z S2) (h2 : cmpD p y z S2 = some k2) : ev cal (.chn o p a b c) γ S = .ok (.bl (k && k2)) S2 := by
  show ((ev cal a γ S).bind fun x S => (ev cal b γ S).bind fun y S => match cmpD o x y S with
    | some true => (ev cal c γ S).bind fun z S => (match cmpD p y z S with | some k => Out.ok (D.bl k) S | none => .bad)
    | some false => .ok (.bl false) S
    | none => .bad) = _
  rw [ha]; dsimp only [Out.bind]; rw [hb]; dsimp only [Out.bind]; rw [h]
  cases k with
  | true => dsimp only; rw [hc]; dsimp only [Out.bind]; rw [h2]; rfl
  | false => rfl
theorem ev_ite_t (hc : ev cal c γ S = .ok x S1) (h : truD x S1 = some true) (ha : ev cal a γ S1 = .ok d S2) : ev cal (.ite c a b) γ S = .ok d S2 := by
  show ((ev cal c γ S).bind fun x S => match truD x S with | some true => ev cal a γ S | some false => ev cal b γ S | none => .bad) = _
  rw [hc]; dsimp only [Out.bind]; rw [h]; exact ha
theorem ev_ite_f (hc : ev cal c γ S = .ok x S1) (h : truD x S1 = some false) (hb : ev cal b γ S1 = .ok d S2) : ev cal (.ite c a b) γ S = .ok d S2 := by
  show ((ev cal c γ S).bind fun x S => match truD x S with | some true => ev cal a γ S | some false => ev cal b γ S | none => .bad) = _
  rw [hc]; dsimp only [Out.bind]; rw [h]; exact hb
theorem ev_tup (h : evs cal es γ S = .ok ds S1) : ev cal (.tup es) γ S = .ok (.tup ds) S1 := by
  show ((evs cal es γ S).bind fun ds S => Out.ok (D.tup ds) S) = _
  rw [h]
theorem ev_lst (h : evs cal es γ S = .ok ds S1) : ev cal (.lst false es) γ S = .ok (.lst ds) S1 := by
  show ((evs cal es γ S).bind fun ds S => if false = true then Out.ok (D.loc S.length) (S ++ [.lst ds]) else .ok (.lst ds) S) = _
  rw [h]; rfl
theorem ev_new (h : evs cal es γ S = .ok ds S1) : ev cal (.lst true es) γ S = .ok (.loc S1.length) (S1 ++ [.lst ds]) := by
  show ((evs cal es γ S).bind fun ds S => if true = true then Out.ok (D.loc S.length) (S ++ [.lst ds]) else .ok (.lst ds) S) = _
  rw [h]; rfl
theorem ev_spt (h : ev cal e γ S = .ok (.lst ds) S1) (hl : ds.length ≤ 16777216) : ev cal (.spt e) γ S = .ok (.tup ds) S1 := by
  show ((ev cal e γ S).bind fun x S => match x with | .lst xs => if xs.length ≤ 16777216 then Out.ok (D.tup xs) S else .bad | _ => .bad) = _
  rw [h]; exact if_pos hl
theorem ev_idx (ha : ev cal a γ S = .ok x S1) (hb : ev cal b γ S1 = .ok y S2) (h : idxD x y S2 = some z) : ev cal (.idx a b) γ S = .ok z S2 := by
  show ((ev cal a γ S).bind fun x S => (ev cal b γ S).bind fun y S => ofO (idxD x y S) S) = _
  rw [ha]; dsimp only [Out.bind]; rw [hb]; dsimp only [Out.bind]; rw [h]; rfl
theorem evO_none : evO cal none γ S = .ok none S := rfl
theorem evO_some {i : Int} (h : ev cal e γ S = .ok (.int i) S1) : evO cal (some e) γ S = .ok (some i) S1 := by
  show ((ev cal e γ S).bind fun x S => match x with | .int i => Out.ok (some i) S | _ => .bad) = _
  rw [h]
theorem ev_slc {lo hi : Option E} {l h' : Option Int} (ha : ev cal a γ S = .ok x S1) (hl : evO cal lo γ S1 = .ok l S2) (hh : evO cal hi γ S2 = .ok h' S3) (h : slcD x l h' S3 = some z) : ev cal (.slc a lo hi) γ S = .ok z S3 := by
  show ((ev cal a γ S).bind fun x S => (evO cal lo γ S).bind fun l S => (evO cal hi γ S).bind fun h S => ofO (slcD x l h S) S) = _
  rw [ha]; dsimp only [Out.bind]; rw [hl]; dsimp only [Out.bind]; rw [hh]; dsimp only [Out.bind]; rw [h]; rfl
theorem ev_isi {t : Ty} (ha : ev cal a γ S = .ok x S1) (h : isD x t S1 = some k) : ev cal (.isi a t) γ S = .ok (.bl k) S1 := by
  show ((ev cal a γ S).bind fun x S => match isD x t S with | some b => Out.ok (D.bl b) S | none => .bad) = _
  rw [ha]; dsimp only [Out.bind]; rw [h]
theorem ev_isT {t : List Ty} (ha : ev cal a γ S = .ok x S1) (h : isAny x t S1 = some k) : ev cal (.isT a t) γ S = .ok (.bl k) S1 := by
  show ((ev cal a γ S).bind fun x S => match isAny x t S with | some b => Out.ok (D.bl b) S | none => .bad) = _
  rw [ha]; dsimp only [Out.bind]; rw [h]
theorem ev_bf {f : BF} (hs : evs cal es γ S = .ok ds S1) (h : bfD f ds S1 = some z) : ev cal (.bf f es) γ S = .ok z S1 := by
  show ((evs cal es γ S).bind fun ds S => ofO (bfD f ds S) S) = _
  rw [hs]; dsimp only [Out.bind]; rw [h]; rfl
theorem ev_bm {m : BM} (ha : ev cal a γ S = .ok x S1) (ho : bmOk m x S1 = true) (hs : evs cal es γ S1 = .ok ds S2) (h : bmD m x ds S2 = .ok z S3) : ev cal (.bm m a es) γ S = .ok z S3 := by
  show ((ev cal a γ S).bind fun x S => if bmOk m x S then (evs cal es γ S).bind fun ds S => bmD m x ds S else .bad) = _
  rw [ha]; dsimp only [Out.bind]; rw [if_pos ho, hs]; exact h
theorem ev_call {f : Nat} (hs : evs cal es γ S = .ok ds S1) (h : cal f ds S1 = .ok z S2) : ev cal (.call f es) γ S = .ok z S2 := by
  show ((evs cal es γ S).bind fun ds S => cal f ds S) = _
  rw [hs]; exact h
theorem ev_callP {f : Nat} {ks : List E} {pi : List Nat} {kd fs : List D} (hs : evs cal es γ S = .ok ds S1) (hk : evs cal ks γ S1 = .ok kd S2) (hp : pick (ds ++ kd) pi = some fs) (h : cal f fs S2 = .ok z S3) : ev cal (.callP f es ks pi) γ S = .ok z S3 := by
  show ((evs cal es γ S).bind fun ds S => (evs cal ks γ S).bind fun ks S => match pick (ds ++ ks) pi with | some ds => cal f ds S | none => .bad) = _
  rw [hs]; dsimp only [Out.bind]; rw [hk]; dsimp only [Out.bind]; rw [hp]; exact h
theorem evs_nil : evs cal [] γ S = .ok [] S := rfl
theorem evs_cons (h : ev cal e γ S = .ok d S1) (hs : evs cal es γ S1 = .ok ds S2) : evs cal (e :: es) γ S = .ok (d :: ds) S2 := by
  show ((ev cal e γ S).bind fun d S => (evs cal es γ S).bind fun ds S => Out.ok (d :: ds) S) = _
  rw [h]; dsimp only [Out.bind]; rw [hs]
theorem ev_frz_l {n : Nat} {xs : List D} (h : ev cal e γ S = .ok (.loc n) S1) (hn : S1[n]? = some (.lst xs)) : ev cal (.frz e) γ S = .ok (.lst xs) (S1.set n .dead) := by
  show ((ev cal e γ S).bind fun x S => match x with
    | .loc n => (match S[n]? with
      | some (.lst xs) => Out.ok (D.lst xs) (S.set n .dead)
      | some (.ins c ns ds) => .ok (.obj c ns ds) (S.set n .dead)
      | _ => .bad)
    | _ => .bad) = _
  rw [h]; dsimp only [Out.bind]; rw [hn]
/-- the turn of a comprehension -/
abbrev turnE (cal : Nat → List D → Sto → Out D) (ifs : List E) (e : E) : Gm → Sto → Out (Option D) := fun γ' S => match evF cal ifs γ' S with
        | .ok true S => (match ev cal e γ' S with | .ok d S => .ok (some d) S | _ => .bad)
        | .ok false S => .ok none S
        | _ => .bad
theorem ev_lc {tg : Tg} {own : List Nat} {ik : IK} {its ifs : List E} {xs ys : List D} (hs : evs cal its γ S = .ok ds S1) (hi : itD ik ds S1 = some xs) (hl : xs.length ≤ 16777216) (h : loopC (turnE cal ifs e) tg (wipeG γ own) xs [] S1 = .ok ys S2) : ev cal (.lc tg own ik its ifs e) γ S = .ok (.lst ys) S2 := by
  show ((evs cal its γ S).bind fun ds S => match itD ik ds S with
    | some xs => if xs.length ≤ 16777216 then (loopC (turnE cal ifs e) tg (wipeG γ own) xs [] S).bind fun ys S => Out.ok (D.lst ys) S else .bad
    | none => .bad) = _
  rw [hs]; dsimp only [Out.bind]; rw [hi]; dsimp only; rw [if_pos hl, h]
/-! and, or -/
theorem evB_one {o : Bool} (h : ev cal e γ S = .ok d S1) : evB cal o [e] γ S = .ok d S1 := h
theorem evB_go {o : Bool} {e2 : E} (h : ev cal e γ S = .ok x S1) (ht : truD x S1 = some o) (h2 : evB cal o (e2 :: es) γ S1 = .ok d S2) : evB cal o (e :: e2 :: es) γ S = .ok d S2 := by
  show ((ev cal e γ S).bind fun x S => match truD x S with | some b => if b = o then evB cal o (e2 :: es) γ S else .ok x S | none => .bad) = _
  rw [h]; dsimp only [Out.bind]; rw [ht]; dsimp only; rw [if_pos rfl]; exact h2
theorem evB_stop {o : Bool} {e2 : E} (h : ev cal e γ S = .ok x S1) (ht : truD x S1 = some (!o)) : evB cal o (e :: e2 :: es) γ S = .ok x S1 := by
  show ((ev cal e γ S).bind fun x S => match truD x S with | some b => if b = o then evB cal o (e2 :: es) γ S else .ok x S | none => .bad) = _
  rw [h]; dsimp only [Out.bind]; rw [ht]; dsimp only; rw [if_neg (by cases o <;> decide)]
/-- two truth values, whatever they are -/
theorem evB_and {e2 : E} (h : ev cal e γ S = .ok (.bl k) S1) (h2 : k = true → evB cal true (e2 :: es) γ S1 = .ok (.bl k2) S1) : evB cal true (e :: e2 :: es) γ S = .ok (.bl (k && k2)) S1 := by
  cases k with
  | true => exact evB_go h rfl (h2 rfl)
  | false => exact evB_stop h rfl
theorem evB_or {e2 : E} (h : ev cal e γ S = .ok (.bl k) S1) (h2 : k = false → evB cal false (e2 :: es) γ S1 = .ok (.bl k2) S1) : evB cal false (e :: e2 :: es) γ S = .ok (.bl (k || k2)) S1 := by
  cases k with
  | false => exact evB_go h rfl (h2 rfl)
  | true => exact evB_stop h rfl
theorem ev_bop {o : Bool} (h : evB cal o es γ S = .ok d S1) : ev cal (.bop o es) γ S = .ok d S1 := h
/-! ### statements -/
variable {st : St} {ss A B : List St} {o : Fl}
theorem exs_nil : exs cal [] γ S = .nx γ S := rfl
theorem exs_cons (h : ex cal st γ S = .nx γ1 S1) (h2 : exs cal ss γ1 S1 = o) : exs cal (st :: ss) γ S = o := by
  show (match ex cal st γ S with | .nx γ' S' => exs cal ss γ' S' | o => o) = _
  rw [h]; exact h2
theorem exs_ret (h : ex cal st γ S = .ret d S1) : exs cal (st :: ss) γ S = .ret d S1 := by
  show (match ex cal st γ S with | .nx γ' S' => exs cal ss γ' S' | o => o) = _
  rw [h]
theorem exs_last (h : ex cal st γ S = o) : exs cal [st] γ S = o := by
  show (match ex cal st γ S with | .nx γ' S' => exs cal [] γ' S' | o => o) = _
  rw [h]; cases o <;> rfl
theorem ex_set {i : Nat} (h : ev cal e γ S = .ok d S1) : ex cal (.set i e) γ S = .nx (γ.set i (some d)) S1 := by
  show Fl.of (ev cal e γ S) (fun d S => .nx (γ.set i (some d)) S) = _
  rw [h]
theorem ex_asg {tg : Tg} (h : ev cal e γ S = .ok d S1) (ht : setTg tg d γ = some γ1) : ex cal (.asg tg e) γ S = .nx γ1 S1 := by
  show Fl.of (ev cal e γ S) (fun d S => match setTg tg d γ with | some γ' => .nx γ' S | none => .bad) = _
  rw [h]; dsimp only [Fl.of]; rw [ht]
theorem ex_par {is : List Nat} (h : evs cal es γ S = .ok ds S1) (hl : is.length = ds.length) : ex cal (.par is es) γ S = .nx (setAll is ds γ) S1 := by
  show Fl.of (evs cal es γ S) (fun ds S => if is.length = ds.length then .nx (setAll is ds γ) S else .bad) = _
  rw [h]; exact if_pos hl
theorem ex_idx {n j : Nat} {i : Int} {xs : List D} (h : ev cal e γ S = .ok d S1) (ha : ev cal a γ S1 = .ok (.loc n) S2) (hb : ev cal b γ S2 = .ok (.int i) S3) (hn : S3[n]? = some (.lst xs)) (hj : ixN xs.length i = some j) : ex cal (.idx a b e) γ S = .nx γ (S3.set n (.lst (xs.set j d))) := by
  show Fl.of (ev cal e γ S) (fun d S => .of (ev cal a γ S) fun x S => .of (ev cal b γ S) fun y S => match x, y with
    | .loc n, .int k => (match S[n]? with
      | some (.lst xs) => (match ixN xs.length k with
        | some j => .nx γ (S.set n (.lst (xs.set j d)))
        | none => .bad)
      | _ => .bad)
    | _, _ => .bad) = _
  rw [h]; dsimp only [Fl.of]; rw [ha]; dsimp only [Fl.of]; rw [hb]; dsimp only [Fl.of]; rw [hn]; dsimp only; rw [hj]
theorem ex_expr (h : ev cal e γ S = .ok d S1) : ex cal (.expr e) γ S = .nx γ S1 := by
  show Fl.of (ev cal e γ S) (fun _ S => .nx γ S) = _
  rw [h]
theorem ex_ret (h : ev cal e γ S = .ok d S1) : ex cal (.ret e) γ S = .ret d S1 := by
  show Fl.of (ev cal e γ S) (fun d S => .ret d S) = _
  rw [h]
theorem ex_if (h : ev cal c γ S = .ok x S1) (ht : truD x S1 = some k) : ex cal (.ifs c A B) γ S = if k then exs cal A γ S1 else exs cal B γ S1 := by
  show Fl.of (ev cal c γ S) (fun x S => match truD x S with | some true => exs cal A γ S | some false => exs cal B γ S | none => .bad) = _
  rw [h]; dsimp only [Fl.of]; rw [ht]; cases k <;> rfl
theorem ex_if_t (h : ev cal c γ S = .ok x S1) (ht : truD x S1 = some true) (h2 : exs cal A γ S1 = o) : ex cal (.ifs c A B) γ S = o := by rw [ex_if h ht]; exact h2
theorem ex_if_f (h : ev cal c γ S = .ok x S1) (ht : truD x S1 = some false) (h2 : exs cal B γ S1 = o) : ex cal (.ifs c A B) γ S = o := by rw [ex_if h ht]; exact h2
theorem ex_for {tg : Tg} {ik : IK} {xs : List D} (hs : evs cal es γ S = .ok ds S1) (hi : itD ik ds S1 = some xs) (h : loopF (fun γ S => exs cal ss γ S) tg xs γ S1 = o) : ex cal (.for tg ik es ss) γ S = o := by
  show Fl.of (evs cal es γ S) (fun ds S => match itD ik ds S with | some xs => loopF (fun γ S => exs cal ss γ S) tg xs γ S | none => .bad) = _
  rw [hs]; dsimp only [Fl.of]; rw [hi]; exact h
/-! ### comprehensions -/
theorem loopC_map {turn : Gm → Sto → Out (Option D)} {tg : Tg} (f : D → D) : ∀ {xs acc : List D}, (∀ x ∈ xs, ∃ γ', setTg tg x γ = some γ' ∧ turn γ' S = .ok (some (f x)) S) → loopC turn tg γ xs acc S = .ok (acc ++ xs.map f) S
  | [], acc, _ => by simp [loopC]
  | x :: xs, acc, h => by
    obtain ⟨γ', h1, h2⟩ := h x List.mem_cons_self
    unfold loopC
    rw [h1]
    dsimp only
    rw [h2]
    dsimp only
    rw [loopC_map f fun y hy => h y (List.mem_cons_of_mem _ hy)]
    simp
theorem loopC_filter {turn : Gm → Sto → Out (Option D)} {tg : Tg} (p : D → Bool) (f : D → D) : ∀ {xs acc : List D}, (∀ x ∈ xs, ∃ γ', setTg tg x γ = some γ' ∧ turn γ' S = .ok (if p x then some (f x) else none) S) → loopC turn tg γ xs acc S = .ok (acc ++ (xs.filter p).map f) S
  | [], acc, _ => by simp [loopC]
  | x :: xs, acc, h => by
    obtain ⟨γ', h1, h2⟩ := h x List.mem_cons_self
    unfold loopC
    rw [h1]
    dsimp only
    rw [h2]
    cases hp : p x with
    | true =>
      simp only [if_true]
      rw [loopC_filter p f fun y hy => h y (List.mem_cons_of_mem _ hy)]
      simp [hp]
    | false =>
      simp only [Bool.false_eq_true, if_false]
      rw [loopC_filter p f fun y hy => h y (List.mem_cons_of_mem _ hy)]
      simp [hp]
theorem turn_nif (h : ev cal e γ S = .ok d S1) : turnE cal [] e γ S = .ok (some d) S1 := by
  show (match ev cal e γ S with | .ok d S => Out.ok (some d) S | _ => .bad) = _
  rw [h]
theorem turn_if (hc : ev cal c γ S = .ok x S) (ht : truD x S = some k) (h : k = true → ev cal e γ S = .ok d S) : turnE cal [c] e γ S = .ok (if k then some d else none) S := by
  unfold turnE
  have hf : evF cal [c] γ S = .ok k S := by
    show ((ev cal c γ S).bind fun x S => match truD x S with | some true => evF cal [] γ S | some false => Out.ok false S | none => .bad) = _
    rw [hc]; dsimp only [Out.bind]; rw [ht]; cases k <;> rfl
  rw [hf]
  cases k with
  | true => dsimp only; rw [h rfl]; rfl
  | false => rfl
/-- a comprehension that changes the store: P holds of what is made so far and of the store -/
theorem loopC_inv {turn : Gm → Sto → Out (Option D)} {tg : Tg} (P : List D → Sto → Prop) : ∀ {xs acc : List D} {S : Sto}, P acc S → (∀ x ∈ xs, ∀ acc S, P acc S → ∃ γ' d S', setTg tg x γ = some γ' ∧ turn γ' S = .ok (some d) S' ∧ P (acc ++ [d]) S') → ∃ ys S', loopC turn tg γ xs acc S = .ok (acc ++ ys) S' ∧ P (acc ++ ys) S' ∧ ys.length = xs.length
  | [], acc, S, h0, _ => ⟨[], S, by simp [loopC], by simpa using h0, rfl⟩
  | x :: xs, acc, S, h0, h => by
    obtain ⟨γ', d, S', h1, h2, h3⟩ := h x List.mem_cons_self acc S h0
    obtain ⟨ys, S2, k1, k2, k3⟩ := loopC_inv P h3 fun y hy => h y (List.mem_cons_of_mem _ hy)
    refine ⟨d :: ys, S2, ?_, by simpa using k2, by simp [k3]⟩
    unfold loopC
    rw [h1]
    dsimp only
    rw [h2]
    dsimp only
    rw [k1]
    simp
/-- a for loop that goes through -/
theorem loopF_inv {body : Gm → Sto → Fl} {tg : Tg} (P : Nat → Gm → Sto → Prop) : ∀ {xs : List D} {i : Nat} {γ : Gm} {S : Sto}, P i γ S → (∀ j x γ S, xs[j]? = some x → P (i + j) γ S → ∃ γ' γ2 S', setTg tg x γ = some γ' ∧ body γ' S = .nx γ2 S' ∧ P (i + j + 1) γ2 S') → ∃ γ2 S', loopF body tg xs γ S = .nx γ2 S' ∧ P (i + xs.length) γ2 S'
  | [], i, γ, S, h0, _ => ⟨γ, S, rfl, h0⟩
  | x :: xs, i, γ, S, h0, h => by
    obtain ⟨γ', γ2, S', h1, h2, h3⟩ := h 0 x γ S rfl h0
    obtain ⟨γ3, S3, k1, k2⟩ := loopF_inv (i := i + 1) P h3 (fun j y γ S hj hP => by
      have := h (j + 1) y γ S (by simpa using hj) (by rw [show i + (j + 1) = i + 1 + j by omega]; exact hP)
      rw [show i + (j + 1) + 1 = i + 1 + j + 1 by omega] at this
      exact this)
    refine ⟨γ3, S3, ?_, by rw [List.length_cons, show i + (xs.length + 1) = i + 1 + xs.length by omega]; exact k2⟩
    unfold loopF
    rw [h1]
    dsimp only
    rw [h2]
    exact k1
end
end Itp
namespace Itp
open PySem L2
/-! ### what must hold ahead -/
def WP {β : Type} (o : Out β) (Q : β → Sto → Prop) : Prop := match o with
  | .ok b S => Q b S
  | _ => False
def WF (o : Fl) (N : Gm → Sto → Prop) (R : D → Sto → Prop) : Prop := match o with
  | .nx γ S => N γ S
  | .ret d S => R d S
  | _ => False
theorem WP.ex {β : Type} {o : Out β} {Q : β → Sto → Prop} (h : WP o Q) : ∃ b S, o = .ok b S ∧ Q b S := by
  cases o with
  | ok b S => exact ⟨b, S, rfl, h⟩
  | exc => exact h.elim
  | bad => exact h.elim
theorem WP.imp {β : Type} {o : Out β} {Q R : β → Sto → Prop} (h : WP o Q) (k : ∀ b S, Q b S → R b S) : WP o R := by
  cases o with
  | ok b S => exact k b S h
  | exc => exact h.elim
  | bad => exact h.elim
theorem WP.bind {β δ : Type} {o : Out β} {k : β → Sto → Out δ} {Q : δ → Sto → Prop} (h : WP o fun b S => WP (k b S) Q) : WP (o.bind k) Q := by
  cases o with
  | ok b S => exact h
  | exc => exact h.elim
  | bad => exact h.elim
theorem WF.of {β : Type} {o : Out β} {k : β → Sto → Fl} {N : Gm → Sto → Prop} {R : D → Sto → Prop} (h : WP o fun b S => WF (k b S) N R) : WF (Fl.of o k) N R := by
  cases o with
  | ok b S => exact h
  | exc => exact h.elim
  | bad => exact h.elim
theorem WF.imp {o : Fl} {N N' : Gm → Sto → Prop} {R R' : D → Sto → Prop} (h : WF o N R) (k : ∀ γ S, N γ S → N' γ S) (k2 : ∀ d S, R d S → R' d S) : WF o N' R' := by
  cases o with
  | nx γ S => exact k γ S h
  | ret d S => exact k2 d S h
  | exc => exact h.elim
  | bad => exact h.elim
section
variable {cal : Nat → List D → Sto → Out D} {γ γ1 : Gm} {S : Sto} {a b c e : E} {d : D} {es : List E} {Q : D → Sto → Prop} {Qs : List D → Sto → Prop}
theorem wp_var {i : Nat} (h : γ[i]? = some (some d)) (q : Q d S) : WP (ev cal (.var i) γ S) Q := by
  rw [ev_var h]; exact q
theorem wp_non (q : Q .non S) : WP (ev cal .non γ S) Q := q
theorem wp_bl {k : Bool} (q : Q (.bl k) S) : WP (ev cal (.bl k) γ S) Q := q
theorem wp_int {k : Int} (q : Q (.int k) S) : WP (ev cal (.int k) γ S) Q := q
theorem wp_str {k : Str} (q : Q (.str k) S) : WP (ev cal (.str k) γ S) Q := q
theorem wp_gint {n : Str} {k : Int} (q : Q (.int k) S) : WP (ev cal (.gint n k) γ S) Q := q
theorem wp_gstr {n k : Str} (q : Q (.str k) S) : WP (ev cal (.gstr n k) γ S) Q := q
theorem wp_bin {o : BO} (h : WP (ev cal a γ S) fun x S => WP (ev cal b γ S) fun y S => ∃ z, binD o x y S = some z ∧ Q z S) : WP (ev cal (.bin o a b) γ S) Q := by
  obtain ⟨x, S1, h1, h2⟩ := h.ex
  obtain ⟨y, S2, h3, z, h4, h5⟩ := h2.ex
  rw [ev_bin h1 h3 h4]; exact h5
theorem wp_neg (h : WP (ev cal a γ S) fun x S => ∃ i, x = .int i ∧ Q (.int (-i)) S) : WP (ev cal (.neg a) γ S) Q := by
  obtain ⟨x, S1, h1, i, rfl, h2⟩ := h.ex
  rw [ev_neg h1]; exact h2
theorem wp_not (h : WP (ev cal a γ S) fun x S => ∃ k, truD x S = some k ∧ Q (.bl !k) S) : WP (ev cal (.not a) γ S) Q := by
  obtain ⟨x, S1, h1, k, h2, h3⟩ := h.ex
  rw [ev_not h1 h2]; exact h3
theorem wp_cmp {o : CO} (h : WP (ev cal a γ S) fun x S => WP (ev cal b γ S) fun y S => ∃ z, cmpD o x y S = some z ∧ Q (.bl z) S) : WP (ev cal (.cmp o a b) γ S) Q := by
  obtain ⟨x, S1, h1, h2⟩ := h.ex
  obtain ⟨y, S2, h3, z, h4, h5⟩ := h2.ex
  rw [ev_cmp h1 h3 h4]; exact h5
/-- a chain whose last part leaves the store -/
theorem wp_chn {o p : CO} (h : WP (ev cal a γ S) fun x S => WP (ev cal b γ S) fun y S => ∃ k, cmpD o x y S = some k ∧ ∃ z k2, ev cal c γ S = .ok z S ∧ cmpD p y z S = some k2 ∧ Q (.bl (k && k2)) S) : WP (ev cal (.chn o p a b c) γ S) Q := by
  obtain ⟨x, S1, h1, h2⟩ := h.ex
  obtain ⟨y, S2, h3, k, h4, z, k2, h5, h6, h7⟩ := h2.ex
  rw [ev_chn h1 h3 h4 h5 h6]; exact h7
theorem wp_ite (h : WP (ev cal c γ S) fun x S => ∃ k, truD x S = some k ∧ (k = true → WP (ev cal a γ S) Q) ∧ (k = false → WP (ev cal b γ S) Q)) : WP (ev cal (.ite c a b) γ S) Q := by
  obtain ⟨x, S1, h1, k, h2, h3, h4⟩ := h.ex
  cases k with
  | true =>
    obtain ⟨d, S2, h5, h6⟩ := (h3 rfl).ex
    rw [ev_ite_t h1 h2 h5]; exact h6
  | false =>
    obtain ⟨d, S2, h5, h6⟩ := (h4 rfl).ex
    rw [ev_ite_f h1 h2 h5]; exact h6
theorem wp_tup (h : WP (evs cal es γ S) fun ds S => Q (.tup ds) S) : WP (ev cal (.tup es) γ S) Q := by
  obtain ⟨ds, S1, h1, h2⟩ := h.ex
  rw [ev_tup h1]; exact h2
theorem wp_lst (h : WP (evs cal es γ S) fun ds S => Q (.lst ds) S) : WP (ev cal (.lst false es) γ S) Q := by
  obtain ⟨ds, S1, h1, h2⟩ := h.ex
  rw [ev_lst h1]; exact h2
theorem wp_new (h : WP (evs cal es γ S) fun ds S => Q (.loc S.length) (S ++ [.lst ds])) : WP (ev cal (.lst true es) γ S) Q := by
  obtain ⟨ds, S1, h1, h2⟩ := h.ex
  rw [ev_new h1]; exact h2
theorem wp_spt (h : WP (ev cal e γ S) fun x S => ∃ ds, x = .lst ds ∧ ds.length ≤ 16777216 ∧ Q (.tup ds) S) : WP (ev cal (.spt e) γ S) Q := by
  obtain ⟨x, S1, h1, ds, rfl, h2, h3⟩ := h.ex
  rw [ev_spt h1 h2]; exact h3
theorem wp_idx (h : WP (ev cal a γ S) fun x S => WP (ev cal b γ S) fun y S => ∃ z, idxD x y S = some z ∧ Q z S) : WP (ev cal (.idx a b) γ S) Q := by
  obtain ⟨x, S1, h1, h2⟩ := h.ex
  obtain ⟨y, S2, h3, z, h4, h5⟩ := h2.ex
  rw [ev_idx h1 h3 h4]; exact h5
theorem wpO_none {Q : Option Int → Sto → Prop} (q : Q none S) : WP (evO cal none γ S) Q := q
theorem wpO_some {Q : Option Int → Sto → Prop} (h : WP (ev cal e γ S) fun x S => ∃ i, x = .int i ∧ Q (some i) S) : WP (evO cal (some e) γ S) Q := by
  obtain ⟨x, S1, h1, i, rfl, h2⟩ := h.ex
  rw [evO_some h1]; exact h2
theorem wp_slc {lo hi : Option E} (h : WP (ev cal a γ S) fun x S => WP (evO cal lo γ S) fun l S => WP (evO cal hi γ S) fun r S => ∃ z, slcD x l r S = some z ∧ Q z S) : WP (ev cal (.slc a lo hi) γ S) Q := by
  obtain ⟨x, S1, h1, h2⟩ := h.ex
  obtain ⟨l, S2, h3, h4⟩ := h2.ex
  obtain ⟨r, S3, h5, z, h6, h7⟩ := h4.ex
  rw [ev_slc h1 h3 h5 h6]; exact h7
theorem wp_isi {t : Ty} (h : WP (ev cal a γ S) fun x S => ∃ k, isD x t S = some k ∧ Q (.bl k) S) : WP (ev cal (.isi a t) γ S) Q := by
  obtain ⟨x, S1, h1, k, h2, h3⟩ := h.ex
  rw [ev_isi h1 h2]; exact h3
theorem wp_isT {t : List Ty} (h : WP (ev cal a γ S) fun x S => ∃ k, isAny x t S = some k ∧ Q (.bl k) S) : WP (ev cal (.isT a t) γ S) Q := by
  obtain ⟨x, S1, h1, k, h2, h3⟩ := h.ex
  rw [ev_isT h1 h2]; exact h3
theorem wp_bf {f : BF} (h : WP (evs cal es γ S) fun ds S => ∃ z, bfD f ds S = some z ∧ Q z S) : WP (ev cal (.bf f es) γ S) Q := by
  obtain ⟨x, S1, h1, k, h2, h3⟩ := h.ex
  rw [ev_bf h1 h2]; exact h3
theorem wp_bm {m : BM} (h : WP (ev cal a γ S) fun x S => bmOk m x S = true ∧ WP (evs cal es γ S) fun ds S => WP (bmD m x ds S) Q) : WP (ev cal (.bm m a es) γ S) Q := by
  obtain ⟨x, S1, h1, h2, h3⟩ := h.ex
  obtain ⟨ds, S2, h4, h5⟩ := h3.ex
  obtain ⟨z, S3, h6, h7⟩ := h5.ex
  rw [ev_bm h1 h2 h4 h6]; exact h7
theorem wp_call {f : Nat} (h : WP (evs cal es γ S) fun ds S => WP (cal f ds S) Q) : WP (ev cal (.call f es) γ S) Q := by
  obtain ⟨ds, S2, h4, h5⟩ := h.ex
  obtain ⟨z, S3, h6, h7⟩ := h5.ex
  rw [ev_call h4 h6]; exact h7
theorem wp_callP {f : Nat} {ks : List E} {pi : List Nat} (h : WP (evs cal es γ S) fun ds S => WP (evs cal ks γ S) fun kd S => ∃ fs, pick (ds ++ kd) pi = some fs ∧ WP (cal f fs S) Q) : WP (ev cal (.callP f es ks pi) γ S) Q := by
  obtain ⟨ds, S2, h4, h5⟩ := h.ex
  obtain ⟨kd, S3, h6, fs, h7, h8⟩ := h5.ex
  obtain ⟨z, S4, h9, h10⟩ := h8.ex
  rw [ev_callP h4 h6 h7 h9]; exact h10
theorem wps_nil (q : Qs [] S) : WP (evs cal [] γ S) Qs := q
theorem wps_cons (h : WP (ev cal e γ S) fun d S => WP (evs cal es γ S) fun ds S => Qs (d :: ds) S) : WP (evs cal (e :: es) γ S) Qs := by
  obtain ⟨ds, S2, h4, h5⟩ := h.ex
  obtain ⟨z, S3, h6, h7⟩ := h5.ex
  rw [evs_cons h4 h6]; exact h7
theorem wp_frz (h : WP (ev cal e γ S) fun x S => ∃ n, x = .loc n ∧ ∃ xs, S[n]? = some (.lst xs) ∧ Q (.lst xs) (S.set n .dead)) : WP (ev cal (.frz e) γ S) Q := by
  obtain ⟨x, S1, h1, n, rfl, xs, h2, h3⟩ := h.ex
  rw [ev_frz_l h1 h2]; exact h3
theorem wp_lc {tg : Tg} {own : List Nat} {ik : IK} {its ifs : List E} (h : WP (evs cal its γ S) fun ds S => ∃ xs, itD ik ds S = some xs ∧ xs.length ≤ 16777216 ∧ WP (loopC (turnE cal ifs e) tg (wipeG γ own) xs [] S) fun ys S => Q (.lst ys) S) : WP (ev cal (.lc tg own ik its ifs e) γ S) Q := by
  obtain ⟨ds, S2, h4, xs, h5, h6, h7⟩ := h.ex
  obtain ⟨ys, S3, h8, h9⟩ := h7.ex
  rw [ev_lc h4 h5 h6 h8]; exact h9
theorem wpB_one {o : Bool} (h : WP (ev cal e γ S) Q) : WP (evB cal o [e] γ S) Q := h
theorem wpB_cons {o : Bool} {e2 : E} (h : WP (ev cal e γ S) fun x S => ∃ k, truD x S = some k ∧ (k = o → WP (evB cal o (e2 :: es) γ S) Q) ∧ (k = !o → Q x S)) : WP (evB cal o (e :: e2 :: es) γ S) Q := by
  obtain ⟨x, S1, h1, k, h2, h3, h4⟩ := h.ex
  by_cases hk : k = o
  · subst hk
    obtain ⟨z, S2, h5, h6⟩ := (h3 rfl).ex
    rw [evB_go h1 h2 h5]; exact h6
  · have hk : k = !o := by revert hk; cases k <;> cases o <;> decide
    subst hk
    rw [evB_stop h1 h2]; exact h4 rfl
theorem wpB_a {e2 : E} (h : WP (ev cal e γ S) fun x S => ∃ k, truD x S = some k ∧ (k = true → WP (evB cal true (e2 :: es) γ S) Q) ∧ (k = false → Q x S)) : WP (evB cal true (e :: e2 :: es) γ S) Q := wpB_cons h
theorem wpB_o {e2 : E} (h : WP (ev cal e γ S) fun x S => ∃ k, truD x S = some k ∧ (k = true → Q x S) ∧ (k = false → WP (evB cal false (e2 :: es) γ S) Q)) : WP (evB cal false (e :: e2 :: es) γ S) Q := wpB_cons (h.imp fun _ _ ⟨k, a, b, c⟩ => ⟨k, a, c, b⟩)
theorem two_t {k : Bool} {A B : Prop} (hk : k = true) (h : A) : (k = true → A) ∧ (k = false → B) := by subst hk; exact ⟨(fun _ => h), (fun h => nomatch h)⟩
theorem two_f {k : Bool} {A B : Prop} (hk : k = false) (h : B) : (k = true → A) ∧ (k = false → B) := by subst hk; exact ⟨(fun h => nomatch h), (fun _ => h)⟩
theorem wp_bop {o : Bool} (h : WP (evB cal o es γ S) Q) : WP (ev cal (.bop o es) γ S) Q := h
/-! statements -/
variable {st : St} {ss A B : List St} {N : Gm → Sto → Prop} {R : D → Sto → Prop}
theorem wfs_nil (h : N γ S) : WF (exs cal [] γ S) N R := h
theorem wfs_cons (h : WF (ex cal st γ S) (fun γ S => WF (exs cal ss γ S) N R) R) : WF (exs cal (st :: ss) γ S) N R := by
  show WF (match ex cal st γ S with | .nx γ' S' => exs cal ss γ' S' | o => o) N R
  cases ho : ex cal st γ S with
  | nx γ' S' => rw [ho] at h; exact h
  | ret d S' => rw [ho] at h; exact h
  | exc => rw [ho] at h; exact h.elim
  | bad => rw [ho] at h; exact h.elim
theorem wfs_cut (I : Gm → Sto → Prop) (h : WF (ex cal st γ S) I R) (h2 : ∀ γ S, I γ S → WF (exs cal ss γ S) N R) : WF (exs cal (st :: ss) γ S) N R := wfs_cons (h.imp h2 fun _ _ h => h)
theorem wf_set {i : Nat} (h : WP (ev cal e γ S) fun d S => N (γ.set i (some d)) S) : WF (ex cal (.set i e) γ S) N R := WF.of h
theorem wf_asg {tg : Tg} (h : WP (ev cal e γ S) fun d S => ∃ γ1, setTg tg d γ = some γ1 ∧ N γ1 S) : WF (ex cal (.asg tg e) γ S) N R := by
  obtain ⟨d, S1, h1, γ1, h2, h3⟩ := h.ex
  rw [ex_asg h1 h2]; exact h3
theorem wf_par {is : List Nat} (h : WP (evs cal es γ S) fun ds S => is.length = ds.length ∧ N (setAll is ds γ) S) : WF (ex cal (.par is es) γ S) N R := by
  obtain ⟨d, S1, h1, h2, h3⟩ := h.ex
  rw [ex_par h1 h2]; exact h3
theorem wf_idx (h : WP (ev cal e γ S) fun d S => WP (ev cal a γ S) fun x S => WP (ev cal b γ S) fun y S => ∃ n i xs j, x = .loc n ∧ y = .int i ∧ S[n]? = some (.lst xs) ∧ ixN xs.length i = some j ∧ N γ (S.set n (.lst (xs.set j d)))) : WF (ex cal (.idx a b e) γ S) N R := by
  obtain ⟨d, S1, h1, h2⟩ := h.ex
  obtain ⟨x, S2, h3, h4⟩ := h2.ex
  obtain ⟨y, S3, h5, n, i, xs, j, rfl, rfl, h6, h7, h8⟩ := h4.ex
  rw [ex_idx h1 h3 h5 h6 h7]; exact h8
theorem wf_expr (h : WP (ev cal e γ S) fun _ S => N γ S) : WF (ex cal (.expr e) γ S) N R := WF.of h
theorem wf_ret (h : WP (ev cal e γ S) fun d S => R d S) : WF (ex cal (.ret e) γ S) N R := WF.of h
theorem wf_if (h : WP (ev cal c γ S) fun x S => ∃ k, truD x S = some k ∧ (k = true → WF (exs cal A γ S) N R) ∧ (k = false → WF (exs cal B γ S) N R)) : WF (ex cal (.ifs c A B) γ S) N R := by
  obtain ⟨x, S1, h1, k, h2, h3, h4⟩ := h.ex
  rw [ex_if h1 h2]
  cases k with
  | true => exact h3 rfl
  | false => exact h4 rfl
theorem wf_for {tg : Tg} {ik : IK} (h : WP (evs cal es γ S) fun ds S => ∃ xs, itD ik ds S = some xs ∧ WF (loopF (fun γ S => exs cal ss γ S) tg xs γ S) N R) : WF (ex cal (.for tg ik es ss) γ S) N R := by
  obtain ⟨ds, S1, h1, xs, h2, h3⟩ := h.ex
  rw [ex_for h1 h2 rfl]; exact h3
/-- a for loop, by what holds ahead of each turn -/
theorem wf_loop {body : Gm → Sto → Fl} {tg : Tg} (I : Nat → Gm → Sto → Prop) : ∀ {xs : List D} {i : Nat} {γ : Gm} {S : Sto}, I i γ S → (∀ j x γ S, xs[j]? = some x → I (i + j) γ S → ∃ γ', setTg tg x γ = some γ' ∧ WF (body γ' S) (I (i + j + 1)) R) → (∀ γ S, I (i + xs.length) γ S → N γ S) → WF (loopF body tg xs γ S) N R
  | [], i, γ, S, h0, _, h => h γ S h0
  | x :: xs, i, γ, S, h0, h, hN => by
    obtain ⟨γ', h1, h2⟩ := h 0 x γ S rfl h0
    unfold loopF
    rw [h1]
    dsimp only
    cases ho : body γ' S with
    | nx γ2 S2 =>
      rw [ho] at h2
      refine wf_loop (i := i + 1) I h2 (fun j y γ S hj hP => ?_) (fun γ S hI => hN γ S ?_)
      · have := h (j + 1) y γ S (by simpa using hj) (by rw [show i + (j + 1) = i + 1 + j by omega]; exact hP)
        rw [show i + (j + 1) + 1 = i + 1 + j + 1 by omega] at this
        exact this
      · rw [List.length_cons, show i + (xs.length + 1) = i + 1 + xs.length by omega]; exact hI
    | ret d S' => rw [ho] at h2; exact h2
    | exc => rw [ho] at h2; exact h2.elim
    | bad => rw [ho] at h2; exact h2.elim
/-! calls -/
theorem wp_fn {P : List Fn} {n f : Nat} {fn : Fn} {ds : List D} (h : P[f]? = some fn) (hl : ds.length = fn.np) (w : WF (exs (callN P n) fn.body (ds.map some ++ List.replicate (fn.nv - fn.np) none) S) (fun _ S' => Q .non (trim S.length .non S')) (fun d S' => Q d (trim S.length d S'))) : WP (callN P (n + 1) f ds S) Q := by
  rw [callN_eq h hl]
  revert w
  cases exs (callN P n) fn.body (ds.map some ++ List.replicate (fn.nv - fn.np) none) S with
  | nx γ' S' => exact fun w => w
  | ret d S' => exact fun w => w
  | exc => exact fun w => w
  | bad => exact fun w => w
theorem trim_len (d : D) {S' : Sto} {n : Nat} (h : S'.length = n) : trim n d S' = S' := by subst h; exact trim_self d S'
end
end Itp
namespace Itp
open PySem L2
local macro_rules | `(tactic| walk_at "w1") => `(tactic| first
  | ((with_reducible show WP (ev _ (E.var _) _ _) _); refine wp_var rfl ?_)
  | with_reducible refine wfs_cons ?_
  | with_reducible refine wfs_nil ?_
  | with_reducible refine wf_set ?_
  | with_reducible refine wf_asg ?_
  | with_reducible refine wf_par ?_
  | with_reducible refine wf_idx ?_
  | with_reducible refine wf_expr ?_
  | with_reducible refine wf_ret ?_
  | with_reducible refine wf_if ?_
  | with_reducible refine wf_for ?_
  | with_reducible refine wp_int ?_
  | with_reducible refine wp_str ?_
  | with_reducible refine wp_gint ?_
  | with_reducible refine wp_gstr ?_
  | with_reducible refine wp_non ?_
  | with_reducible refine wp_bl ?_
  | with_reducible refine wp_bin ?_
  | with_reducible refine wp_neg ?_
  | with_reducible refine wp_not ?_
  | with_reducible refine wp_cmp ?_
  | with_reducible refine wp_chn ?_
  | with_reducible refine wp_ite ?_
  | with_reducible refine wp_tup ?_
  | with_reducible refine wp_lst ?_
  | with_reducible refine wp_new ?_
  | with_reducible refine wp_spt ?_
  | with_reducible refine wp_idx ?_
  | with_reducible refine wp_slc ?_
  | with_reducible refine wp_isi ?_
  | with_reducible refine wp_isT ?_
  | with_reducible refine wp_bf ?_
  | with_reducible refine wp_bm ?_
  | with_reducible refine wp_call ?_
  | with_reducible refine wp_callP ?_
  | with_reducible refine wp_frz ?_
  | with_reducible refine wp_lc ?_
  | with_reducible refine wp_bop ?_
  | with_reducible refine wpB_cons ?_
  | with_reducible refine wpB_one ?_
  | with_reducible refine wpO_none ?_
  | with_reducible refine wpO_some ?_
  | with_reducible refine wps_cons ?_
  | with_reducible refine wps_nil ?_
  | ((with_reducible show ∃ z, _ = some z ∧ _); refine ⟨_, rfl, ?_⟩))
local macro_rules | `(tactic| walk_at "w") => `(tactic| repeat walk_at "w1")
def drawIR : List Itp.St := [
    .ifs (.bop true [.cmp .eq (.idx (.var 0) (.int 2)) (.int 0), .cmp .lt (.idx (.var 0) (.int 1)) (.bf .len [.idx (.var 0) (.int 0)])]) [.set 2 (.idx (.idx (.var 0) (.int 0)) (.idx (.var 0) (.int 1))), .idx (.var 0) (.int 1) (.bin .add (.idx (.var 0) (.int 1)) (.int 1)), .ifs (.cmp .ge (.var 2) (.bin .pow (.int 10) (.int 18))) [.idx (.var 0) (.int 2) (.var 2)] [.idx (.var 0) (.int 3) (.bin .mod (.bf .int [.bin .add (.bin .add (.bin .mul (.idx (.var 0) (.int 3)) (.int 38867)) (.bin .mul (.bin .mod (.bf .int [.var 2]) (.int 2147483563)) (.int 5407))) (.int 83)]) (.int 2147483549))]] [],
    .ifs (.cmp .gt (.idx (.var 0) (.int 2)) (.int 0)) [.set 3 (.bin .mod (.bf .int [.idx (.var 0) (.int 2)]) (.var 1)), .idx (.var 0) (.int 2) (.bin .fdiv (.idx (.var 0) (.int 2)) (.var 1)), .ret (.var 3)] [],
    .idx (.var 0) (.int 4) (.bin .add (.idx (.var 0) (.int 4)) (.int 1)),
    .set 4 (.idx (.var 0) (.int 3)),
    .idx (.var 0) (.int 3) (.bin .mod (.bf .int [.bin .add (.bin .add (.bin .add (.bin .mul (.var 4) (.var 4)) (.bin .mul (.var 4) (.int 30197))) (.bin .mul (.idx (.var 0) (.int 4)) (.int 1000777))) (.int 70843)]) (.int 2147483549)),
    .ret (.bin .mod (.bf .int [.bin .add (.bin .fdiv (.idx (.var 0) (.int 3)) (.int 67)) (.bin .mul (.bin .mod (.bf .int [.idx (.var 0) (.int 3)]) (.int 8123)) (.int 41))]) (.var 1))]
structure Sr where
  cells : List Int
  pos : Int
  big : Int
  seed : Int
  cnt : Int
def Sr.so (s : Sr) : SO := .lst [.lst (s.cells.map .int), .int s.pos, .int s.big, .int s.seed, .int s.cnt]
structure Sr.ok (s : Sr) : Prop where
  pos : 0 ≤ s.pos
  big : 0 ≤ s.big
  seed : 0 ≤ s.seed
  most : s.seed < 2147483549
theorem bd_mul {i j : Int} {S : Sto} (h : (c64 i || c64 j) = true) : binD .mul (.int i) (.int j) S = some (.int (i * j)) := if_pos h
theorem bd_mod {i j : Int} {S : Sto} (h : 0 < j) : binD .mod (.int i) (.int j) S = some (.int (i % j)) := if_pos h
theorem bd_fdiv {i j : Int} {S : Sto} (h : 0 < j ∧ j < 1073741824) : binD .fdiv (.int i) (.int j) S = some (.int (i / j)) := if_pos h
theorem c64_of {i : Int} (h : 0 ≤ i) (h2 : i < 2147483549) : c64 i = true := by
  unfold c64; simp; omega
theorem atI_map {xs : List Int} {i : Int} (h : 0 ≤ i) (h2 : i < xs.length) : ∃ k, atI (xs.map D.int) i = some (.int k) := by
  obtain ⟨j, rfl⟩ := Int.eq_ofNat_of_zero_le h
  have hj : j < xs.length := by omega
  refine ⟨xs[j], ?_⟩
  unfold atI
  rw [show ixN (xs.map D.int).length (j : Int) = some j from by
    unfold ixN
    rw [List.length_map]
    rw [if_pos (by omega), if_pos (by omega)]
    rfl]
  simp [hj]
theorem eqv_int (i j : Int) : PyData.eqv (.int i) (.int j) = decide (i = j) := by
  by_cases h : i = j
  · subst h
    simp [PyData.eqv]
  · simp [PyData.eqv, h]
theorem draw_spec {P : List Fn} {n f : Nat} (hP : P[f]? = some ⟨2, 5, drawIR⟩) {s : Sr} {R : Sto} {m : Int} (hs : s.ok) (hm : 0 < m) (hm2 : m < 1073741824) {Q : D → Sto → Prop} (q : ∀ (k : Int) (s' : Sr), 0 ≤ k → k < m → s'.ok → Q (.int k) (s'.so :: R)) : WP (callN P (n + 1) f [.loc 0, .int m] (s.so :: R)) Q := by
  obtain ⟨cells, pos, big, seed, cnt⟩ := s
  have hs1 : 0 ≤ pos := hs.pos
  have hs2 : 0 ≤ big := hs.big
  have hs3 : 0 ≤ seed := hs.seed
  have hs4 : seed < 2147483549 := hs.most
  refine wp_fn hP rfl ?_
  dsimp only [List.map, Nat.sub, List.replicate, List.append, drawIR]
  refine wfs_cut (fun γ S => ∃ x, γ = [some (.loc 0), some (.int m), x, none, none] ∧ ∃ s' : Sr, s'.ok ∧ S = s'.so :: R) ?_ ?_
  · walk_at "w"
    constructor
    · intro h0
      rw [show PyData.eqv (PyData.int big) (PyData.int 0) = decide (big = 0) from eqv_int _ _, decide_eq_true_eq] at h0
      walk_at "w"
      constructor
      · intro h1
        replace h1 : pos < ((cells.map D.int).length : Int) := of_decide_eq_true h1
        rw [List.length_map] at h1
        obtain ⟨k, hk⟩ := atI_map hs1 h1
        walk_at "w"
        refine ⟨_, hk, ?_⟩
        walk_at "w"
        refine ⟨_, _, _, 1, rfl, rfl, rfl, rfl, ?_⟩
        walk_at "w"
        constructor
        · intro h2
          replace h2 : (10 : Int) ^ 18 ≤ k := of_decide_eq_true h2
          walk_at "w"
          refine ⟨_, _, _, 2, rfl, rfl, rfl, rfl, ?_⟩
          walk_at "w"
          exact ⟨_, rfl, ⟨cells, pos + 1, k, seed, cnt⟩, ⟨by show (0 : Int) ≤ pos + 1; omega, by show 0 ≤ k; omega, hs3, hs4⟩, rfl⟩
        · intro h2
          walk_at "w"
          refine ⟨_, bd_mul (by rw [c64_of hs3 hs4]; rfl), ?_⟩
          walk_at "w"
          refine ⟨_, bd_mul (by rw [Bool.or_eq_true]; exact Or.inr rfl), ?_⟩
          walk_at "w"
          refine ⟨_, _, _, 3, rfl, rfl, rfl, rfl, ?_⟩
          walk_at "w"
          exact ⟨_, rfl, ⟨cells, pos + 1, big, _, cnt⟩, ⟨by show (0 : Int) ≤ pos + 1; omega, hs2, Int.emod_nonneg _ (by decide), Int.emod_lt_of_pos _ (by decide)⟩, rfl⟩
      · intro _
        walk_at "w"
        exact ⟨_, rfl, _, hs, rfl⟩
    · intro h0
      rw [h0]
      refine ⟨_, rfl, ?_, ?_⟩
      · intro h; cases h
      · intro _
        walk_at "w"
        exact ⟨_, rfl, _, hs, rfl⟩
  · rintro γ S ⟨x, rfl, ⟨cells, pos, big, seed, cnt⟩, hs, rfl⟩
    have hs1 : 0 ≤ pos := hs.pos
    have hs2 : 0 ≤ big := hs.big
    have hs3 : 0 ≤ seed := hs.seed
    have hs4 : seed < 2147483549 := hs.most
    walk_at "w"
    constructor
    · intro h
      replace h : 0 < big := of_decide_eq_true h
      walk_at "w"
      refine ⟨_, bd_mod hm, ?_⟩
      walk_at "w"
      refine ⟨_, bd_fdiv ⟨hm, hm2⟩, ?_⟩
      walk_at "w"
      refine ⟨_, _, _, 2, rfl, rfl, rfl, rfl, ?_⟩
      walk_at "w"
      refine (congrArg (Q _) (trim_len _ (by rfl))).mpr ?_
      exact q _ ⟨cells, pos, _, seed, cnt⟩ (Int.emod_nonneg _ (by omega)) (Int.emod_lt_of_pos _ hm) ⟨hs1, Int.ediv_nonneg hs2 (by omega), hs3, hs4⟩
    · intro h
      walk_at "w"
      refine ⟨_, _, _, 4, rfl, rfl, rfl, rfl, ?_⟩
      walk_at "w"
      refine ⟨_, bd_mul (by rw [c64_of hs3 hs4]; rfl), ?_⟩
      walk_at "w"
      refine ⟨_, bd_mul (by rw [c64_of hs3 hs4]; rfl), ?_⟩
      walk_at "w"
      refine ⟨_, bd_mul (by rw [Bool.or_eq_true]; exact Or.inr rfl), ?_⟩
      walk_at "w"
      refine ⟨_, _, _, 3, rfl, rfl, rfl, rfl, ?_⟩
      walk_at "w"
      refine ⟨_, bd_mul (by rw [Bool.or_eq_true]; exact Or.inr rfl), ?_⟩
      walk_at "w"
      refine ⟨_, bd_mod hm, ?_⟩
      walk_at "w"
      refine (congrArg (Q _) (trim_len _ (by rfl))).mpr ?_
      exact q _ ⟨cells, pos, _, _, cnt + 1⟩ (Int.emod_nonneg _ (by omega)) (Int.emod_lt_of_pos _ hm) ⟨hs1, hs2, Int.emod_nonneg _ (by decide), Int.emod_lt_of_pos _ (by decide)⟩
end Itp
namespace Itp
open PySem L2
local macro_rules | `(tactic| walk_at "w1") => `(tactic| first
  | ((with_reducible show WP (ev _ _ _ _) _); first
    | ((with_reducible show WP (ev _ (E.var _) _ _) _); refine wp_var rfl ?_)
    | with_reducible refine wp_int ?_
    | with_reducible refine wp_str ?_
    | with_reducible refine wp_bl ?_
    | with_reducible refine wp_non ?_
    | with_reducible refine wp_idx ?_
    | with_reducible refine wp_bin ?_
    | with_reducible refine wp_call ?_
    | with_reducible refine wp_lst ?_
    | with_reducible refine wp_cmp ?_
    | with_reducible refine wp_tup ?_
    | with_reducible refine wp_slc ?_
    | with_reducible refine wp_bf ?_
    | with_reducible refine wp_not ?_
    | with_reducible refine wp_isi ?_
    | with_reducible refine wp_bop ?_
    | with_reducible refine wp_lc ?_
    | with_reducible refine wp_bm ?_
    | with_reducible refine wp_gint ?_
    | with_reducible refine wp_gstr ?_
    | with_reducible refine wp_neg ?_
    | with_reducible refine wp_chn ?_
    | with_reducible refine wp_ite ?_
    | with_reducible refine wp_new ?_
    | with_reducible refine wp_spt ?_
    | with_reducible refine wp_isT ?_
    | with_reducible refine wp_callP ?_
    | with_reducible refine wp_frz ?_)
  | ((with_reducible show WP (evs _ _ _ _) _); first
    | with_reducible refine wps_cons ?_
    | with_reducible refine wps_nil ?_)
  | ((with_reducible show WF (exs _ _ _ _) _ _); first
    | with_reducible refine wfs_cons ?_
    | with_reducible refine wfs_nil ?_)
  | ((with_reducible show WF (ex _ _ _ _) _ _); first
    | with_reducible refine wf_set ?_
    | with_reducible refine wf_asg ?_
    | with_reducible refine wf_par ?_
    | with_reducible refine wf_idx ?_
    | with_reducible refine wf_expr ?_
    | with_reducible refine wf_ret ?_
    | with_reducible refine wf_if ?_
    | with_reducible refine wf_for ?_)
  | ((with_reducible show WP (evB _ _ _ _ _) _); first
    | with_reducible refine wpB_a ?_
    | with_reducible refine wpB_o ?_
    | with_reducible refine wpB_one ?_)
  | ((with_reducible show WP (evO _ _ _ _) _); first
    | with_reducible refine wpO_none ?_
    | with_reducible refine wpO_some ?_)
  | ((with_reducible show Exists _); first
    | ((with_reducible show ∃ z, truD _ _ = some z ∧ _); refine ⟨_, rfl, ?_⟩)
    | ((with_reducible show ∃ z, cmpD _ _ _ _ = some z ∧ _); refine ⟨_, rfl, ?_⟩)
    | ((with_reducible show ∃ z, idxD _ _ _ = some z ∧ _); refine ⟨_, rfl, ?_⟩)
    | ((with_reducible show ∃ z, slcD _ _ _ _ = some z ∧ _); refine ⟨_, rfl, ?_⟩)
    | ((with_reducible show ∃ z, isD _ _ _ = some z ∧ _); refine ⟨_, rfl, ?_⟩)
    | ((with_reducible show ∃ z, isAny _ _ _ = some z ∧ _); refine ⟨_, rfl, ?_⟩)
    | ((with_reducible show ∃ z, bfD _ _ _ = some z ∧ _); refine ⟨_, rfl, ?_⟩)
    | ((with_reducible show ∃ z, itD _ _ _ = some z ∧ _); refine ⟨_, rfl, ?_⟩)
    | ((with_reducible show ∃ z, pick _ _ = some z ∧ _); refine ⟨_, rfl, ?_⟩)
    | ((with_reducible show ∃ z, setTg _ _ _ = some z ∧ _); refine ⟨_, rfl, ?_⟩)
    | ((with_reducible show ∃ z, binD BO.add (D.int _) (D.int _) _ = some z ∧ _); refine ⟨_, rfl, ?_⟩)
    | ((with_reducible show ∃ z, binD BO.sub _ _ _ = some z ∧ _); refine ⟨_, rfl, ?_⟩)
    | ((with_reducible show ∃ z, binD BO.mul _ _ _ = some z ∧ _); refine ⟨_, rfl, ?_⟩)
    | ((with_reducible show ∃ z, binD BO.mod _ _ _ = some z ∧ _); refine ⟨_, rfl, ?_⟩)
    | ((with_reducible show ∃ z, binD BO.fdiv _ _ _ = some z ∧ _); refine ⟨_, rfl, ?_⟩)
    | ((with_reducible show ∃ z, binD BO.pow _ _ _ = some z ∧ _); refine ⟨_, rfl, ?_⟩)
    | ((with_reducible show ∃ z, D.int _ = D.int z ∧ _); refine ⟨_, rfl, ?_⟩)
    | ((with_reducible show ∃ z, D.loc _ = D.loc z ∧ _); refine ⟨_, rfl, ?_⟩)
    | ((with_reducible show ∃ z, D.lst _ = D.lst z ∧ _); refine ⟨_, rfl, ?_⟩))
  | ((with_reducible show And _ _); first
    | ((with_reducible refine two_t ?hk ?_); (case hk => exact rfl))
    | ((with_reducible refine two_f ?hk ?_); (case hk => exact rfl))))
local macro_rules | `(tactic| walk_at "w") => `(tactic| repeat walk_at "w1")
/-! ### texts -/
abbrev cs (x : Str) : List Nat := x.cps.toList
theorem cs_app (a b : Str) : cs (a ++ b) = cs a ++ cs b := Array.toList_append
theorem cs_len (a : Str) : a.length = (cs a).length := rfl
theorem cs_cut (a : Str) (lo hi : Option Int) : cs (cutS a lo hi) = cutD (cs a) lo hi := rfl
theorem cutD_sub {β : Type} {xs : List β} {lo hi : Option Int} {x : β} (h : x ∈ cutD xs lo hi) : x ∈ xs := List.mem_of_mem_drop (List.mem_of_mem_take h)
theorem cutD_to {β : Type} (xs : List β) {k : Int} (h : 0 ≤ k) : cutD xs none (some k) = xs.take k.toNat := by
  obtain ⟨j, rfl⟩ := Int.eq_ofNat_of_zero_le h
  unfold cutD
  rw [HT.sIx_none, HT.sIx_nat, List.drop_zero, Nat.sub_zero, Int.toNat_natCast, ← List.take_eq_take_min]
theorem cutD_from {β : Type} (xs : List β) {k : Int} (h : 0 ≤ k) : cutD xs (some k) none = xs.drop k.toNat := by
  obtain ⟨j, rfl⟩ := Int.eq_ofNat_of_zero_le h
  unfold cutD
  rw [HT.sIx_none, HT.sIx_nat, Int.toNat_natCast]
  by_cases hj : j ≤ xs.length
  · rw [Nat.min_eq_left hj]
    exact List.take_of_length_le (by simp)
  · rw [Nat.min_eq_right (by omega)]
    simp
    omega
theorem join0 : ∀ ys : List Str, cs (Str.join "" ys) = ys.flatMap cs
  | [] => rfl
  | [x] => by simp [Str.join]
  | x :: y :: r => by
    have := join0 (y :: r)
    show cs (x ++ ("" : Str) ++ Str.join "" (y :: r)) = _
    rw [cs_app, cs_app, this]
    simp [cs]
    rfl
theorem wp_turn {cal : Nat → List D → Sto → Out D} {e : E} {γ : Gm} {S : Sto} {Q : Option D → Sto → Prop} (h : WP (ev cal e γ S) fun d S => Q (some d) S) : WP (turnE cal [] e γ S) Q := by
  obtain ⟨d, S1, h1, h2⟩ := h.ex
  rw [turn_nif h1]; exact h2
theorem wp_loopC {turn : Gm → Sto → Out (Option D)} {tg : Tg} {γ : Gm} {Q : List D → Sto → Prop} (I : List D → Sto → Prop) : ∀ {xs acc : List D} {S : Sto}, I acc S → (∀ x ∈ xs, ∀ acc S, I acc S → ∃ γ', setTg tg x γ = some γ' ∧ WP (turn γ' S) fun o S' => ∃ d, o = some d ∧ I (acc ++ [d]) S') → (∀ ys S, I (acc ++ ys) S → ys.length = xs.length → Q (acc ++ ys) S) → WP (loopC turn tg γ xs acc S) Q := by
  intro xs acc S h0 h q
  obtain ⟨ys, S', h1, h2, h3⟩ := loopC_inv (turn := turn) (tg := tg) (γ := γ) I (xs := xs) h0 (fun x hx acc S hI => by
    obtain ⟨γ', h1, h2⟩ := h x hx acc S hI
    obtain ⟨o, S', h3, d, rfl, h5⟩ := h2.ex
    exact ⟨γ', d, S', h1, h3, h5⟩)
  rw [h1]
  exact q ys S' h2 h3
theorem wp_loopC_map {turn : Gm → Sto → Out (Option D)} {tg : Tg} {γ : Gm} {S : Sto} {Q : List D → Sto → Prop} (f : D → D) {xs acc : List D} (h : ∀ x ∈ xs, ∃ γ', setTg tg x γ = some γ' ∧ turn γ' S = .ok (some (f x)) S) (q : Q (acc ++ xs.map f) S) : WP (loopC turn tg γ xs acc S) Q := by
  rw [loopC_map f h]; exact q
theorem wp_loopC_filter {turn : Gm → Sto → Out (Option D)} {tg : Tg} {γ : Gm} {S : Sto} {Q : List D → Sto → Prop} (p : D → Bool) (f : D → D) {xs acc : List D} (h : ∀ x ∈ xs, ∃ γ', setTg tg x γ = some γ' ∧ turn γ' S = .ok (if p x then some (f x) else none) S) (q : Q (acc ++ (xs.filter p).map f) S) : WP (loopC turn tg γ xs acc S) Q := by
  rw [loopC_filter p f h]; exact q
theorem wp_eq {β : Type} {o : Out β} {b : β} {S : Sto} {Q : β → Sto → Prop} (h : o = .ok b S) (q : Q b S) : WP o Q := by rw [h]; exact q
theorem bd_cat {a b : Str} {S : Sto} (h : a.length + b.length ≤ 16777216) : binD .add (.str a) (.str b) S = some (.str (a ++ b)) := if_pos h
theorem bd_tup {a b : List D} {S : Sto} (h : a.length + b.length ≤ 16777216) : binD .add (.tup a) (.tup b) S = some (.tup (a ++ b)) := if_pos h
theorem bd_lst {a b : List D} {S : Sto} (h : a.length + b.length ≤ 16777216) : binD .add (.lst a) (.lst b) S = some (.lst (a ++ b)) := if_pos h
theorem bm_app {n : Nat} {xs : List D} {d : D} {S : Sto} (h : S[n]? = some (.lst xs)) (hl : xs.length < 16777216) : bmD .append (.loc n) [d] S = .ok .non (S.set n (.lst (xs ++ [d]))) := by
  show (match S[n]? with | some (.lst xs) => if xs.length < 16777216 then Out.ok D.non (S.set n (.lst (xs ++ [d]))) else .bad | _ => .bad) = _
  rw [h]; exact if_pos hl
theorem idx_hd {v : D} {r : List D} {S : Sto} : idxD (.lst (v :: r)) (.int 0) S = some v := by
  show atI (v :: r) 0 = some v
  unfold atI
  rw [show ixN (v :: r).length 0 = some 0 by
    unfold ixN
    rw [if_pos (by decide), if_pos (by simp)]
    rfl]
  rfl
theorem low_ints (n : Nat) (l : List Int) : D.lows n (l.map D.int) = true := by
  induction l with
  | nil => rfl
  | cons a r ih => simp [D.lows, D.low, ih]
theorem low_strs (n : Nat) (l : List Str) : D.lows n (l.map D.str) = true := by
  induction l with
  | nil => rfl
  | cons a r ih => simp [D.lows, D.low, ih]
theorem trim_src {s : Sr} {d : D} {T : Sto} (h : d.low 1 = true) : trim 1 d (s.so :: T) = [s.so] := by
  unfold trim
  cases T with
  | nil => rfl
  | cons a r =>
    rw [if_neg (by simp), h]
    rw [if_pos]
    · rfl
    · simp [Sr.so, SO.low, D.lows, D.low, low_ints]
abbrev oneS (c : Nat) : Str := ⟨#[c]⟩
theorem strsOf_map (l : List Str) : strsOf (l.map D.str) = some l := by
  induction l with
  | nil => rfl
  | cons a r ih => simp [strsOf, ih]
theorem join_ones (l : List Nat) (h : l.length ≤ 1000) (S : Sto) : ∃ x : Str, cs x = l ∧ bmD .join (.str "") [.lst (l.map fun c => .str (oneS c))] S = .ok (.str x) S := by
  refine ⟨Str.join "" (l.map oneS), ?_, ?_⟩
  · rw [join0]
    induction l with
    | nil => rfl
    | cons a r ih =>
      have e := ih (by simp at h; omega)
      rw [List.map_cons, List.flatMap_cons, e]
      rfl
  · show (match strsOf _ with | some ys => if (ys.map fun z => Str.length z).sum + ys.length * (Str.length "") ≤ 16777216 then Out.ok (D.str (Str.join "" ys)) S else .bad | none => .bad) = _
    rw [show (l.map fun c => D.str (oneS c)) = (l.map oneS).map D.str by simp, strsOf_map]
    dsimp only
    rw [if_pos]
    have : ((l.map oneS).map fun z => Str.length z).sum = l.length := by
      clear h
      induction l with
      | nil => rfl
      | cons a r ih => rw [List.map_cons, List.map_cons, List.sum_cons, ih]; show 1 + _ = r.length + 1; omega
    rw [this]
    show l.length + _ * 0 ≤ _
    omega
/-! ### _law_of -/
def ofIR (g : Nat) : List Itp.St := [.ret (.idx (.var 1) (.call g [.var 0, .bf .len [.var 1]]))]
theorem atI_get {β : Type} {xs : List β} {i : Int} (h : 0 ≤ i) (h2 : i < xs.length) : ∃ k, atI xs i = some k ∧ k ∈ xs := by
  obtain ⟨j, rfl⟩ := Int.eq_ofNat_of_zero_le h
  have hj : j < xs.length := by omega
  refine ⟨xs[j], ?_, List.getElem_mem _⟩
  unfold atI
  rw [show ixN xs.length (j : Int) = some j from by
    unfold ixN
    rw [if_pos h, if_pos h2]
    rfl]
  simp [hj]
section
variable {P : List Fn} {n f g : Nat} {s : Sr} {R : Sto} {Q : D → Sto → Prop}
theorem of_lst (hP : P[f]? = some ⟨2, 2, ofIR g⟩) (hD : P[g]? = some ⟨2, 5, drawIR⟩) {xs : List D} (hs : s.ok) (h0 : 0 < xs.length) (h1 : xs.length < 1073741824) (q : ∀ x s', x ∈ xs → Sr.ok s' → Q x (s'.so :: R)) : WP (callN P (n + 2) f [.loc 0, .lst xs] (s.so :: R)) Q := by
  refine wp_fn hP rfl ?_
  dsimp only [List.map, Nat.sub, List.replicate, List.append, ofIR]
  walk_at "w"
  refine draw_spec hD hs (by omega) (by omega) fun k s' h2 h3 h4 => ?_
  obtain ⟨x, hx, hm⟩ := atI_get h2 h3
  refine ⟨x, hx, ?_⟩
  refine (congrArg (Q _) (trim_len _ (by rfl))).mpr ?_
  exact q x s' hm h4
theorem of_tup (hP : P[f]? = some ⟨2, 2, ofIR g⟩) (hD : P[g]? = some ⟨2, 5, drawIR⟩) {xs : List D} (hs : s.ok) (h0 : 0 < xs.length) (h1 : xs.length < 1073741824) (q : ∀ x s', x ∈ xs → Sr.ok s' → Q x (s'.so :: R)) : WP (callN P (n + 2) f [.loc 0, .tup xs] (s.so :: R)) Q := by
  refine wp_fn hP rfl ?_
  dsimp only [List.map, Nat.sub, List.replicate, List.append, ofIR]
  walk_at "w"
  refine draw_spec hD hs (by omega) (by omega) fun k s' h2 h3 h4 => ?_
  obtain ⟨x, hx, hm⟩ := atI_get h2 h3
  refine ⟨x, hx, ?_⟩
  refine (congrArg (Q _) (trim_len _ (by rfl))).mpr ?_
  exact q x s' hm h4
theorem of_str (hP : P[f]? = some ⟨2, 2, ofIR g⟩) (hD : P[g]? = some ⟨2, 5, drawIR⟩) {z : Str} (hs : s.ok) (h0 : 0 < z.length) (h1 : z.length < 1073741824) (q : ∀ c s', c ∈ cs z → Sr.ok s' → Q (.str ⟨#[c]⟩) (s'.so :: R)) : WP (callN P (n + 2) f [.loc 0, .str z] (s.so :: R)) Q := by
  refine wp_fn hP rfl ?_
  dsimp only [List.map, Nat.sub, List.replicate, List.append, ofIR]
  walk_at "w"
  refine draw_spec hD hs (by omega) (by omega) fun k s' h2 h3 h4 => ?_
  obtain ⟨x, hx, hm⟩ := atI_get (xs := cs z) h2 h3
  refine ⟨.str ⟨#[x]⟩, by show (atI (cs z) k).map _ = _; rw [hx]; rfl, ?_⟩
  refine (congrArg (Q _) (trim_len _ (by rfl))).mpr ?_
  exact q x s' hm h4
end
/-! ### _law_same of a thing with itself -/
def sameIR (g : Nat) : List Itp.St := [
    .ifs (.isT (.var 1) [.list, .tuple]) [.ifs (.bop false [.cmp .ne (.isi (.var 0) .list) (.isi (.var 1) .list), .cmp .ne (.isi (.var 0) .tuple) (.isi (.var 1) .tuple)]) [.ret (.bl false)] [], .ret (.bop true [.cmp .eq (.bf .len [.var 0]) (.bf .len [.var 1]), .bf .all [.lc (.tup [.name 2, .name 3]) [2, 3] .zip [.var 0, .var 1] [] (.call g [.var 2, .var 3])]])] [],
    .ifs (.bop false [.cmp .isN (.var 1) (.non), .cmp .isN (.var 0) (.non)]) [.ret (.bop true [.cmp .isN (.var 1) (.non), .cmp .isN (.var 0) (.non)])] [],
    .ifs (.bop false [.cmp .ne (.isi (.var 0) .bool) (.isi (.var 1) .bool), .cmp .ne (.isi (.var 0) .int) (.isi (.var 1) .int)]) [.ret (.bl false)] [],
    .ret (.bop true [.cmp .eq (.isi (.var 0) .str) (.isi (.var 1) .str), .cmp .eq (.var 0) (.var 1)])]
/-- plain things, at most n deep -/
def D.dat : Nat → D → Prop
  | _, .non => True
  | _, .bl _ => True
  | _, .int _ => True
  | _, .str _ => True
  | n + 1, .lst xs => xs.length ≤ 16777216 ∧ ∀ x ∈ xs, D.dat n x
  | n + 1, .tup xs => xs.length ≤ 16777216 ∧ ∀ x ∈ xs, D.dat n x
  | _, _ => False
theorem range_map_self (xs : List D) : (List.range (min xs.length xs.length)).map (fun (k : Nat) => D.tup [xs.getD k .non, xs.getD k .non]) = xs.map fun x => .tup [x, x] := by
  rw [Nat.min_self]
  apply List.ext_getElem
  · simp
  · intro i h1 h2
    simp at h1
    simp [h1]
theorem blsOf_map : ∀ bs : List Bool, blsOf (bs.map D.bl) = some bs
  | [] => rfl
  | b :: r => by simp [blsOf, blsOf_map r]
theorem eq_of_wp {o : Out D} {d0 : D} {S0 : Sto} (h : WP o fun d S' => d = d0 ∧ S' = S0) : o = .ok d0 S0 := by
  obtain ⟨d, S, h1, rfl, rfl⟩ := h.ex
  exact h1
theorem eqv_str (x : Str) : PyData.eqv (.str x) (.str x) = true := by simp [PyData.eqv]
theorem all_true (k : Nat) : ((List.replicate k true).all id) = true := by simp
theorem same_self {P : List Fn} {f : Nat} (hP : P[f]? = some ⟨2, 4, sameIR f⟩) : ∀ (n : Nat) (d : D) (S : Sto), d.dat n → callN P (n + 1) f [d, d] S = .ok (.bl true) S := by
  have hint : ∀ (n : Nat) (i : Int) (S : Sto), callN P (n + 1) f [.int i, .int i] S = .ok (.bl true) S := fun n i S => by
    refine eq_of_wp (wp_fn hP rfl ?_)
    dsimp only [List.map, Nat.sub, List.replicate, List.append, sameIR]
    walk_at "w"
    refine ⟨?_, trim_self _ _⟩
    rw [eqv_int]; simp
  have hstr : ∀ (n : Nat) (i : Str) (S : Sto), callN P (n + 1) f [.str i, .str i] S = .ok (.bl true) S := fun n i S => by
    refine eq_of_wp (wp_fn hP rfl ?_)
    dsimp only [List.map, Nat.sub, List.replicate, List.append, sameIR]
    walk_at "w"
    refine ⟨?_, trim_self _ _⟩
    rw [eqv_str]
  intro n
  induction n with
  | zero =>
    intro d S h
    cases d with
    | non => exact call_pure hP rfl rfl
    | bl b => exact call_pure hP rfl (by cases b <;> rfl)
    | int i => exact hint 0 i S
    | str x => exact hstr 0 x S
    | _ => exact h.elim
  | succ n ih =>
    intro d S h
    cases d with
    | non => exact call_pure hP rfl rfl
    | bl b => exact call_pure hP rfl (by cases b <;> rfl)
    | int i => exact hint _ i S
    | str x => exact hstr _ x S
    | lst xs =>
      obtain ⟨hl, hx⟩ := h
      refine eq_of_wp (wp_fn hP rfl ?_)
      dsimp only [List.map, Nat.sub, List.replicate, List.append, sameIR]
      walk_at "w"
      rw [show PyData.eqv (.int xs.length) (.int xs.length) = true by rw [eqv_int]; simp]
      walk_at "w"
      rw [range_map_self]
      refine ⟨by rw [List.length_map]; exact hl, ?_⟩
      rw [loopC_map (fun _ => .bl true) (xs := xs.map fun x => .tup [x, x]) (fun x hx' => by
        obtain ⟨y, hy, rfl⟩ := List.mem_map.mp hx'
        exact ⟨_, rfl, turn_nif (ev_call rfl (ih y S (hx y hy)))⟩)]
      show ∃ z, bfD BF.all [.lst _] S = some z ∧ _
      refine ⟨.bl true, ?_, rfl, trim_self _ _⟩
      show ((blsOf _).map fun bs => D.bl (bs.all id)) = _
      rw [show [] ++ ((xs.map fun x => D.tup [x, x]).map fun _ => D.bl true) = (List.replicate xs.length true).map D.bl by simp only [List.nil_append, List.map_map, List.map_replicate]; exact List.map_eq_replicate_iff.mpr (fun _ _ => rfl), blsOf_map]
      simp
    | tup xs =>
      obtain ⟨hl, hx⟩ := h
      refine eq_of_wp (wp_fn hP rfl ?_)
      dsimp only [List.map, Nat.sub, List.replicate, List.append, sameIR]
      walk_at "w"
      rw [show PyData.eqv (.int xs.length) (.int xs.length) = true by rw [eqv_int]; simp]
      walk_at "w"
      rw [range_map_self]
      refine ⟨by rw [List.length_map]; exact hl, ?_⟩
      rw [loopC_map (fun _ => .bl true) (xs := xs.map fun x => .tup [x, x]) (fun x hx' => by
        obtain ⟨y, hy, rfl⟩ := List.mem_map.mp hx'
        exact ⟨_, rfl, turn_nif (ev_call rfl (ih y S (hx y hy)))⟩)]
      show ∃ z, bfD BF.all [.lst _] S = some z ∧ _
      refine ⟨.bl true, ?_, rfl, trim_self _ _⟩
      show ((blsOf _).map fun bs => D.bl (bs.all id)) = _
      rw [show [] ++ ((xs.map fun x => D.tup [x, x]).map fun _ => D.bl true) = (List.replicate xs.length true).map D.bl by simp only [List.nil_append, List.map_map, List.map_replicate]; exact List.map_eq_replicate_iff.mpr (fun _ _ => rfl), blsOf_map]
      simp
    | _ => exact h.elim
end Itp
namespace Lw
open PySem Itp
def top (i : Nat) : Stmt := PySem.Challenge.pw_splitsent_k02_kinds_numbers_and_lines.main.body.getD i (.Pass ⟨0, 0, 0, 0⟩)
def fArgs : Stmt → Arguments
  | .FunctionDef (args := a) .. => a
  | _ => { posonlyargs := [], args := [], vararg := none, kwonlyargs := [], kw_defaults := [], kwarg := none, defaults := [] }
def fBody : Stmt → List Stmt
  | .FunctionDef (body := b) .. => b
  | _ => []
def fScope : Stmt → Scope
  | .FunctionDef (scope := s) .. => s
  | _ => { kind := .function, names := [], isGenerator := false, isCoroutine := false, more := [] }
def dd (i : Nat) (x : Str) : He.DefD := ⟨(x, none), x, x, fArgs (top i), fBody (top i), fScope (top i), [], []⟩
/-- is_number(value, least, most); 0 value, 1 least, 2 most -/
def ir0 : List Itp.St := [
    .ret (.bop true [.isi (.var 0) .int, .not (.isi (.var 0) .bool), .chn .le .le (.var 1) (.var 0) (.var 2)])]
def f0 : Fn := ⟨3, 3, ir0⟩
/-- is_kind(value); 0 value, 1 sign -/
def ir1 : List Itp.St := [
    .ret (.bop true [.isi (.var 0) .str, .chn .le .le (.int 1) (.bf .len [.var 0]) (.int 8), .bf .all [.lc (.name 1) [1] .val [.var 0] [] (.cmp .inn (.var 1) (.gstr "LETTERS" "abcdefghijklmnopqrstuvwxyz"))]])]
def f1 : Fn := ⟨1, 2, ir1⟩
/-- is_lines(value); 0 value, 1 kind -/
def ir2 : List Itp.St := [
    .ret (.bop true [.isi (.var 0) .tuple, .chn .le .le (.int 1) (.bf .len [.var 0]) (.gint "MOST_LINES" 4), .bf .all [.lc (.name 1) [1] .val [.var 0] [] (.call 1 [.var 1])]])]
def f2 : Fn := ⟨1, 2, ir2⟩
/-- _law_source(_law_script); 0 _law_script -/
def ir3 : List Itp.St := [
    .ret (.lst true [.bf .list [.slc (.var 0) none (some (.int 63))], .int 0, .int 0, .int 10024, .int 0])]
def f3 : Fn := ⟨1, 1, ir3⟩
/-- _law_draw(_law_src, _law_many7); 0 _law_src, 1 _law_many7, 2 _law_cell7, 3 _law_digit, 4 _law_seed -/
def ir4 : List Itp.St := [
    .ifs (.bop true [.cmp .eq (.idx (.var 0) (.int 2)) (.int 0), .cmp .lt (.idx (.var 0) (.int 1)) (.bf .len [.idx (.var 0) (.int 0)])]) [.set 2 (.idx (.idx (.var 0) (.int 0)) (.idx (.var 0) (.int 1))), .idx (.var 0) (.int 1) (.bin .add (.idx (.var 0) (.int 1)) (.int 1)), .ifs (.cmp .ge (.var 2) (.bin .pow (.int 10) (.int 18))) [.idx (.var 0) (.int 2) (.var 2)] [.idx (.var 0) (.int 3) (.bin .mod (.bf .int [.bin .add (.bin .add (.bin .mul (.idx (.var 0) (.int 3)) (.int 38867)) (.bin .mul (.bin .mod (.bf .int [.var 2]) (.int 2147483563)) (.int 5407))) (.int 83)]) (.int 2147483549))]] [],
    .ifs (.cmp .gt (.idx (.var 0) (.int 2)) (.int 0)) [.set 3 (.bin .mod (.bf .int [.idx (.var 0) (.int 2)]) (.var 1)), .idx (.var 0) (.int 2) (.bin .fdiv (.idx (.var 0) (.int 2)) (.var 1)), .ret (.var 3)] [],
    .idx (.var 0) (.int 4) (.bin .add (.idx (.var 0) (.int 4)) (.int 1)),
    .set 4 (.idx (.var 0) (.int 3)),
    .idx (.var 0) (.int 3) (.bin .mod (.bf .int [.bin .add (.bin .add (.bin .add (.bin .mul (.var 4) (.var 4)) (.bin .mul (.var 4) (.int 30197))) (.bin .mul (.idx (.var 0) (.int 4)) (.int 1000777))) (.int 70843)]) (.int 2147483549)),
    .ret (.bin .mod (.bf .int [.bin .add (.bin .fdiv (.idx (.var 0) (.int 3)) (.int 67)) (.bin .mul (.bin .mod (.bf .int [.idx (.var 0) (.int 3)]) (.int 8123)) (.int 41))]) (.var 1))]
def f4 : Fn := ⟨2, 5, ir4⟩
/-- _law_of(_law_src, _law_things7); 0 _law_src, 1 _law_things7 -/
def ir5 : List Itp.St := [
    .ret (.idx (.var 1) (.call 4 [.var 0, .bf .len [.var 1]]))]
def f5 : Fn := ⟨2, 2, ir5⟩
/-- _law_word(_law_src); 0 _law_src, 1 _law_signs, 2 _law_k -/
def ir6 : List Itp.St := [
    .set 1 (.str "abcdefghijklmnopqrstuvwxyz"),
    .ret (.bm .join (.str "") [.lc (.name 2) [2] .rng [.bin .add (.int 1) (.call 4 [.var 0, .int 8])] [] (.call 5 [.var 0, .var 1])])]
def f6 : Fn := ⟨1, 3, ir6⟩
/-- _law_kinds(_law_src, _law_many); 0 _law_src, 1 _law_many, 2 _law_stem, 3 _law_found, 4 _law_at, 5 _law_k, 6 _law_like, 7 _law_pool, 8 _law_one -/
def ir7 : List Itp.St := [
    .asg (.tup [.name 2, .name 3]) (.tup [.slc (.call 6 [.var 0]) none (some (.int 7)), .lst true []]),
    .set 4 (.call 4 [.var 0, .bin .add (.bf .len [.var 2]) (.int 1)]),
    .for (.name 5) .rng [.var 1] [.set 6 (.bin .add (.bin .add (.slc (.var 2) none (some (.var 4))) (.call 5 [.var 0, .str "abcdefghijklmnopqrstuvwxyz"])) (.slc (.var 2) (some (.var 4)) none)), .set 7 (.lc (.name 8) [8] .val [.bin .add (.lst false [.var 6, .call 6 [.var 0]]) (.bf .list [.str "abcdefghij"])] [.cmp .nin (.var 8) (.var 3)] (.var 8)), .expr (.bm .append (.var 3) [.idx (.var 7) (.int 0)])],
    .ret (.frz (.var 3))]
def f7 : Fn := ⟨2, 9, ir7⟩
/-- _law_any(_law_src); 0 _law_src -/
def ir8 : List Itp.St := [
    .ret (.call 5 [.var 0, .lst false [.non, .bl true, .bl false, .str "", .str "x", .tup [], .lst false [], .tup [.int 1, .int 2], .lst false [.int 0], .tup [.int 0, .str "0"], .str "2", .bin .pow (.int 10) (.int 17), .neg (.int 1)]])]
def f8 : Fn := ⟨1, 1, ir8⟩
/-- _law_same(_law_found, _law_due); 0 _law_found, 1 _law_due, 2 _law_part7, 3 _law_late7 -/
def ir9 : List Itp.St := [
    .ifs (.isT (.var 1) [.list, .tuple]) [.ifs (.bop false [.cmp .ne (.isi (.var 0) .list) (.isi (.var 1) .list), .cmp .ne (.isi (.var 0) .tuple) (.isi (.var 1) .tuple)]) [.ret (.bl false)] [], .ret (.bop true [.cmp .eq (.bf .len [.var 0]) (.bf .len [.var 1]), .bf .all [.lc (.tup [.name 2, .name 3]) [2, 3] .zip [.var 0, .var 1] [] (.call 9 [.var 2, .var 3])]])] [],
    .ifs (.bop false [.cmp .isN (.var 1) (.non), .cmp .isN (.var 0) (.non)]) [.ret (.bop true [.cmp .isN (.var 1) (.non), .cmp .isN (.var 0) (.non)])] [],
    .ifs (.bop false [.cmp .ne (.isi (.var 0) .bool) (.isi (.var 1) .bool), .cmp .ne (.isi (.var 0) .int) (.isi (.var 1) .int)]) [.ret (.bl false)] [],
    .ret (.bop true [.cmp .eq (.isi (.var 0) .str) (.isi (.var 1) .str), .cmp .eq (.var 0) (.var 1)])]
def f9 : Fn := ⟨2, 4, ir9⟩
/-- _law_whole(_law_value7, _law_low, _law_high); 0 _law_value7, 1 _law_low, 2 _law_high -/
def ir10 : List Itp.St := [
    .ret (.bop true [.isi (.var 0) .int, .not (.isi (.var 0) .bool), .chn .le .le (.var 1) (.var 0) (.var 2)])]
def f10 : Fn := ⟨3, 3, ir10⟩
/-- _law_is_kind(_law_value7); 0 _law_value7, 1 _law_sign -/
def ir11 : List Itp.St := [
    .ifs (.bop false [.not (.isi (.var 0) .str), .not (.chn .le .le (.int 1) (.bf .len [.var 0]) (.int 8))]) [.ret (.bl false)] [],
    .ret (.bf .all [.lc (.name 1) [1] .val [.var 0] [] (.cmp .inn (.var 1) (.str "abcdefghijklmnopqrstuvwxyz"))])]
def f11 : Fn := ⟨1, 2, ir11⟩
/-- law(_law_script); 0 _law_script, 1 _law_src, 2 _law_turn, 3 _law_kinds7, 4 _law_at, 5 _law_bent, 6 _law_long, 7 _law_some, 8 _law_low, 9 _law_high, 10 _law_number7, 11 _law_odd, 12 _law_told, 13 _law_lines7, 14 _law_spot, 15 _law_others, 16 _law_due, 17 _law_one, 18 _law_k -/
def ir12 : List Itp.St := [
    .set 1 (.call 3 [.var 0]),
    .for (.name 2) .rng [.int 6] [.set 3 (.call 7 [.var 1, .int 3]), .set 4 (.call 4 [.var 1, .bin .add (.bf .len [.idx (.var 3) (.int 0)]) (.int 1)]), .set 5 (.bin .add (.bin .add (.slc (.idx (.var 3) (.int 0)) none (some (.var 4))) (.call 5 [.var 1, .lst false [.str "A", .str "1", .str " ", .str "-", .str "_", .str ",", .str "\n"]])) (.slc (.idx (.var 3) (.int 0)) (some (.var 4)) none)), .set 6 (.slc (.bin .add (.idx (.var 3) (.int 1)) (.str "abcdefgh")) none (some (.call 5 [.var 1, .lst false [.int 8, .int 9]]))), .set 7 (.lst false [.idx (.var 3) (.int 0), .var 5, .var 6, .str "", .str "z", .non, .int 3, .tup [.idx (.var 3) (.int 0)], .lst false [.idx (.var 3) (.int 0)], .bl true]), .ifs (.not (.call 9 [.lc (.name 17) [17] .val [.var 7] [] (.call 1 [.var 17]), .lc (.name 17) [17] .val [.var 7] [] (.call 11 [.var 17])])) [.ret (.bl false)] [], .par [8, 9, 10] [.bin .sub (.call 4 [.var 1, .int 9]) (.int 4), .call 4 [.var 1, .int 9], .bin .sub (.call 4 [.var 1, .int 15]) (.int 7)], .set 11 (.call 8 [.var 1]), .set 12 (.lst false [.call 0 [.var 10, .var 8, .var 9], .call 0 [.var 8, .var 8, .bin .add (.var 8) (.var 9)], .call 0 [.var 11, .var 8, .bin .add (.bin .pow (.int 10) (.int 17)) (.int 1)]]), .ifs (.not (.call 9 [.var 12, .lst false [.chn .le .le (.var 8) (.var 10) (.var 9), .bl true, .call 10 [.var 11, .var 8, .bin .add (.bin .pow (.int 10) (.int 17)) (.int 1)]]])) [.ret (.bl false)] [], .set 13 (.bf .tuple [.lc (.name 18) [18] .rng [.call 4 [.var 1, .int 7]] [] (.call 5 [.var 1, .var 3])]), .set 14 (.call 4 [.var 1, .bin .add (.bf .len [.var 13]) (.int 1)]), .set 15 (.lst false [.var 13, .bf .list [.var 13], .bin .add (.bin .add (.slc (.var 13) none (some (.var 14))) (.tup [.call 5 [.var 1, .lst false [.var 5, .non, .int 2, .var 13]]])) (.slc (.var 13) (some (.var 14)) none), .var 11]), .set 16 (.lst false [.chn .le .le (.int 1) (.bf .len [.var 13]) (.int 4), .bl false, .bl false, .bl false]), .ifs (.not (.call 9 [.lc (.name 17) [17] .val [.var 15] [] (.call 2 [.var 17]), .var 16])) [.ret (.bl false)] []],
    .ret (.bop true [.callP 0 [] [.int 3, .int 3, .int 3] [0, 2, 1], .callP 1 [] [.str "ab"] [0], .callP 2 [] [.tup [.str "a", .str "a"]] [0]])]
def f12 : Fn := ⟨1, 19, ir12⟩
def df0 : Df := ⟨dd 3 "is_number", ["value", "least", "most"], ["value", "least", "most"], f0⟩
def df1 : Df := ⟨dd 4 "is_kind", ["value", "sign"], ["value"], f1⟩
def df2 : Df := ⟨dd 5 "is_lines", ["value", "kind"], ["value"], f2⟩
def df3 : Df := ⟨dd 7 "_law_source", ["_law_script"], ["_law_script"], f3⟩
def df4 : Df := ⟨dd 8 "_law_draw", ["_law_src", "_law_many7", "_law_cell7", "_law_digit", "_law_seed"], ["_law_src", "_law_many7"], f4⟩
def df5 : Df := ⟨dd 9 "_law_of", ["_law_src", "_law_things7"], ["_law_src", "_law_things7"], f5⟩
def df6 : Df := ⟨dd 10 "_law_word", ["_law_src", "_law_signs", "_law_k"], ["_law_src"], f6⟩
def df7 : Df := ⟨dd 11 "_law_kinds", ["_law_src", "_law_many", "_law_stem", "_law_found", "_law_at", "_law_k", "_law_like", "_law_pool", "_law_one"], ["_law_src", "_law_many"], f7⟩
def df8 : Df := ⟨dd 12 "_law_any", ["_law_src"], ["_law_src"], f8⟩
def df9 : Df := ⟨dd 13 "_law_same", ["_law_found", "_law_due", "_law_part7", "_law_late7"], ["_law_found", "_law_due"], f9⟩
def df10 : Df := ⟨dd 14 "_law_whole", ["_law_value7", "_law_low", "_law_high"], ["_law_value7", "_law_low", "_law_high"], f10⟩
def df11 : Df := ⟨dd 15 "_law_is_kind", ["_law_value7", "_law_sign"], ["_law_value7"], f11⟩
def df12 : Df := ⟨dd 16 "law", ["_law_script", "_law_src", "_law_turn", "_law_kinds7", "_law_at", "_law_bent", "_law_long", "_law_some", "_law_low", "_law_high", "_law_number7", "_law_odd", "_law_told", "_law_lines7", "_law_spot", "_law_others", "_law_due", "_law_one", "_law_k"], ["_law_script"], f12⟩
def dfs : List Df := [df0, df1, df2, df3, df4, df5, df6, df7, df8, df9, df10, df11, df12]
def prog : List Fn := [f0, f1, f2, f3, f4, f5, f6, f7, f8, f9, f10, f11, f12]
def T : Tab := ⟨["is_number", "is_kind", "is_lines", "_law_source", "_law_draw", "_law_of", "_law_word", "_law_kinds", "_law_any", "_law_same", "_law_whole", "_law_is_kind", "law"], [("MOST_LINES", 4)], [("LETTERS", "abcdefghijklmnopqrstuvwxyz")], ["all", "bool", "int", "isinstance", "len", "list", "range", "str", "tuple", "zip"], [], [(0, 0, ["value", "most", "least"], [0, 2, 1]), (1, 0, ["value"], [0]), (2, 0, ["value"], [0])]⟩
def hfa : List He.Fa := [.glo "is_number", .glo "is_kind", .glo "is_lines", .glo "_law_source", .glo "_law_draw", .glo "_law_of", .glo "_law_word", .glo "_law_kinds", .glo "_law_any", .glo "_law_same", .glo "_law_whole", .glo "_law_is_kind", .glo "law", .free "all", .free "bool", .free "int", .free "isinstance", .free "len", .free "list", .free "range", .free "str", .free "tuple", .free "zip", .int "MOST_LINES" 4, .str "LETTERS" "abcdefghijklmnopqrstuvwxyz"]
def hfn : List He.DefD := [df0.d, df1.d, df2.d, df3.d, df4.d, df5.d, df6.d, df7.d, df8.d, df9.d, df10.d, df11.d, df12.d]
def loose : List Str := ["LETTERS", "MOST_LINES", "is_number", "is_kind", "is_lines", "_law_source", "_law_draw", "_law_of", "_law_word", "_law_kinds", "_law_any", "_law_same", "_law_whole", "_law_is_kind"]
abbrev Rw : PySem.W.OpenRow := PySem.W.OpenLaw.row PySem.Challenge.rw_splitsent_k02_kinds_numbers_and_lines
abbrev hk : PySem.W.Hook := He.hookD 4 hfa hfn
def ob (s : PySem.W.SharedT) : He.AlD := He.obsDG 4 hfa hfn (HandSHeadRun.getT s)
theorem ob_eq (s : PySem.W.SharedT) : ob s = hk.obs s.abs := He.obsDG_eq (HandSHeadRun.getT_eq s)
def gb (K : PySem.W.Frag) : Gb := ⟨0, fun _ => 0, fun f => He.fAd K ((hfn.map (·.at_)).getD f ("", none)), fun _ => ""⟩
end Lw
namespace Lw
open PySem PySem.Spec PyProof.Rows L2 Itp
theorem run (w : PySem.World) : HandSHeadRun.RunEq Rw (PySem.W.view Rw.prog [16]) hk ob 4000 loose w := by
  intro os
  kernel_rfl
theorem dfs_ok : dfs.all (Df.ok T) = true := by decide +kernel
section
variable {K : PySem.W.Frag} (c : He.SaysD hfa hfn K)
include c
theorem fd0 : ∃ fd, FunD K df0.d.name df0.d.qual df0.d.params df0.d.body df0.d.scope [] [] ((gb K).fA 0) fd ∧ L2.Binds K fd df0.ps [] ∧ ∀ m ks pi, (0, m, ks, pi) ∈ T.kb → KbOk K fd df0.ps m ks pi := by
  obtain ⟨fd, F⟩ := c.def_ 0 (d := df0.d) rfl
  refine ⟨fd, F, FunD.bindsN F fun _ _ _ _ _ _ us hl => match us, hl with | [_, _, _], _ => rfl, ?_⟩
  intro m ks pi h
  simp only [T, List.mem_cons, Prod.mk.injEq, List.not_mem_nil, or_false] at h
  obtain ⟨oc, od, dV, kV, doc, pm, an, cdv, ct, osl, rfl, lk, hcd, hD, hK⟩ := F.ex
  rcases hD with ⟨_, rfl⟩ | ⟨z, _⟩
  · intro s us ws zs _ h1 h2 h3
    rcases h with h | h | h
    · obtain ⟨_, rfl, rfl, rfl⟩ := h
      match us, ws, h1, h2, h3 with
      | [], [w0, w1, w2], _, _, h3 => cases h3; exact .of_eq rfl
    · omega
    · omega
  · exact absurd rfl z
theorem fd1 : ∃ fd, FunD K df1.d.name df1.d.qual df1.d.params df1.d.body df1.d.scope [] [] ((gb K).fA 1) fd ∧ L2.Binds K fd df1.ps [] ∧ ∀ m ks pi, (1, m, ks, pi) ∈ T.kb → KbOk K fd df1.ps m ks pi := by
  obtain ⟨fd, F⟩ := c.def_ 1 (d := df1.d) rfl
  refine ⟨fd, F, FunD.bindsN F fun _ _ _ _ _ _ us hl => match us, hl with | [_], _ => rfl, ?_⟩
  intro m ks pi h
  simp only [T, List.mem_cons, Prod.mk.injEq, List.not_mem_nil, or_false] at h
  obtain ⟨oc, od, dV, kV, doc, pm, an, cdv, ct, osl, rfl, lk, hcd, hD, hK⟩ := F.ex
  rcases hD with ⟨_, rfl⟩ | ⟨z, _⟩
  · intro s us ws zs _ h1 h2 h3
    rcases h with h | h | h
    · omega
    · obtain ⟨_, rfl, rfl, rfl⟩ := h
      match us, ws, h1, h2, h3 with
      | [], [w0], _, _, h3 => cases h3; exact .of_eq rfl
    · omega
  · exact absurd rfl z
theorem fd2 : ∃ fd, FunD K df2.d.name df2.d.qual df2.d.params df2.d.body df2.d.scope [] [] ((gb K).fA 2) fd ∧ L2.Binds K fd df2.ps [] ∧ ∀ m ks pi, (2, m, ks, pi) ∈ T.kb → KbOk K fd df2.ps m ks pi := by
  obtain ⟨fd, F⟩ := c.def_ 2 (d := df2.d) rfl
  refine ⟨fd, F, FunD.bindsN F fun _ _ _ _ _ _ us hl => match us, hl with | [_], _ => rfl, ?_⟩
  intro m ks pi h
  simp only [T, List.mem_cons, Prod.mk.injEq, List.not_mem_nil, or_false] at h
  obtain ⟨oc, od, dV, kV, doc, pm, an, cdv, ct, osl, rfl, lk, hcd, hD, hK⟩ := F.ex
  rcases hD with ⟨_, rfl⟩ | ⟨z, _⟩
  · intro s us ws zs _ h1 h2 h3
    rcases h with h | h | h
    · omega
    · omega
    · obtain ⟨_, rfl, rfl, rfl⟩ := h
      match us, ws, h1, h2, h3 with
      | [], [w0], _, _, h3 => cases h3; exact .of_eq rfl
  · exact absurd rfl z
theorem fd3 : ∃ fd, FunD K df3.d.name df3.d.qual df3.d.params df3.d.body df3.d.scope [] [] ((gb K).fA 3) fd ∧ L2.Binds K fd df3.ps [] ∧ ∀ m ks pi, (3, m, ks, pi) ∈ T.kb → KbOk K fd df3.ps m ks pi := by
  obtain ⟨fd, F⟩ := c.def_ 3 (d := df3.d) rfl
  refine ⟨fd, F, FunD.bindsN F fun _ _ _ _ _ _ us hl => match us, hl with | [_], _ => rfl, ?_⟩
  intro m ks pi h
  simp only [T, List.mem_cons, Prod.mk.injEq, List.not_mem_nil, or_false] at h
  omega
theorem fd4 : ∃ fd, FunD K df4.d.name df4.d.qual df4.d.params df4.d.body df4.d.scope [] [] ((gb K).fA 4) fd ∧ L2.Binds K fd df4.ps [] ∧ ∀ m ks pi, (4, m, ks, pi) ∈ T.kb → KbOk K fd df4.ps m ks pi := by
  obtain ⟨fd, F⟩ := c.def_ 4 (d := df4.d) rfl
  refine ⟨fd, F, FunD.bindsN F fun _ _ _ _ _ _ us hl => match us, hl with | [_, _], _ => rfl, ?_⟩
  intro m ks pi h
  simp only [T, List.mem_cons, Prod.mk.injEq, List.not_mem_nil, or_false] at h
  omega
theorem fd5 : ∃ fd, FunD K df5.d.name df5.d.qual df5.d.params df5.d.body df5.d.scope [] [] ((gb K).fA 5) fd ∧ L2.Binds K fd df5.ps [] ∧ ∀ m ks pi, (5, m, ks, pi) ∈ T.kb → KbOk K fd df5.ps m ks pi := by
  obtain ⟨fd, F⟩ := c.def_ 5 (d := df5.d) rfl
  refine ⟨fd, F, FunD.bindsN F fun _ _ _ _ _ _ us hl => match us, hl with | [_, _], _ => rfl, ?_⟩
  intro m ks pi h
  simp only [T, List.mem_cons, Prod.mk.injEq, List.not_mem_nil, or_false] at h
  omega
theorem fd6 : ∃ fd, FunD K df6.d.name df6.d.qual df6.d.params df6.d.body df6.d.scope [] [] ((gb K).fA 6) fd ∧ L2.Binds K fd df6.ps [] ∧ ∀ m ks pi, (6, m, ks, pi) ∈ T.kb → KbOk K fd df6.ps m ks pi := by
  obtain ⟨fd, F⟩ := c.def_ 6 (d := df6.d) rfl
  refine ⟨fd, F, FunD.bindsN F fun _ _ _ _ _ _ us hl => match us, hl with | [_], _ => rfl, ?_⟩
  intro m ks pi h
  simp only [T, List.mem_cons, Prod.mk.injEq, List.not_mem_nil, or_false] at h
  omega
theorem fd7 : ∃ fd, FunD K df7.d.name df7.d.qual df7.d.params df7.d.body df7.d.scope [] [] ((gb K).fA 7) fd ∧ L2.Binds K fd df7.ps [] ∧ ∀ m ks pi, (7, m, ks, pi) ∈ T.kb → KbOk K fd df7.ps m ks pi := by
  obtain ⟨fd, F⟩ := c.def_ 7 (d := df7.d) rfl
  refine ⟨fd, F, FunD.bindsN F fun _ _ _ _ _ _ us hl => match us, hl with | [_, _], _ => rfl, ?_⟩
  intro m ks pi h
  simp only [T, List.mem_cons, Prod.mk.injEq, List.not_mem_nil, or_false] at h
  omega
theorem fd8 : ∃ fd, FunD K df8.d.name df8.d.qual df8.d.params df8.d.body df8.d.scope [] [] ((gb K).fA 8) fd ∧ L2.Binds K fd df8.ps [] ∧ ∀ m ks pi, (8, m, ks, pi) ∈ T.kb → KbOk K fd df8.ps m ks pi := by
  obtain ⟨fd, F⟩ := c.def_ 8 (d := df8.d) rfl
  refine ⟨fd, F, FunD.bindsN F fun _ _ _ _ _ _ us hl => match us, hl with | [_], _ => rfl, ?_⟩
  intro m ks pi h
  simp only [T, List.mem_cons, Prod.mk.injEq, List.not_mem_nil, or_false] at h
  omega
theorem fd9 : ∃ fd, FunD K df9.d.name df9.d.qual df9.d.params df9.d.body df9.d.scope [] [] ((gb K).fA 9) fd ∧ L2.Binds K fd df9.ps [] ∧ ∀ m ks pi, (9, m, ks, pi) ∈ T.kb → KbOk K fd df9.ps m ks pi := by
  obtain ⟨fd, F⟩ := c.def_ 9 (d := df9.d) rfl
  refine ⟨fd, F, FunD.bindsN F fun _ _ _ _ _ _ us hl => match us, hl with | [_, _], _ => rfl, ?_⟩
  intro m ks pi h
  simp only [T, List.mem_cons, Prod.mk.injEq, List.not_mem_nil, or_false] at h
  omega
theorem fd10 : ∃ fd, FunD K df10.d.name df10.d.qual df10.d.params df10.d.body df10.d.scope [] [] ((gb K).fA 10) fd ∧ L2.Binds K fd df10.ps [] ∧ ∀ m ks pi, (10, m, ks, pi) ∈ T.kb → KbOk K fd df10.ps m ks pi := by
  obtain ⟨fd, F⟩ := c.def_ 10 (d := df10.d) rfl
  refine ⟨fd, F, FunD.bindsN F fun _ _ _ _ _ _ us hl => match us, hl with | [_, _, _], _ => rfl, ?_⟩
  intro m ks pi h
  simp only [T, List.mem_cons, Prod.mk.injEq, List.not_mem_nil, or_false] at h
  omega
theorem fd11 : ∃ fd, FunD K df11.d.name df11.d.qual df11.d.params df11.d.body df11.d.scope [] [] ((gb K).fA 11) fd ∧ L2.Binds K fd df11.ps [] ∧ ∀ m ks pi, (11, m, ks, pi) ∈ T.kb → KbOk K fd df11.ps m ks pi := by
  obtain ⟨fd, F⟩ := c.def_ 11 (d := df11.d) rfl
  refine ⟨fd, F, FunD.bindsN F fun _ _ _ _ _ _ us hl => match us, hl with | [_], _ => rfl, ?_⟩
  intro m ks pi h
  simp only [T, List.mem_cons, Prod.mk.injEq, List.not_mem_nil, or_false] at h
  omega
theorem fd12 : ∃ fd, FunD K df12.d.name df12.d.qual df12.d.params df12.d.body df12.d.scope [] [] ((gb K).fA 12) fd ∧ L2.Binds K fd df12.ps [] ∧ ∀ m ks pi, (12, m, ks, pi) ∈ T.kb → KbOk K fd df12.ps m ks pi := by
  obtain ⟨fd, F⟩ := c.def_ 12 (d := df12.d) rfl
  refine ⟨fd, F, FunD.bindsN F fun _ _ _ _ _ _ us hl => match us, hl with | [_], _ => rfl, ?_⟩
  intro m ks pi h
  simp only [T, List.mem_cons, Prod.mk.injEq, List.not_mem_nil, or_false] at h
  omega
end
theorem hd {K : PySem.W.Frag} {h : Heap} {mg : Str → Option Value} (X : K.In h) (G : h.Ns mainGlobals mg) (c : He.SaysD hfa hfn K) : Hd T (gb K) K mg dfs := by
  refine ⟨?_, ?_, ?_, ?_, ?_, ⟨fun _ h => (nomatch h), fun _ h => (nomatch h), fun h => (nomatch h), fun h => (nomatch h), fun _ h => (nomatch h), fun _ _ h => (nomatch h), fun _ _ h => (nomatch h), fun _ _ h => (nomatch h)⟩, ?_, List.all_eq_true.mp dfs_ok, ?_⟩
  · intro x hx
    simp only [T, List.mem_cons, List.not_mem_nil, or_false] at hx
    rcases hx with rfl | rfl | rfl | rfl | rfl | rfl | rfl | rfl | rfl | rfl
    · exact He.free_ok X G (c.fact 13 (f := .free "all") rfl)
    · exact He.free_ok X G (c.fact 14 (f := .free "bool") rfl)
    · exact He.free_ok X G (c.fact 15 (f := .free "int") rfl)
    · exact He.free_ok X G (c.fact 16 (f := .free "isinstance") rfl)
    · exact He.free_ok X G (c.fact 17 (f := .free "len") rfl)
    · exact He.free_ok X G (c.fact 18 (f := .free "list") rfl)
    · exact He.free_ok X G (c.fact 19 (f := .free "range") rfl)
    · exact He.free_ok X G (c.fact 20 (f := .free "str") rfl)
    · exact He.free_ok X G (c.fact 21 (f := .free "tuple") rfl)
    · exact He.free_ok X G (c.fact 22 (f := .free "zip") rfl)
  · intro x hx
    simp only [T, List.mem_cons, List.not_mem_nil, or_false] at hx
    rcases hx with rfl | rfl | rfl | rfl | rfl | rfl | rfl | rfl | rfl | rfl <;> exact ⟨by decide, by decide⟩
  · intro p hp
    simp only [T, List.mem_cons, List.not_mem_nil, or_false] at hp
    rcases hp with rfl
    · exact He.int_ok X G (c.fact 23 (f := .int "MOST_LINES" 4) rfl)
  · intro p hp
    simp only [T, List.mem_cons, List.not_mem_nil, or_false] at hp
    rcases hp with rfl
    · exact He.str_ok X G (c.fact 24 (f := .str "LETTERS" "abcdefghijklmnopqrstuvwxyz") rfl)
  · intro c x hx
    simp [T] at hx
  · intro f x hx
    match f, hx with
    | 0, hx => cases hx; exact ⟨He.glo_ok X G (c.fact 0 (f := .glo "is_number") rfl), by decide⟩
    | 1, hx => cases hx; exact ⟨He.glo_ok X G (c.fact 1 (f := .glo "is_kind") rfl), by decide⟩
    | 2, hx => cases hx; exact ⟨He.glo_ok X G (c.fact 2 (f := .glo "is_lines") rfl), by decide⟩
    | 3, hx => cases hx; exact ⟨He.glo_ok X G (c.fact 3 (f := .glo "_law_source") rfl), by decide⟩
    | 4, hx => cases hx; exact ⟨He.glo_ok X G (c.fact 4 (f := .glo "_law_draw") rfl), by decide⟩
    | 5, hx => cases hx; exact ⟨He.glo_ok X G (c.fact 5 (f := .glo "_law_of") rfl), by decide⟩
    | 6, hx => cases hx; exact ⟨He.glo_ok X G (c.fact 6 (f := .glo "_law_word") rfl), by decide⟩
    | 7, hx => cases hx; exact ⟨He.glo_ok X G (c.fact 7 (f := .glo "_law_kinds") rfl), by decide⟩
    | 8, hx => cases hx; exact ⟨He.glo_ok X G (c.fact 8 (f := .glo "_law_any") rfl), by decide⟩
    | 9, hx => cases hx; exact ⟨He.glo_ok X G (c.fact 9 (f := .glo "_law_same") rfl), by decide⟩
    | 10, hx => cases hx; exact ⟨He.glo_ok X G (c.fact 10 (f := .glo "_law_whole") rfl), by decide⟩
    | 11, hx => cases hx; exact ⟨He.glo_ok X G (c.fact 11 (f := .glo "_law_is_kind") rfl), by decide⟩
    | 12, hx => cases hx; exact ⟨He.glo_ok X G (c.fact 12 (f := .glo "law") rfl), by decide⟩
  · intro f df hf
    match f, hf with
    | 0, hf => cases hf; exact fd0 c
    | 1, hf => cases hf; exact fd1 c
    | 2, hf => cases hf; exact fd2 c
    | 3, hf => cases hf; exact fd3 c
    | 4, hf => cases hf; exact fd4 c
    | 5, hf => cases hf; exact fd5 c
    | 6, hf => cases hf; exact fd6 c
    | 7, hf => cases hf; exact fd7 c
    | 8, hf => cases hf; exact fd8 c
    | 9, hf => cases hf; exact fd9 c
    | 10, hf => cases hf; exact fd10 c
    | 11, hf => cases hf; exact fd11 c
    | 12, hf => cases hf; exact fd12 c
/-- the law, once its run by the evaluator is known -/
theorem walk (hl : ∀ ns : List Int, ns.length ≤ 63 → ∃ S, callN prog 40 12 [.scr ns] [] = .ok (.bl true) S) : PySem.Challenge.rw_splitsent_k02_kinds_numbers_and_lines.Holds := by
  w_on; o_law
  refine HandSHeadRun.head_any (r := PySem.W.OpenLaw.row PySem.Challenge.rw_splitsent_k02_kinds_numbers_and_lines) (q := PySem.W.view (PySem.W.OpenLaw.row PySem.Challenge.rw_splitsent_k02_kinds_numbers_and_lines).prog [16]) (H := hk) (ob := ob) (M := 4000) (loose := loose) (d := HandSHeadRun.topDef (PySem.W.OpenLaw.row PySem.Challenge.rw_splitsent_k02_kinds_numbers_and_lines).prog 16) (kwd := []) ob_eq
    (by kernel_rfl) (fun s => by kernel_rfl) run (by kernel_rfl) (by kernel_rfl) (by kernel_rfl) (by rfl) (by first | assumption | decide +kernel) (by decide +kernel) ⟨rfl, rfl, rfl, rfl, rfl, by decide +kernel⟩ ?hw ?hc
  case hw => w_witness2
  case hc =>
    refine L2.walk_ofE (l := PySem.Challenge.rw_splitsent_k02_kinds_numbers_and_lines) (n := 63) (k := 40) (x := "_law_script") (CX := L2.CX0) rfl (by decide) (by kernel_rfl) ⟨rfl, by decide, by decide⟩ ?F (fun _ _ _ _ z => z)
    intro w mg fa h Y G hmg0
    obtain ⟨K, KX, c⟩ := Y
    have hmg : mg ("law" : PySem.Str) = some (.ref fa) := by
      have e : (HandSHeadRun.topDef (PySem.W.OpenLaw.row PySem.Challenge.rw_splitsent_k02_kinds_numbers_and_lines).prog 16).name = ("law" : PySem.Str) := by kernel_rfl
      rw [← e]
      exact hmg0
    have HD := hd KX G c
    obtain ⟨fd, F, _⟩ := fd12 c
    have ea : fa = (gb K).fA 12 := by
      have e := hmg.symm.trans (HD.mf 12 _ rfl).1
      cases e
      rfl
    have b := FunD.bindsA (ps := ["_law_script"]) F fun _ _ _ _ _ _ us hl => match us, hl with | [_], _ => rfl
    refine ⟨K, fd, spI K (gb K) (callN prog 40) 12 1, KX, fun s v => b s [v] rfl, fun H a ns hn _ hS => law_sp hl H a ns hn hS, fun base KB GB => ?_⟩
    obtain ⟨fd', F', G1, _⟩ := fns_ok (P := PySem.Challenge.rw_splitsent_k02_kinds_numbers_and_lines.prog) (w := w) (base := base) HD 40 12 df12 rfl
    have ef : fd' = fd := FunD.uniq F F'
    subst ef
    rw [ea]
    exact G1
end Lw
namespace Lw
open PySem Itp L2
local macro_rules | `(tactic| walk_at "w1") => `(tactic| first
  | ((with_reducible show WP (ev _ _ _ _) _); first
    | ((with_reducible show WP (ev _ (E.var _) _ _) _); refine wp_var rfl ?_)
    | with_reducible refine wp_int ?_
    | with_reducible refine wp_str ?_
    | with_reducible refine wp_bl ?_
    | with_reducible refine wp_non ?_
    | with_reducible refine wp_idx ?_
    | with_reducible refine wp_bin ?_
    | with_reducible refine wp_call ?_
    | with_reducible refine wp_lst ?_
    | with_reducible refine wp_cmp ?_
    | with_reducible refine wp_tup ?_
    | with_reducible refine wp_slc ?_
    | with_reducible refine wp_bf ?_
    | with_reducible refine wp_not ?_
    | with_reducible refine wp_isi ?_
    | with_reducible refine wp_bop ?_
    | with_reducible refine wp_lc ?_
    | with_reducible refine wp_bm ?_
    | with_reducible refine wp_gint ?_
    | with_reducible refine wp_gstr ?_
    | with_reducible refine wp_neg ?_
    | with_reducible refine wp_chn ?_
    | with_reducible refine wp_ite ?_
    | with_reducible refine wp_new ?_
    | with_reducible refine wp_spt ?_
    | with_reducible refine wp_isT ?_
    | with_reducible refine wp_callP ?_
    | with_reducible refine wp_frz ?_)
  | ((with_reducible show WP (evs _ _ _ _) _); first
    | with_reducible refine wps_cons ?_
    | with_reducible refine wps_nil ?_)
  | ((with_reducible show WF (exs _ _ _ _) _ _); first
    | with_reducible refine wfs_cons ?_
    | with_reducible refine wfs_nil ?_)
  | ((with_reducible show WF (ex _ _ _ _) _ _); first
    | with_reducible refine wf_set ?_
    | with_reducible refine wf_asg ?_
    | with_reducible refine wf_par ?_
    | with_reducible refine wf_idx ?_
    | with_reducible refine wf_expr ?_
    | with_reducible refine wf_ret ?_
    | with_reducible refine wf_if ?_
    | with_reducible refine wf_for ?_)
  | ((with_reducible show WP (evB _ _ _ _ _) _); first
    | with_reducible refine wpB_a ?_
    | with_reducible refine wpB_o ?_
    | with_reducible refine wpB_one ?_)
  | ((with_reducible show WP (evO _ _ _ _) _); first
    | with_reducible refine wpO_none ?_
    | with_reducible refine wpO_some ?_)
  | ((with_reducible show Exists _); first
    | ((with_reducible show ∃ z, truD _ _ = some z ∧ _); refine ⟨_, rfl, ?_⟩)
    | ((with_reducible show ∃ z, cmpD _ _ _ _ = some z ∧ _); refine ⟨_, rfl, ?_⟩)
    | ((with_reducible show ∃ z, idxD _ _ _ = some z ∧ _); refine ⟨_, rfl, ?_⟩)
    | ((with_reducible show ∃ z, slcD _ _ _ _ = some z ∧ _); refine ⟨_, rfl, ?_⟩)
    | ((with_reducible show ∃ z, isD _ _ _ = some z ∧ _); refine ⟨_, rfl, ?_⟩)
    | ((with_reducible show ∃ z, isAny _ _ _ = some z ∧ _); refine ⟨_, rfl, ?_⟩)
    | ((with_reducible show ∃ z, bfD _ _ _ = some z ∧ _); refine ⟨_, rfl, ?_⟩)
    | ((with_reducible show ∃ z, itD _ _ _ = some z ∧ _); refine ⟨_, rfl, ?_⟩)
    | ((with_reducible show ∃ z, pick _ _ = some z ∧ _); refine ⟨_, rfl, ?_⟩)
    | ((with_reducible show ∃ z, setTg _ _ _ = some z ∧ _); refine ⟨_, rfl, ?_⟩)
    | ((with_reducible show ∃ z, binD BO.add (D.int _) (D.int _) _ = some z ∧ _); refine ⟨_, rfl, ?_⟩)
    | ((with_reducible show ∃ z, binD BO.sub _ _ _ = some z ∧ _); refine ⟨_, rfl, ?_⟩)
    | ((with_reducible show ∃ z, binD BO.mul _ _ _ = some z ∧ _); refine ⟨_, rfl, ?_⟩)
    | ((with_reducible show ∃ z, binD BO.mod _ _ _ = some z ∧ _); refine ⟨_, rfl, ?_⟩)
    | ((with_reducible show ∃ z, binD BO.fdiv _ _ _ = some z ∧ _); refine ⟨_, rfl, ?_⟩)
    | ((with_reducible show ∃ z, binD BO.pow _ _ _ = some z ∧ _); refine ⟨_, rfl, ?_⟩)
    | ((with_reducible show ∃ z, D.int _ = D.int z ∧ _); refine ⟨_, rfl, ?_⟩)
    | ((with_reducible show ∃ z, D.loc _ = D.loc z ∧ _); refine ⟨_, rfl, ?_⟩)
    | ((with_reducible show ∃ z, D.lst _ = D.lst z ∧ _); refine ⟨_, rfl, ?_⟩))
  | ((with_reducible show And _ _); first
    | ((with_reducible refine two_t ?hk ?_); (case hk => exact rfl))
    | ((with_reducible refine two_f ?hk ?_); (case hk => exact rfl))))
local macro_rules | `(tactic| walk_at "w") => `(tactic| repeat walk_at "w1")
theorem P3 : prog[3]? = some f3 := rfl
theorem P4 : prog[4]? = some ⟨2, 5, drawIR⟩ := rfl
theorem P5 : prog[5]? = some ⟨2, 2, ofIR 4⟩ := rfl
theorem P9 : prog[9]? = some ⟨2, 4, sameIR 9⟩ := rfl
/-! ### what is a kind -/
abbrev let26 : Str := "abcdefghijklmnopqrstuvwxyz"
def kdB (x : Str) : Bool := (decide (1 ≤ (x.length : Int)) && decide ((x.length : Int) ≤ 8)) && (cs x).all fun c => decide (c ∈ cs let26)
def iskB : D → Bool
  | .str x => kdB x
  | _ => false
/-- no places within -/
def tk : D → Bool
  | .loc _ => false
  | .scr _ => false
  | _ => true
theorem one_in (c : Nat) (z : Str) (S : Sto) : inD (.str ⟨#[c]⟩) (.str z) S = some (decide (c ∈ cs z)) := rfl
theorem signs_all (x : Str) (p : Nat → Bool) (f : D → D) (hf : ∀ c, f (.str ⟨#[c]⟩) = .bl (p c)) (S : Sto) : bfD .all [.lst ([] ++ (signs x).map f)] S = some (.bl ((cs x).all p)) := by
  show ((blsOf _).map fun bs => D.bl (bs.all id)) = _
  rw [show [] ++ (signs x).map f = ((cs x).map p).map D.bl by
    unfold signs
    simp [hf], blsOf_map]
  simp
def inL (z : Str) : D → D
  | .str ⟨a⟩ => .bl (decide (a.getD 0 0 ∈ cs z))
  | _ => .non
theorem kd_spec (n : Nat) {d : D} (h : tk d = true) (S : Sto) : callN prog (n + 1) 1 [d] S = .ok (.bl (iskB d)) S := by
  cases d with
  | str x =>
    refine eq_of_wp (wp_fn (fn := f1) rfl rfl ?_)
    dsimp only [List.map, Nat.sub, List.replicate, List.append, f1, ir1]
    walk_at "w"
    refine ⟨_, _, rfl, rfl, ?_⟩
    walk_at "w"
    refine ⟨fun h2 => ?_, fun h2 => ?_⟩
    · walk_at "w"
      have h3 : (x.length : Int) ≤ 8 := by
        rw [Bool.and_eq_true] at h2
        exact of_decide_eq_true h2.2
      refine ⟨by unfold signs; rw [List.length_map, ← cs_len]; omega, ?_⟩
      rw [loopC_map (inL let26) (xs := signs x) (fun y hy => by
        obtain ⟨c, hc, rfl⟩ := List.mem_map.mp hy
        exact ⟨_, rfl, turn_nif (ev_cmp rfl rfl (one_in c _ S))⟩)]
      refine ⟨_, signs_all x _ _ (fun c => rfl) S, ?_, trim_self _ _⟩
      show D.bl _ = D.bl (kdB x)
      unfold kdB
      rw [h2]
      rfl
    · refine ⟨?_, trim_self _ _⟩
      show D.bl _ = D.bl (kdB x)
      unfold kdB
      rw [h2]
      rfl
  | _ => first | exact call_pure (fn := f1) rfl rfl rfl | cases h
theorem kd2_spec (n : Nat) {d : D} (h : tk d = true) (S : Sto) : callN prog (n + 1) 11 [d] S = .ok (.bl (iskB d)) S := by
  cases d with
  | str x =>
    refine eq_of_wp (wp_fn (fn := f11) rfl rfl ?_)
    dsimp only [List.map, Nat.sub, List.replicate, List.append, f11, ir11]
    walk_at "w"
    refine ⟨_, _, rfl, rfl, ?_⟩
    walk_at "w"
    refine ⟨fun h2 => ?_, fun h2 => ?_⟩
    · walk_at "w"
      refine ⟨?_, trim_self _ _⟩
      show D.bl _ = D.bl (kdB x)
      unfold kdB
      rw [Bool.not_eq_true'] at h2
      rw [h2]
      rfl
    · walk_at "w"
      rw [Bool.not_eq_false'] at h2
      have h3 : (x.length : Int) ≤ 8 := by
        rw [Bool.and_eq_true] at h2
        exact of_decide_eq_true h2.2
      refine ⟨by unfold signs; rw [List.length_map, ← cs_len]; omega, ?_⟩
      rw [loopC_map (inL let26) (xs := signs x) (fun y hy => by
        obtain ⟨c, hc, rfl⟩ := List.mem_map.mp hy
        exact ⟨_, rfl, turn_nif (ev_cmp rfl rfl (one_in c _ S))⟩)]
      refine ⟨_, signs_all x _ _ (fun c => rfl) S, ?_, trim_self _ _⟩
      show D.bl _ = D.bl (kdB x)
      unfold kdB
      rw [h2]
      rfl
  | _ => first | exact call_pure (fn := f11) rfl rfl rfl | cases h
def linB : D → Bool
  | .tup xs => (decide (1 ≤ (xs.length : Int)) && decide ((xs.length : Int) ≤ 4)) && xs.all iskB
  | _ => false
theorem lin_spec (n : Nat) {d : D} (h : tk d = true) (h' : ∀ xs, d = .tup xs → ∀ x ∈ xs, tk x = true) (S : Sto) : callN prog (n + 2) 2 [d] S = .ok (.bl (linB d)) S := by
  cases d with
  | tup xs =>
    refine eq_of_wp (wp_fn (fn := f2) rfl rfl ?_)
    dsimp only [List.map, Nat.sub, List.replicate, List.append, f2, ir2]
    walk_at "w"
    refine ⟨_, _, rfl, rfl, ?_⟩
    walk_at "w"
    refine ⟨fun h2 => ?_, fun h2 => ?_⟩
    · walk_at "w"
      have h3 : (xs.length : Int) ≤ 4 := by
        rw [Bool.and_eq_true] at h2
        exact of_decide_eq_true h2.2
      refine ⟨by omega, ?_⟩
      rw [loopC_map (fun x => .bl (iskB x)) (fun y hy => ⟨_, rfl, turn_nif (ev_call rfl (kd_spec n (h' xs rfl y hy) S))⟩)]
      refine ⟨.bl (xs.all iskB), ?_, ?_, trim_self _ _⟩
      · show ((blsOf _).map fun bs => D.bl (bs.all id)) = _
        rw [show [] ++ (xs.map fun x => D.bl (iskB x)) = (xs.map iskB).map D.bl by simp, blsOf_map]
        simp
      · show D.bl _ = D.bl (_ && _)
        rw [show (decide (1 ≤ (xs.length : Int)) && decide ((xs.length : Int) ≤ 4)) = true from h2]
        rfl
    · refine ⟨?_, trim_self _ _⟩
      show D.bl _ = D.bl (_ && _)
      rw [show (decide (1 ≤ (xs.length : Int)) && decide ((xs.length : Int) ≤ 4)) = false from h2]
      rfl
  | _ => first | exact call_pure (fn := f2) rfl rfl rfl | cases h
def numB : D → Int → Int → Bool
  | .int i, a, b => decide (a ≤ i) && decide (i ≤ b)
  | _, _, _ => false
theorem num_spec (n : Nat) {d : D} (h : tk d = true) (a b : Int) (S : Sto) : callN prog (n + 1) 0 [d, .int a, .int b] S = .ok (.bl (numB d a b)) S := by
  cases d with
  | int i =>
    refine eq_of_wp (wp_fn (fn := f0) rfl rfl ?_)
    dsimp only [List.map, Nat.sub, List.replicate, List.append, f0, ir0]
    walk_at "w"
    refine ⟨_, _, rfl, rfl, rfl, trim_self _ _⟩
  | _ => first | exact call_pure (fn := f0) rfl rfl rfl | cases h
theorem num2_spec (n : Nat) {d : D} (h : tk d = true) (a b : Int) (S : Sto) : callN prog (n + 1) 10 [d, .int a, .int b] S = .ok (.bl (numB d a b)) S := by
  cases d with
  | int i =>
    refine eq_of_wp (wp_fn (fn := f10) rfl rfl ?_)
    dsimp only [List.map, Nat.sub, List.replicate, List.append, f10, ir10]
    walk_at "w"
    refine ⟨_, _, rfl, rfl, rfl, trim_self _ _⟩
  | _ => first | exact call_pure (fn := f10) rfl rfl rfl | cases h
/-- what kdB says -/
def Kd (x : Str) : Prop := 1 ≤ (cs x).length ∧ (cs x).length ≤ 8 ∧ ∀ c ∈ cs x, c ∈ cs let26
theorem kd_of {x : Str} (h : Kd x) : kdB x = true := by
  obtain ⟨h1, h2, h3⟩ := h
  unfold kdB
  rw [cs_len]
  simp only [Bool.and_eq_true, decide_eq_true_eq, List.all_eq_true]
  exact ⟨⟨by omega, by omega⟩, h3⟩
section
variable {n : Nat} {s : Sr} {R : Sto} {Q : D → Sto → Prop}
theorem word_spec (hs : s.ok) (q : ∀ x s', Kd x → Sr.ok s' → Q (.str x) (s'.so :: R)) : WP (callN prog (n + 3) 6 [.loc 0] (s.so :: R)) Q := by
  refine wp_fn (fn := f6) rfl rfl ?_
  dsimp only [List.map, Nat.sub, List.replicate, List.append, f6, ir6]
  walk_at "w"
  refine ⟨rfl, ?_⟩
  walk_at "w"
  refine draw_spec P4 hs (by decide) (by decide) fun k s1 h1 h2 h3 => ?_
  walk_at "w"
  refine ⟨_, if_pos (by constructor <;> omega), ?_⟩
  refine ⟨by rw [List.length_map, List.length_range]; omega, ?_⟩
  refine wp_loopC (fun acc S => ∃ l : List Nat, acc = l.map (fun c => D.str (oneS c)) ∧ (∀ c ∈ l, c ∈ cs let26) ∧ ∃ s' : Sr, s'.ok ∧ S = s'.so :: R) ⟨[], rfl, by simp, s1, h3, rfl⟩ ?_ ?_
  · rintro x hx acc S ⟨l, rfl, hl, s2, hs2, rfl⟩
    obtain ⟨j, hj, rfl⟩ := List.mem_map.mp hx
    refine ⟨_, rfl, wp_turn ?_⟩
    walk_at "w"
    refine of_str P5 P4 hs2 (by decide) (by decide) fun c s3 hc hs3 => ?_
    exact ⟨_, rfl, l ++ [c], by simp, by
      intro c' hc'
      rcases List.mem_append.mp hc' with h | h
      · exact hl c' h
      · rw [List.mem_singleton.mp h]; exact hc, s3, hs3, rfl⟩
  · rintro ys S ⟨l, hl, hc, s2, hs2, rfl⟩ hlen
    rw [List.nil_append] at hl
    subst hl
    rw [List.length_map, List.length_map, List.length_range] at hlen
    obtain ⟨x, hx, e⟩ := join_ones l (by omega) (s2.so :: R)
    refine wps_nil ?_
    rw [List.nil_append, e]
    refine (congrArg (Q _) (trim_len _ (by rfl))).mpr ?_
    refine q x s2 ⟨by rw [hx]; omega, by rw [hx]; omega, by rw [hx]; exact hc⟩ hs2
theorem pool_ne (fs : List Str) (h : fs.length ≤ 2) : ∃ c ∈ cs ("abcdefghij" : Str), oneS c ∉ fs := by
  have h97 : (97 : Nat) ∈ cs ("abcdefghij" : Str) := by decide
  have h98 : (98 : Nat) ∈ cs ("abcdefghij" : Str) := by decide
  have h99 : (99 : Nat) ∈ cs ("abcdefghij" : Str) := by decide
  by_cases h1 : oneS 97 ∈ fs
  · by_cases h2 : oneS 98 ∈ fs
    · refine ⟨99, h99, fun h3 => ?_⟩
      match fs, h with
      | [], _ => cases h1
      | [a], _ =>
        have e1 := List.mem_singleton.mp h1
        have e2 := List.mem_singleton.mp h2
        exact absurd (e1.trans e2.symm) (by decide)
      | [a, b], _ =>
        simp only [List.mem_cons, List.not_mem_nil, or_false] at h1 h2 h3
        have n1 : oneS 97 ≠ oneS 98 := by decide
        have n2 : oneS 97 ≠ oneS 99 := by decide
        have n3 : oneS 98 ≠ oneS 99 := by decide
        rcases h1 with h1 | h1 <;> rcases h2 with h2 | h2 <;> rcases h3 with h3 | h3 <;> first | exact n1 (h1.trans h2.symm) | exact n2 (h1.trans h3.symm) | exact n3 (h2.trans h3.symm)
    · exact ⟨98, h98, h2⟩
  · exact ⟨97, h97, h1⟩
theorem eqv_str2 (x y : Str) : PyData.eqv (.str x) (.str y) = decide (x = y) := by
  by_cases h : x = y
  · subst h; simp [PyData.eqv]
  · simp [PyData.eqv, h]
theorem toPs_strs (n : Nat) (l : List Str) : toPs n (l.map D.str) = some (l.map PyData.str) := by
  induction l with
  | nil => rfl
  | cons a r ih => simp [toPs, toP, ih]
theorem nin_strs (y : Str) (l : List Str) (S : Sto) (h : S[1]? = some (.lst (l.map D.str))) : cmpD .nin (.str y) (.loc 1) S = some (!decide (y ∈ l)) := by
  show (match lstOf (.loc 1) S with
    | some ys => (match toP 19 (.str y), toPs 19 ys with
      | some p, some qs => some (qs.any fun z => PyData.eqv z p)
      | _, _ => none)
    | none => none).map (!·) = _
  rw [show lstOf (.loc 1) S = some (l.map D.str) by show (match S[1]? with | some (.lst xs) => some xs | _ => none) = _; rw [h]]
  dsimp only
  rw [toPs_strs]
  show some (!((l.map PyData.str).any fun z => PyData.eqv z (.str y))) = _
  congr 2
  rw [List.any_map, Bool.eq_iff_iff, List.any_eq_true, decide_eq_true_eq]
  constructor
  · rintro ⟨z, hz, he⟩
    have := eqv_str2 z y ▸ (show PyData.eqv (.str z) (.str y) = true from he)
    rw [← of_decide_eq_true this]; exact hz
  · intro hy
    exact ⟨y, hy, by show PyData.eqv (.str y) (.str y) = true; rw [eqv_str2]; simp⟩
def notIn (l : List Str) : D → Bool
  | .str y => !decide (y ∈ l)
  | _ => false
theorem kd_like {x : Str} {c : Nat} {k : Int} (h1 : (cs x).length ≤ 7) (h2 : ∀ c ∈ cs x, c ∈ cs let26) (hc : c ∈ cs let26) (hk : 0 ≤ k) : Kd (cutS x none (some k) ++ oneS c ++ cutS x (some k) none) := by
  unfold Kd
  rw [cs_app, cs_app, cs_cut, cs_cut, cutD_to _ hk, cutD_from _ hk]
  have e : (cs (oneS c)).length = 1 := rfl
  refine ⟨by simp only [List.length_append, List.length_take, List.length_drop, e]; omega, by simp only [List.length_append, List.length_take, List.length_drop, e]; omega, ?_⟩
  intro c' h
  rcases List.mem_append.mp h with h | h
  · rcases List.mem_append.mp h with h | h
    · exact h2 _ (List.mem_of_mem_take h)
    · rw [List.mem_singleton.mp h]; exact hc
  · exact h2 _ (List.mem_of_mem_drop h)
theorem kinds_spec {s : Sr} {Q : D → Sto → Prop} (hs : s.ok) (q : ∀ a b c s', Kd a → Kd b → Kd c → Sr.ok s' → Q (.lst [.str a, .str b, .str c]) [s'.so]) : WP (callN prog (n + 5) 7 [.loc 0, .int 3] [s.so]) Q := by
  refine wp_fn (fn := f7) rfl rfl ?_
  dsimp only [List.map, Nat.sub, List.replicate, List.append, f7, ir7]
  walk_at "w"
  refine word_spec hs fun x s1 hx hs1 => ?_
  walk_at "w"
  have hx1 : (cs (cutS x none (some 7))).length ≤ 7 := by rw [cs_cut, cutD_to _ (by decide)]; simp; omega
  have hx2 : ∀ c ∈ cs (cutS x none (some 7)), c ∈ cs let26 := fun c hc => hx.2.2 c (cutD_sub (by rw [← cs_cut]; exact hc))
  generalize cutS x none (some 7) = w at hx1 hx2 ⊢
  refine draw_spec P4 hs1 (by omega) (by rw [cs_len]; omega) fun k s2 hk1 hk2 hs2 => ?_
  walk_at "w"
  refine wf_loop (fun i γ S => ∃ a b c d, γ = [some (.loc 0), some (.int 3), some (.str w), some (.loc 1), some (.int k), a, b, c, d] ∧ ∃ (s' : Sr) (fs : List Str), s'.ok ∧ (∀ f ∈ fs, Kd f) ∧ fs.length = i ∧ S = [s'.so, .lst (fs.map D.str)]) (i := 0) ⟨_, _, _, _, rfl, s2, [], hs2, by simp, rfl, rfl⟩ ?_ ?_
  · rintro j y γ S hj ⟨a, b, c, d, rfl, s3, fs, hs3, hfs, hlen, rfl⟩
    have hj3 : j < 3 := by
      have := (List.getElem?_eq_some_iff.mp hj).1
      simpa using this
    refine ⟨_, rfl, ?_⟩
    walk_at "w"
    refine of_str (z := let26) P5 P4 hs3 (by decide) (by decide) fun l s4 hl hs4 => ?_
    have hkd : Kd (cutS w none (some k) ++ oneS l ++ cutS w (some k) none) := kd_like hx1 hx2 hl hk1
    have hsz := hkd.2.1
    rw [← cs_len] at hsz
    have hsz2 : (cutS w none (some k) ++ oneS l).length ≤ 16777216 ∧ (cutS w none (some k)).length + 1 ≤ 16777216 ∧ (cutS w none (some k) ++ oneS l).length + (cutS w (some k) none).length ≤ 16777216 := by
      have e1 : (cutS w none (some k) ++ oneS l ++ cutS w (some k) none).length = (cutS w none (some k) ++ oneS l).length + (cutS w (some k) none).length := by rw [cs_len, cs_app, List.length_append]; rfl
      have e2 : (cutS w none (some k) ++ oneS l).length = (cutS w none (some k)).length + 1 := by rw [cs_len, cs_app, List.length_append]; rfl
      omega
    refine ⟨_, bd_cat hsz2.2.1, ?_⟩
    walk_at "w"
    refine ⟨_, bd_cat hsz2.2.2, ?_⟩
    generalize (cutS w none (some k) ++ oneS l ++ cutS w (some k) none) = like at hkd hsz ⊢
    walk_at "w"
    refine word_spec hs4 fun z s5 hz hs5 => ?_
    walk_at "w"
    refine ⟨_, bd_lst (Nat.le_of_ble_eq_true rfl), ?_⟩
    walk_at "w"
    refine ⟨Nat.le_of_ble_eq_true rfl, ?_⟩
    have hall : ∀ v ∈ ([D.str like, D.str z] ++ signs ("abcdefghij" : Str)), ∃ y, v = .str y ∧ Kd y := by
      intro v hv
      rcases List.mem_append.mp hv with h | h
      · rcases List.mem_cons.mp h with h | h
        · exact ⟨_, h, hkd⟩
        · exact ⟨_, List.mem_singleton.mp h, hz⟩
      · obtain ⟨c, hc, rfl⟩ := List.mem_map.mp h
        refine ⟨_, rfl, (show 1 ≤ 1 by decide), (show 1 ≤ 8 by decide), ?_⟩
        intro c' hc'
        rw [List.mem_singleton.mp hc']
        exact (show ∀ c ∈ cs ("abcdefghij" : Str), c ∈ cs let26 by decide) c hc
    refine wp_loopC_filter (notIn fs) id (fun v hv => ?_) ?_
    · obtain ⟨y, rfl, hy⟩ := hall v hv
      exact ⟨_, rfl, turn_if (ev_cmp rfl rfl (nin_strs y fs _ rfl)) rfl (fun _ => rfl)⟩
    · obtain ⟨c, hc, hn⟩ := pool_ne fs (by omega)
      rw [List.nil_append, List.map_id]
      have hin : D.str (oneS c) ∈ ([D.str like, D.str z] ++ signs ("abcdefghij" : Str)).filter (notIn fs) := by
        rw [List.mem_filter]
        refine ⟨List.mem_append.mpr (Or.inr (List.mem_map.mpr ⟨c, hc, rfl⟩)), ?_⟩
        show (!decide (oneS c ∈ fs)) = true
        simp [hn]
      have hmem : ∀ v ∈ ([D.str like, D.str z] ++ signs ("abcdefghij" : Str)).filter (notIn fs), ∃ y, v = .str y ∧ Kd y := fun v hv => hall v (List.mem_filter.mp hv).1
      generalize ([D.str like, D.str z] ++ signs ("abcdefghij" : Str)).filter (notIn fs) = pool at hin hmem ⊢
      match pool, hin, hmem with
      | v :: pool, _, hmem =>
        obtain ⟨y, rfl, hy⟩ := hmem v List.mem_cons_self
        walk_at "w"
        refine ⟨rfl, ?_⟩
        walk_at "w"
        refine ⟨_, idx_hd, wps_nil ?_⟩
        refine wp_eq (bm_app (n := 1) (S := [s5.so, .lst (fs.map D.str)]) (xs := fs.map D.str) rfl (by rw [List.length_map]; omega)) ?_
        refine ⟨_, _, _, _, rfl, s5, fs ++ [y], hs5, ?_, by simp; omega, by simp⟩
        intro f hf
        rcases List.mem_append.mp hf with h | h
        · exact hfs f h
        · rw [List.mem_singleton.mp h]; exact hy
  · rintro γ S ⟨a, b, c, d, rfl, s3, fs, hs3, hfs, hlen, rfl⟩
    replace hlen : fs.length = 3 := by rw [hlen]; simp
    walk_at "w"
    match fs, hlen, hfs with
    | [a, b, c], _, hfs =>
      refine ⟨_, rfl, ?_⟩
      refine (congrArg (Q _) (trim_src rfl)).mpr ?_
      exact q a b c s3 (hfs a (by simp)) (hfs b (by simp)) (hfs c (by simp)) hs3
theorem any_spec (hs : s.ok) (q : ∀ x s', tk x = true → (∀ xs, x = .tup xs → ∀ y ∈ xs, tk y = true) → linB x = false → Sr.ok s' → Q x (s'.so :: R)) : WP (callN prog (n + 3) 8 [.loc 0] (s.so :: R)) Q := by
  refine wp_fn (fn := f8) rfl rfl ?_
  dsimp only [List.map, Nat.sub, List.replicate, List.append, f8, ir8]
  walk_at "w"
  refine of_lst P5 P4 hs (by decide) (Nat.lt_of_lt_of_le (show 13 < 14 by decide) (by decide)) fun x s1 hx hs1 => ?_
  refine (congrArg (Q _) (trim_len _ (by rfl))).mpr ?_
  simp only [List.mem_cons, List.not_mem_nil, or_false] at hx
  have h1 : tk x = true ∧ linB x = false := by
    rcases hx with h | h | h | h | h | h | h | h | h | h | h | h | h <;> subst h <;> exact ⟨rfl, rfl⟩
  refine q x s1 h1.1 ?_ h1.2 hs1
  intro xs hxs
  subst hxs
  rcases hx with h | h | h | h | h | h | h | h | h | h | h | h | h <;> first | cases h | (injection h with h; subst h)
  · intro y hy; cases hy
  · intro y hy
    exact (List.all_eq_true.mp (show ([D.int 1, D.int 2].all tk) = true from rfl)) y hy
  · intro y hy
    exact (List.all_eq_true.mp (show ([D.int 0, D.str "0"].all tk) = true from rfl)) y hy
end
theorem src_spec (n : Nat) (ns : List Int) : ∃ s : Sr, s.ok ∧ callN prog (n + 1) 3 [.scr ns] [] = .ok (.loc 0) [s.so] :=
  ⟨⟨cutD ns none (some 63), 0, 0, 10024, 0⟩, ⟨Int.le_refl 0, Int.le_refl 0, (by decide : (0 : Int) ≤ 10024), (by decide : (10024 : Int) < 2147483549)⟩, rfl⟩
theorem bent_no {x : Str} {c : Nat} {k : Int} (hc : c ∉ cs let26) : iskB (.str (cutS x none (some k) ++ oneS c ++ cutS x (some k) none)) = false := by
  show kdB _ = false
  unfold kdB
  rw [Bool.and_eq_false_iff]
  right
  rw [List.all_eq_false]
  refine ⟨c, ?_, by simpa using hc⟩
  rw [cs_app, cs_app]
  exact List.mem_append.mpr (Or.inl (List.mem_append.mpr (Or.inr (List.mem_singleton.mpr rfl))))
theorem same_bls {n : Nat} {xs : List D} {S : Sto} (h : xs.length ≤ 16777216) (hb : ∀ x ∈ xs, ∃ b, x = .bl b) : callN prog (n + 2) 9 [.lst xs, .lst xs] S = .ok (.bl true) S :=
  same_self (P := prog) (f := 9) P9 (n + 1) (.lst xs) S ⟨h, fun x hx => by
    obtain ⟨b, rfl⟩ := hb x hx
    cases n <;> trivial⟩
theorem bent_ones {v : D} (h : v ∈ [D.str "A", .str "1", .str " ", .str "-", .str "_", .str ",", .str "\n"]) : ∃ c, v = .str (oneS c) ∧ c ∉ cs let26 := by
  simp only [List.mem_cons, List.not_mem_nil, or_false] at h
  rcases h with h | h | h | h | h | h | h <;> subst h
  · exact ⟨65, rfl, by decide⟩
  · exact ⟨49, rfl, by decide⟩
  · exact ⟨32, rfl, by decide⟩
  · exact ⟨45, rfl, by decide⟩
  · exact ⟨95, rfl, by decide⟩
  · exact ⟨44, rfl, by decide⟩
  · exact ⟨10, rfl, by decide⟩
theorem cut_len (x : Str) (lo hi : Option Int) : (cutS x lo hi).length ≤ x.length := by
  rw [cs_len, cs_cut, cs_len]
  unfold cutD
  simp
  omega
theorem app_len (x y : Str) : (x ++ y).length = x.length + y.length := by rw [cs_len, cs_app, List.length_append]; rfl
end Lw
namespace Lw
open PySem Itp L2
local macro_rules | `(tactic| walk_at "w1") => `(tactic| first
  | ((with_reducible show WP (ev _ _ _ _) _); first
    | ((with_reducible show WP (ev _ (E.var _) _ _) _); refine wp_var rfl ?_)
    | with_reducible refine wp_int ?_
    | with_reducible refine wp_str ?_
    | with_reducible refine wp_bl ?_
    | with_reducible refine wp_non ?_
    | with_reducible refine wp_idx ?_
    | with_reducible refine wp_bin ?_
    | with_reducible refine wp_call ?_
    | with_reducible refine wp_lst ?_
    | with_reducible refine wp_cmp ?_
    | with_reducible refine wp_tup ?_
    | with_reducible refine wp_slc ?_
    | with_reducible refine wp_bf ?_
    | with_reducible refine wp_not ?_
    | with_reducible refine wp_isi ?_
    | with_reducible refine wp_bop ?_
    | with_reducible refine wp_lc ?_
    | with_reducible refine wp_bm ?_
    | with_reducible refine wp_gint ?_
    | with_reducible refine wp_gstr ?_
    | with_reducible refine wp_neg ?_
    | with_reducible refine wp_chn ?_
    | with_reducible refine wp_ite ?_
    | with_reducible refine wp_new ?_
    | with_reducible refine wp_spt ?_
    | with_reducible refine wp_isT ?_
    | with_reducible refine wp_callP ?_
    | with_reducible refine wp_frz ?_)
  | ((with_reducible show WP (evs _ _ _ _) _); first
    | with_reducible refine wps_cons ?_
    | with_reducible refine wps_nil ?_)
  | ((with_reducible show WF (exs _ _ _ _) _ _); first
    | with_reducible refine wfs_cons ?_
    | with_reducible refine wfs_nil ?_)
  | ((with_reducible show WF (ex _ _ _ _) _ _); first
    | with_reducible refine wf_set ?_
    | with_reducible refine wf_asg ?_
    | with_reducible refine wf_par ?_
    | with_reducible refine wf_idx ?_
    | with_reducible refine wf_expr ?_
    | with_reducible refine wf_ret ?_
    | with_reducible refine wf_if ?_
    | with_reducible refine wf_for ?_)
  | ((with_reducible show WP (evB _ _ _ _ _) _); first
    | with_reducible refine wpB_a ?_
    | with_reducible refine wpB_o ?_
    | with_reducible refine wpB_one ?_)
  | ((with_reducible show WP (evO _ _ _ _) _); first
    | with_reducible refine wpO_none ?_
    | with_reducible refine wpO_some ?_)
  | ((with_reducible show Exists _); first
    | ((with_reducible show ∃ z, truD _ _ = some z ∧ _); refine ⟨_, rfl, ?_⟩)
    | ((with_reducible show ∃ z, cmpD _ _ _ _ = some z ∧ _); refine ⟨_, rfl, ?_⟩)
    | ((with_reducible show ∃ z, idxD _ _ _ = some z ∧ _); refine ⟨_, rfl, ?_⟩)
    | ((with_reducible show ∃ z, slcD _ _ _ _ = some z ∧ _); refine ⟨_, rfl, ?_⟩)
    | ((with_reducible show ∃ z, isD _ _ _ = some z ∧ _); refine ⟨_, rfl, ?_⟩)
    | ((with_reducible show ∃ z, isAny _ _ _ = some z ∧ _); refine ⟨_, rfl, ?_⟩)
    | ((with_reducible show ∃ z, bfD _ _ _ = some z ∧ _); refine ⟨_, rfl, ?_⟩)
    | ((with_reducible show ∃ z, itD _ _ _ = some z ∧ _); refine ⟨_, rfl, ?_⟩)
    | ((with_reducible show ∃ z, pick _ _ = some z ∧ _); refine ⟨_, rfl, ?_⟩)
    | ((with_reducible show ∃ z, setTg _ _ _ = some z ∧ _); refine ⟨_, rfl, ?_⟩)
    | ((with_reducible show ∃ z, binD BO.add (D.int _) (D.int _) _ = some z ∧ _); refine ⟨_, rfl, ?_⟩)
    | ((with_reducible show ∃ z, binD BO.sub _ _ _ = some z ∧ _); refine ⟨_, rfl, ?_⟩)
    | ((with_reducible show ∃ z, binD BO.mul _ _ _ = some z ∧ _); refine ⟨_, rfl, ?_⟩)
    | ((with_reducible show ∃ z, binD BO.mod _ _ _ = some z ∧ _); refine ⟨_, rfl, ?_⟩)
    | ((with_reducible show ∃ z, binD BO.fdiv _ _ _ = some z ∧ _); refine ⟨_, rfl, ?_⟩)
    | ((with_reducible show ∃ z, binD BO.pow _ _ _ = some z ∧ _); refine ⟨_, rfl, ?_⟩)
    | ((with_reducible show ∃ z, D.int _ = D.int z ∧ _); refine ⟨_, rfl, ?_⟩)
    | ((with_reducible show ∃ z, D.loc _ = D.loc z ∧ _); refine ⟨_, rfl, ?_⟩)
    | ((with_reducible show ∃ z, D.lst _ = D.lst z ∧ _); refine ⟨_, rfl, ?_⟩))
  | ((with_reducible show And _ _); first
    | ((with_reducible refine two_t ?hk ?_); (case hk => exact rfl))
    | ((with_reducible refine two_f ?hk ?_); (case hk => exact rfl))))
local macro_rules | `(tactic| walk_at "w") => `(tactic| repeat walk_at "w1")
def body12 : List Itp.St := match ir12.getD 1 .pass with | .for _ _ _ b => b | _ => []
theorem turn_spec {n : Nat} {ns : List Int} {s : Sr} (hs : s.ok) {Q : D → Sto → Prop} {N : Gm → Sto → Prop} {a2 a3 a4 a5 a6 a7 a8 a9 a10 a11 a12 a13 a14 a15 a16 a17 a18 : Option D} (q : ∀ (s : Sr) (a2 a3 a4 a5 a6 a7 a8 a9 a10 a11 a12 a13 a14 a15 a16 a17 a18 : Option D), s.ok → N [some (.scr ns), some (.loc 0), a2, a3, a4, a5, a6, a7, a8, a9, a10, a11, a12, a13, a14, a15, a16, a17, a18] [s.so]) : WF (exs (callN prog (n + 10)) body12 [some (.scr ns), some (.loc 0), a2, a3, a4, a5, a6, a7, a8, a9, a10, a11, a12, a13, a14, a15, a16, a17, a18] [s.so]) N Q := by
  unfold body12
  dsimp only [ir12, List.getD, List.getElem?_cons_succ, List.getElem?_cons_zero, Option.getD]
  walk_at "w"
  refine kinds_spec hs fun ka kb kc s1 hka hkb hkc hs1 => ?_
  have hla : ka.length ≤ 8 := hka.2.1
  have hlb : kb.length ≤ 8 := hkb.2.1
  walk_at "w"
  refine draw_spec P4 hs1 (by omega) (by omega) fun k s2 hk1 hk2 hs2 => ?_
  walk_at "w"
  refine of_lst P5 P4 hs2 (by decide) (Nat.lt_of_lt_of_le (show 7 < 14 by decide) (by decide)) fun v s3 hv hs3 => ?_
  obtain ⟨c, rfl, hc⟩ := bent_ones hv
  have hc1 := cut_len ka none (some k)
  have hc2 := cut_len ka (some k) none
  have hc3 : (oneS c).length = 1 := rfl
  refine ⟨_, bd_cat (by omega), ?_⟩
  walk_at "w"
  refine ⟨_, bd_cat (by rw [app_len]; omega), ?_⟩
  have hbent := bent_no (x := ka) (k := k) hc
  generalize cutS ka none (some k) ++ oneS c ++ cutS ka (some k) none = bent at hbent ⊢
  walk_at "w"
  refine ⟨_, bd_cat (b := "abcdefgh") (by have : Str.length "abcdefgh" = 8 := (by decide); omega), ?_⟩
  walk_at "w"
  refine of_lst P5 P4 hs3 (by decide) (Nat.lt_of_lt_of_le (show 2 < 14 by decide) (by decide)) fun v s4 hv hs4 => ?_
  have hv2 : ∃ i, v = .int i := by
    simp only [List.mem_cons, List.not_mem_nil, or_false] at hv
    rcases hv with h | h <;> exact ⟨_, h⟩
  obtain ⟨i, rfl⟩ := hv2
  walk_at "w"
  refine ⟨Nat.le_of_ble_eq_true rfl, wp_loopC_map (fun x => .bl (iskB x)) (fun x hx => ⟨_, rfl, turn_nif (ev_call rfl (kd_spec _ (List.all_eq_true.mp (show List.all _ tk = true from rfl) x hx) _))⟩) ?_⟩
  walk_at "w"
  refine ⟨Nat.le_of_ble_eq_true rfl, wp_loopC_map (fun x => .bl (iskB x)) (fun x hx => ⟨_, rfl, turn_nif (ev_call rfl (kd2_spec _ (List.all_eq_true.mp (show List.all _ tk = true from rfl) x hx) _))⟩) ?_⟩
  walk_at "w"
  refine wp_eq (same_bls (by rw [List.nil_append, List.length_map]; exact Nat.le_of_ble_eq_true rfl) (fun x hx => by
    rw [List.nil_append] at hx
    obtain ⟨y, _, rfl⟩ := List.mem_map.mp hx
    exact ⟨_, rfl⟩)) ?_
  walk_at "w"
  refine draw_spec P4 hs4 (by decide) (by decide) fun lo s5 hlo1 hlo2 hs5 => ?_
  walk_at "w"
  refine draw_spec P4 hs5 (by decide) (by decide) fun hi s6 hhi1 hhi2 hs6 => ?_
  walk_at "w"
  refine draw_spec P4 hs6 (by decide) (by decide) fun num s7 hnu1 hnu2 hs7 => ?_
  walk_at "w"
  refine ⟨rfl, ?_⟩
  walk_at "w"
  refine any_spec hs7 fun odd s8 ho1 ho2 ho3 hs8 => ?_
  walk_at "w"
  refine wp_eq (num_spec _ rfl _ _ _) ?_
  walk_at "w"
  refine wp_eq (num_spec _ rfl _ _ _) ?_
  walk_at "w"
  refine wp_eq (num_spec _ ho1 _ _ _) ?_
  walk_at "w"
  refine ⟨_, _, rfl, rfl, ?_⟩
  walk_at "w"
  refine wp_eq (num2_spec _ ho1 _ _ _) ?_
  walk_at "w"
  rw [show numB (.int (lo - 4)) (lo - 4) (lo - 4 + hi) = true by
    show (decide _ && decide _) = true
    rw [Bool.and_eq_true, decide_eq_true_eq, decide_eq_true_eq]; omega]
  refine wp_eq (same_bls (n := n + 8) (Nat.le_of_ble_eq_true rfl) (fun x hx => by
    simp only [List.mem_cons, List.not_mem_nil, or_false] at hx
    rcases hx with h | h | h <;> exact ⟨_, h⟩)) ?_
  walk_at "w"
  refine draw_spec P4 hs8 (by decide) (by decide) fun m s9 hm1 hm2 hs9 => ?_
  walk_at "w"
  refine ⟨_, if_pos (by constructor <;> omega), ?_⟩
  refine ⟨by rw [List.length_map, List.length_range]; omega, ?_⟩
  refine wp_loopC (fun acc S => ∃ l : List Str, acc = l.map D.str ∧ (∀ y ∈ l, Kd y) ∧ ∃ s' : Sr, s'.ok ∧ S = [s'.so]) ⟨[], rfl, by simp, s9, hs9, rfl⟩ ?_ ?_
  · rintro x hx acc S ⟨l, rfl, hl, s', hs', rfl⟩
    obtain ⟨j, hj, rfl⟩ := List.mem_map.mp hx
    refine ⟨_, rfl, wp_turn ?_⟩
    walk_at "w"
    refine of_lst P5 P4 hs' (Nat.le_of_ble_eq_true rfl) (Nat.lt_of_lt_of_le (show 3 < 14 by decide) (by decide)) fun v s2 hv hs2 => ?_
    have hv2 : ∃ y, v = .str y ∧ Kd y := by
      simp only [List.mem_cons, List.not_mem_nil, or_false] at hv
      rcases hv with h | h | h
      · exact ⟨_, h, hka⟩
      · exact ⟨_, h, hkb⟩
      · exact ⟨_, h, hkc⟩
    obtain ⟨y, rfl, hy⟩ := hv2
    exact ⟨_, rfl, l ++ [y], by simp, by
      intro c' hc'
      rcases List.mem_append.mp hc' with h | h
      · exact hl c' h
      · rw [List.mem_singleton.mp h]; exact hy, s2, hs2, rfl⟩
  · rintro ys S ⟨l, hl, hkl, s10, hs10, rfl⟩ hlen
    rw [List.nil_append] at hl
    subst hl
    rw [List.length_map, List.length_map, List.length_range] at hlen
    rw [List.nil_append]
    have hL : (l.map D.str).length = l.length := List.length_map _
    walk_at "w"
    refine draw_spec P4 hs10 (by omega) (by omega) fun sp s11 hsp1 hsp2 hs11 => ?_
    walk_at "w"
    refine of_lst P5 P4 hs11 (Nat.le_of_ble_eq_true rfl) (Nat.lt_of_lt_of_le (show 4 < 14 by decide) (by decide)) fun v s12 hv hs12 => ?_
    have hv2 : tk v = true ∧ iskB v = false := by
      simp only [List.mem_cons, List.not_mem_nil, or_false] at hv
      rcases hv with h | h | h | h <;> subst h
      · exact ⟨rfl, hbent⟩
      · exact ⟨rfl, rfl⟩
      · exact ⟨rfl, rfl⟩
      · exact ⟨rfl, rfl⟩
    obtain ⟨hv3, hv4⟩ := hv2
    walk_at "w"
    have hcl : ∀ lo hi, (cutD (l.map D.str) lo hi).length ≤ l.length := by
      intro lo hi
      unfold cutD
      simp
      omega
    have hc1 := hcl none (some sp)
    have hc2 := hcl (some sp) none
    refine ⟨_, bd_tup (by simp only [List.length_cons, List.length_nil]; omega), ?_⟩
    walk_at "w"
    refine ⟨_, bd_tup (by simp only [List.length_append, List.length_cons, List.length_nil]; omega), ?_⟩
    walk_at "w"
    refine ⟨_, _, rfl, rfl, ?_⟩
    walk_at "w"
    refine ⟨Nat.le_of_ble_eq_true rfl, ?_⟩
    have htk : ∀ lo hi, ∀ y ∈ cutD (l.map D.str) lo hi, tk y = true := by
      intro lo hi y hy
      obtain ⟨z, _, rfl⟩ := List.mem_map.mp (cutD_sub hy)
      rfl
    refine wp_loopC_map (fun x => .bl (linB x)) (fun x hx => ?_) ?_
    · simp only [List.mem_cons, List.not_mem_nil, or_false] at hx
      rcases hx with h | h | h | h <;> subst h
      · exact ⟨_, rfl, turn_nif (ev_call rfl (lin_spec _ rfl (fun xs e y hy => by
          injection e with e; subst e
          obtain ⟨z, _, rfl⟩ := List.mem_map.mp hy
          rfl) _))⟩
      · exact ⟨_, rfl, turn_nif (ev_call rfl (lin_spec _ rfl (fun xs e y hy => by cases e) _))⟩
      · exact ⟨_, rfl, turn_nif (ev_call rfl (lin_spec _ rfl (fun xs e y hy => by
          injection e with e; subst e
          rcases List.mem_append.mp hy with h | h
          · rcases List.mem_append.mp h with h | h
            · exact htk _ _ y h
            · rw [List.mem_singleton.mp h]; exact hv3
          · exact htk _ _ y h) _))⟩
      · exact ⟨_, rfl, turn_nif (ev_call rfl (lin_spec _ ho1 ho2 _))⟩
    · walk_at "w"
      have e1 : linB (.tup (l.map D.str)) = (decide (1 ≤ ((l.map D.str).length : Int)) && decide (((l.map D.str).length : Int) ≤ 4)) := by
        show (_ && List.all _ iskB) = _
        rw [show List.all (l.map D.str) iskB = true by
          rw [List.all_eq_true]
          intro y hy
          obtain ⟨z, hz, rfl⟩ := List.mem_map.mp hy
          exact kd_of (hkl z hz), Bool.and_true]
      have e3 : linB (.tup (cutD (l.map D.str) none (some sp) ++ [v] ++ cutD (l.map D.str) (some sp) none)) = false := by
        show (_ && List.all _ iskB) = _
        rw [Bool.and_eq_false_iff]
        right
        rw [List.all_eq_false]
        exact ⟨v, by simp, by rw [hv4]; decide⟩
      rw [List.nil_append, List.map_cons, List.map_cons, List.map_cons, List.map_cons, List.map_nil, e1, e3, ho3]
      refine wp_eq (same_bls (n := n + 8) (Nat.le_of_ble_eq_true rfl) (fun x hx => by
        simp only [List.mem_cons, List.not_mem_nil, or_false] at hx
        rcases hx with h | h | h | h <;> exact ⟨_, h⟩)) ?_
      walk_at "w"
      exact q s12 _ _ _ _ _ _ _ _ _ _ _ _ _ _ _ _ _ hs12
theorem law_true (ns : List Int) : ∃ S, callN prog 40 12 [.scr ns] [] = .ok (.bl true) S := by
  suffices h : WP (callN prog 40 12 [.scr ns] []) (fun d _ => d = .bl true) by
    obtain ⟨d, S, h1, rfl⟩ := h.ex
    exact ⟨S, h1⟩
  refine wp_fn (fn := f12) rfl rfl ?_
  dsimp only [List.map, Nat.sub, List.replicate, List.append, f12]
  obtain ⟨s, hs, e⟩ := src_spec 38 ns
  refine wfs_cons (wf_set (wp_call (wps_cons (wp_var rfl (wps_nil ?_)))))
  refine wp_eq e ?_
  refine wfs_cons (wf_for (wps_cons (wp_int (wps_nil ⟨_, rfl, ?_⟩))))
  refine wf_loop (fun _ γ S => ∃ (s : Sr) (a2 a3 a4 a5 a6 a7 a8 a9 a10 a11 a12 a13 a14 a15 a16 a17 a18 : Option D), s.ok ∧ γ = [some (.scr ns), some (.loc 0), a2, a3, a4, a5, a6, a7, a8, a9, a10, a11, a12, a13, a14, a15, a16, a17, a18] ∧ S = [s.so]) (i := 0) ⟨s, _, _, _, _, _, _, _, _, _, _, _, _, _, _, _, _, _, hs, rfl, rfl⟩ ?_ ?_
  · rintro j x γ S hj ⟨s, a2, a3, a4, a5, a6, a7, a8, a9, a10, a11, a12, a13, a14, a15, a16, a17, a18, hs, rfl, rfl⟩
    refine ⟨_, rfl, ?_⟩
    exact turn_spec (n := 29) hs fun s a2 a3 a4 a5 a6 a7 a8 a9 a10 a11 a12 a13 a14 a15 a16 a17 a18 hs => ⟨s, a2, a3, a4, a5, a6, a7, a8, a9, a10, a11, a12, a13, a14, a15, a16, a17, a18, hs, rfl, rfl⟩
  · rintro γ S ⟨s, a2, a3, a4, a5, a6, a7, a8, a9, a10, a11, a12, a13, a14, a15, a16, a17, a18, hs, rfl, rfl⟩
    walk_at "w"
    refine wp_eq (num_spec _ rfl _ _ _) ?_
    walk_at "w"
    refine wp_eq (kd_spec _ rfl _) ?_
    walk_at "w"
    refine wp_eq (lin_spec _ rfl (fun xs e y hy => by
      injection e with e; subst e
      exact List.all_eq_true.mp (show List.all [D.str "a", D.str "a"] tk = true from rfl) y hy) _) ?_
    rfl
theorem done : PySem.Challenge.rw_splitsent_k02_kinds_numbers_and_lines.Holds := walk fun ns _ => law_true ns
end Lw
theorem PySem.Challenge.cw_splitsent_k02_kinds_numbers_and_lines_holds : PySem.Challenge.rw_splitsent_k02_kinds_numbers_and_lines.Holds := by
  exact Lw.done
