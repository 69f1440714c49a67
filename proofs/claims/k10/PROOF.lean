import PyProof.Rows.All
import Wide.All
import OpenK.AllK
import Wide.FinOn
import HandS.ForMost
import HandS.Exc
import HandS.ExcOwn
import HandS.WordsExc
import HandS.Lambda
import HandS.Defaults
import HandS.Style
import HandS.IsInst
import HandS.Strs
import HandS.Conv
import HandS.Flow
import HandS.TryMany
import HandS.Walk
import HandS.Iter
import HandS.Zip
import HandS.Comp
import HandS.List
import HandS.Dict
import HandS.Ends
import HandS.EndTab
import HandS.HeadWalk
import HandS.HeadHook4
import KE.DataEq
import PySem.Challenge.RW_chipstack_k10_machines_step_by_step
import KE.KStateDown
import Lean
import HandS.Head0
import HandS.Head1
import HandS.Head2
import HandS.HeadEnd
import HandS.HeadHook1
import HandS.HeadHook2
import HandS.HeadHook3
import PyProof.Rows.BitMore
import HandS.Text
set_option Elab.async false
set_option linter.all false
set_option maxRecDepth 100000
set_option maxHeartbeats 1000000
/-! Y1: data by value, objects by number; how these stand beside the abstract heap. -/
namespace Y
open PySem PySem.Spec PyProof.Rows L2

/-- a value of the mirror: tuples by value, mutable objects by their number; fro: a list that is never written; ktp: a tuple of the module's own -/
inductive D where
  | non | bl (b : Bool) | int (i : Int) | str (s : Str) | tup (l : List D) | adr (i : Nat) | fro (l : List D) | ktp (l : List D)
/-- a mutable object of the mirror -/
inductive MO where
  | lst (l : List D)
  | dic (l : List (Key × D))
  | dit (l : List (List Key × D))
  | ins (c : Str) (fs : List (Str × D))

/-- the mirror's store: objects 0 to n less 1 -/
structure Sr where
  n : Nat
  f : Nat → Option MO
def Sr.put (S : Sr) (i : Nat) (m : MO) : Sr := ⟨S.n, fun j => if j = i then some m else S.f j⟩
def Sr.alloc (S : Sr) (m : MO) : Sr := ⟨S.n + 1, fun j => if j = S.n then some m else S.f j⟩

inductive R (α : Type) where
  | ok (a : α) (S : Sr) | exc (c : Str) (S : Sr) | bad
abbrev SM (α : Type) := Sr → R α
def SM.pure {α : Type} (a : α) : SM α := fun S => .ok a S
def SM.bind {α β : Type} (m : SM α) (k : α → SM β) : SM β := fun S => match m S with
  | .ok a S' => k a S'
  | .exc c S' => .exc c S'
  | .bad => .bad
instance : Monad SM where
  pure := SM.pure
  bind := SM.bind
abbrev Gm := List (Option D)
abbrev ME := Gm → SM D
abbrev MA := Gm → SM (List D)
abbrev MT := Gm → SM Bool
inductive RS where
  | nx (g : Gm) (S : Sr) | rt (d : D) (S : Sr) | bk (g : Gm) (S : Sr) | ct (g : Gm) (S : Sr) | ex (c : Str) (S : Sr) | bad
abbrev MS := Gm → Sr → RS

/-- what is fixed: the written part, the classes by name, the tables of code objects -/
structure Ct where
  K : PySem.W.Frag
  cls : Str → Addr
  T : List (Addr × Str)

/-- a list that is never written: frozen, or of the written part -/
def SqF (K : PySem.W.Frag) (H : Hp) (a : Addr) (xs : List V) : Prop :=
  (∃ o, H a = some (.frz o (.lst xs))) ∨
    ∃ (o : Obj) (its : Array Value) (n : Nat), K.lookup a = some o ∧ o.cls = .type "list" ∧ o.dict = none ∧ o.data = .seq its n ∧ its.size ≤ sizeLine ∧ Vals xs its.toList
/-- a tuple of the written part -/
def KT (K : PySem.W.Frag) (a : Addr) (xs : List V) : Prop :=
  ∃ (o : Obj) (its : Array Value) (n : Nat), K.lookup a = some o ∧ o.cls = .type "tuple" ∧ o.dict = none ∧ o.data = .seq its n ∧ its.size ≤ sizeLine ∧ Vals xs its.toList
theorem KT.sq {K : PySem.W.Frag} {H : Hp} {a : Addr} {xs : List V} (h : KT K a xs) : SqT K H a xs := by
  obtain ⟨o, its, n, h1, h2, _, h3, h4, h5⟩ := h
  exact .inr ⟨o, its, n, h1, h2, h3, h4, h5⟩
theorem SqF.sq {K : PySem.W.Frag} {H : Hp} {a : Addr} {xs : List V} (h : SqF K H a xs) : SqL K H a xs := by
  rcases h with ⟨o, h⟩ | h
  · exact .inl (.inr ⟨o, h⟩)
  · exact .inr h

section
variable (c : Ct) (m : Nat → Addr) (n : Nat) (H : Hp)
mutual
def RelD : D → V → Prop
  | .non, v => v = .non
  | .bl b, v => v = .bl b
  | .int i, v => v = .int i
  | .str s, v => v = .str s
  | .tup ds, v => ∃ a vs, v = .ref a ∧ H a = some (.tup vs) ∧ RelDs ds vs
  | .ktp ds, v => ∃ a vs, v = .ref a ∧ KT c.K a vs ∧ RelDs ds vs
  | .adr i, v => v = .ref (m i) ∧ i < n
  | .fro ds, v => ∃ a vs, v = .ref a ∧ SqF c.K H a vs ∧ RelDs ds vs
def RelDs : List D → List V → Prop
  | [], vs => vs = []
  | d :: ds, vs => ∃ v r, vs = v :: r ∧ RelD d v ∧ RelDs ds r
end
def RelK {κ : Type} : List (κ × D) → List (κ × V) → Prop
  | [], vs => vs = []
  | p :: ds, vs => ∃ v r, vs = (p.1, v) :: r ∧ RelD c m n H p.2 v ∧ RelK ds r
def RelO : MO → HO → Prop
  | .lst ds, o => ∃ vs, o = .lst vs ∧ RelDs c m n H ds vs
  | .dic ds, o => ∃ vs, o = .dK vs ∧ RelK c m n H ds vs
  | .dit ds, o => ∃ vs, o = .dT vs ∧ RelK c m n H ds vs
  | .ins q fs, o => ∃ dx vs, o = .ins (c.cls q) dx vs ∧ RelK c m n H fs vs
def RelG (g : Gm) (σ : L2.St) : Prop := g.length = σ.length ∧ ∀ (i : Nat) (d : D), g[i]? = some (some d) → ∃ v, σ[i]? = some (some v) ∧ RelD c m n H d v
end

/-- what stays readable -/
def Kp (H H' : Hp) : Prop := (∀ a xs, H a = some (.tup xs) → H' a = some (.tup xs)) ∧ ∀ a o u, H a = some (.frz o u) → H' a = some (.frz o u)
theorem Kp.refl (H : Hp) : Kp H H := ⟨fun _ _ h => h, fun _ _ _ h => h⟩
theorem Kp.trans {H H1 H2 : Hp} (a : Kp H H1) (b : Kp H1 H2) : Kp H H2 := ⟨fun p xs h => b.1 p xs (a.1 p xs h), fun p o u h => b.2 p o u (a.2 p o u h)⟩
theorem Kp.sqT {K : PySem.W.Frag} {H H' : Hp} (k : Kp H H') {a : Addr} {xs : List V} (h : SqT K H a xs) : SqT K H' a xs := by
  rcases h with (h | ⟨o, h⟩) | h
  · exact .inl (.inl (k.1 a xs h))
  · exact .inl (.inr ⟨o, k.2 a o _ h⟩)
  · exact .inr h
theorem Kp.sqF {K : PySem.W.Frag} {H H' : Hp} (k : Kp H H') {a : Addr} {xs : List V} (h : SqF K H a xs) : SqF K H' a xs := by
  rcases h with ⟨o, h⟩ | h
  · exact .inl ⟨o, k.2 a o _ h⟩
  · exact .inr h
section
variable {c : Ct} {m m' : Nat → Addr} {n n' : Nat} {H H' : Hp}
mutual
theorem RelD.mono (hm : ∀ i, i < n → m' i = m i) (hn : n ≤ n') (k : Kp H H') : ∀ {d : D} {v : V}, RelD c m n H d v → RelD c m' n' H' d v
  | .non, _, h => h
  | .bl _, _, h => h
  | .int _, _, h => h
  | .str _, _, h => h
  | .tup ds, _, h => by
    unfold RelD at h ⊢
    obtain ⟨a, vs, e, h1, h2⟩ := h
    exact ⟨a, vs, e, k.1 a vs h1, RelDs.mono hm hn k h2⟩
  | .ktp ds, _, h => by
    unfold RelD at h ⊢
    obtain ⟨a, vs, e, h1, h2⟩ := h
    exact ⟨a, vs, e, h1, RelDs.mono hm hn k h2⟩
  | .adr i, _, h => by
    unfold RelD at h ⊢
    exact ⟨by rw [h.1, hm i h.2], Nat.lt_of_lt_of_le h.2 hn⟩
  | .fro ds, _, h => by
    unfold RelD at h ⊢
    obtain ⟨a, vs, e, h1, h2⟩ := h
    exact ⟨a, vs, e, k.sqF h1, RelDs.mono hm hn k h2⟩
theorem RelDs.mono (hm : ∀ i, i < n → m' i = m i) (hn : n ≤ n') (k : Kp H H') : ∀ {ds : List D} {vs : List V}, RelDs c m n H ds vs → RelDs c m' n' H' ds vs
  | [], _, h => h
  | d :: ds, _, h => by
    unfold RelDs at h ⊢
    obtain ⟨v, r, e, h1, h2⟩ := h
    exact ⟨v, r, e, RelD.mono hm hn k h1, RelDs.mono hm hn k h2⟩
end
theorem RelK.mono {κ : Type} (hm : ∀ i, i < n → m' i = m i) (hn : n ≤ n') (k : Kp H H') : ∀ {ds : List (κ × D)} {vs : List (κ × V)}, RelK c m n H ds vs → RelK c m' n' H' ds vs
  | [], _, h => h
  | p :: ds, _, h => by
    unfold RelK at h ⊢
    obtain ⟨v, r, e, h1, h2⟩ := h
    exact ⟨v, r, e, RelD.mono hm hn k h1, RelK.mono hm hn k h2⟩
theorem RelO.mono (hm : ∀ i, i < n → m' i = m i) (hn : n ≤ n') (k : Kp H H') : ∀ {x : MO} {o : HO}, RelO c m n H x o → RelO c m' n' H' x o
  | .lst _, _, ⟨vs, e, h⟩ => ⟨vs, e, h.mono hm hn k⟩
  | .dic _, _, ⟨vs, e, h⟩ => ⟨vs, e, h.mono hm hn k⟩
  | .dit _, _, ⟨vs, e, h⟩ => ⟨vs, e, h.mono hm hn k⟩
  | .ins _ _, _, ⟨dx, vs, e, h⟩ => ⟨dx, vs, e, h.mono hm hn k⟩
theorem RelG.mono (hm : ∀ i, i < n → m' i = m i) (hn : n ≤ n') (k : Kp H H') {g : Gm} {σ : L2.St} (h : RelG c m n H g σ) : RelG c m' n' H' g σ := ⟨h.1, fun i d e => by
  obtain ⟨v, e1, r⟩ := h.2 i d e
  exact ⟨v, e1, r.mono hm hn k⟩⟩
theorem RelO.mut {x : MO} {o : HO} (h : RelO c m n H x o) : Mut (some o) ∧ (∀ xs, o ≠ .tup xs) ∧ (∀ a u, o ≠ .frz a u) ∧ ∀ ps, o ≠ .tbl ps := by
  cases x with
  | lst _ => obtain ⟨_, e, _⟩ := h; subst e; exact ⟨trivial, (fun _ z => nomatch z), (fun _ _ z => nomatch z), (fun _ z => nomatch z)⟩
  | dic _ => obtain ⟨_, e, _⟩ := h; subst e; exact ⟨trivial, (fun _ z => nomatch z), (fun _ _ z => nomatch z), (fun _ z => nomatch z)⟩
  | dit _ => obtain ⟨_, e, _⟩ := h; subst e; exact ⟨trivial, (fun _ z => nomatch z), (fun _ _ z => nomatch z), (fun _ z => nomatch z)⟩
  | ins _ _ => obtain ⟨_, _, e, _⟩ := h; subst e; exact ⟨trivial, (fun _ z => nomatch z), (fun _ _ z => nomatch z), (fun _ z => nomatch z)⟩
end

/-- the store stands in the heap, the i-th object at m i -/
structure Sim (c : Ct) (m : Nat → Addr) (S : Sr) (H : Hp) : Prop where
  dom : ∀ i x, S.f i = some x → i < S.n
  all : ∀ i, i < S.n → ∃ x, S.f i = some x
  inj : ∀ i j, i < S.n → j < S.n → m i = m j → i = j
  at_ : ∀ i x, S.f i = some x → ∃ o, H (m i) = some o ∧ RelO c m S.n H x o
  tabs : LamX.Tabs c.T H
theorem Sim.some_ {c : Ct} {m : Nat → Addr} {S : Sr} {H : Hp} (s : Sim c m S H) {i : Nat} (h : i < S.n) : ∃ o, H (m i) = some o ∧ Mut (some o) ∧ (∀ xs, o ≠ .tup xs) ∧ (∀ a u, o ≠ .frz a u) ∧ ∀ ps, o ≠ .tbl ps := by
  obtain ⟨x, e⟩ := s.all i h
  obtain ⟨o, e1, r⟩ := s.at_ i x e
  exact ⟨o, e1, r.mut⟩
theorem Sim.ne {c : Ct} {m : Nat → Addr} {S : Sr} {H : Hp} (s : Sim c m S H) {i : Nat} (h : i < S.n) {p : Addr} (hp : H p = none) : p ≠ m i := fun e => by
  obtain ⟨o, e1, _⟩ := s.some_ h
  rw [← e, hp] at e1
  cases e1
/-- from a store in a heap to another -/
structure Nxt (c : Ct) (m : Nat → Addr) (S : Sr) (H : Hp) (m' : Nat → Addr) (S' : Sr) (H' : Hp) : Prop where
  sim : Sim c m' S' H'
  mu : ∀ i, i < S.n → m' i = m i
  le : S.n ≤ S'.n
  new : ∀ i, S.n ≤ i → i < S'.n → ∀ o, H (m' i) = some o → ∃ ps, o = .tbl ps
  kp : Kp H H'
  fr : ∀ a o, (∀ i, i < S.n → a ≠ m i) → H a = some o → (∀ ps, o ≠ .tbl ps) → H' a = some o
section
variable {c : Ct} {m m1 m2 : Nat → Addr} {S S1 S2 : Sr} {H H1 H2 : Hp}
theorem Nxt.refl (s : Sim c m S H) : Nxt c m S H m S H :=
  ⟨s, fun _ _ => rfl, Nat.le_refl _, fun i h1 h2 => absurd (Nat.lt_of_lt_of_le h2 h1) (Nat.lt_irrefl _), Kp.refl H, fun _ _ _ h _ => h⟩
theorem Nxt.trans (s : Sim c m S H) (a : Nxt c m S H m1 S1 H1) (b : Nxt c m1 S1 H1 m2 S2 H2) : Nxt c m S H m2 S2 H2 := by
  refine ⟨b.sim, fun i h => (b.mu i (Nat.lt_of_lt_of_le h a.le)).trans (a.mu i h), Nat.le_trans a.le b.le, fun i h1 h2 o q => ?_, a.kp.trans b.kp, fun p o hp e ht => ?_⟩
  · by_cases hi : i < S1.n
    · rw [b.mu i hi] at q
      exact a.new i h1 hi o q
    · have hn := b.new i (Nat.le_of_not_lt hi) h2
      by_cases ht : ∃ ps, o = .tbl ps
      · exact ht
      · by_cases hj : ∃ j, j < S.n ∧ m2 i = m j
        · exfalso
          obtain ⟨j, hj, e⟩ := hj
          rw [← a.mu j hj] at e
          obtain ⟨o', e1, _, _, _, nt⟩ := a.sim.some_ (Nat.lt_of_lt_of_le hj a.le)
          rw [← e] at e1
          obtain ⟨ps, e2⟩ := hn o' e1
          exact nt ps e2
        · exact hn o (a.fr (m2 i) o (fun j hl e => hj ⟨j, hl, e⟩) q fun ps e => ht ⟨ps, e⟩)
  · refine b.fr p o (fun i hi e1 => ?_) (a.fr p o hp e ht) ht
    by_cases h : i < S.n
    · rw [a.mu i h] at e1
      exact hp i h e1
    · rw [e1] at e
      obtain ⟨ps, e2⟩ := a.new i (Nat.le_of_not_lt h) hi o e
      exact ht ps e2
theorem Nxt.relD (a : Nxt c m S H m1 S1 H1) {d : D} {v : V} (r : RelD c m S.n H d v) : RelD c m1 S1.n H1 d v := r.mono a.mu a.le a.kp
theorem Nxt.relDs (a : Nxt c m S H m1 S1 H1) {d : List D} {v : List V} (r : RelDs c m S.n H d v) : RelDs c m1 S1.n H1 d v := r.mono a.mu a.le a.kp
theorem Nxt.relG (a : Nxt c m S H m1 S1 H1) {g : Gm} {σ : L2.St} (r : RelG c m S.n H g σ) : RelG c m1 S1.n H1 g σ := r.mono a.mu a.le a.kp
end
end Y

set_option Elab.async false
set_option linter.all false
set_option maxRecDepth 100000
set_option maxHeartbeats 1000000
/-! Y2: the mirror's readings, and how they are put together. -/
namespace Y
open PySem PySem.Spec PyProof.Rows L2
section
variable {c : Ct} {m m1 m2 : Nat → Addr} {S S1 S2 : Sr} {H H1 H2 : Hp}
theorem kp_upd {p : Addr} {o : HO} (hp : ∀ q, H p = some q → (∀ b v, q ≠ .frz b v) ∧ ∀ xs, q ≠ .tup xs) : Kp H (upd H p o) := by
  refine ⟨fun a xs e => ?_, fun a b u e => ?_⟩
  · rw [upd_ne (fun z => ?_)]
    · exact e
    · subst z
      exact (hp _ e).2 xs rfl
  · rw [upd_ne (fun z => ?_)]
    · exact e
    · subst z
      exact (hp _ e).1 b u rfl
theorem tabs_upd {T : List (Addr × Str)} {p : Addr} {o : HO} (t : LamX.Tabs T H) (hp : ∀ q, H p = some q → (∀ ps, q ≠ .tbl ps) ∧ ∀ c q', q ≠ LamX.CodeO c q') : LamX.Tabs T (upd H p o) := fun q hq => by
  obtain ⟨ps, h1, h2, h3⟩ := t q hq
  refine ⟨ps, ?_, h2, fun pos cv hc => ?_⟩
  · rw [upd_ne (fun z => ?_)]
    · exact h1
    · rw [z] at h1
      exact (hp _ h1).1 ps rfl
  · obtain ⟨b, e1, e2⟩ := h3 pos cv hc
    refine ⟨b, e1, ?_⟩
    rw [upd_ne (fun z => ?_)]
    · exact e2
    · rw [z] at e2
      exact (hp _ e2).2 _ _ rfl
theorem none_any {p : Addr} (h : H p = none) {P : HO → Prop} : ∀ q, H p = some q → P q := fun q e => by
  rw [h] at e
  cases e
/-- a new object -/
def ext (m : Nat → Addr) (n : Nat) (p : Addr) : Nat → Addr := fun i => if i = n then p else m i
theorem ext_lt {n i : Nat} {p : Addr} (h : i < n) : ext m n p i = m i := if_neg (Nat.ne_of_lt h)
theorem ext_same {n : Nat} {p : Addr} : ext m n p n = p := if_pos rfl
theorem Nxt.alloc (s : Sim c m S H) {p : Addr} {x : MO} {o : HO} (hp : H p = none) (r : RelO c m S.n H x o) : Nxt c m S H (ext m S.n p) (S.alloc x) (upd H p o) := by
  have k : Kp H (upd H p o) := kp_upd (none_any hp)
  have mu : ∀ i, i < S.n → ext m S.n p i = m i := fun i h => ext_lt h
  refine ⟨⟨fun i y e => ?_, fun i h => ?_, fun i j hi hj e => ?_, fun i y e => ?_, tabs_upd s.tabs (none_any hp)⟩, mu, Nat.le_succ _, fun i h1 h2 u e => ?_, k, fun a u ha e _ => ?_⟩
  · show i < S.n + 1
    by_cases h : i = S.n
    · omega
    · have e' : S.f i = some y := (if_neg h).symm.trans e
      have := s.dom i y e'
      omega
  · have h : i < S.n + 1 := h
    by_cases q : i = S.n
    · exact ⟨x, if_pos q⟩
    · obtain ⟨y, e⟩ := s.all i (by omega)
      exact ⟨y, (if_neg q).trans e⟩
  · have hi : i < S.n + 1 := hi
    have hj : j < S.n + 1 := hj
    by_cases qi : i = S.n
    · by_cases qj : j = S.n
      · omega
      · rw [qi, ext_same, ext_lt (show j < S.n by omega)] at e
        exact absurd e (s.ne (by omega) hp)
    · by_cases qj : j = S.n
      · rw [qj, ext_same, ext_lt (show i < S.n by omega)] at e
        exact absurd e.symm (s.ne (by omega) hp)
      · rw [ext_lt (show i < S.n by omega), ext_lt (show j < S.n by omega)] at e
        exact s.inj i j (by omega) (by omega) e
  · by_cases h : i = S.n
    · have e' : some x = some y := (if_pos h).symm.trans e
      cases e'
      refine ⟨o, ?_, r.mono mu (Nat.le_succ _) k⟩
      rw [h, ext_same]
      exact upd_same
    · have e' : S.f i = some y := (if_neg h).symm.trans e
      have hi := s.dom i y e'
      obtain ⟨u, e1, r1⟩ := s.at_ i y e'
      refine ⟨u, ?_, r1.mono mu (Nat.le_succ _) k⟩
      rw [ext_lt hi, upd_ne (Ne.symm (s.ne hi hp))]
      exact e1
  · have h2 : i < S.n + 1 := h2
    have h : i = S.n := by omega
    rw [h, ext_same, hp] at e
    cases e
  · rw [upd_ne (ne_of_none e hp)]
    exact e
/-- a new tuple, or anything else that is new and no object of the store -/
theorem Nxt.fresh (s : Sim c m S H) {p : Addr} {o : HO} (hp : H p = none) : Nxt c m S H m S (upd H p o) := by
  have k : Kp H (upd H p o) := kp_upd (none_any hp)
  refine ⟨⟨s.dom, s.all, s.inj, fun i y e => ?_, tabs_upd s.tabs (none_any hp)⟩, fun _ _ => rfl, Nat.le_refl _, fun i h1 h2 => absurd (Nat.lt_of_lt_of_le h2 h1) (Nat.lt_irrefl _), k, fun a u _ e _ => ?_⟩
  · obtain ⟨u, e1, r1⟩ := s.at_ i y e
    refine ⟨u, ?_, r1.mono (fun _ _ => rfl) (Nat.le_refl _) k⟩
    rw [upd_ne (ne_of_none e1 hp)]
    exact e1
  · rw [upd_ne (ne_of_none e hp)]
    exact e
theorem codeO_not {x : MO} {o : HO} {n : Nat} (r : RelO c m n H x o) : ∀ b q, o ≠ LamX.CodeO b q := by
  intro b q z
  unfold LamX.CodeO at z
  cases x <;> (obtain ⟨_, r⟩ := r; first | (obtain ⟨e, _⟩ := r; rw [e] at z; cases z) | (obtain ⟨_, e, _⟩ := r; rw [e] at z; cases z))
/-- an object is changed -/
theorem Nxt.put (s : Sim c m S H) {i : Nat} {x0 x : MO} {o : HO} (hi : S.f i = some x0) (r : RelO c m S.n H x o) : Nxt c m S H m (S.put i x) (upd H (m i) o) := by
  have hl := s.dom i x0 hi
  obtain ⟨o0, e0, r0⟩ := s.at_ i x0 hi
  have q0 : ∀ q, H (m i) = some q → q = o0 := fun q e => by
    rw [e0] at e
    exact (Option.some.inj e).symm
  have k : Kp H (upd H (m i) o) := kp_upd fun q e => by
    rw [q0 q e]
    exact ⟨r0.mut.2.2.1, r0.mut.2.1⟩
  refine ⟨⟨fun j y e => ?_, fun j h => ?_, s.inj, fun j y e => ?_, tabs_upd s.tabs fun q e => by rw [q0 q e]; exact ⟨r0.mut.2.2.2, codeO_not r0⟩⟩, fun _ _ => rfl, Nat.le_refl _, fun i h1 h2 => absurd (Nat.lt_of_lt_of_le h2 h1) (Nat.lt_irrefl _), k, fun a u ha e _ => ?_⟩
  · show j < S.n
    by_cases h : j = i
    · rw [h]; exact hl
    · have e' : S.f j = some y := (if_neg h).symm.trans e
      exact s.dom j y e'
  · by_cases q : j = i
    · exact ⟨x, if_pos q⟩
    · obtain ⟨y, e⟩ := s.all j h
      exact ⟨y, (if_neg q).trans e⟩
  · by_cases h : j = i
    · have e' : some x = some y := (if_pos h).symm.trans e
      cases e'
      rw [h]
      exact ⟨o, upd_same, r.mono (fun _ _ => rfl) (Nat.le_refl _) k⟩
    · have e' : S.f j = some y := (if_neg h).symm.trans e
      obtain ⟨u, e1, r1⟩ := s.at_ j y e'
      refine ⟨u, ?_, r1.mono (fun _ _ => rfl) (Nat.le_refl _) k⟩
      rw [upd_ne (fun z => h (s.inj j i (s.dom j y e') hl z))]
      exact e1
  · rw [upd_ne (ha i hl)]
    exact e
/-- all but the tables stay -/
theorem Nxt.extN (s : Sim c m S H) (e : LamX.ExtN H H1) (t : LamX.Tabs c.T H1) : Nxt c m S H m S H1 := by
  have k : Kp H H1 := ⟨fun a xs h => e a _ h (fun _ z => nomatch z), fun a o u h => e a _ h (fun _ z => nomatch z)⟩
  refine ⟨⟨s.dom, s.all, s.inj, fun i y h => ?_, t⟩, fun _ _ => rfl, Nat.le_refl _, fun i h1 h2 => absurd (Nat.lt_of_lt_of_le h2 h1) (Nat.lt_irrefl _), k, fun a u _ h n => e a u h n⟩
  obtain ⟨o, e1, r⟩ := s.at_ i y h
  exact ⟨o, e (m i) o e1 r.mut.2.2.2, r.mono (fun _ _ => rfl) (Nat.le_refl _) k⟩
end

/-! ### what follows -/
section
variable (c : Ct) (E : XK) (m : Nat → Addr) (S : Sr) (H : Hp)
def PoE (Q : VK) : R D → Prop
  | .ok d S' => ∀ m' H' v, Nxt c m S H m' S' H' → RelD c m' S'.n H' d v → Q v H'
  | .exc q S' => ∀ m' H', Nxt c m S H m' S' H' → E (.ref (c.cls q)) none H'
  | .bad => False
def PoA (Q : List V → Hp → Prop) : R (List D) → Prop
  | .ok d S' => ∀ m' H' v, Nxt c m S H m' S' H' → RelDs c m' S'.n H' d v → Q v H'
  | .exc q S' => ∀ m' H', Nxt c m S H m' S' H' → E (.ref (c.cls q)) none H'
  | .bad => False
def PoT (Q : Bool → Hp → Prop) : R Bool → Prop
  | .ok b S' => ∀ m' H', Nxt c m S H m' S' H' → Q b H'
  | .exc q S' => ∀ m' H', Nxt c m S H m' S' H' → E (.ref (c.cls q)) none H'
  | .bad => False
def PoS (Z : Ends) : RS → Prop
  | .nx g S' => ∀ m' H' σ', Nxt c m S H m' S' H' → RelG c m' S'.n H' g σ' → Z.nx σ' H'
  | .rt d S' => ∀ m' H' v, Nxt c m S H m' S' H' → RelD c m' S'.n H' d v → Z.rt v H'
  | .bk g S' => ∀ m' H' σ', Nxt c m S H m' S' H' → RelG c m' S'.n H' g σ' → Z.bk σ' H'
  | .ct g S' => ∀ m' H' σ', Nxt c m S H m' S' H' → RelG c m' S'.n H' g σ' → Z.ct σ' H'
  | .ex q S' => ∀ m' H', Nxt c m S H m' S' H' → E (.ref (c.cls q)) none H'
  | .bad => False
end
section
variable {c : Ct} {E : XK} {m m1 : Nat → Addr} {S S1 : Sr} {H H1 : Hp}
theorem PoE.go (s : Sim c m S H) (a : Nxt c m S H m1 S1 H1) {Q : VK} {r : R D} (h : PoE c E m S H Q r) : PoE c E m1 S1 H1 Q r := by
  cases r with
  | ok d S' => exact fun m' H' v b r => h m' H' v (a.trans s b) r
  | exc q S' => exact fun m' H' b => h m' H' (a.trans s b)
  | bad => exact h
theorem PoA.go (s : Sim c m S H) (a : Nxt c m S H m1 S1 H1) {Q : List V → Hp → Prop} {r : R (List D)} (h : PoA c E m S H Q r) : PoA c E m1 S1 H1 Q r := by
  cases r with
  | ok d S' => exact fun m' H' v b r => h m' H' v (a.trans s b) r
  | exc q S' => exact fun m' H' b => h m' H' (a.trans s b)
  | bad => exact h
theorem PoT.go (s : Sim c m S H) (a : Nxt c m S H m1 S1 H1) {Q : Bool → Hp → Prop} {r : R Bool} (h : PoT c E m S H Q r) : PoT c E m1 S1 H1 Q r := by
  cases r with
  | ok d S' => exact fun m' H' b => h m' H' (a.trans s b)
  | exc q S' => exact fun m' H' b => h m' H' (a.trans s b)
  | bad => exact h
theorem PoS.go (s : Sim c m S H) (a : Nxt c m S H m1 S1 H1) {Z : Ends} {r : RS} (h : PoS c E m S H Z r) : PoS c E m1 S1 H1 Z r := by
  cases r with
  | nx g S' => exact fun m' H' v b r => h m' H' v (a.trans s b) r
  | rt d S' => exact fun m' H' v b r => h m' H' v (a.trans s b) r
  | bk g S' => exact fun m' H' v b r => h m' H' v (a.trans s b) r
  | ct g S' => exact fun m' H' v b r => h m' H' v (a.trans s b) r
  | ex q S' => exact fun m' H' b => h m' H' (a.trans s b)
  | bad => exact h
end
/-! ### readings of the mirror -/
section
variable (c : Ct) (E : XK)
def rdE (x : ME) : TE := fun σ H Q => ∃ m S g, Sim c m S H ∧ RelG c m S.n H g σ ∧ PoE c E m S H Q (x g S)
def rdA (x : MA) : TA := fun σ H Q => ∃ m S g, Sim c m S H ∧ RelG c m S.n H g σ ∧ PoA c E m S H Q (x g S)
def rdT (x : MT) : TT := fun σ H Q => ∃ m S g, Sim c m S H ∧ RelG c m S.n H g σ ∧ PoT c E m S H Q (x g S)
def rdS (x : MS) : TS := fun Z σ H => ∃ m S g, Sim c m S H ∧ RelG c m S.n H g σ ∧ PoS c E m S H Z (x g S)
end
/-! ### one after another -/
def mE (x : ME) (k : D → ME) : ME := fun g => SM.bind (x g) fun d => k d g
section
variable {c : Ct} {E : XK} {m : Nat → Addr} {S : Sr} {H : Hp} {g : Gm} {σ : L2.St}
theorem PoE.bind {α : Type} {Q : VK} {r : R α} {k : α → SM D} {d : α} {S1 : Sr} (e : r = .ok d S1) (h : PoE c E m S H Q (match r with | .ok a S' => k a S' | .exc q S' => .exc q S' | .bad => .bad)) : PoE c E m S H Q (k d S1) := by
  subst e
  exact h
/-- an expression, then what its value makes -/
theorem seqE {x : ME} {k : D → SM D} {Q QQ : VK} (s : Sim c m S H) (rg : RelG c m S.n H g σ) (h : PoE c E m S H Q (SM.bind (x g) k S))
    (hk : ∀ m1 S1 H1 d v, Nxt c m S H m1 S1 H1 → RelD c m1 S1.n H1 d v → PoE c E m1 S1 H1 Q (k d S1) → QQ v H1) : rdE c E x σ H QQ := by
  refine ⟨m, S, g, s, rg, ?_⟩
  unfold SM.bind at h
  cases e : x g S with
  | ok d S1 =>
    rw [e] at h
    exact fun m1 H1 v a r => hk m1 S1 H1 d v a r (PoE.go s a h)
  | exc q S1 =>
    rw [e] at h
    exact h
  | bad =>
    rw [e] at h
    exact h
theorem seqEA {x : MA} {k : List D → SM D} {Q : VK} {QQ : List V → Hp → Prop} (s : Sim c m S H) (rg : RelG c m S.n H g σ) (h : PoE c E m S H Q (SM.bind (x g) k S))
    (hk : ∀ m1 S1 H1 d v, Nxt c m S H m1 S1 H1 → RelDs c m1 S1.n H1 d v → PoE c E m1 S1 H1 Q (k d S1) → QQ v H1) : rdA c E x σ H QQ := by
  refine ⟨m, S, g, s, rg, ?_⟩
  unfold SM.bind at h
  cases e : x g S with
  | ok d S1 =>
    rw [e] at h
    exact fun m1 H1 v a r => hk m1 S1 H1 d v a r (PoE.go s a h)
  | exc q S1 =>
    rw [e] at h
    exact h
  | bad =>
    rw [e] at h
    exact h
theorem seqET {x : MT} {k : Bool → SM D} {Q : VK} {QQ : Bool → Hp → Prop} (s : Sim c m S H) (rg : RelG c m S.n H g σ) (h : PoE c E m S H Q (SM.bind (x g) k S))
    (hk : ∀ m1 S1 H1 b, Nxt c m S H m1 S1 H1 → PoE c E m1 S1 H1 Q (k b S1) → QQ b H1) : rdT c E x σ H QQ := by
  refine ⟨m, S, g, s, rg, ?_⟩
  unfold SM.bind at h
  cases e : x g S with
  | ok d S1 =>
    rw [e] at h
    exact fun m1 H1 a => hk m1 S1 H1 d a (PoE.go s a h)
  | exc q S1 =>
    rw [e] at h
    exact h
  | bad =>
    rw [e] at h
    exact h
theorem seqAE {x : ME} {k : D → SM (List D)} {Q : List V → Hp → Prop} {QQ : VK} (s : Sim c m S H) (rg : RelG c m S.n H g σ) (h : PoA c E m S H Q (SM.bind (x g) k S))
    (hk : ∀ m1 S1 H1 d v, Nxt c m S H m1 S1 H1 → RelD c m1 S1.n H1 d v → PoA c E m1 S1 H1 Q (k d S1) → QQ v H1) : rdE c E x σ H QQ := by
  refine ⟨m, S, g, s, rg, ?_⟩
  unfold SM.bind at h
  cases e : x g S with
  | ok d S1 =>
    rw [e] at h
    exact fun m1 H1 v a r => hk m1 S1 H1 d v a r (PoA.go s a h)
  | exc q S1 =>
    rw [e] at h
    exact h
  | bad =>
    rw [e] at h
    exact h
theorem seqAA {x : MA} {k : List D → SM (List D)} {Q : List V → Hp → Prop} {QQ : List V → Hp → Prop} (s : Sim c m S H) (rg : RelG c m S.n H g σ) (h : PoA c E m S H Q (SM.bind (x g) k S))
    (hk : ∀ m1 S1 H1 d v, Nxt c m S H m1 S1 H1 → RelDs c m1 S1.n H1 d v → PoA c E m1 S1 H1 Q (k d S1) → QQ v H1) : rdA c E x σ H QQ := by
  refine ⟨m, S, g, s, rg, ?_⟩
  unfold SM.bind at h
  cases e : x g S with
  | ok d S1 =>
    rw [e] at h
    exact fun m1 H1 v a r => hk m1 S1 H1 d v a r (PoA.go s a h)
  | exc q S1 =>
    rw [e] at h
    exact h
  | bad =>
    rw [e] at h
    exact h
theorem seqTE {x : ME} {k : D → SM Bool} {Q : Bool → Hp → Prop} {QQ : VK} (s : Sim c m S H) (rg : RelG c m S.n H g σ) (h : PoT c E m S H Q (SM.bind (x g) k S))
    (hk : ∀ m1 S1 H1 d v, Nxt c m S H m1 S1 H1 → RelD c m1 S1.n H1 d v → PoT c E m1 S1 H1 Q (k d S1) → QQ v H1) : rdE c E x σ H QQ := by
  refine ⟨m, S, g, s, rg, ?_⟩
  unfold SM.bind at h
  cases e : x g S with
  | ok d S1 =>
    rw [e] at h
    exact fun m1 H1 v a r => hk m1 S1 H1 d v a r (PoT.go s a h)
  | exc q S1 =>
    rw [e] at h
    exact h
  | bad =>
    rw [e] at h
    exact h
theorem seqTT {x : MT} {k : Bool → SM Bool} {Q : Bool → Hp → Prop} {QQ : Bool → Hp → Prop} (s : Sim c m S H) (rg : RelG c m S.n H g σ) (h : PoT c E m S H Q (SM.bind (x g) k S))
    (hk : ∀ m1 S1 H1 d, Nxt c m S H m1 S1 H1 → PoT c E m1 S1 H1 Q (k d S1) → QQ d H1) : rdT c E x σ H QQ := by
  refine ⟨m, S, g, s, rg, ?_⟩
  unfold SM.bind at h
  cases e : x g S with
  | ok d S1 =>
    rw [e] at h
    exact fun m1 H1 a => hk m1 S1 H1 d a (PoT.go s a h)
  | exc q S1 =>
    rw [e] at h
    exact h
  | bad =>
    rw [e] at h
    exact h
/-- .. within a statement -/
def toRS (r : R D) (k : D → Sr → RS) : RS := match r with
  | .ok d S => k d S
  | .exc q S => .ex q S
  | .bad => .bad
def toRSA (r : R (List D)) (k : List D → Sr → RS) : RS := match r with
  | .ok d S => k d S
  | .exc q S => .ex q S
  | .bad => .bad
def toRST (r : R Bool) (k : Bool → Sr → RS) : RS := match r with
  | .ok d S => k d S
  | .exc q S => .ex q S
  | .bad => .bad
theorem seqSE {x : ME} {k : D → Sr → RS} {Z : Ends} {QQ : VK} (s : Sim c m S H) (rg : RelG c m S.n H g σ) (h : PoS c E m S H Z (toRS (x g S) k))
    (hk : ∀ m1 S1 H1 d v, Nxt c m S H m1 S1 H1 → RelD c m1 S1.n H1 d v → PoS c E m1 S1 H1 Z (k d S1) → QQ v H1) : rdE c E x σ H QQ := by
  refine ⟨m, S, g, s, rg, ?_⟩
  cases e : x g S with
  | ok d S1 =>
    rw [e] at h
    exact fun m1 H1 v a r => hk m1 S1 H1 d v a r (PoS.go s a h)
  | exc q S1 =>
    rw [e] at h
    exact h
  | bad =>
    rw [e] at h
    exact h
theorem seqSA {x : MA} {k : List D → Sr → RS} {Z : Ends} {QQ : List V → Hp → Prop} (s : Sim c m S H) (rg : RelG c m S.n H g σ) (h : PoS c E m S H Z (toRSA (x g S) k))
    (hk : ∀ m1 S1 H1 d v, Nxt c m S H m1 S1 H1 → RelDs c m1 S1.n H1 d v → PoS c E m1 S1 H1 Z (k d S1) → QQ v H1) : rdA c E x σ H QQ := by
  refine ⟨m, S, g, s, rg, ?_⟩
  cases e : x g S with
  | ok d S1 =>
    rw [e] at h
    exact fun m1 H1 v a r => hk m1 S1 H1 d v a r (PoS.go s a h)
  | exc q S1 =>
    rw [e] at h
    exact h
  | bad =>
    rw [e] at h
    exact h
theorem seqST {x : MT} {k : Bool → Sr → RS} {Z : Ends} {QQ : Bool → Hp → Prop} (s : Sim c m S H) (rg : RelG c m S.n H g σ) (h : PoS c E m S H Z (toRST (x g S) k))
    (hk : ∀ m1 S1 H1 d, Nxt c m S H m1 S1 H1 → PoS c E m1 S1 H1 Z (k d S1) → QQ d H1) : rdT c E x σ H QQ := by
  refine ⟨m, S, g, s, rg, ?_⟩
  cases e : x g S with
  | ok d S1 =>
    rw [e] at h
    exact fun m1 H1 a => hk m1 S1 H1 d a (PoS.go s a h)
  | exc q S1 =>
    rw [e] at h
    exact h
  | bad =>
    rw [e] at h
    exact h
end
/-! ### a judgement's reading may be told otherwise -/
theorem PE.imp {X : Cx} {e : Expr} {t t' : TE} (h : PE X e t) (i : ∀ σ H Q, t' σ H Q → t σ H Q) : PE X e t' := ⟨fun pins s σ H Q I q => h.run pins s σ H Q I (i σ H Q q)⟩
theorem PT.imp {X : Cx} {e : Expr} {t t' : TT} (h : PT X e t) (i : ∀ σ H Q, t' σ H Q → t σ H Q) : PT X e t' := ⟨fun pins s σ H Q I q => h.run pins s σ H Q I (i σ H Q q)⟩
theorem PW.imp {X : Cx} {e : Expr} {t t' : TT} (h : PW X e t) (i : ∀ σ H Q, t' σ H Q → t σ H Q) : PW X e t' := ⟨fun wh pins s σ H Q I q => h.run wh pins s σ H Q I (i σ H Q q)⟩
theorem PA.imp {X : Cx} {e : List Expr} {t t' : TA} (h : PA X e t) (i : ∀ σ H Q, t' σ H Q → t σ H Q) : PA X e t' := ⟨fun pos pins s σ H Q I q => h.run pos pins s σ H Q I (i σ H Q q)⟩
theorem PS.imp {X : Cx} {e : Stmt} {t t' : TS} (h : PS X e t) (i : ∀ Z σ H, t' Z σ H → t Z σ H) : PS X e t' := ⟨fun pins s σ H Z I q => h.run pins s σ H Z I (i Z σ H q)⟩
theorem PSs.imp {X : Cx} {e : List Stmt} {t t' : TS} (h : PSs X e t) (i : ∀ Z σ H, t' Z σ H → t Z σ H) : PSs X e t' := ⟨fun pins s σ H Z I q => h.run pins s σ H Z I (i Z σ H q)⟩
end Y

set_option Elab.async false
set_option linter.all false
set_option maxRecDepth 100000
set_option maxHeartbeats 1000000
/-! Y3: rules of the mirror for expressions. -/
namespace Y
open PySem PySem.Spec PyProof.Rows L2
section
variable {c : Ct} {m : Nat → Addr} {n : Nat} {H : Hp} {v : V} {vs : List V}
theorem rd_non (h : RelD c m n H .non v) : v = .non := by unfold RelD at h; exact h
theorem rd_bl {b : Bool} (h : RelD c m n H (.bl b) v) : v = .bl b := by unfold RelD at h; exact h
theorem rd_int {i : Int} (h : RelD c m n H (.int i) v) : v = .int i := by unfold RelD at h; exact h
theorem rd_str {s : Str} (h : RelD c m n H (.str s) v) : v = .str s := by unfold RelD at h; exact h
theorem rd_adr {i : Nat} (h : RelD c m n H (.adr i) v) : v = .ref (m i) ∧ i < n := by unfold RelD at h; exact h
theorem rd_tup {l : List D} (h : RelD c m n H (.tup l) v) : ∃ a vs, v = .ref a ∧ H a = some (.tup vs) ∧ RelDs c m n H l vs := by unfold RelD at h; exact h
theorem rd_ktp {l : List D} (h : RelD c m n H (.ktp l) v) : ∃ a vs, v = .ref a ∧ KT c.K a vs ∧ RelDs c m n H l vs := by unfold RelD at h; exact h
theorem rd_fro {l : List D} (h : RelD c m n H (.fro l) v) : ∃ a vs, v = .ref a ∧ SqF c.K H a vs ∧ RelDs c m n H l vs := by unfold RelD at h; exact h
theorem rd_nil (h : RelDs c m n H [] vs) : vs = [] := by unfold RelDs at h; exact h
theorem rd_cons {d : D} {l : List D} (h : RelDs c m n H (d :: l) vs) : ∃ v r, vs = v :: r ∧ RelD c m n H d v ∧ RelDs c m n H l r := by unfold RelDs at h; exact h
theorem mk_non : RelD c m n H .non .non := by unfold RelD; rfl
theorem mk_bl {b : Bool} : RelD c m n H (.bl b) (.bl b) := by unfold RelD; rfl
theorem mk_int {i : Int} : RelD c m n H (.int i) (.int i) := by unfold RelD; rfl
theorem mk_str {s : Str} : RelD c m n H (.str s) (.str s) := by unfold RelD; rfl
theorem mk_adr {i : Nat} (h : i < n) : RelD c m n H (.adr i) (.ref (m i)) := by unfold RelD; exact ⟨rfl, h⟩
theorem mk_tup {l : List D} {a : Addr} (h : H a = some (.tup vs)) (r : RelDs c m n H l vs) : RelD c m n H (.tup l) (.ref a) := by unfold RelD; exact ⟨a, vs, rfl, h, r⟩
theorem mk_ktp {l : List D} {a : Addr} (h : KT c.K a vs) (r : RelDs c m n H l vs) : RelD c m n H (.ktp l) (.ref a) := by unfold RelD; exact ⟨a, vs, rfl, h, r⟩
theorem mk_nil : RelDs c m n H [] [] := by unfold RelDs; rfl
theorem mk_cons {d : D} {l : List D} (h : RelD c m n H d v) (r : RelDs c m n H l vs) : RelDs c m n H (d :: l) (v :: vs) := by unfold RelDs; exact ⟨v, vs, rfl, h, r⟩
theorem RelDs.length : ∀ {l : List D} {vs : List V}, RelDs c m n H l vs → l.length = vs.length
  | [], _, h => by rw [rd_nil h] <;> rfl
  | d :: l, _, h => by
    obtain ⟨v, r, e, _, h2⟩ := rd_cons h
    rw [e, List.length_cons, List.length_cons, RelDs.length h2]
theorem RelDs.get : ∀ {l : List D} {vs : List V} {i : Nat} {d : D}, RelDs c m n H l vs → l[i]? = some d → ∃ v, vs[i]? = some v ∧ RelD c m n H d v
  | [], _, _, _, _, e => by simp at e
  | x :: l, _, 0, d, h, e => by
    obtain ⟨v, r, e1, h1, h2⟩ := rd_cons h
    have e2 : x = d := by simpa using e
    subst e2
    exact ⟨v, by rw [e1]; rfl, h1⟩
  | x :: l, _, i + 1, d, h, e => by
    obtain ⟨v, r, e1, h1, h2⟩ := rd_cons h
    obtain ⟨w, e2, h3⟩ := RelDs.get (i := i) (d := d) h2 (by simpa using e)
    exact ⟨w, by rw [e1]; simpa using e2, h3⟩
theorem RelDs.getV : ∀ {l : List D} {vs : List V} {i : Nat} {v : V}, RelDs c m n H l vs → vs[i]? = some v → ∃ d, l[i]? = some d ∧ RelD c m n H d v
  | [], _, _, _, h, e => by rw [rd_nil h] at e; simp at e
  | x :: l, _, 0, v, h, e => by
    obtain ⟨w, r, e1, h1, h2⟩ := rd_cons h
    rw [e1] at e
    have e2 : w = v := by simpa using e
    subst e2
    exact ⟨x, rfl, h1⟩
  | x :: l, _, i + 1, v, h, e => by
    obtain ⟨w, r, e1, h1, h2⟩ := rd_cons h
    rw [e1] at e
    obtain ⟨d, e2, h3⟩ := RelDs.getV (i := i) (v := v) h2 (by simpa using e)
    exact ⟨d, by simpa using e2, h3⟩
theorem RelDs.append : ∀ {l k : List D} {vs ws : List V}, RelDs c m n H l vs → RelDs c m n H k ws → RelDs c m n H (l ++ k) (vs ++ ws)
  | [], _, _, _, h, q => by rw [rd_nil h]; exact q
  | x :: l, _, _, _, h, q => by
    obtain ⟨v, r, e1, h1, h2⟩ := rd_cons h
    rw [e1]
    exact mk_cons h1 (RelDs.append h2 q)
theorem RelDs.set : ∀ {l : List D} {vs : List V} {d : D} {v : V} (i : Nat), RelDs c m n H l vs → RelD c m n H d v → RelDs c m n H (l.set i d) (vs.set i v)
  | [], _, _, _, _, h, _ => by rw [rd_nil h]; exact mk_nil
  | x :: l, _, _, _, 0, h, q => by
    obtain ⟨v, r, e1, h1, h2⟩ := rd_cons h
    rw [e1]
    exact mk_cons q h2
  | x :: l, _, _, _, i + 1, h, q => by
    obtain ⟨v, r, e1, h1, h2⟩ := rd_cons h
    rw [e1]
    exact mk_cons h1 (RelDs.set i h2 q)
theorem RelDs.drop : ∀ {l : List D} {vs : List V} (i : Nat), RelDs c m n H l vs → RelDs c m n H (l.drop i) (vs.drop i)
  | _, _, 0, h => h
  | [], _, _ + 1, h => by rw [rd_nil h]; exact mk_nil
  | x :: l, _, i + 1, h => by
    obtain ⟨v, r, e1, h1, h2⟩ := rd_cons h
    rw [e1]
    exact RelDs.drop i h2
theorem RelDs.take : ∀ {l : List D} {vs : List V} (i : Nat), RelDs c m n H l vs → RelDs c m n H (l.take i) (vs.take i)
  | _, _, 0, _ => mk_nil
  | [], _, _ + 1, h => by rw [rd_nil h]; exact mk_nil
  | x :: l, _, i + 1, h => by
    obtain ⟨v, r, e1, h1, h2⟩ := rd_cons h
    rw [e1]
    exact mk_cons h1 (RelDs.take i h2)
theorem RelDs.eraseIdx : ∀ {l : List D} {vs : List V} (i : Nat), RelDs c m n H l vs → RelDs c m n H (l.eraseIdx i) (vs.eraseIdx i)
  | [], _, _, h => by rw [rd_nil h]; exact mk_nil
  | x :: l, _, 0, h => by
    obtain ⟨v, r, e1, h1, h2⟩ := rd_cons h
    rw [e1]
    exact h2
  | x :: l, _, i + 1, h => by
    obtain ⟨v, r, e1, h1, h2⟩ := rd_cons h
    rw [e1]
    exact mk_cons h1 (RelDs.eraseIdx i h2)
theorem RelDs.rep (k : Nat) {l : List D} {vs : List V} (h : RelDs c m n H l vs) : RelDs c m n H (List.replicate k l).flatten (List.replicate k vs).flatten := by
  induction k with
  | zero => exact mk_nil
  | succ k ih =>
    rw [List.replicate_succ, List.flatten_cons, List.replicate_succ, List.flatten_cons]
    exact h.append ih
theorem RelDs.reverse : ∀ {l : List D} {vs : List V}, RelDs c m n H l vs → RelDs c m n H l.reverse vs.reverse
  | [], _, h => by rw [rd_nil h]; exact mk_nil
  | x :: l, _, h => by
    obtain ⟨v, r, e1, h1, h2⟩ := rd_cons h
    rw [e1, List.reverse_cons, List.reverse_cons]
    exact (RelDs.reverse h2).append (mk_cons h1 mk_nil)
end
section
variable {c : Ct} {m : Nat → Addr} {S : Sr} {H : Hp}
theorem Sim.lst (s : Sim c m S H) {i : Nat} {l : List D} (e : S.f i = some (.lst l)) : ∃ vs, H (m i) = some (.lst vs) ∧ RelDs c m S.n H l vs := by
  obtain ⟨o, h1, vs, e1, h2⟩ := s.at_ i _ e
  subst e1
  exact ⟨vs, h1, h2⟩
theorem Sim.dic (s : Sim c m S H) {i : Nat} {l : List (Key × D)} (e : S.f i = some (.dic l)) : ∃ vs, H (m i) = some (.dK vs) ∧ RelK c m S.n H l vs := by
  obtain ⟨o, h1, vs, e1, h2⟩ := s.at_ i _ e
  subst e1
  exact ⟨vs, h1, h2⟩
theorem Sim.dit (s : Sim c m S H) {i : Nat} {l : List (List Key × D)} (e : S.f i = some (.dit l)) : ∃ vs, H (m i) = some (.dT vs) ∧ RelK c m S.n H l vs := by
  obtain ⟨o, h1, vs, e1, h2⟩ := s.at_ i _ e
  subst e1
  exact ⟨vs, h1, h2⟩
theorem Sim.ins (s : Sim c m S H) {i : Nat} {q : Str} {l : List (Str × D)} (e : S.f i = some (.ins q l)) : ∃ dx vs, H (m i) = some (.ins (c.cls q) dx vs) ∧ RelK c m S.n H l vs := by
  obtain ⟨o, h1, dx, vs, e1, h2⟩ := s.at_ i _ e
  subst e1
  exact ⟨dx, vs, h1, h2⟩
end
/-! ### names, constants -/
def mVar (i : Nat) : ME := fun g S => match g[i]? with
  | some (some d) => .ok d S
  | _ => .bad
def mC (d : D) : ME := fun _ S => .ok d S
section
variable {X : Cx} {c : Ct} {E : XK}
theorem qe_var {i : Nat} {e : Expr} (h : PE X e (tVar i)) : PE X e (rdE c E (mVar i)) := PE.imp h fun σ H Q ⟨m, S, g, s, rg, q⟩ => by
  unfold mVar at q
  cases e : g[i]? with
  | none => rw [e] at q; exact q.elim
  | some o =>
    rw [e] at q
    cases o with
    | none => exact q.elim
    | some d =>
      obtain ⟨v, e1, r⟩ := rg.2 i d e
      exact ⟨v, e1, q m H v (Nxt.refl s) r⟩
theorem qe_k {e : Expr} {v : V} {d : D} (h : PE X e (tC v)) (r : ∀ m n H, RelD c m n H d v) : PE X e (rdE c E (mC d)) := PE.imp h fun σ H Q ⟨m, S, g, s, rg, q⟩ => q m H v (Nxt.refl s) (r _ _ _)
theorem qe_int {i : Int} {j pos} : PE X (.Constant (.int i) j pos) (rdE c E (mC (.int i))) := qe_k pe_int fun _ _ _ => mk_int
theorem qe_bl {b : Bool} {j pos} : PE X (.Constant (.bool b) j pos) (rdE c E (mC (.bl b))) := qe_k pe_bl fun _ _ _ => mk_bl
theorem qe_non {j pos} : PE X (.Constant .none j pos) (rdE c E (mC .non)) := qe_k pe_non fun _ _ _ => mk_non
theorem qe_str {x : Str} {j pos} : PE X (.Constant (.str x) j pos) (rdE c E (mC (.str x))) := qe_k pe_str fun _ _ _ => mk_str
end
/-! ### operators -/
def mB (f : D → D → SM D) (a b : ME) : ME := fun g => SM.bind (a g) fun x => SM.bind (b g) fun y => f x y
def mU (f : D → SM D) (a : ME) : ME := fun g => SM.bind (a g) f
/-- a two-place operation, a one-place one, a call by values: sound -/
def Snd2 (c : Ct) (r : R2) (f : D → D → SM D) : Prop := ∀ (E : XK) (m : Nat → Addr) (S : Sr) (H : Hp) (Q : VK) (x y : D) (v w : V), Sim c m S H → RelD c m S.n H x v → RelD c m S.n H y w → PoE c E m S H Q (f x y S) → r v w H Q
def Snd1 (c : Ct) (r : V → Hp → VK → Prop) (f : D → SM D) : Prop := ∀ (E : XK) (m : Nat → Addr) (S : Sr) (H : Hp) (Q : VK) (x : D) (v : V), Sim c m S H → RelD c m S.n H x v → PoE c E m S H Q (f x S) → r v H Q
def SndA (c : Ct) (r : List V → Hp → VK → Prop) (f : List D → SM D) : Prop := ∀ (E : XK) (m : Nat → Addr) (S : Sr) (H : Hp) (Q : VK) (x : List D) (v : List V), Sim c m S H → RelDs c m S.n H x v → PoE c E m S H Q (f x S) → r v H Q
section
variable {X : Cx} {c : Ct} {E : XK}
theorem tOp_of {r : R2} {f : D → D → SM D} {ma mb : ME} (hs : Snd2 c r f) (σ : L2.St) (H : Hp) (Q : VK) (h : rdE c E (mB f ma mb) σ H Q) : tOp r (rdE c E ma) (rdE c E mb) σ H Q := by
  obtain ⟨m, S, g, s, rg, q⟩ := h
  refine seqE s rg q fun m1 S1 H1 x v a rx q1 => ?_
  refine seqE a.sim (a.relG rg) q1 fun m2 S2 H2 y w b ry q2 => ?_
  exact hs E m2 S2 H2 Q x y v w b.sim (b.relD rx) ry q2
theorem qe_bin {op : Operator} {r : R2} {f : D → D → SM D} {a b : Expr} {ma mb : ME} {pos : Pos} (ho : OpR X (binaryOp op) r) (hs : Snd2 c r f) (ha : PE X a (rdE c E ma)) (hb : PE X b (rdE c E mb)) : PE X (.BinOp a op b pos) (rdE c E (mB f ma mb)) :=
  PE.imp (pe_op ho ha hb) (tOp_of hs)
theorem qe_un {op : UnaryOp} {r : V → Hp → VK → Prop} {f : D → SM D} {a : Expr} {ma : ME} {pos : Pos} (ho : UnR X (unaryOp op) r) (hs : Snd1 c r f) (ha : PE X a (rdE c E ma)) : PE X (.UnaryOp op a pos) (rdE c E (mU f ma)) :=
  PE.imp (pe_un ho ha) fun σ H Q ⟨m, S, g, s, rg, q⟩ => seqE s rg q fun m1 S1 H1 x v a rx q1 => hs E m1 S1 H1 Q x v a.sim rx q1
theorem qe_cmp {op : CmpOp} {r : R2} {f : D → D → SM D} {a b : Expr} {ma mb : ME} {pos : Pos} (ho : OpR X (compareOp op) r) (hs : Snd2 c r f) (ha : PE X a (rdE c E ma)) (hb : PE X b (rdE c E mb)) (hm : behindInMarks op b = false) : PE X (.Compare a [op] [b] pos) (rdE c E (mB f ma mb)) :=
  PE.imp (pe_cmpR ho ha hb hm) (tOp_of hs)
theorem qe_ix {r : R2} {f : D → D → SM D} {a b : Expr} {ma mb : ME} {pos : Pos} (hr : IxR X r) (hs : Snd2 c r f) (ha : PE X a (rdE c E ma)) (hb : PE X b (rdE c E mb)) (hp : PlainIx b) : PE X (.Subscript a b pos) (rdE c E (mB f ma mb)) :=
  PE.imp (pe_ix hr ha hb hp) (tOp_of hs)
/-- a value as a test -/
def mTB (a : ME) : MT := fun g => SM.bind (a g) fun d S => match d with
  | .bl b => .ok b S
  | _ => .bad
theorem tTest_of {ma : ME} (σ : L2.St) (H : Hp) (Q : Bool → Hp → Prop) (h : rdT c E (mTB ma) σ H Q) : rdE c E ma σ H fun x H' => ∃ k, x = .bl k ∧ Q k H' := by
  obtain ⟨m, S, g, s, rg, q⟩ := h
  refine seqTE s rg q fun m1 S1 H1 d v a r q1 => ?_
  cases d <;> first | exact (show False from q1).elim | skip
  exact ⟨_, rd_bl r, q1 m1 H1 (Nxt.refl a.sim)⟩
theorem qt_cmp {op : CmpOp} {r : R2} {f : D → D → SM D} {a b : Expr} {ma mb : ME} {pos : Pos} (ho : OpR X (compareOp op) r) (hs : Snd2 c r f) (ha : PE X a (rdE c E ma)) (hb : PE X b (rdE c E mb)) (hm : behindInMarks op b = false) : PT X (.Compare a [op] [b] pos) (rdT c E (mTB (mB f ma mb))) :=
  PT.imp (pt_cmpR ho ha hb hm) fun σ H Q h => by
    obtain ⟨m, S, g, s, rg, q⟩ := tTest_of σ H Q h
    exact tOp_of hs σ H _ ⟨m, S, g, s, rg, q⟩
theorem qt_val {e : Expr} {ma : ME} (h : PE X e (rdE c E ma)) (he : ∀ whole, isTrue e X.env whole = (do let v ← whole; standAt e.pos; holding [v] (truthy v)) := by intro _; rfl) : PT X e (rdT c E (mTB ma)) :=
  PT.imp (pt_val h he) fun σ H Q q => tTest_of σ H Q q
/-! ### and, or, not, if -/
def mAnd (a b : MT) : MT := fun g => SM.bind (a g) fun k => if k = true then b g else SM.pure false
def mOr (a b : MT) : MT := fun g => SM.bind (a g) fun k => if k = true then SM.pure true else b g
def mNot (a : MT) : MT := fun g => SM.bind (a g) fun k => SM.pure (!k)
def mIf (t : MT) (a b : ME) : ME := fun g => SM.bind (t g) fun k => if k = true then a g else b g
/-- .. as a value -/
def mV (t : MT) : ME := fun g => SM.bind (t g) fun k => SM.pure (.bl k)
theorem qw_and1 {a : Expr} {ma : MT} {pos : Pos} (ha : PT X a (rdT c E ma)) : PW X (.BoolOp .And [a] pos) (rdT c E ma) := pw_and1 ha
theorem qw_or1 {a : Expr} {ma : MT} {pos : Pos} (ha : PT X a (rdT c E ma)) : PW X (.BoolOp .Or [a] pos) (rdT c E ma) := pw_or1 ha
theorem qw_and {a b : Expr} {rest : List Expr} {ma mb : MT} {pos : Pos} (ha : PT X a (rdT c E ma)) (hb : PW X (.BoolOp .And (b :: rest) pos) (rdT c E mb)) : PW X (.BoolOp .And (a :: b :: rest) pos) (rdT c E (mAnd ma mb)) :=
  PW.imp (pw_and ha hb) fun σ H Q ⟨m, S, g, s, rg, q⟩ => seqTT s rg q fun m1 S1 H1 k a q1 => by
    cases k with
    | true => exact ⟨m1, S1, g, a.sim, a.relG rg, q1⟩
    | false => exact q1 m1 H1 (Nxt.refl a.sim)
theorem qw_or {a b : Expr} {rest : List Expr} {ma mb : MT} {pos : Pos} (ha : PT X a (rdT c E ma)) (hb : PW X (.BoolOp .Or (b :: rest) pos) (rdT c E mb)) : PW X (.BoolOp .Or (a :: b :: rest) pos) (rdT c E (mOr ma mb)) :=
  PW.imp (pw_or ha hb) fun σ H Q ⟨m, S, g, s, rg, q⟩ => seqTT s rg q fun m1 S1 H1 k a q1 => by
    cases k with
    | true => exact q1 m1 H1 (Nxt.refl a.sim)
    | false => exact ⟨m1, S1, g, a.sim, a.relG rg, q1⟩
theorem qt_not {a : Expr} {ma : MT} {pos : Pos} (ha : PT X a (rdT c E ma)) : PT X (.UnaryOp .Not a pos) (rdT c E (mNot ma)) :=
  PT.imp (pt_not ha) fun σ H Q ⟨m, S, g, s, rg, q⟩ => seqTT s rg q fun m1 S1 H1 k a q1 => q1 m1 H1 (Nxt.refl a.sim)
theorem qe_if {t a b : Expr} {mt : MT} {ma mb : ME} {pos : Pos} (ht : PT X t (rdT c E mt)) (ha : PE X a (rdE c E ma)) (hb : PE X b (rdE c E mb)) : PE X (.IfExp t a b pos) (rdE c E (mIf mt ma mb)) :=
  PE.imp (pe_ifExp ht ha hb) fun σ H Q ⟨m, S, g, s, rg, q⟩ => seqET s rg q fun m1 S1 H1 k a q1 => by
    cases k with
    | true => exact ⟨m1, S1, g, a.sim, a.relG rg, q1⟩
    | false => exact ⟨m1, S1, g, a.sim, a.relG rg, q1⟩
/-- and, or, not of bools, as values -/
def mAndV (a b : ME) : ME := fun g => SM.bind (a g) fun d S => match d with
  | .bl true => b g S
  | .bl false => .ok (.bl false) S
  | _ => .bad
def mOrV (a b : ME) : ME := fun g => SM.bind (a g) fun d S => match d with
  | .bl true => .ok (.bl true) S
  | .bl false => b g S
  | _ => .bad
def mNotV (a : ME) : ME := fun g => SM.bind (a g) fun d S => match d with
  | .bl k => .ok (.bl (!k)) S
  | _ => .bad
theorem qe_one {op} {a : Expr} {ma : ME} {pos : Pos} (ha : PE X a (rdE c E ma)) : PE X (.BoolOp op [a] pos) (rdE c E ma) := pe_one ha
theorem qe_and {a b : Expr} {rest : List Expr} {ma mb : ME} {pos : Pos} (ha : PE X a (rdE c E ma)) (hb : PE X (.BoolOp .And (b :: rest) pos) (rdE c E mb)) : PE X (.BoolOp .And (a :: b :: rest) pos) (rdE c E (mAndV ma mb)) :=
  PE.imp (pe_and ha hb) fun σ H Q ⟨m, S, g, s, rg, q⟩ => seqE s rg q fun m1 S1 H1 d v a r q1 => by
    cases d <;> first | exact (show False from q1).elim | skip
    rename_i k
    refine ⟨k, rd_bl r, ?_⟩
    cases k with
    | true => exact ⟨m1, S1, g, a.sim, a.relG rg, q1⟩
    | false => exact q1 m1 H1 _ (Nxt.refl a.sim) mk_bl
theorem qe_or {a b : Expr} {rest : List Expr} {ma mb : ME} {pos : Pos} (ha : PE X a (rdE c E ma)) (hb : PE X (.BoolOp .Or (b :: rest) pos) (rdE c E mb)) : PE X (.BoolOp .Or (a :: b :: rest) pos) (rdE c E (mOrV ma mb)) :=
  PE.imp (pe_or ha hb) fun σ H Q ⟨m, S, g, s, rg, q⟩ => seqE s rg q fun m1 S1 H1 d v a r q1 => by
    cases d <;> first | exact (show False from q1).elim | skip
    rename_i k
    refine ⟨k, rd_bl r, ?_⟩
    cases k with
    | true => exact q1 m1 H1 _ (Nxt.refl a.sim) mk_bl
    | false => exact ⟨m1, S1, g, a.sim, a.relG rg, q1⟩
theorem qe_not {a : Expr} {ma : ME} {pos : Pos} (ha : PE X a (rdE c E ma)) : PE X (.UnaryOp .Not a pos) (rdE c E (mNotV ma)) :=
  PE.imp (pe_not ha) fun σ H Q ⟨m, S, g, s, rg, q⟩ => seqE s rg q fun m1 S1 H1 d v a r q1 => by
    cases d <;> first | exact (show False from q1).elim | skip
    exact ⟨_, rd_bl r, q1 m1 H1 _ (Nxt.refl a.sim) mk_bl⟩
/-- a < b < c -/
def mChain (f f' : D → D → SM D) (a b e : ME) : ME := fun g => SM.bind (a g) fun x => SM.bind (b g) fun y => SM.bind (f x y) fun z S => match z with
  | .bl true => SM.bind (e g) (fun w => f' y w) S
  | .bl false => .ok (.bl false) S
  | _ => .bad
def Pure2 (f : D → D → SM D) : Prop := ∀ x y S, (∃ z, f x y S = .ok z S) ∨ f x y S = .bad
theorem tChain_of {r r' : R2} {f f' : D → D → SM D} {ma mb me : ME} (hs : Snd2 c r f) (hs' : Snd2 c r' f') (hp : Pure2 f) (σ : L2.St) (H : Hp) (Q : VK) (h : rdE c E (mChain f f' ma mb me) σ H Q) : tChain r r' (rdE c E ma) (rdE c E mb) (rdE c E me) σ H Q := by
  obtain ⟨m, S, g, s, rg, q⟩ := h
  refine seqE s rg q fun m1 S1 H1 x v a rx q1 => ?_
  refine seqE a.sim (a.relG rg) q1 fun m2 S2 H2 y w b ry q2 => ?_
  have rx2 := b.relD rx
  unfold SM.bind at q2
  rcases hp x y S2 with ⟨z, e⟩ | e
  · rw [e] at q2
    refine hs E m2 S2 H2 _ x y v w b.sim rx2 ry ?_
    rw [e]
    intro m3 H3 u d ru
    cases z <;> first | exact (show False from q2).elim | skip
    rename_i k
    refine ⟨k, rd_bl ru, ?_⟩
    cases k with
    | true =>
      rw [if_pos rfl]
      refine seqE d.sim (d.relG (b.relG (a.relG rg))) (PoE.go b.sim d q2) fun m4 S4 H4 x4 v4 d4 r4 q4 => ?_
      exact hs' E m4 S4 H4 Q y x4 w v4 d4.sim (d4.relD (d.relD ry)) r4 q4
    | false =>
      rw [if_neg Bool.false_ne_true]
      exact q2 m3 H3 _ d mk_bl
  · rw [e] at q2
    exact q2.elim
theorem qe_chain {op op' : CmpOp} {r r' : R2} {f f' : D → D → SM D} {a b e : Expr} {ma mb me : ME} {pos : Pos} (ho : OpR X (compareOp op) r) (hs : Snd2 c r f) (ho' : OpR X (compareOp op') r') (hs' : Snd2 c r' f') (hp : Pure2 f)
    (ha : PE X a (rdE c E ma)) (hb : PE X b (rdE c E mb)) (he : PE X e (rdE c E me)) (hm : lastMarks [op, op'] [b, e] = false := by rfl) : PE X (.Compare a [op, op'] [b, e] pos) (rdE c E (mChain f f' ma mb me)) := PE.imp (pe_chain ho ho' ha hb he hm) (tChain_of hs hs' hp)
theorem qt_chain {op op' : CmpOp} {r r' : R2} {f f' : D → D → SM D} {a b e : Expr} {ma mb me : ME} {pos : Pos} (ho : OpR X (compareOp op) r) (hs : Snd2 c r f) (ho' : OpR X (compareOp op') r') (hs' : Snd2 c r' f') (hp : Pure2 f)
    (ha : PE X a (rdE c E ma)) (hb : PE X b (rdE c E mb)) (he : PE X e (rdE c E me)) (hm : lastMarks [op, op'] [b, e] = false := by rfl) : PT X (.Compare a [op, op'] [b, e] pos) (rdT c E (mTB (mChain f f' ma mb me))) := PT.imp (pt_chain ho ho' ha hb he hm) fun σ H Q h => by
    obtain ⟨m, S, g, s, rg, q⟩ := tTest_of σ H Q h
    exact tChain_of hs hs' hp σ H _ ⟨m, S, g, s, rg, q⟩
/-! ### arguments, displays -/
def mNil : MA := fun _ S => .ok [] S
def mCons (a : ME) (r : MA) : MA := fun g => SM.bind (a g) fun d => SM.bind (r g) fun l => SM.pure (d :: l)
theorem qa_nil : PA X [] (rdA c E mNil) := PA.imp pa_nil fun σ H Q ⟨m, S, g, s, rg, q⟩ => q m H [] (Nxt.refl s) mk_nil
theorem qa_cons {e : Expr} {es : List Expr} {ma : ME} {mr : MA} (h : PE X e (rdE c E ma)) (t : PA X es (rdA c E mr)) (he : starEach (e :: es) X.env = (false, eval e X.env) :: starEach es X.env := by rfl) : PA X (e :: es) (rdA c E (mCons ma mr)) :=
  PA.imp (pa_cons h t he) fun σ H Q ⟨m, S, g, s, rg, q⟩ => seqAE s rg q fun m1 S1 H1 d v a r q1 => seqAA a.sim (a.relG rg) q1 fun m2 S2 H2 l vs b rs q2 => q2 m2 H2 _ (Nxt.refl b.sim) (mk_cons (b.relD r) rs)
def mTup (a : MA) : ME := fun g => SM.bind (a g) fun l S => if l.length ≤ sizeLine then .ok (.tup l) S else .bad
def mLst (a : MA) : ME := fun g => SM.bind (a g) fun l S => if l.length ≤ sizeLine then .ok (.adr S.n) (S.alloc (.lst l)) else .bad
theorem po_if {m : Nat → Addr} {S : Sr} {H : Hp} {Q : VK} {p : Prop} [Decidable p] {r : R D} (h : PoE c E m S H Q (if p then r else .bad)) : p ∧ PoE c E m S H Q r := by
  by_cases hp : p
  · rw [if_pos hp] at h
    exact ⟨hp, h⟩
  · rw [if_neg hp] at h
    exact h.elim
/-- a new tuple, a new list handed on -/
theorem giveT {m : Nat → Addr} {S : Sr} {H : Hp} {Q : VK} {l : List D} {vs : List V} (s : Sim c m S H) (r : RelDs c m S.n H l vs) (q : PoE c E m S H Q (.ok (.tup l) S)) : ∀ p, H p = none → Q (.ref p) (upd H p (.tup vs)) := fun p hp => by
  have a := Nxt.fresh (o := .tup vs) s hp
  exact q m _ _ a (mk_tup upd_same (a.relDs r))
theorem giveO {m : Nat → Addr} {S : Sr} {H : Hp} {Q : VK} {x : MO} {o : HO} (s : Sim c m S H) (r : RelO c m S.n H x o) (q : PoE c E m S H Q (.ok (.adr S.n) (S.alloc x))) : ∀ p, H p = none → Q (.ref p) (upd H p o) := fun p hp => by
  have a := Nxt.alloc s hp r
  have e := mk_adr (c := c) (m := ext m S.n p) (n := S.n + 1) (H := upd H p o) (i := S.n) (Nat.lt_succ_self _)
  rw [ext_same] at e
  exact q _ _ _ a e
theorem qe_tup {es : List Expr} {k : Nat} {ma : MA} {pos : Pos} (h : PA X es (rdA c E ma)) : PE X (.Tuple es k pos) (rdE c E (mTup ma)) :=
  PE.imp (pe_tup h) fun σ H Q ⟨m, S, g, s, rg, q⟩ => seqEA s rg q fun m1 S1 H1 l vs a rs q1 => by
    obtain ⟨hl, q1⟩ := po_if q1
    exact ⟨by rw [← rs.length]; exact hl, giveT a.sim rs q1⟩
theorem qe_lst {es : List Expr} {ma : MA} {pos : Pos} (h : PA X es (rdA c E ma)) : PE X (.List es pos) (rdE c E (mLst ma)) :=
  PE.imp (pe_lst h) fun σ H Q ⟨m, S, g, s, rg, q⟩ => seqEA s rg q fun m1 S1 H1 l vs a rs q1 => by
    obtain ⟨hl, q1⟩ := po_if q1
    exact ⟨by rw [← rs.length]; exact hl, giveO (x := .lst l) a.sim ⟨vs, rfl, rs⟩ q1⟩
end
end Y

set_option Elab.async false
set_option linter.all false
set_option maxRecDepth 100000
set_option maxHeartbeats 1000000
/-! Y4: operations on values. -/
namespace Y
open PySem PySem.Spec PyProof.Rows L2
def okI (f : Int → Int → Int) (C : Int → Int → Bool) : D → D → SM D := fun x y S => match x, y with
  | .int i, .int j => if C i j = true then .ok (.int (f i j)) S else .bad
  | _, _ => .bad
def okB (f : Int → Int → Bool) : D → D → SM D := fun x y S => match x, y with
  | .int i, .int j => .ok (.bl (f i j)) S
  | _, _ => .bad
section
variable {c : Ct} {X : Cx}
theorem snd_okI {f : Int → Int → Int} {C : Int → Int → Bool} {P : Int → Int → Prop} (h : ∀ i j, C i j = true → P i j) : Snd2 c (rI P fun i j => .int (f i j)) (okI f C) := by
  intro E m S H Q x y v w s rx ry q
  cases x <;> first | exact (show False from q).elim | skip
  cases y <;> first | exact (show False from q).elim | skip
  obtain ⟨hc, q⟩ := po_if (c := c) (E := E) q
  exact ⟨_, _, rd_int rx, rd_int ry, h _ _ hc, q m H _ (Nxt.refl s) mk_int⟩
theorem snd_okI0 {f : Int → Int → Int} {C : Int → Int → Bool} : Snd2 c (rI0 fun i j => .int (f i j)) (okI f C) := by
  intro E m S H Q x y v w s rx ry q
  cases x <;> first | exact (show False from q).elim | skip
  cases y <;> first | exact (show False from q).elim | skip
  obtain ⟨hc, q⟩ := po_if (c := c) (E := E) q
  exact ⟨_, _, rd_int rx, rd_int ry, q m H _ (Nxt.refl s) mk_int⟩
theorem snd_okB {f : Int → Int → Bool} : Snd2 c (rI0 fun i j => .bl (f i j)) (okB f) := by
  intro E m S H Q x y v w s rx ry q
  cases x <;> first | exact (show False from q).elim | skip
  cases y <;> first | exact (show False from q).elim | skip
  exact ⟨_, _, rd_int rx, rd_int ry, q m H _ (Nxt.refl s) mk_bl⟩
/-- where the first falls, the second -/
def orF (f f' : D → D → SM D) : D → D → SM D := fun x y S => match f x y S with
  | .bad => f' x y S
  | r => r
theorem snd_or {r r' : R2} {f f' : D → D → SM D} (h : Snd2 c r f) (h' : Snd2 c r' f') : Snd2 c (fun x y H Q => r x y H Q ∨ r' x y H Q) (orF f f') := by
  intro E m S H Q x y v w s rx ry q
  unfold orF at q
  cases e : f x y S with
  | ok d S' =>
    rw [e] at q
    exact .inl (h E m S H Q x y v w s rx ry (by rw [e]; exact q))
  | exc p S' =>
    rw [e] at q
    exact .inl (h E m S H Q x y v w s rx ry (by rw [e]; exact q))
  | bad =>
    rw [e] at q
    exact .inr (h' E m S H Q x y v w s rx ry q)
theorem pure_okB {f : Int → Int → Bool} : Pure2 (okB f) := fun x y S => by
  cases x <;> cases y <;> first | exact .inr rfl | exact .inl ⟨_, rfl⟩
/-! ### + -/
def addS : D → D → SM D := fun x y S => match x, y with
  | .str a, .str b => if a.length + b.length ≤ sizeLine then .ok (.str (a ++ b)) S else .bad
  | _, _ => .bad
def catL : D → D → SM D := fun x y S => match x, y with
  | .adr i, .adr j => (match S.f i, S.f j with
    | some (.lst a), some (.lst b) => if a.length + b.length ≤ sizeLine then .ok (.adr S.n) (S.alloc (.lst (a ++ b))) else .bad
    | _, _ => .bad)
  | _, _ => .bad
def catT : D → D → SM D := fun x y S => match x, y with
  | .tup a, .tup b => if a ≠ [] ∧ a.length + b.length ≤ sizeLine then .ok (.tup (a ++ b)) S else .bad
  | _, _ => .bad
theorem snd_addS : Snd2 c (fun x y H Q => ∃ i j, x = .str i ∧ y = .str j ∧ i.length + j.length ≤ sizeLine ∧ Q (.str (i ++ j)) H) addS := by
  intro E m S H Q x y v w s rx ry q
  cases x <;> first | exact (show False from q).elim | skip
  cases y <;> first | exact (show False from q).elim | skip
  obtain ⟨hc, q⟩ := po_if (c := c) (E := E) q
  exact ⟨_, _, rd_str rx, rd_str ry, hc, q m H _ (Nxt.refl s) mk_str⟩
theorem snd_catL : Snd2 c rCat catL := by
  intro E m S H Q x y v w s rx ry q
  cases x <;> first | exact (show False from q).elim | skip
  cases y <;> first | exact (show False from q).elim | skip
  rename_i i j
  have q : PoE c E m S H Q (match S.f i, S.f j with
    | some (.lst a), some (.lst b) => if a.length + b.length ≤ sizeLine then .ok (.adr S.n) (S.alloc (.lst (a ++ b))) else .bad
    | _, _ => .bad) := q
  obtain ⟨rfl, hi⟩ := rd_adr rx
  obtain ⟨rfl, hj⟩ := rd_adr ry
  split at q
  · rename_i a b ea eb
    obtain ⟨hc, q⟩ := po_if q
    obtain ⟨va, h1, r1⟩ := s.lst ea
    obtain ⟨vb, h2, r2⟩ := s.lst eb
    exact ⟨m i, m j, va, vb, rfl, rfl, h1, h2, by rw [← r1.length, ← r2.length]; exact hc, giveO (x := .lst (a ++ b)) s ⟨va ++ vb, rfl, r1.append r2⟩ q⟩
  · exact q.elim
theorem snd_catT : Snd2 c (rCatT c.K) catT := by
  intro E m S H Q x y v w s rx ry q
  cases x <;> first | exact (show False from q).elim | skip
  cases y <;> first | exact (show False from q).elim | skip
  rename_i a b
  obtain ⟨⟨h0, hl⟩, q⟩ := po_if (c := c) (E := E) q
  obtain ⟨p, va, rfl, h1, r1⟩ := rd_tup rx
  obtain ⟨p', vb, rfl, h2, r2⟩ := rd_tup ry
  refine ⟨p, p', va, vb, rfl, rfl, .inl (.inl h1), .inl (.inl h2), fun z => ?_, by rw [← r1.length, ← r2.length]; exact hl, fun z => ?_, fun _ => giveT s (r1.append r2) q⟩
  · subst z
    exact h0 (List.eq_nil_of_length_eq_zero r1.length)
  · subst z
    have eb : b = [] := List.eq_nil_of_length_eq_zero r2.length
    subst eb
    rw [List.append_nil] at q
    exact q m H _ (Nxt.refl s) rx
def dAdd : D → D → SM D := orF (okI (fun i j => i + j) fun _ _ => true) (orF addS (orF catL catT))
abbrev rAddA (K : PySem.W.Frag) : R2 := fun x y H Q => (rI0 fun i j => .int (i + j)) x y H Q ∨ (fun x y H Q => (fun x y H Q => ∃ i j, x = .str i ∧ y = .str j ∧ i.length + j.length ≤ sizeLine ∧ Q (.str (i ++ j)) H) x y H Q ∨ (fun x y H Q => rCat x y H Q ∨ rCatT K x y H Q) x y H Q) x y H Q
theorem op_addA : OpR X (binaryOp .Add) (rAddA X.K) := OpR.or op_add (OpR.or op_add_str (OpR.or op_cat op_catT))
theorem snd_add : Snd2 c (rAddA c.K) dAdd := snd_or snd_okI0 (snd_or snd_addS (snd_or snd_catL snd_catT))
/-! ### - * // % ** << >> & | ^ -/
def dSub : D → D → SM D := okI (fun i j => i - j) fun _ _ => true
theorem snd_sub : Snd2 c (rI0 fun i j => .int (i - j)) dSub := snd_okI0
def mulB (i j : Int) : Bool := decide (-(2 ^ 64) < i ∧ i < 2 ^ 64) || decide (-(2 ^ 64) < j ∧ j < 2 ^ 64)
def repL : D → D → SM D := fun x y S => match x, y with
  | .adr i, .int k => (match S.f i with
    | some (.lst a) => if -(2 ^ 63) ≤ k ∧ k < 2 ^ 63 ∧ a.length * k.toNat ≤ sizeLine then .ok (.adr S.n) (S.alloc (.lst (List.replicate k.toNat a).flatten)) else .bad
    | _ => .bad)
  | _, _ => .bad
theorem snd_repL : Snd2 c rRep repL := by
  intro E m S H Q x y v w s rx ry q
  cases x <;> first | exact (show False from q).elim | skip
  cases y <;> first | exact (show False from q).elim | skip
  rename_i i k
  have q : PoE c E m S H Q (match S.f i with
    | some (.lst a) => if -(2 ^ 63) ≤ k ∧ k < 2 ^ 63 ∧ a.length * k.toNat ≤ sizeLine then .ok (.adr S.n) (S.alloc (.lst (List.replicate k.toNat a).flatten)) else .bad
    | _ => .bad) := q
  obtain ⟨rfl, hi⟩ := rd_adr rx
  split at q
  · rename_i a ea
    obtain ⟨⟨h1, h2, h3⟩, q⟩ := po_if q
    obtain ⟨va, e1, r1⟩ := s.lst ea
    exact ⟨m i, k, va, rfl, rd_int ry, e1, h1, h2, by rw [← r1.length]; exact h3, giveO (x := .lst (List.replicate k.toNat a).flatten) s ⟨_, rfl, r1.rep k.toNat⟩ q⟩
  · exact q.elim
def dMul : D → D → SM D := orF (okI (fun i j => i * j) mulB) repL
abbrev rMulA : R2 := fun x y H Q => (rI CMul fun i j => .int (i * j)) x y H Q ∨ rRep x y H Q
theorem op_mulA : OpR X (binaryOp .Mult) rMulA := OpR.or op_mul op_rep
theorem snd_mul : Snd2 c rMulA dMul := snd_or (snd_okI fun i j h => by
  unfold mulB at h
  rcases Bool.or_eq_true_iff.mp h with h | h
  · exact .inl (of_decide_eq_true h)
  · exact .inr (of_decide_eq_true h)) snd_repL
def dFdiv : D → D → SM D := okI (fun i j => i / j) fun _ j => decide (0 < j ∧ j < 1073741824)
theorem snd_fdiv : Snd2 c (rI CDiv fun i j => .int (i / j)) dFdiv := snd_okI fun i j h => (show 0 < j ∧ j < 1073741824 from of_decide_eq_true h)
def dMod : D → D → SM D := okI (fun i j => i % j) fun _ j => decide (0 < j)
theorem snd_mod : Snd2 c (rI (fun _ j => 0 < j) fun i j => .int (i % j)) dMod := snd_okI fun i j h => of_decide_eq_true h
def powB (i j : Int) : Bool := decide (0 ≤ j ∧ j ≤ 1000000 ∧ i.natAbs < 2 ^ 64)
def dPow : D → D → SM D := okI (fun i j => i ^ j.toNat) powB
theorem snd_pow : Snd2 c (rI CPow fun i j => .int (i ^ j.toNat)) dPow := snd_okI fun i j h => (show 0 ≤ j ∧ j ≤ 1000000 ∧ i.natAbs < 2 ^ 64 from of_decide_eq_true h)
def dShl : D → D → SM D := okI (fun i j => i * 2 ^ j.toNat) powB
theorem snd_shl : Snd2 c (rI CPow fun i j => .int (i * 2 ^ j.toNat)) dShl := snd_okI fun i j h => (show 0 ≤ j ∧ j ≤ 1000000 ∧ i.natAbs < 2 ^ 64 from of_decide_eq_true h)
def dShr : D → D → SM D := okI (fun i j => i / 2 ^ j.toNat) fun _ j => decide (0 ≤ j)
theorem snd_shr : Snd2 c (rI (fun _ j => 0 ≤ j) fun i j => .int (i / 2 ^ j.toNat)) dShr := snd_okI fun i j h => of_decide_eq_true h
def dAnd : D → D → SM D := okI Builtin.bitAnd fun _ _ => true
def dOr : D → D → SM D := okI Builtin.bitOr fun _ _ => true
def dXor : D → D → SM D := okI Builtin.bitXor fun _ _ => true
theorem snd_and : Snd2 c (rI0 fun i j => .int (Builtin.bitAnd i j)) dAnd := snd_okI0
theorem snd_bor : Snd2 c (rI0 fun i j => .int (Builtin.bitOr i j)) dOr := snd_okI0
theorem snd_xor : Snd2 c (rI0 fun i j => .int (Builtin.bitXor i j)) dXor := snd_okI0
def dNeg : D → SM D := fun x S => match x with
  | .int i => .ok (.int (-i)) S
  | _ => .bad
theorem snd_neg : Snd1 c (rU fun i => .int (-i)) dNeg := by
  intro E m S H Q x v s rx q
  cases x <;> first | exact (show False from q).elim | skip
  exact ⟨_, rd_int rx, q m H _ (Nxt.refl s) mk_int⟩
/-! ### < <= > >= -/
def dLt : D → D → SM D := okB fun i j => decide (i < j)
def dLe : D → D → SM D := okB fun i j => decide (i ≤ j)
def dGt : D → D → SM D := okB fun i j => decide (j < i)
def dGe : D → D → SM D := okB fun i j => decide (j ≤ i)
theorem snd_lt : Snd2 c (rI0 fun i j => .bl (decide (i < j))) dLt := snd_okB
theorem snd_le : Snd2 c (rI0 fun i j => .bl (decide (i ≤ j))) dLe := snd_okB
theorem snd_gt : Snd2 c (rI0 fun i j => .bl (decide (j < i))) dGt := snd_okB
theorem snd_ge : Snd2 c (rI0 fun i j => .bl (decide (j ≤ i))) dGe := snd_okB
/-! ### == -/
def mapO {α β : Type} (f : α → Option β) : List α → Option (List β)
  | [] => some []
  | d :: l => (match f d, mapO f l with
    | some a, some b => some (a :: b)
    | _, _ => none)
/-- what is compared: the lists in it read off the store, to a depth -/
def toPy (S : Sr) : Nat → D → Option PyData
  | 0, d => (match d with
    | .non => some .none
    | .bl b => some (.bool b)
    | .int i => some (.int i)
    | .str x => some (.str x)
    | _ => none)
  | k + 1, d => (match d with
    | .non => some .none
    | .bl b => some (.bool b)
    | .int i => some (.int i)
    | .str x => some (.str x)
    | .tup l => (mapO (toPy S k) l).map .tuple
    | .ktp l => (mapO (toPy S k) l).map .tuple
    | .fro l => (mapO (toPy S k) l).map .list
    | .adr i => (match S.f i with
      | some (.lst l) => (mapO (toPy S k) l).map .list
      | _ => none))
theorem dpAll_of {m : Nat → Addr} {n : Nat} {H : Hp} {f : D → Option PyData} (h : ∀ d v p, RelD c m n H d v → f d = some p → Dp c.K H v p) : ∀ {l : List D} {vs : List V} {ps : List PyData}, RelDs c m n H l vs → mapO f l = some ps → DpAll c.K H vs ps
  | [], _, _, r, e => by
    rw [rd_nil r]
    cases e
    exact .nil
  | d :: l, _, _, r, e => by
    obtain ⟨v, w, e1, r1, r2⟩ := rd_cons r
    rw [e1]
    unfold mapO at e
    split at e
    · rename_i a b ea eb
      cases e
      exact .cons (h d v a r1 ea) (dpAll_of h r2 eb)
    · cases e
theorem dp_of {m : Nat → Addr} {S : Sr} {H : Hp} (s : Sim c m S H) : ∀ (k : Nat) (d : D) (v : V) (p : PyData), RelD c m S.n H d v → toPy S k d = some p → Dp c.K H v p
  | 0, d, v, p, r, e => by
    cases d with
    | non => cases e; rw [rd_non r]; exact .non
    | bl b => cases e; rw [rd_bl r]; exact .bl b
    | int i => cases e; rw [rd_int r]; exact .int i
    | str x => cases e; rw [rd_str r]; exact .str x
    | _ => cases e
  | k + 1, d, v, p, r, e => by
    have ih := dp_of s k
    cases d with
    | non => cases e; rw [rd_non r]; exact .non
    | bl b => cases e; rw [rd_bl r]; exact .bl b
    | int i => cases e; rw [rd_int r]; exact .int i
    | str x => cases e; rw [rd_str r]; exact .str x
    | tup l =>
      obtain ⟨a, vs, rfl, h, rs⟩ := rd_tup r
      have e : (mapO (toPy S k) l).map PyData.tuple = some p := e
      obtain ⟨ps, e1, rfl⟩ := Option.map_eq_some_iff.mp e
      exact .tup (.inl (.inl h)) (dpAll_of ih rs e1)
    | ktp l =>
      obtain ⟨a, vs, rfl, h, rs⟩ := rd_ktp r
      have e : (mapO (toPy S k) l).map PyData.tuple = some p := e
      obtain ⟨ps, e1, rfl⟩ := Option.map_eq_some_iff.mp e
      exact .tup h.sq (dpAll_of ih rs e1)
    | fro l =>
      obtain ⟨a, vs, rfl, h, rs⟩ := rd_fro r
      have e : (mapO (toPy S k) l).map PyData.list = some p := e
      obtain ⟨ps, e1, rfl⟩ := Option.map_eq_some_iff.mp e
      exact .lst h.sq (dpAll_of ih rs e1)
    | adr i =>
      obtain ⟨rfl, hi⟩ := rd_adr r
      have e : (match S.f i with
        | some (.lst l) => (mapO (toPy S k) l).map .list
        | _ => none) = some p := e
      split at e
      · rename_i l el
        obtain ⟨vs, h, rs⟩ := s.lst el
        obtain ⟨ps, e1, rfl⟩ := Option.map_eq_some_iff.mp e
        exact .lst (.inl (.inl h)) (dpAll_of ih rs e1)
      · cases e
def eqD (neg : Bool) : D → D → SM D := fun x y S => match toPy S 9 x, toPy S 9 y with
  | some a, some b => if SeqAt.shaped a = true ∧ SeqAt.shaped b = true then .ok (.bl (if neg = true then !PyData.eqv a b else PyData.eqv a b)) S else .bad
  | _, _ => .bad
def dEq : D → D → SM D := eqD false
def dNe : D → D → SM D := eqD true
theorem snd_eq : Snd2 c (rEqD c.K) dEq := by
  intro E m S H Q x y v w s rx ry q
  unfold dEq eqD at q
  split at q
  · rename_i a b ea eb
    obtain ⟨⟨h1, h2⟩, q⟩ := po_if q
    exact ⟨a, b, dp_of s 9 x v a rx ea, dp_of s 9 y w b ry eb, h1, h2, q m H _ (Nxt.refl s) mk_bl⟩
  · exact q.elim
theorem snd_ne : Snd2 c (rNeD c.K) dNe := by
  intro E m S H Q x y v w s rx ry q
  unfold dNe eqD at q
  split at q
  · rename_i a b ea eb
    obtain ⟨⟨h1, h2⟩, q⟩ := po_if q
    exact ⟨a, b, dp_of s 9 x v a rx ea, dp_of s 9 y w b ry eb, h1, h2, q m H _ (Nxt.refl s) mk_bl⟩
  · exact q.elim
/-! ### is -/
def dIs (neg : Bool) : D → D → SM D := fun x y S => match x, y with
  | .bl a, .bl b => .ok (.bl (if neg = true then !decide (a = b) else decide (a = b))) S
  | .non, .non => .ok (.bl (!neg)) S
  | _, .non => .ok (.bl neg) S
  | _, _ => .bad
abbrev rIsA : R2 := fun x y H Q => (fun x y H Q => y = .non ∧ Q (.bl (decide (x = .non))) H) x y H Q ∨ rIsB x y H Q
abbrev rNotA : R2 := fun x y H Q => (fun x y H Q => y = .non ∧ Q (.bl (!decide (x = .non))) H) x y H Q ∨ rNotB x y H Q
theorem op_isA : OpR X (compareOp .Is) rIsA := OpR.or op_isN op_isBl
theorem op_notA : OpR X (compareOp .IsNot) rNotA := OpR.or op_notN op_notBl
theorem rd_notnon {m : Nat → Addr} {n : Nat} {H : Hp} {x : D} {v : V} (r : RelD c m n H x v) (hx : x ≠ .non) : decide (v = .non) = false := by
  apply decide_eq_false
  intro z
  subst z
  cases x with
  | non => exact hx rfl
  | bl b => cases rd_bl r
  | int i => cases rd_int r
  | str i => cases rd_str r
  | tup l => obtain ⟨a, vs, e, _⟩ := rd_tup r; cases e
  | ktp l => obtain ⟨a, vs, e, _⟩ := rd_ktp r; cases e
  | fro l => obtain ⟨a, vs, e, _⟩ := rd_fro r; cases e
  | adr i => cases (rd_adr r).1
theorem snd_is : Snd2 c rIsA (dIs false) := by
  intro E m S H Q x y v w s rx ry q
  cases y <;> (try (cases x <;> exact (show False from q).elim))
  · have e := rd_non ry
    cases x
    · have e2 := rd_non rx
      subst e2
      exact .inl ⟨e, q m H _ (Nxt.refl s) mk_bl⟩
    all_goals (refine .inl ⟨e, ?_⟩; rw [rd_notnon rx (fun z => nomatch z)]; exact q m H _ (Nxt.refl s) mk_bl)
  · cases x <;> first | exact (show False from q).elim | skip
    exact .inr ⟨_, _, rd_bl rx, rd_bl ry, q m H _ (Nxt.refl s) mk_bl⟩
theorem snd_isnot : Snd2 c rNotA (dIs true) := by
  intro E m S H Q x y v w s rx ry q
  cases y <;> (try (cases x <;> exact (show False from q).elim))
  · have e := rd_non ry
    cases x
    · have e2 := rd_non rx
      subst e2
      exact .inl ⟨e, q m H _ (Nxt.refl s) mk_bl⟩
    all_goals (refine .inl ⟨e, ?_⟩; rw [rd_notnon rx (fun z => nomatch z)]; exact q m H _ (Nxt.refl s) mk_bl)
  · cases x <;> first | exact (show False from q).elim | skip
    exact .inr ⟨_, _, rd_bl rx, rd_bl ry, q m H _ (Nxt.refl s) mk_bl⟩
end
end Y

set_option Elab.async false
set_option linter.all false
set_option maxRecDepth 100000
set_option maxHeartbeats 1000000
/-! Y5: in, dicts, places, slices, calls of built-ins. -/
namespace Y
open PySem PySem.Spec PyProof.Rows L2
/-! ### flat values, keys -/
def flatD : D → Option V
  | .non => some .non
  | .bl b => some (.bl b)
  | .int i => some (.int i)
  | .str x => some (.str x)
  | _ => none
def keyD : D → Option Key
  | .int i => some (.inl i)
  | .str x => some (.inr x)
  | _ => none
def lookD {κ : Type} [DecidableEq κ] (l : List (κ × D)) (k : κ) : Option D := (l.find? fun q => decide (q.1 = k)).map (·.2)
def putD {κ : Type} [DecidableEq κ] (l : List (κ × D)) (k : κ) (v : D) : List (κ × D) :=
  if (l.any fun q => decide (q.1 = k)) = true then l.map (fun q => if q.1 = k then (q.1, v) else q) else l ++ [(k, v)]
def dropD {κ : Type} [DecidableEq κ] (l : List (κ × D)) (k : κ) : List (κ × D) := l.filter fun q => decide (q.1 ≠ k)
section
variable {c : Ct} {m : Nat → Addr} {n : Nat} {H : Hp}
theorem flat_of {d : D} {v w : V} (r : RelD c m n H d v) (e : flatD d = some w) : v = w ∧ flatV v = true := by
  cases d <;> cases e
  · rw [rd_non r]; exact ⟨rfl, rfl⟩
  · rw [rd_bl r]; exact ⟨rfl, rfl⟩
  · rw [rd_int r]; exact ⟨rfl, rfl⟩
  · rw [rd_str r]; exact ⟨rfl, rfl⟩
theorem flats_of : ∀ {l : List D} {vs ws : List V}, RelDs c m n H l vs → mapO flatD l = some ws → vs = ws ∧ vs.all flatV = true
  | [], _, _, r, e => by cases e; rw [rd_nil r]; exact ⟨rfl, rfl⟩
  | d :: l, _, _, r, e => by
    obtain ⟨v, w, e1, r1, r2⟩ := rd_cons r
    unfold mapO at e
    split at e
    · rename_i a b ea eb
      cases e
      obtain ⟨h1, h2⟩ := flat_of r1 ea
      obtain ⟨h3, h4⟩ := flats_of r2 eb
      rw [e1, List.all_cons, h2, h4, h1, h3]
      exact ⟨rfl, rfl⟩
    · cases e
theorem key_of {d : D} {v : V} {k : Key} (r : RelD c m n H d v) (e : keyD d = some k) : v = kV k := by
  cases d <;> cases e
  · exact rd_int r
  · exact rd_str r
theorem keys_of : ∀ {l : List D} {vs : List V} {ks : List Key}, RelDs c m n H l vs → mapO keyD l = some ks → vs = ks.map kV
  | [], _, _, r, e => by cases e; exact rd_nil r
  | d :: l, _, _, r, e => by
    obtain ⟨v, w, e1, r1, r2⟩ := rd_cons r
    unfold mapO at e
    split at e
    · rename_i a b ea eb
      cases e
      rw [e1, key_of r1 ea, keys_of r2 eb] <;> rfl
    · cases e
section
variable {κ : Type} [DecidableEq κ]
theorem rk_cons {p : κ × D} {l : List (κ × D)} {vs : List (κ × V)} (h : RelK c m n H (p :: l) vs) : ∃ v r, vs = (p.1, v) :: r ∧ RelD c m n H p.2 v ∧ RelK c m n H l r := by unfold RelK at h; exact h
theorem rk_nil {vs : List (κ × V)} (h : RelK c m n H ([] : List (κ × D)) vs) : vs = [] := by unfold RelK at h; exact h
theorem mkk_nil : RelK c m n H ([] : List (κ × D)) [] := by unfold RelK; rfl
theorem mkk_cons {p : κ × D} {l : List (κ × D)} {v : V} {vs : List (κ × V)} (h : RelD c m n H p.2 v) (r : RelK c m n H l vs) : RelK c m n H (p :: l) ((p.1, v) :: vs) := by unfold RelK; exact ⟨v, vs, rfl, h, r⟩
theorem RelK.length : ∀ {l : List (κ × D)} {vs : List (κ × V)}, RelK c m n H l vs → l.length = vs.length
  | [], _, h => by rw [rk_nil h] <;> rfl
  | d :: l, _, h => by
    obtain ⟨v, r, e, _, h2⟩ := rk_cons h
    rw [e, List.length_cons, List.length_cons, RelK.length h2]
theorem RelK.look (k : κ) : ∀ {l : List (κ × D)} {vs : List (κ × V)}, RelK c m n H l vs → (lookD l k = none ∧ valV vs k = none) ∨ ∃ d v, lookD l k = some d ∧ valV vs k = some v ∧ RelD c m n H d v
  | [], _, h => by rw [rk_nil h]; exact .inl ⟨rfl, rfl⟩
  | p :: l, _, h => by
    obtain ⟨v, r, e, h1, h2⟩ := rk_cons h
    rw [e]
    by_cases q : p.1 = k
    · refine .inr ⟨p.2, v, ?_, ?_, h1⟩
      · unfold lookD
        rw [List.find?_cons, decide_eq_true q] <;> rfl
      · exact valV_pos (p := (p.1, v)) q
    · have e1 : lookD (p :: l) k = lookD l k := by
        unfold lookD
        rw [List.find?_cons, decide_eq_false q]
      rw [e1, valV_neg (p := (p.1, v)) q]
      exact RelK.look k h2
theorem RelK.any (k : κ) : ∀ {l : List (κ × D)} {vs : List (κ × V)}, RelK c m n H l vs → (l.any fun q => decide (q.1 = k)) = (vs.any fun q => decide (q.1 = k))
  | [], _, h => by rw [rk_nil h] <;> rfl
  | p :: l, _, h => by
    obtain ⟨v, r, e, h1, h2⟩ := rk_cons h
    rw [e, List.any_cons, List.any_cons, RelK.any k h2]
theorem RelK.mapPut (k : κ) {d : D} {w : V} (hd : RelD c m n H d w) : ∀ {l : List (κ × D)} {vs : List (κ × V)}, RelK c m n H l vs → RelK c m n H (l.map fun q => if q.1 = k then (q.1, d) else q) (vs.map fun q => if q.1 = k then (q.1, w) else q)
  | [], _, h => by rw [rk_nil h]; exact mkk_nil
  | p :: l, _, h => by
    obtain ⟨v, r, e, h1, h2⟩ := rk_cons h
    rw [e, List.map_cons, List.map_cons]
    by_cases q : p.1 = k
    · rw [if_pos q, if_pos q]
      exact mkk_cons (p := (p.1, d)) hd (RelK.mapPut k hd h2)
    · rw [if_neg q, if_neg q]
      exact mkk_cons h1 (RelK.mapPut k hd h2)
theorem RelK.append : ∀ {l l' : List (κ × D)} {vs ws : List (κ × V)}, RelK c m n H l vs → RelK c m n H l' ws → RelK c m n H (l ++ l') (vs ++ ws)
  | [], _, _, _, h, q => by rw [rk_nil h]; exact q
  | p :: l, _, _, _, h, q => by
    obtain ⟨v, r, e, h1, h2⟩ := rk_cons h
    rw [e]
    exact mkk_cons h1 (RelK.append h2 q)
theorem RelK.put (k : κ) {d : D} {w : V} {l : List (κ × D)} {vs : List (κ × V)} (hd : RelD c m n H d w) (h : RelK c m n H l vs) : RelK c m n H (putD l k d) (putK vs k w) := by
  unfold putD putK
  rw [RelK.any k h]
  split
  · exact RelK.mapPut k hd h
  · exact RelK.append h (mkk_cons (p := (k, d)) hd mkk_nil)
theorem RelK.drop (k : κ) : ∀ {l : List (κ × D)} {vs : List (κ × V)}, RelK c m n H l vs → RelK c m n H (dropD l k) (dropK vs k)
  | [], _, h => by rw [rk_nil h]; exact mkk_nil
  | p :: l, _, h => by
    obtain ⟨v, r, e, h1, h2⟩ := rk_cons h
    have ih := RelK.drop k h2
    unfold dropD dropK at ih ⊢
    rw [e, List.filter_cons, List.filter_cons]
    by_cases q : p.1 = k
    · rw [decide_eq_false (fun z => z q), if_neg Bool.false_ne_true, if_neg Bool.false_ne_true]
      exact ih
    · rw [decide_eq_true q, if_pos rfl, if_pos rfl]
      exact mkk_cons h1 ih
end
end
/-! ### in -/
def itemsD (S : Sr) : D → Option (List D)
  | .tup l => some l
  | .ktp l => some l
  | .fro l => some l
  | .adr i => (match S.f i with
    | some (.lst l) => some l
    | _ => none)
  | _ => none
theorem items_of {c : Ct} {m : Nat → Addr} {S : Sr} {H : Hp} {d : D} {v : V} {l : List D} (s : Sim c m S H) (r : RelD c m S.n H d v) (e : itemsD S d = some l) : ∃ a vs, v = .ref a ∧ (SqL c.K H a vs ∨ SqT c.K H a vs) ∧ RelDs c m S.n H l vs := by
  cases d with
  | tup k =>
    cases e
    obtain ⟨a, vs, rfl, h, rs⟩ := rd_tup r
    exact ⟨a, vs, rfl, .inr (.inl (.inl h)), rs⟩
  | ktp k =>
    cases e
    obtain ⟨a, vs, rfl, h, rs⟩ := rd_ktp r
    exact ⟨a, vs, rfl, .inr h.sq, rs⟩
  | fro k =>
    cases e
    obtain ⟨a, vs, rfl, h, rs⟩ := rd_fro r
    exact ⟨a, vs, rfl, .inl h.sq, rs⟩
  | adr i =>
    obtain ⟨rfl, hi⟩ := rd_adr r
    have e : (match S.f i with
      | some (.lst l) => some l
      | _ => none) = some l := e
    split at e
    · rename_i k ek
      cases e
      obtain ⟨vs, h, rs⟩ := s.lst ek
      exact ⟨_, vs, rfl, .inl (.inl (.inl h)), rs⟩
    · cases e
  | _ => cases e
def inSeq (neg : Bool) : D → D → SM D := fun x y S => match itemsD S y with
  | some l => (match flatD x, mapO flatD l with
    | some v, some vs => .ok (.bl (if neg = true then !inV v vs else inV v vs)) S
    | _, _ => .bad)
  | none => .bad
def inTxt (neg : Bool) : D → D → SM D := fun x y S => match x, y with
  | .str i, .str j => .ok (.bl (if neg = true then !(!(Builtin.Str.occurrences j i 0 j.length 1).isEmpty) else !(Builtin.Str.occurrences j i 0 j.length 1).isEmpty)) S
  | _, _ => .bad
/-- what a dict has at a key -/
def dicAt (S : Sr) (d k : D) : Option (Option D) := match d with
  | .adr i => (match S.f i with
    | some (.dic l) => (keyD k).map fun k => lookD l k
    | some (.dit l) => (match k with
      | .tup ks => (mapO keyD ks).map fun k => lookD l k
      | _ => none)
    | _ => none)
  | _ => none
theorem dicAt_of {c : Ct} {m : Nat → Addr} {S : Sr} {H : Hp} {d k : D} {v w : V} {o : Option D} (s : Sim c m S H) (r : RelD c m S.n H d v) (rk : RelD c m S.n H k w) (e : dicAt S d k = some o) :
    ∃ a u, v = .ref a ∧ DGet H a w u ∧ ((o = none ∧ u = none) ∨ ∃ x y, o = some x ∧ u = some y ∧ RelD c m S.n H x y) := by
  cases d <;> try cases e
  rename_i i
  obtain ⟨rfl, hi⟩ := rd_adr r
  unfold dicAt at e
  dsimp only at e
  split at e
  · rename_i l el
    obtain ⟨q, eq, rfl⟩ := Option.map_eq_some_iff.mp e
    obtain ⟨vs, h, rs⟩ := s.dic el
    have ew := key_of rk eq
    subst ew
    refine ⟨_, _, rfl, DGet.k h, ?_⟩
    rcases rs.look q with ⟨e1, e2⟩ | ⟨x, y, e1, e2, e3⟩
    · exact .inl ⟨e1, e2⟩
    · exact .inr ⟨x, y, e1, e2, e3⟩
  · rename_i l el
    split at e
    · rename_i ks
      obtain ⟨q, eq, rfl⟩ := Option.map_eq_some_iff.mp e
      obtain ⟨vs, h, rs⟩ := s.dit el
      obtain ⟨b, ws, rfl, hb, rb⟩ := rd_tup rk
      have ew := keys_of rb eq
      subst ew
      refine ⟨_, _, rfl, DGet.t h hb, ?_⟩
      rcases rs.look q with ⟨e1, e2⟩ | ⟨x, y, e1, e2, e3⟩
      · exact .inl ⟨e1, e2⟩
      · exact .inr ⟨x, y, e1, e2, e3⟩
    · cases e
  · cases e
def inDic (neg : Bool) : D → D → SM D := fun x y S => match dicAt S y x with
  | some o => .ok (.bl (if neg = true then !o.isSome else o.isSome)) S
  | none => .bad
def rInD (neg : Bool) : R2 := fun y x H Q => ∃ a o, x = .ref a ∧ DGet H a y o ∧ Q (.bl (if neg = true then !o.isSome else o.isSome)) H
def rInT (neg : Bool) : R2 := fun x y H Q => ∃ i j, x = .str i ∧ y = .str j ∧ Q (.bl (if neg = true then !(!(Builtin.Str.occurrences j i 0 j.length 1).isEmpty) else !(Builtin.Str.occurrences j i 0 j.length 1).isEmpty)) H
section
variable {c : Ct} {X : Cx}
theorem snd_inSeq {neg : Bool} : Snd2 c (rIn c.K neg) (inSeq neg) := by
  intro E m S H Q x y v w s rx ry q
  unfold inSeq at q
  split at q
  · rename_i l el
    split at q
    · rename_i xv vs e1 e2
      obtain ⟨a, ws, rfl, hq, rs⟩ := items_of s ry el
      obtain ⟨rfl, hf⟩ := flat_of rx e1
      obtain ⟨rfl, hfs⟩ := flats_of rs e2
      refine ⟨a, ws, rfl, hq, hf, hfs, ?_⟩
      exact q m H _ (Nxt.refl s) mk_bl
    · exact q.elim
  · exact q.elim
theorem snd_inTxt {neg : Bool} : Snd2 c (rInT neg) (inTxt neg) := by
  intro E m S H Q x y v w s rx ry q
  cases x <;> first | exact (show False from q).elim | skip
  cases y <;> first | exact (show False from q).elim | skip
  exact ⟨_, _, rd_str rx, rd_str ry, q m H _ (Nxt.refl s) mk_bl⟩
theorem snd_inDic {neg : Bool} : Snd2 c (rInD neg) (inDic neg) := by
  intro E m S H Q x y v w s rx ry q
  unfold inDic at q
  split at q
  · rename_i o eo
    obtain ⟨a, u, rfl, g, h⟩ := dicAt_of s ry rx eo
    have e : o.isSome = u.isSome := by
      rcases h with ⟨e1, e2⟩ | ⟨_, _, e1, e2, _⟩ <;> rw [e1, e2] <;> rfl
    rw [e] at q
    exact ⟨a, u, rfl, g, q m H _ (Nxt.refl s) mk_bl⟩
  · exact q.elim
theorem op_inD (hu : X.A.units + 1 < cLine) : OpR X (compareOp .In) (rInD false) := by
  intro pins s σ H x y v u Q I rx ry h
  obtain ⟨a, o, rfl, g, q⟩ := h
  obtain rfl : u = Value.ref a := ry
  exact d_in hu I g rx fun s3 I3 => ⟨.bl o.isSome, H, I3, rfl, q⟩
theorem op_notinD (hu : X.A.units + 1 < cLine) : OpR X (compareOp .NotIn) (rInD true) := by
  intro pins s σ H x y v u Q I rx ry h
  obtain ⟨a, o, rfl, g, q⟩ := h
  obtain rfl : u = Value.ref a := ry
  exact d_notIn hu I g rx fun s3 I3 => ⟨.bl (!o.isSome), H, I3, rfl, q⟩
theorem op_inT : OpR X (compareOp .In) (rInT false) := op_in_str
theorem op_notinT : OpR X (compareOp .NotIn) (rInT true) := op_notin_str
abbrev rInA (K : PySem.W.Frag) (neg : Bool) : R2 := fun x y H Q => rIn K neg x y H Q ∨ (fun x y H Q => rInT neg x y H Q ∨ rInD neg x y H Q) x y H Q
def dIn (neg : Bool) : D → D → SM D := orF (inSeq neg) (orF (inTxt neg) (inDic neg))
theorem op_inA (hu : X.A.units + 1 < cLine) : OpR X (compareOp .In) (rInA X.K false) := OpR.or op_in_seq (OpR.or op_inT (op_inD hu))
theorem op_notinA (hu : X.A.units + 1 < cLine) : OpR X (compareOp .NotIn) (rInA X.K true) := OpR.or op_notIn_seq (OpR.or op_notinT (op_notinD hu))
theorem snd_in {neg : Bool} : Snd2 c (rInA c.K neg) (dIn neg) := snd_or snd_inSeq (snd_or snd_inTxt snd_inDic)
/-! ### places -/
def ixSeq : D → D → SM D := fun x y S => match itemsD S x, y with
  | some l, .int i => (match atI l i with
    | some d => .ok d S
    | none => .bad)
  | _, _ => .bad
def ixTxt : D → D → SM D := fun x y S => match x, y with
  | .str z, .int i => if z.length ≤ sizeLine then (match atI z.cps.toList i with
    | some ch => .ok (.str ⟨#[ch]⟩) S
    | none => .bad) else .bad
  | _, _ => .bad
def ixDic : D → D → SM D := fun x y S => match dicAt S x y with
  | some (some d) => .ok d S
  | _ => .bad
def rIxD : R2 := fun x y H Q => ∃ a v, x = .ref a ∧ DGet H a y (some v) ∧ Q v H
theorem ix_dic (hu : X.A.units + 1 < cLine) : IxR X rIxD := by
  intro value slice pins s σ H x y v u Q I rx ry h hs
  obtain ⟨a, z, rfl, g, q⟩ := h
  obtain rfl : v = Value.ref a := rx
  exact tail_any (dict_typeIs I g) PySem.F.slot_dict_getitem.lookup (d_getItem hu I g ry fun w' s3 I3 rw' => ⟨z, H, I3, rw', q⟩) hs
theorem atI_rel {m : Nat → Addr} {n : Nat} {H : Hp} {l : List D} {vs : List V} {i : Int} {d : D} (r : RelDs c m n H l vs) (e : atI l i = some d) : ∃ v, atI vs i = some v ∧ RelD c m n H d v := by
  unfold atI at e ⊢
  rw [← r.length]
  cases q : ixN l.length i with
  | none => rw [q] at e; cases e
  | some j =>
    rw [q] at e
    exact r.get e
theorem snd_ixSeq : Snd2 c (fun x y H Q => rIxL c.K x y H Q ∨ rIxT c.K x y H Q) ixSeq := by
  intro E m S H Q x y v w s rx ry q
  unfold ixSeq at q
  split at q
  · rename_i l i el
    split at q
    · rename_i d ed
      obtain ⟨a, vs, rfl, hq, rs⟩ := items_of s rx el
      obtain ⟨u, eu, ru⟩ := atI_rel rs ed
      have fin := q m H u (Nxt.refl s) ru
      rcases hq with hq | hq
      · exact .inl ⟨a, vs, i, u, rfl, rd_int ry, hq, eu, fin⟩
      · exact .inr ⟨a, vs, i, u, rfl, rd_int ry, hq, eu, fin⟩
    · exact q.elim
  · exact q.elim
theorem snd_ixTxt : Snd2 c rIxS ixTxt := by
  intro E m S H Q x y v w s rx ry q
  cases x <;> first | exact (show False from q).elim | skip
  cases y <;> first | exact (show False from q).elim | skip
  obtain ⟨hz, q⟩ := po_if (c := c) (E := E) q
  split at q
  · rename_i ch ec
    exact ⟨_, _, ch, rd_str rx, rd_int ry, hz, ec, q m H _ (Nxt.refl s) mk_str⟩
  · exact q.elim
theorem snd_ixDic : Snd2 c rIxD ixDic := by
  intro E m S H Q x y v w s rx ry q
  unfold ixDic at q
  split at q
  · rename_i d ed
    obtain ⟨a, u, rfl, g, h⟩ := dicAt_of s rx ry ed
    rcases h with ⟨e1, _⟩ | ⟨d', y', e1, e2, e3⟩
    · cases e1
    · cases e1
      subst e2
      exact ⟨a, y', rfl, g, q m H _ (Nxt.refl s) e3⟩
  · exact q.elim
def dIx : D → D → SM D := orF ixSeq (orF ixTxt ixDic)
abbrev rIxA (K : PySem.W.Frag) : R2 := fun x y H Q => (fun x y H Q => rIxL K x y H Q ∨ rIxT K x y H Q) x y H Q ∨ (fun x y H Q => rIxS x y H Q ∨ rIxD x y H Q) x y H Q
theorem ix_A (hu : X.A.units + 1 < cLine) : IxR X (rIxA X.K) := IxR.or (IxR.or ix_list ix_tup) (IxR.or ix_str (ix_dic hu))
theorem snd_ix : Snd2 c (rIxA c.K) dIx := snd_or snd_ixSeq (snd_or snd_ixTxt snd_ixDic)
/-! ### stores to places -/
def putSeq : D → D → D → Sr → Option Sr := fun o i v S => match o, i with
  | .adr a, .int k => (match S.f a with
    | some (.lst l) => (ixN l.length k).map fun j => S.put a (.lst (l.set j v))
    | _ => none)
  | _, _ => none
def putDic : D → D → D → Sr → Option Sr := fun o i v S => match o with
  | .adr a => (match S.f a with
    | some (.dic l) => if l.length < sizeLine then (keyD i).map fun k => S.put a (.dic (putD l k v)) else none
    | some (.dit l) => if l.length < sizeLine then (match i with
      | .tup ks => (mapO keyD ks).map fun k => S.put a (.dit (putD l k v))
      | _ => none) else none
    | _ => none)
  | _ => none
def putAt : D → D → D → Sr → Option Sr := fun o i v S => match putSeq o i v S with
  | some S' => some S'
  | none => putDic o i v S
def rSetD : TSet := fun o i v H Q => ∃ a H', o = .ref a ∧ DPut H a i v H' ∧ Q H'
theorem set_dic (hu : X.A.units + 1 < cLine) : PSet X rSetD := by
  intro pins s σ H o i v ov iv u Q I ro ri rv h
  obtain ⟨a, H', rfl, g, q⟩ := h
  obtain rfl : ov = Value.ref a := ro
  exact d_setItem hu I g ri rv fun s4 I4 => ⟨H', I4, q⟩
def rSetA : TSet := fun o i v H Q => rSetL o i v H Q ∨ rSetD o i v H Q
theorem set_A (hu : X.A.units + 1 < cLine) : PSet X rSetA := by
  intro pins s σ H o i v ov iv u Q I ro ri rv h
  rcases h with h | h
  · exact set_list pins s σ H o i v ov iv u Q I ro ri rv h
  · exact set_dic hu pins s σ H o i v ov iv u Q I ro ri rv h
theorem setA_of {m : Nat → Addr} {S S' : Sr} {H : Hp} {o i v : D} {ov iv w : V} {Q : Hp → Prop} (s : Sim c m S H) (ro : RelD c m S.n H o ov) (ri : RelD c m S.n H i iv) (rv : RelD c m S.n H v w) (e : putAt o i v S = some S')
    (q : ∀ H', Nxt c m S H m S' H' → Q H') : rSetA ov iv w H Q := by
  unfold putAt at e
  cases e1 : putSeq o i v S with
  | some S1 =>
    rw [e1] at e
    have e : S1 = S' := Option.some.inj e
    subst e
    left
    cases o <;> try cases e1
    cases i <;> try cases e1
    rename_i a k
    obtain ⟨rfl, ha⟩ := rd_adr ro
    have e1 : (match S.f a with
      | some (.lst l) => (ixN l.length k).map fun j => S.put a (.lst (l.set j v))
      | _ => none) = some S1 := e1
    split at e1
    · rename_i l el
      obtain ⟨j, ej, rfl⟩ := Option.map_eq_some_iff.mp e1
      obtain ⟨vs, h, rs⟩ := s.lst el
      exact ⟨m a, vs, k, j, rfl, rd_int ri, h, by rw [← rs.length]; exact ej, q _ (Nxt.put (x := .lst (l.set j v)) s el ⟨_, rfl, rs.set j rv⟩)⟩
    · cases e1
  | none =>
    rw [e1] at e
    have e2 : putDic o i v S = some S' := e
    clear e e1
    right
    cases o <;> try cases e2
    rename_i a
    obtain ⟨rfl, ha⟩ := rd_adr ro
    unfold putDic at e2
    dsimp only at e2
    have e := e2
    clear e2
    split at e
    · rename_i l el
      split at e
      · rename_i hl
        obtain ⟨k, ek, rfl⟩ := Option.map_eq_some_iff.mp e
        obtain ⟨vs, h, rs⟩ := s.dic el
        have ew := key_of ri ek
        subst ew
        exact ⟨m a, _, rfl, DPut.k h (by rw [← rs.length]; exact hl), q _ (Nxt.put (x := .dic (putD l k v)) s el ⟨_, rfl, rs.put k rv⟩)⟩
      · cases e
    · rename_i l el
      split at e
      · rename_i hl
        split at e
        · rename_i ks ri
          obtain ⟨k, ek, rfl⟩ := Option.map_eq_some_iff.mp e
          obtain ⟨vs, h, rs⟩ := s.dit el
          obtain ⟨b, ws, rfl, hb, rb⟩ := rd_tup ri
          have ew := keys_of rb ek
          subst ew
          exact ⟨m a, _, rfl, DPut.t h hb (by rw [← rs.length]; exact hl), q _ (Nxt.put (x := .dit (putD l k v)) s el ⟨_, rfl, rs.put k rv⟩)⟩
        · cases e
      · cases e
    · cases e
end
end Y

set_option Elab.async false
set_option linter.all false
set_option maxRecDepth 100000
set_option maxHeartbeats 1000000
/-! Y6: slices, calls of built-ins, attributes, calls of own defs. -/
namespace Y
open PySem PySem.Spec PyProof.Rows L2
/-! ### slices -/
def cutD (xs : List D) (lo hi : Option Int) : List D := (xs.drop (HT.sIx xs.length 0 lo)).take (HT.sIx xs.length xs.length hi - HT.sIx xs.length 0 lo)
abbrev MO' := Gm → SM (Option Int)
def oNo : MO' := fun _ S => .ok none S
def oE (a : ME) : MO' := fun g => SM.bind (a g) fun d S => match d with
  | .int i => .ok (some i) S
  | _ => .bad
def mSl (f : D → Option Int → Option Int → SM D) (a : ME) (l u : MO') : ME := fun g => SM.bind (a g) fun x => SM.bind (l g) fun lo => SM.bind (u g) fun hi => f x lo hi
def slD : D → Option Int → Option Int → SM D := fun x lo hi S => match x with
  | .str z => if z.length ≤ sizeLine then .ok (.str (cutS z lo hi)) S else .bad
  | .tup l => if HT.sIx l.length 0 lo = 0 ∧ HT.sIx l.length l.length hi = l.length then .bad else .ok (.tup (cutD l lo hi)) S
  | .fro l => .ok (.adr S.n) (S.alloc (.lst (cutD l lo hi)))
  | .adr i => (match S.f i with
    | some (.lst l) => .ok (.adr S.n) (S.alloc (.lst (cutD l lo hi)))
    | _ => .bad)
  | _ => .bad
abbrev rSlA (K : PySem.W.Frag) : V → Option Int → Option Int → Hp → VK → Prop := fun x lo hi H Q => rSlL K x lo hi H Q ∨ (fun x lo hi H Q => rSlT K x lo hi H Q ∨ rSlS x lo hi H Q) x lo hi H Q
theorem sl_A {X : Cx} : SlR X (rSlA X.K) := SlR.or sl_list (SlR.or sl_tup sl_str)
theorem cut_rel {c : Ct} {m : Nat → Addr} {n : Nat} {H : Hp} {l : List D} {vs : List V} (r : RelDs c m n H l vs) (lo hi : Option Int) : RelDs c m n H (cutD l lo hi) (cutV vs lo hi) := by
  unfold cutD cutV
  rw [r.length]
  exact (r.drop _).take _
theorem sl_of {c : Ct} {E : XK} {m : Nat → Addr} {S : Sr} {H : Hp} {Q : VK} {x : D} {v : V} {lo hi : Option Int} (s : Sim c m S H) (rx : RelD c m S.n H x v) (q : PoE c E m S H Q (slD x lo hi S)) : rSlA c.K v lo hi H Q := by
  cases x with
  | str z =>
    obtain ⟨hz, q⟩ := po_if (c := c) (E := E) q
    exact .inr (.inr ⟨z, rd_str rx, hz, q m H _ (Nxt.refl s) mk_str⟩)
  | tup l =>
    obtain ⟨a, vs, rfl, h, rs⟩ := rd_tup rx
    have q : PoE c E m S H Q (if HT.sIx l.length 0 lo = 0 ∧ HT.sIx l.length l.length hi = l.length then .bad else .ok (.tup (cutD l lo hi)) S) := q
    split at q
    · exact q.elim
    · rename_i hn
      exact .inr (.inl ⟨a, vs, rfl, .inl (.inl h), by rw [← rs.length]; exact hn, giveT s (cut_rel rs lo hi) q⟩)
  | fro l =>
    obtain ⟨a, vs, rfl, h, rs⟩ := rd_fro rx
    exact .inl ⟨a, vs, rfl, h.sq, giveO (x := .lst (cutD l lo hi)) s ⟨_, rfl, cut_rel rs lo hi⟩ q⟩
  | adr i =>
    obtain ⟨rfl, hi'⟩ := rd_adr rx
    have q : PoE c E m S H Q (match S.f i with
      | some (.lst l) => .ok (.adr S.n) (S.alloc (.lst (cutD l lo hi)))
      | _ => .bad) := q
    split at q
    · rename_i l el
      obtain ⟨vs, h, rs⟩ := s.lst el
      exact .inl ⟨_, vs, rfl, .inl (.inl h), giveO (x := .lst (cutD l lo hi)) s ⟨_, rfl, cut_rel rs lo hi⟩ q⟩
    · exact q.elim
  | _ => exact (show False from q).elim
section
variable {X : Cx} {c : Ct} {E : XK}
def PoO (c : Ct) (E : XK) (m : Nat → Addr) (S : Sr) (H : Hp) (Q : Option Int → Hp → Prop) : R (Option Int) → Prop
  | .ok o S' => ∀ m' H', Nxt c m S H m' S' H' → Q o H'
  | .exc q S' => ∀ m' H', Nxt c m S H m' S' H' → E (.ref (c.cls q)) none H'
  | .bad => False
def rdO (c : Ct) (E : XK) (x : MO') : TO := fun σ H Q => ∃ m S g, Sim c m S H ∧ RelG c m S.n H g σ ∧ PoO c E m S H Q (x g S)
theorem qo_no : PO X none (rdO c E oNo) := ⟨fun pins s σ H Q I ⟨m, S, g, si, rg, q⟩ => po_none.run pins s σ H Q I (q m H (Nxt.refl si))⟩
theorem seqO {x : ME} {k : D → SM (Option Int)} {m : Nat → Addr} {S : Sr} {H : Hp} {g : Gm} {σ : L2.St} {Q : Option Int → Hp → Prop} {QQ : VK} (s : Sim c m S H) (rg : RelG c m S.n H g σ) (h : PoO c E m S H Q (SM.bind (x g) k S))
    (hk : ∀ m1 S1 H1 d v, Nxt c m S H m1 S1 H1 → RelD c m1 S1.n H1 d v → PoO c E m1 S1 H1 Q (k d S1) → QQ v H1) : rdE c E x σ H QQ := by
  refine ⟨m, S, g, s, rg, ?_⟩
  unfold SM.bind at h
  cases e : x g S with
  | ok d S1 =>
    rw [e] at h
    refine fun m1 H1 v a r => hk m1 S1 H1 d v a r ?_
    cases e2 : k d S1 with
    | ok o S2 => rw [show PoO c E m S H Q (k d S1) = PoO c E m S H Q (.ok o S2) by rw [e2]] at h; exact fun m' H' b => h m' H' (a.trans s b)
    | exc o S2 => rw [show PoO c E m S H Q (k d S1) = PoO c E m S H Q (.exc o S2) by rw [e2]] at h; exact fun m' H' b => h m' H' (a.trans s b)
    | bad => rw [show PoO c E m S H Q (k d S1) = PoO c E m S H Q .bad by rw [e2]] at h; exact h
  | exc q S1 =>
    rw [e] at h
    exact h
  | bad =>
    rw [e] at h
    exact h
theorem qo_e {e : Expr} {ma : ME} (h : PE X e (rdE c E ma)) : PO X (some e) (rdO c E (oE ma)) := by
  refine ⟨fun pins s σ H Q I q => (po_some h).run pins s σ H Q I ?_⟩
  obtain ⟨m, S, g, si, rg, q⟩ := q
  refine seqO si rg q fun m1 S1 H1 d v a r q1 => ?_
  cases d <;> first | exact (show False from q1).elim | skip
  exact ⟨_, rd_int r, q1 m1 H1 (Nxt.refl a.sim)⟩
theorem seqEO {x : MO'} {k : Option Int → SM D} {m : Nat → Addr} {S : Sr} {H : Hp} {g : Gm} {σ : L2.St} {Q : VK} {QQ : Option Int → Hp → Prop} (s : Sim c m S H) (rg : RelG c m S.n H g σ) (h : PoE c E m S H Q (SM.bind (x g) k S))
    (hk : ∀ m1 S1 H1 b, Nxt c m S H m1 S1 H1 → PoE c E m1 S1 H1 Q (k b S1) → QQ b H1) : rdO c E x σ H QQ := by
  refine ⟨m, S, g, s, rg, ?_⟩
  unfold SM.bind at h
  cases e : x g S with
  | ok d S1 =>
    rw [e] at h
    exact fun m1 H1 a => hk m1 S1 H1 d a (PoE.go s a h)
  | exc q S1 =>
    rw [e] at h
    exact h
  | bad =>
    rw [e] at h
    exact h
theorem qe_sl {e : Expr} {l u : Option Expr} {ma : ME} {ml mu : MO'} {p2 pos : Pos} (hK : X.K = c.K) (ha : PE X e (rdE c E ma)) (hl : PO X l (rdO c E ml)) (hu : PO X u (rdO c E mu)) : PE X (.Subscript e (.Slice l u none p2) pos) (rdE c E (mSl slD ma ml mu)) :=
  PE.imp (pe_slice sl_A ha hl hu) fun σ H Q ⟨m, S, g, s, rg, q⟩ => seqE s rg q fun m1 S1 H1 x v a rx q1 => seqEO a.sim (a.relG rg) q1 fun m2 S2 H2 lo b q2 => seqEO b.sim (b.relG (a.relG rg)) q2 fun m3 S3 H3 hi d q3 => by
    have z := sl_of d.sim (d.relD (b.relD rx)) q3
    rw [hK]
    exact z
/-! ### calls of built-ins -/
def mCB (f : List D → SM D) (a : MA) : ME := fun g => SM.bind (a g) f
theorem tCB_of {r : List V → Hp → VK → Prop} {f : List D → SM D} {ma : MA} (hs : SndA c r f) (σ : L2.St) (H : Hp) (Q : VK) (h : rdE c E (mCB f ma) σ H Q) : tCB r (rdA c E ma) σ H Q := by
  obtain ⟨m, S, g, s, rg, q⟩ := h
  exact seqEA s rg q fun m1 S1 H1 l vs a rs q1 => hs E m1 S1 H1 Q l vs a.sim rs q1
theorem qe_cb {e : Expr} {r : List V → Hp → VK → Prop} {f : List D → SM D} {ma : MA} (h : PE X e (tCB r (rdA c E ma))) (hs : SndA c r f) : PE X e (rdE c E (mCB f ma)) := PE.imp h (tCB_of hs)
def fAbs : List D → SM D := fun l S => match l with
  | [.int i] => .ok (.int (if i < 0 then -i else i)) S
  | _ => .bad
def fMax2 : List D → SM D := fun l S => match l with
  | [.int i, .int j] => .ok (.int (if j > i then j else i)) S
  | _ => .bad
def fMin2 : List D → SM D := fun l S => match l with
  | [.int i, .int j] => .ok (.int (if j < i then j else i)) S
  | _ => .bad
def fInt : List D → SM D := fun l S => match l with
  | [.int i] => .ok (.int i) S
  | [.bl k] => .ok (.int (if k = true then 1 else 0)) S
  | [.str x] => (match PySem.intText? x with
    | some n => if x.length ≤ 640 then .ok (.int n) S else .bad
    | none => .bad)
  | _ => .bad
def fStr : List D → SM D := fun l S => match l with
  | [.int i] => if i.natAbs.log2 < 1920 then .ok (.str (toString i)) S else .bad
  | _ => .bad
def lenD (S : Sr) : D → Option Nat
  | .str x => if x.length ≤ sizeLine then some x.length else none
  | .tup l => some l.length
  | .ktp l => some l.length
  | .fro l => some l.length
  | .adr i => (match S.f i with
    | some (.lst l) => some l.length
    | some (.dic l) => some l.length
    | _ => none)
  | _ => none
def fLen : List D → SM D := fun l S => match l with
  | [d] => (match lenD S d with
    | some n => .ok (.int (n : Int)) S
    | none => .bad)
  | _ => .bad
def fTuple : List D → SM D := fun l S => match l with
  | [.tup l] => .ok (.tup l) S
  | [.ktp l] => .ok (.ktp l) S
  | [.fro l] => .ok (.tup l) S
  | [.adr i] => (match S.f i with
    | some (.lst l) => .ok (.tup l) S
    | _ => .bad)
  | _ => .bad
def fList : List D → SM D := fun l S => match l with
  | [d] => (match itemsD S d with
    | some l => .ok (.adr S.n) (S.alloc (.lst l))
    | none => .bad)
  | _ => .bad
theorem one_of {m : Nat → Addr} {n : Nat} {H : Hp} {d : D} {vs : List V} (r : RelDs c m n H [d] vs) : ∃ v, vs = [v] ∧ RelD c m n H d v := by
  obtain ⟨v, w, rfl, h, r2⟩ := rd_cons r
  rw [rd_nil r2]
  exact ⟨v, rfl, h⟩
theorem two_of {m : Nat → Addr} {n : Nat} {H : Hp} {d d' : D} {vs : List V} (r : RelDs c m n H [d, d'] vs) : ∃ v v', vs = [v, v'] ∧ RelD c m n H d v ∧ RelD c m n H d' v' := by
  obtain ⟨v, w, rfl, h, r2⟩ := rd_cons r
  obtain ⟨v', rfl, h2⟩ := one_of r2
  exact ⟨v, v', rfl, h, h2⟩
theorem snd_abs : SndA c (fun xs H Q => ∃ i, xs = [.int i] ∧ Q (.int (if i < 0 then -i else i)) H) fAbs := by
  intro E m S H Q l vs s r q
  unfold fAbs at q
  split at q
  · obtain ⟨v, rfl, h⟩ := one_of r
    rw [rd_int h]
    exact ⟨_, rfl, q m H _ (Nxt.refl s) mk_int⟩
  · exact q.elim
theorem snd_max2 : SndA c (fun xs H Q => ∃ i j, xs = [.int i, .int j] ∧ Q (.int (if j > i then j else i)) H) fMax2 := by
  intro E m S H Q l vs s r q
  unfold fMax2 at q
  split at q
  · obtain ⟨v, v', rfl, h, h'⟩ := two_of r
    rw [rd_int h, rd_int h']
    exact ⟨_, _, rfl, q m H _ (Nxt.refl s) mk_int⟩
  · exact q.elim
theorem snd_min2 : SndA c (fun xs H Q => ∃ i j, xs = [.int i, .int j] ∧ Q (.int (if j < i then j else i)) H) fMin2 := by
  intro E m S H Q l vs s r q
  unfold fMin2 at q
  split at q
  · obtain ⟨v, v', rfl, h, h'⟩ := two_of r
    rw [rd_int h, rd_int h']
    exact ⟨_, _, rfl, q m H _ (Nxt.refl s) mk_int⟩
  · exact q.elim
abbrev rIntA : List V → Hp → VK → Prop := fun xs H Q => (fun xs H Q => (∃ i, xs = [V.int i] ∧ Q (.int i) H) ∨ ∃ k, xs = [V.bl k] ∧ Q (.int (if k then 1 else 0)) H) xs H Q ∨ (fun xs H Q => ∃ (a : Str) (n : Int), xs = [V.str a] ∧ PySem.intText? a = some n ∧ a.length ≤ 640 ∧ Q (.int n) H) xs H Q
theorem call_intA : CallR X (.type "int") rIntA := CallR.or call_int1 call_int_str
theorem snd_int : SndA c rIntA fInt := by
  intro E m S H Q l vs s r q
  unfold fInt at q
  split at q
  · obtain ⟨v, rfl, h⟩ := one_of r
    rw [rd_int h]
    exact .inl (.inl ⟨_, rfl, q m H _ (Nxt.refl s) mk_int⟩)
  · obtain ⟨v, rfl, h⟩ := one_of r
    rw [rd_bl h]
    exact .inl (.inr ⟨_, rfl, q m H _ (Nxt.refl s) mk_int⟩)
  · obtain ⟨v, rfl, h⟩ := one_of r
    rw [rd_str h]
    split at q
    · rename_i n en
      obtain ⟨hl, q⟩ := po_if q
      exact .inr ⟨_, n, rfl, en, hl, q m H _ (Nxt.refl s) mk_int⟩
    · exact q.elim
  · exact q.elim
theorem snd_str : SndA c (fun xs H Q => ∃ i : Int, xs = [V.int i] ∧ i.natAbs.log2 < 1920 ∧ Q (.str (toString i)) H) fStr := by
  intro E m S H Q l vs s r q
  unfold fStr at q
  split at q
  · obtain ⟨v, rfl, h⟩ := one_of r
    rw [rd_int h]
    obtain ⟨hl, q⟩ := po_if q
    exact ⟨_, rfl, hl, q m H _ (Nxt.refl s) mk_str⟩
  · exact q.elim
abbrev rLenA (K : PySem.W.Frag) : List V → Hp → VK → Prop := fun xs H Q => (fun xs H Q => ∃ z : Str, xs = [V.str z] ∧ z.length ≤ sizeLine ∧ Q (.int z.length) H) xs H Q ∨ (fun xs H Q => (fun xs H Q => ∃ p ys, xs = [V.ref p] ∧ (SqL K H p ys ∨ SqT K H p ys) ∧ Q (.int ys.length) H) xs H Q ∨ (fun xs H Q => ∃ a kvs, xs = [V.ref a] ∧ H a = some (.dK kvs) ∧ Q (.int kvs.length) H) xs H Q) xs H Q
theorem call_lenA : CallR X (.builtin "len") (rLenA X.K) := CallR.or call_len_str (CallR.or call_len_seq call_lenD)
theorem snd_len : SndA c (rLenA c.K) fLen := by
  intro E m S H Q l vs s r q
  unfold fLen at q
  split at q
  · rename_i d
    obtain ⟨v, rfl, h⟩ := one_of r
    split at q
    · rename_i n en
      have fin := q m H _ (Nxt.refl s) mk_int
      cases d with
      | str x =>
        have en : (if x.length ≤ sizeLine then some x.length else none) = some n := en
        split at en
        · rename_i hl
          cases en
          rw [rd_str h]
          exact .inl ⟨_, rfl, hl, fin⟩
        · cases en
      | tup l =>
        cases en
        obtain ⟨a, vs, rfl, hh, rs⟩ := rd_tup h
        rw [rs.length] at fin
        exact .inr (.inl ⟨a, vs, rfl, .inr (.inl (.inl hh)), fin⟩)
      | ktp l =>
        cases en
        obtain ⟨a, vs, rfl, hh, rs⟩ := rd_ktp h
        rw [rs.length] at fin
        exact .inr (.inl ⟨a, vs, rfl, .inr hh.sq, fin⟩)
      | fro l =>
        cases en
        obtain ⟨a, vs, rfl, hh, rs⟩ := rd_fro h
        rw [rs.length] at fin
        exact .inr (.inl ⟨a, vs, rfl, .inl hh.sq, fin⟩)
      | adr i =>
        obtain ⟨rfl, hi⟩ := rd_adr h
        have en : (match S.f i with
          | some (.lst l) => some l.length
          | some (.dic l) => some l.length
          | _ => none) = some n := en
        split at en
        · rename_i l el
          cases en
          obtain ⟨vs, hh, rs⟩ := s.lst el
          rw [rs.length] at fin
          exact .inr (.inl ⟨_, vs, rfl, .inl (.inl (.inl hh)), fin⟩)
        · rename_i l el
          cases en
          obtain ⟨vs, hh, rs⟩ := s.dic el
          rw [rs.length] at fin
          exact .inr (.inr ⟨_, vs, rfl, hh, fin⟩)
        · cases en
      | _ => cases en
    · exact q.elim
  · exact q.elim
theorem snd_tuple : SndA c (fun xs H Q => ∃ p ys, xs = [V.ref p] ∧ ((SqL c.K H p ys ∧ ∀ l, H l = none → Q (.ref l) (upd H l (.tup ys))) ∨ (SqT c.K H p ys ∧ Q (.ref p) H))) fTuple := by
  intro E m S H Q l vs s r q
  unfold fTuple at q
  split at q
  · obtain ⟨v, rfl, h⟩ := one_of r
    have fin := q m H _ (Nxt.refl s) h
    obtain ⟨a, vs, rfl, hh, rs⟩ := rd_tup h
    exact ⟨a, vs, rfl, .inr ⟨.inl (.inl hh), fin⟩⟩
  · obtain ⟨v, rfl, h⟩ := one_of r
    have fin := q m H _ (Nxt.refl s) h
    obtain ⟨a, vs, rfl, hh, rs⟩ := rd_ktp h
    exact ⟨a, vs, rfl, .inr ⟨hh.sq, fin⟩⟩
  · obtain ⟨v, rfl, h⟩ := one_of r
    obtain ⟨a, vs, rfl, hh, rs⟩ := rd_fro h
    exact ⟨a, vs, rfl, .inl ⟨hh.sq, giveT s rs q⟩⟩
  · obtain ⟨v, rfl, h⟩ := one_of r
    obtain ⟨rfl, hi⟩ := rd_adr h
    split at q
    · rename_i l el
      obtain ⟨vs, hh, rs⟩ := s.lst el
      exact ⟨_, vs, rfl, .inl ⟨.inl (.inl hh), giveT s rs q⟩⟩
    · exact q.elim
  · exact q.elim
theorem snd_list : SndA c (fun xs H Q => ∃ p ys, xs = [V.ref p] ∧ (SqL c.K H p ys ∨ SqT c.K H p ys) ∧ ∀ l, H l = none → Q (.ref l) (upd H l (.lst ys))) fList := by
  intro E m S H Q l vs s r q
  unfold fList at q
  split at q
  · obtain ⟨v, rfl, h⟩ := one_of r
    split at q
    · rename_i l el
      obtain ⟨a, vs, rfl, hq, rs⟩ := items_of s h el
      exact ⟨a, vs, rfl, hq, giveO (x := .lst l) s ⟨_, rfl, rs⟩ q⟩
    · exact q.elim
  · exact q.elim
/-- isinstance(e, T), T a built-in class's name -/
def tyD (S : Sr) : D → Option String
  | .non => some "NoneType"
  | .bl _ => some "bool"
  | .int _ => some "int"
  | .str _ => some "str"
  | .tup _ => some "tuple"
  | .adr i => (match S.f i with
    | some (.lst _) => some "list"
    | some (.dic _) => some "dict"
    | some (.dit _) => some "dict"
    | _ => none)
  | _ => none
def fIsi (T : String) : D → SM D := fun d S => match tyD S d with
  | some t => (match kitB t T with
    | some b => .ok (.bl b) S
    | none => .bad)
  | none => .bad
theorem tyD_of {m : Nat → Addr} {S : Sr} {H : Hp} {d : D} {v : V} {t : String} (s : Sim c m S H) (r : RelD c m S.n H d v) (e : tyD S d = some t) : TyX c.K H v (.type t) := by
  cases d with
  | non => cases e; rw [rd_non r]; exact .base .non
  | bl b => cases e; rw [rd_bl r]; exact .base (.bl b)
  | int b => cases e; rw [rd_int r]; exact .base (.int b)
  | str b => cases e; rw [rd_str r]; exact .base (.str b)
  | tup l => cases e; obtain ⟨a, vs, rfl, h, _⟩ := rd_tup r; exact .base (.tup h)
  | adr i =>
    obtain ⟨rfl, hi⟩ := rd_adr r
    have e : (match S.f i with
      | some (.lst _) => some "list"
      | some (.dic _) => some "dict"
      | some (.dit _) => some "dict"
      | _ => none) = some t := e
    split at e
    · rename_i l el
      cases e
      obtain ⟨vs, h, _⟩ := s.lst el
      exact .base (.lst h)
    · rename_i l el
      cases e
      obtain ⟨vs, h, _⟩ := s.dic el
      exact .base (.dK h)
    · rename_i l el
      cases e
      obtain ⟨vs, h, _⟩ := s.dit el
      exact .base (.dT h)
    · cases e
  | _ => cases e
theorem qe_isi {a b : Expr} {ma : ME} {T : String} {x : Str} {p pos : Pos} (hK : X.K = c.K) (hg : Gl X x) (hm : X.mg x = none) (hv : bootBuiltins x = some (.builtin "isinstance")) (ha : PE X a (rdE c E ma)) (hb : PE X b (tC (.ty T)))
    (hn : x ≠ "__name__" := by decide) (hdb : (x == ("__debug__" : Str)) = false := by decide)
    (he : starEach (a :: [b]) X.env = (false, eval a X.env) :: starEach [b] X.env := by rfl) (he2 : starEach [b] X.env = (false, eval b X.env) :: starEach [] X.env := by rfl) (hpl : (backTo pos (starEach [b] X.env)).any (·.1) = false := by rfl) : PE X (.Call (.Name x p) [a, b] [] pos) (rdE c E (mU (fIsi T) ma)) :=
  PE.imp (pe_callB call_isi hg hm hv (pa_cons ha (pa_cons hb pa_nil he2) he) hn hdb he hpl) fun σ H Q ⟨m, S, g, s, rg, q⟩ => seqE s rg q fun m1 S1 H1 d v a r q1 => by
    unfold fIsi at q1
    split at q1
    · rename_i t et
      split at q1
      · rename_i k ek
        refine ⟨v, .ty T, .type t, .type T, k, rfl, .ty T, ?_, kit_ty ek, q1 m1 H1 _ (Nxt.refl a.sim) mk_bl⟩
        rw [hK]
        exact tyD_of a.sim r et
      · exact q1.elim
    · exact q1.elim
/-! ### attributes -/
structure Att (c : Ct) (K : PySem.W.Frag) (qs : List Str) (f : Str) : Prop where
  cl : ∀ q ∈ qs, Cls K (c.cls q)
  no : ∀ q ∈ qs, NoAttr K (c.cls q) f
def mAttr (qs : List Str) (f : Str) (a : ME) : ME := fun g => SM.bind (a g) fun d S => match d with
  | .adr i => (match S.f i with
    | some (.ins q fs) => if q ∈ qs then (match fs.lookup f with
      | some d => .ok d S
      | none => .bad) else .bad
    | _ => .bad)
  | _ => .bad
theorem RelK.lookup {m : Nat → Addr} {n : Nat} {H : Hp} (f : Str) : ∀ {l : List (Str × D)} {vs : List (Str × V)}, RelK c m n H l vs → (l.lookup f = none ∧ vs.lookup f = none) ∨ ∃ d v, l.lookup f = some d ∧ vs.lookup f = some v ∧ RelD c m n H d v
  | [], _, h => by rw [rk_nil h]; exact .inl ⟨rfl, rfl⟩
  | p :: l, _, h => by
    obtain ⟨v, r, rfl, h1, h2⟩ := rk_cons h
    by_cases e : f = p.1
    · have hb : (f == p.1) = true := beq_iff_eq.mpr e
      refine .inr ⟨p.2, v, ?_, ?_, h1⟩
      · obtain ⟨p1, p2⟩ := p
        simp only [List.lookup, hb]
      · simp only [List.lookup, hb]
    · have hb : (f == p.1) = false := beq_eq_false_iff_ne.mpr e
      have e1 : (p :: l).lookup f = l.lookup f := by
        obtain ⟨p1, p2⟩ := p
        simp only [List.lookup, hb]
      have e2 : ((p.1, v) :: r).lookup f = r.lookup f := by
        simp only [List.lookup, hb]
      rw [e1, e2]
      exact RelK.lookup f h2
theorem qe_attr {e : Expr} {f : Str} {qs : List Str} {ma : ME} {pos : Pos} (A : Att c X.K qs f) (h : PE X e (rdE c E ma)) (hb : attributeBase e f X.env (eval e X.env) = eval e X.env) : PE X (.Attribute e f pos) (rdE c E (mAttr qs f ma)) :=
  PE.imp (pe_fld h hb) fun σ H Q ⟨m, S, g, s, rg, q⟩ => seqE s rg q fun m1 S1 H1 d v a r q1 => by
    cases d <;> first | exact (show False from q1).elim | skip
    obtain ⟨rfl, hi⟩ := rd_adr r
    dsimp only at q1
    split at q1
    · rename_i q fs ef
      obtain ⟨hq, q1⟩ := po_if q1
      obtain ⟨dx, vs, hh, rk⟩ := a.sim.ins ef
      rcases rk.lookup f with ⟨e1, _⟩ | ⟨d, v, e1, e2, r1⟩
      · rw [e1] at q1
        exact q1.elim
      · rw [e1] at q1
        exact ⟨_, _, dx, vs, v, rfl, hh, A.cl q hq, A.no q hq, e2, q1 m1 H1 v (Nxt.refl a.sim) r1⟩
    · exact q1.elim
/-! ### calls of own defs -/
/-- what a def of so many parameters promises: the mirror's answer -/
def spOf (c : Ct) (n : Nat) (f : List D → SM D) : Sp := fun vs H Q E => vs.length = n ∧ ∃ m S l, Sim c m S H ∧ RelDs c m S.n H l vs ∧ PoE c E m S H Q (f l S)
/-- a def: the module's name x, its parameters, the mirror's defaults that fill up -/
structure Gfn (P : Program) (w : World) (K : PySem.W.Frag) (mg : Str → Option Value) (base : Heap) (c : Ct) (k : Nat) (x : Str) (n : Nat) (dd : List D) (mf : List D → SM D) : Prop where
  ex : ∃ f fd ps ds dvs, FnOk P w K mg base (L2.CX P w) k f fd ps (spOf c n mf) ∧ mg x = some (.ref f) ∧ PySem.W.keepIn K (.ref f) = true ∧ Binds K fd ps ds ∧ Vals dvs ds ∧ ∀ m n H, RelDs c m n H dd dvs
def mCall (mf : List D → SM D) (n : Nat) (dd : List D) (a : MA) : ME := fun g => SM.bind (a g) fun l => if l.length + dd.length = n then mf (l ++ dd) else fun _ => .bad
theorem tCall_of {n : Nat} {mf : List D → SM D} {dd : List D} {dvs : List V} {ma : MA} (hd : ∀ m n H, RelDs c m n H dd dvs) (σ : L2.St) (H : Hp) (Q : VK) (h : rdE c E (mCall mf n dd ma) σ H Q) : tCall (spOf c n mf) dvs E (rdA c E ma) σ H Q := by
  obtain ⟨m, S, g, s, rg, q⟩ := h
  refine seqEA s rg q fun m1 S1 H1 l vs a rs q1 => ?_
  by_cases hl : l.length + dd.length = n
  · rw [if_pos hl] at q1
    have rd := hd m1 S1.n H1
    exact ⟨by rw [List.length_append, ← rs.length, ← rd.length]; exact hl, m1, S1, l ++ dd, a.sim, rs.append rd, q1⟩
  · rw [if_neg hl] at q1
    exact q1.elim
theorem qe_call {k n : Nat} {x : Str} {dd : List D} {mf : List D → SM D} {p pos : Pos} {e : Expr} {es : List Expr} {ma : MA} (G : Gfn X.prog X.w X.K X.mg X.base c k x n dd mf) (hr : Room k X.A) (hg : Gl X x) (hx : Passes (L2.CX X.prog X.w) X E) (ha : PA X (e :: es) (rdA c E ma))
    (hdb : (x == ("__debug__" : Str)) = false := by decide) (he : starEach (e :: es) X.env = (false, eval e X.env) :: starEach es X.env := by rfl) (hpl : (backTo pos (starEach es X.env)).any (·.1) = false := by rfl) : PE X (.Call (.Name x p) (e :: es) [] pos) (rdE c E (mCall mf n dd ma)) := by
  obtain ⟨f, fd, ps, ds, dvs, F, h1, h2, h3, h4, h5⟩ := G.ex
  exact PE.imp (pe_call F hr hg h1 h2 h3 h4 hx ha hdb he hpl) (tCall_of h5)
/-- a class's method -/
structure Gm' (P : Program) (w : World) (K : PySem.W.Frag) (mg : Str → Option Value) (base : Heap) (c : Ct) (k : Nat) (q x : Str) (n : Nat) (dd : List D) (mf : List D → SM D) : Prop where
  cl : Cls K (c.cls q)
  ex : ∃ f fd ps ds dvs, FnOk P w K mg base (L2.CX P w) k f fd ps (spOf c n mf) ∧ Meth K (c.cls q) x f ∧ Binds K fd ps ds ∧ Vals dvs ds ∧ ∀ m n H, RelDs c m n H dd dvs
def mMeth (q x : Str) (mf : List D → SM D) (n : Nat) (dd : List D) (o : ME) (a : MA) : ME := fun g => SM.bind (o g) fun d S => match d with
  | .adr i => (match S.f i with
    | some (.ins q' fs) => if q' = q ∧ fs.lookup x = none then SM.bind (a g) (fun l => if 1 + l.length + dd.length = n then mf (.adr i :: (l ++ dd)) else fun _ => .bad) S else .bad
    | _ => .bad)
  | _ => .bad
theorem tMeth_of {n : Nat} {q x : Str} {mf : List D → SM D} {dd : List D} {dvs : List V} {mo : ME} {ma : MA} (hd : ∀ m n H, RelDs c m n H dd dvs) (σ : L2.St) (H : Hp) (Q : VK) (h : rdE c E (mMeth q x mf n dd mo ma) σ H Q) : tMeth (c.cls q) x (spOf c n mf) dvs E (rdE c E mo) (rdA c E ma) σ H Q := by
  obtain ⟨m, S, g, s, rg, q0⟩ := h
  refine seqE s rg q0 fun m1 S1 H1 d v a r q1 => ?_
  cases d <;> first | exact (show False from q1).elim | skip
  rename_i i
  have r0 := r
  obtain ⟨rfl, hi⟩ := rd_adr r
  dsimp only at q1
  split at q1
  · rename_i q' fs ef
    obtain ⟨hq, q5⟩ := po_if q1
    obtain ⟨rfl, hl⟩ := hq
    obtain ⟨dx, vs, hh, rk⟩ := a.sim.ins ef
    refine ⟨m1 i, dx, vs, rfl, hh, ?_, ?_⟩
    · rcases rk.lookup x with ⟨_, e2⟩ | ⟨d, v, e1, _, _⟩
      · exact e2
      · rw [hl] at e1
        cases e1
    · refine seqEA a.sim (a.relG rg) q5 fun m2 S2 H2 l ws b rs q2 => ?_
      by_cases hl : 1 + l.length + dd.length = n
      · rw [if_pos hl] at q2
        have rd := hd m2 S2.n H2
        exact ⟨by rw [List.length_cons, List.length_append, ← rs.length, ← rd.length]; omega, m2, S2, _, b.sim, mk_cons (b.relD r0) (rs.append rd), q2⟩
      · rw [if_neg hl] at q2
        exact q2.elim
  · exact q1.elim
theorem qe_meth {k n : Nat} {q x : Str} {dd : List D} {mf : List D → SM D} {apos pos : Pos} {o e : Expr} {es : List Expr} {mo : ME} {ma : MA} {pl : Sem Bool} (G : Gm' X.prog X.w X.K X.mg X.base c k q x n dd mf) (hr : Room k X.A) (hx : Passes (L2.CX X.prog X.w) X E) (ho : PE X o (rdE c E mo)) (ha : PA X (e :: es) (rdA c E ma))
    (hst : starEach (e :: es) X.env = (false, eval e X.env) :: starEach es X.env := by rfl) (hpl : (backTo pos (starEach es X.env)).any (·.1) = false := by rfl)
    (ht : eval (.Call (.Attribute o x apos) (e :: es) [] pos) X.env = (do
      let ov ← eval o X.env
      standAt apos.atName
      let (f, first) ← holding [ov] (getMethod ov x pl)
      callWith pos f first (backTo pos (starEach (e :: es) X.env)) (backToKw pos (keywordEach [] X.env))) := by rfl) :
    PE X (.Call (.Attribute o x apos) (e :: es) [] pos) (rdE c E (mMeth q x mf n dd mo ma)) := by
  obtain ⟨f, fd, ps, ds, dvs, F, h1, h3, h4, h5⟩ := G.ex
  exact PE.imp (pe_meth ho G.cl h1 F hr h3 h4 hx ha hst hpl ht) (tMeth_of h5)
theorem qe_meth0 {k n : Nat} {q x : Str} {dd : List D} {mf : List D → SM D} {apos pos : Pos} {o : Expr} {mo : ME} {pl : Sem Bool} (G : Gm' X.prog X.w X.K X.mg X.base c k q x n dd mf) (hr : Room k X.A) (hx : Passes (L2.CX X.prog X.w) X E) (ho : PE X o (rdE c E mo))
    (ht : eval (.Call (.Attribute o x apos) [] [] pos) X.env = (do
      let ov ← eval o X.env
      standAt apos.atName
      let (f, first) ← holding [ov] (getMethod ov x pl)
      callWith pos f first (backTo pos (starEach [] X.env)) (backToKw pos (keywordEach [] X.env))) := by rfl) :
    PE X (.Call (.Attribute o x apos) [] [] pos) (rdE c E (mMeth q x mf n dd mo mNil)) := by
  obtain ⟨f, fd, ps, ds, dvs, F, h1, h3, h4, h5⟩ := G.ex
  refine PE.imp (pe_meth0 ho G.cl h1 F hr h3 h4 hx ht) fun σ H Q h => ?_
  have z := tMeth_of h5 σ H Q h
  unfold tMeth at z ⊢
  obtain ⟨m, S, g, s, rg, q0⟩ := z
  refine ⟨m, S, g, s, rg, ?_⟩
  cases e : mo g S with
  | ok d S1 =>
    rw [e] at q0
    intro m1 H1 v a r
    obtain ⟨p, dx, fs, e1, e2, e3, mm, SS, gg, ss, rr, q3⟩ := q0 m1 H1 v a r
    exact ⟨p, dx, fs, e1, e2, e3, q3 mm H1 [] (Nxt.refl ss) mk_nil⟩
  | exc p S1 =>
    rw [e] at q0
    exact q0
  | bad =>
    rw [e] at q0
    exact q0
/-- a class made -/
structure Gk (P : Program) (w : World) (K : PySem.W.Frag) (mg : Str → Option Value) (base : Heap) (c : Ct) (k : Nat) (q : Str) (n : Nat) (dd : List D) (mf : List D → SM D) : Prop where
  gl : mg q = some (.ref (c.cls q))
  ex : ∃ f fd ps ds dvs, FnOk P w K mg base (L2.CX P w) k f fd ps (spOf c n mf) ∧ Mk K (c.cls q) f ∧ Binds K fd ps ds ∧ Vals dvs ds ∧ ∀ m n H, RelDs c m n H dd dvs
def mMake (q : Str) (mf : List D → SM D) (n : Nat) (dd : List D) (a : MA) : ME := fun g => SM.bind (a g) fun l S => if 1 + l.length + dd.length = n then SM.bind (mf (.adr S.n :: (l ++ dd))) (fun r S' => match r with
  | .non => .ok (.adr S.n) S'
  | _ => .bad) (S.alloc (.ins q [])) else .bad
theorem tMake_of {n : Nat} {q : Str} {mf : List D → SM D} {dd : List D} {dvs : List V} {ma : MA} (hd : ∀ m n H, RelDs c m n H dd dvs) (σ : L2.St) (H : Hp) (Q : VK) (h : rdE c E (mMake q mf n dd ma) σ H Q) : tMake (c.cls q) (spOf c n mf) dvs E (rdA c E ma) σ H Q := by
  obtain ⟨m, S, g, s, rg, q0⟩ := h
  refine seqEA s rg q0 fun m1 S1 H1 l vs a rs q1 => ?_
  obtain ⟨hl, q1⟩ := po_if q1
  intro x dx hx hdx ne
  have a1 : Nxt c m1 S1 H1 m1 S1 (upd H1 dx (.own x)) := Nxt.fresh a.sim hdx
  have hx' : (upd H1 dx (.own x)) x = none := by rw [upd_ne (Ne.symm ne)]; exact hx
  have a2 := Nxt.alloc (x := .ins q []) (o := .ins (c.cls q) dx []) a1.sim hx' ⟨dx, [], rfl, mkk_nil⟩
  have a3 := a1.trans a.sim a2
  have q2 := PoE.go a.sim a3 q1
  have rs' := a3.relDs rs
  have rd := hd (ext m1 S1.n x) (S1.n + 1) (upd (upd H1 dx (.own x)) x (.ins (c.cls q) dx []))
  have e0 := mk_adr (c := c) (m := ext m1 S1.n x) (n := S1.n + 1) (H := upd (upd H1 dx (.own x)) x (.ins (c.cls q) dx [])) (i := S1.n) (Nat.lt_succ_self _)
  rw [ext_same] at e0
  refine ⟨by rw [List.length_cons, List.length_append, ← rs.length, ← rd.length]; omega, ext m1 S1.n x, S1.alloc (.ins q []), _, a2.sim, mk_cons e0 (rs'.append rd), ?_⟩
  unfold SM.bind at q2
  cases e : mf (.adr S1.n :: (l ++ dd)) (S1.alloc (.ins q [])) with
  | ok r S2 =>
    rw [e] at q2
    intro m3 H3 v b rv
    cases r <;> first | exact (show False from q2).elim | skip
    refine ⟨rd_non rv, q2 m3 H3 _ b ?_⟩
    exact b.relD e0
  | exc p S2 =>
    rw [e] at q2
    exact q2
  | bad =>
    rw [e] at q2
    exact q2
theorem qe_make {k n : Nat} {q : Str} {dd : List D} {mf : List D → SM D} {p pos : Pos} {e : Expr} {es : List Expr} {ma : MA} (G : Gk X.prog X.w X.K X.mg X.base c k q n dd mf) (hr : Room (k + 1) X.A) (hg : Gl X q) (hx : Passes (L2.CX X.prog X.w) X E) (ha : PA X (e :: es) (rdA c E ma))
    (hdb : (q == ("__debug__" : Str)) = false := by decide) (he : starEach (e :: es) X.env = (false, eval e X.env) :: starEach es X.env := by rfl) (hpl : (backTo pos (starEach es X.env)).any (·.1) = false := by rfl) : PE X (.Call (.Name q p) (e :: es) [] pos) (rdE c E (mMake q mf n dd ma)) := by
  obtain ⟨f, fd, ps, ds, dvs, F, h2, h3, h4, h5⟩ := G.ex
  exact PE.imp (pe_make h2 F hr hg G.gl h3 h4 hx ha hdb he hpl) (tMake_of h5)
theorem qe_make0 {k n : Nat} {q : Str} {dd : List D} {mf : List D → SM D} {p pos : Pos} (G : Gk X.prog X.w X.K X.mg X.base c k q n dd mf) (hr : Room (k + 1) X.A) (hg : Gl X q) (hx : Passes (L2.CX X.prog X.w) X E)
    (hdb : (q == ("__debug__" : Str)) = false := by decide) : PE X (.Call (.Name q p) [] [] pos) (rdE c E (mMake q mf n dd mNil)) := by
  obtain ⟨f, fd, ps, ds, dvs, F, h2, h3, h4, h5⟩ := G.ex
  refine PE.imp (pe_make0 h2 F hr hg G.gl h3 h4 hx hdb) fun σ H Q h => ?_
  obtain ⟨m, S, g, s, rg, q3⟩ := tMake_of h5 σ H Q h
  exact q3 m H [] (Nxt.refl s) mk_nil
end
end Y

set_option Elab.async false
set_option linter.all false
set_option maxRecDepth 100000
set_option maxHeartbeats 1000000
/-! Y7: statements, loops, comprehensions. -/
namespace Y
open PySem PySem.Spec PyProof.Rows L2
/-! ### blocks -/
def mSeq (a b : MS) : MS := fun g S => match a g S with
  | .nx g' S' => b g' S'
  | r => r
def mPass : MS := fun g S => .nx g S
def mBrk : MS := fun g S => .bk g S
def mCnt : MS := fun g S => .ct g S
def mDrop (a : ME) : MS := fun g S => toRS (a g S) fun _ S' => .nx g S'
def mRet (a : ME) : MS := fun g S => toRS (a g S) fun d S' => .rt d S'
def mRetN : MS := fun _ S => .rt .non S
def mIfS (t : MT) (a b : MS) : MS := fun g S => toRST (t g S) fun k S' => if k = true then a g S' else b g S'
def mRaise (q : Str) : MS := fun _ S => .ex q S
def mSet (i : Nat) (a : ME) : MS := fun g S => toRS (a g S) fun d S' => .nx (g.set i (some d)) S'
section
variable {X : Cx} {c : Ct} {E : XK} {m : Nat → Addr} {S : Sr} {H : Hp} {g : Gm} {σ : L2.St}
theorem PoS.seq {a b : MS} {Z : Ends} (s : Sim c m S H) (h : PoS c E m S H Z (mSeq a b g S)) : PoS c E m S H { Z with nx := rdS c E b Z } (a g S) := by
  unfold mSeq at h
  cases e : a g S with
  | nx g' S' =>
    rw [e] at h
    exact fun m' H' σ' n r => ⟨m', S', g', n.sim, r, PoS.go s n h⟩
  | rt d S' => rw [e] at h; exact h
  | bk g' S' => rw [e] at h; exact h
  | ct g' S' => rw [e] at h; exact h
  | ex q S' => rw [e] at h; exact h
  | bad => rw [e] at h; exact h
theorem qss_nil : PSs X [] (rdS c E mPass) := PSs.imp pss_nil fun Z σ H ⟨m, S, g, s, rg, q⟩ => q m H σ (Nxt.refl s) rg
theorem qss_cons {st : Stmt} {rest : List Stmt} {a b : MS} (h1 : PS X st (rdS c E a)) (h2 : PSs X rest (rdS c E b)) : PSs X (st :: rest) (rdS c E (mSeq a b)) :=
  PSs.imp (pss_cons h1 h2) fun Z σ H ⟨m, S, g, s, rg, q⟩ => ⟨m, S, g, s, rg, PoS.seq s q⟩
theorem qss_one {st : Stmt} {a : MS} (h1 : PS X st (rdS c E a)) : PSs X [st] (rdS c E a) := pss_one h1
theorem qs_pass {pos : Pos} : PS X (.Pass pos) (rdS c E mPass) := PS.imp ps_pass fun Z σ H ⟨m, S, g, s, rg, q⟩ => q m H σ (Nxt.refl s) rg
theorem qs_brk {pos : Pos} : PS X (.Break pos) (rdS c E mBrk) := PS.imp ps_break fun Z σ H ⟨m, S, g, s, rg, q⟩ => q m H σ (Nxt.refl s) rg
theorem qs_cnt {pos : Pos} : PS X (.Continue pos) (rdS c E mCnt) := PS.imp ps_continue fun Z σ H ⟨m, S, g, s, rg, q⟩ => q m H σ (Nxt.refl s) rg
theorem qs_expr {e : Expr} {ma : ME} {pos : Pos} (h : PE X e (rdE c E ma)) (hs : swapsWith e none pos.line X.env = pure false := by rfl) : PS X (.Expr e pos) (rdS c E (mDrop ma)) :=
  PS.imp (ps_expr h hs) fun Z σ H ⟨m, S, g, s, rg, q⟩ => seqSE s rg q fun m1 S1 H1 d v a r q1 => q1 m1 H1 σ (Nxt.refl a.sim) (a.relG rg)
theorem qs_ret {e : Expr} {ma : ME} {pos : Pos} (h : PE X e (rdE c E ma)) : PS X (.Return (some e) pos) (rdS c E (mRet ma)) :=
  PS.imp (ps_ret h) fun Z σ H ⟨m, S, g, s, rg, q⟩ => seqSE s rg q fun m1 S1 H1 d v a r q1 => q1 m1 H1 v (Nxt.refl a.sim) r
theorem qs_retN {pos : Pos} : PS X (.Return none pos) (rdS c E mRetN) := PS.imp ps_retN fun Z σ H ⟨m, S, g, s, rg, q⟩ => q m H _ (Nxt.refl s) mk_non
theorem qs_if {t : Expr} {a b : List Stmt} {mt : MT} {ma mb : MS} {pos : Pos} (ht : PT X t (rdT c E mt)) (ha : PSs X a (rdS c E ma)) (hb : PSs X b (rdS c E mb)) : PS X (.If t a b pos) (rdS c E (mIfS mt ma mb)) :=
  PS.imp (ps_if ht ha hb) fun Z σ H ⟨m, S, g, s, rg, q⟩ => seqST s rg q fun m1 S1 H1 k a q1 => by
    cases k with
    | true => exact ⟨m1, S1, g, a.sim, a.relG rg, q1⟩
    | false => exact ⟨m1, S1, g, a.sim, a.relG rg, q1⟩
/-- raise X('..') -/
structure Exo (K : PySem.W.Frag) (mg : Str → Option Value) (c : Ct) (q : Str) : Prop where
  gl : mg q = some (.ref (c.cls q))
  ex : PySem.W.excIn K (c.cls q) [.type "ValueError", .type "Exception", .type "BaseException", .type "object"] "ValueError.__new__" = true
  kp : PySem.W.keepIn K (.ref (c.cls q)) = true
  sb : PySem.W.subIn K (.ref (c.cls q)) (.type "BaseException") = some true
  ty : PySem.W.typeIn K (.ref (c.cls q)) = some (.type "type")
theorem qs_raise {q x : Str} {j : Nat} {p p2 p3 pos : Pos} (F : Exo X.K X.mg c q) (hc : X.calm = true) (tk : Takes X (fun cls d _ H => E cls d H)) (hg : Gl X q) (hdb : (q == ("__debug__" : Str)) = false := by decide) : PS X (.Raise (some (.Call (.Name q p) [.Constant (.str x) j p2] [] p3)) none pos) (rdS c E (mRaise q)) :=
  PS.imp (ps_raise hc tk (pmk_own PySem.F.excBase_ValueError F.ex F.gl F.kp (raises_own F.sb F.ty) hg hdb)) fun Z σ H ⟨m, S, g, s, rg, h⟩ => h m H (Nxt.refl s)
/-! ### assignments -/
theorem RelG.set {n : Nat} {d : D} {v : V} (i : Nat) (rg : RelG c m n H g σ) (r : RelD c m n H d v) : RelG c m n H (g.set i (some d)) (σ.set i (some v)) := by
  refine ⟨by rw [List.length_set, List.length_set]; exact rg.1, fun j x e => ?_⟩
  by_cases h : i = j
  · subst h
    by_cases hl : i < g.length
    · rw [List.getElem?_set_self hl] at e
      have e2 : d = x := Option.some.inj (Option.some.inj e)
      subst e2
      exact ⟨v, List.getElem?_set_self (by rw [← rg.1]; exact hl), r⟩
    · rw [List.getElem?_eq_none (by rw [List.length_set]; omega)] at e
      cases e
  · rw [List.getElem?_set_ne h] at e
    obtain ⟨w, e1, r1⟩ := rg.2 j x e
    exact ⟨w, by rw [List.getElem?_set_ne h]; exact e1, r1⟩
theorem qs_set {i : Nat} {x : Str} {e : Expr} {ma : ME} {pos pos' : Pos} (hN : X.N.Nodup) (hi : X.N[i]? = some x) (hx : Loc X.env.scope x) (h : PE X e (rdE c E ma)) (hs : swapsWith e (some (.Name x pos')) pos.line X.env = pure false := by rfl) (hf : X.fn x = true ∨ X.env.scope.names.lookup x = some .local := by first | exact .inl rfl | exact .inr rfl | assumption) :
    PS X (.Assign [.Name x pos'] e pos) (rdS c E (mSet i ma)) :=
  PS.imp (ps_set hN hi hx h hs hf) fun Z σ H ⟨m, S, g, s, rg, q⟩ => seqSE s rg q fun m1 S1 H1 d v a r q1 => q1 m1 H1 _ (Nxt.refl a.sim) ((a.relG rg).set i r)
/-- targets in general -/
abbrev MG := D → MS
def PoG (c : Ct) (E : XK) (m : Nat → Addr) (S : Sr) (H : Hp) (Q : L2.St → Hp → Prop) : RS → Prop
  | .nx g S' => ∀ m' H' σ', Nxt c m S H m' S' H' → RelG c m' S'.n H' g σ' → Q σ' H'
  | .ex q S' => ∀ m' H', Nxt c m S H m' S' H' → E (.ref (c.cls q)) none H'
  | _ => False
def rdG (c : Ct) (E : XK) (x : MG) : TG := fun v σ H Q => ∃ m S g d, Sim c m S H ∧ RelG c m S.n H g σ ∧ RelD c m S.n H d v ∧ PoG c E m S H Q (x d g S)
def rdGs (c : Ct) (E : XK) (x : List D → MS) : TGs := fun vs σ H Q => ∃ m S g l, Sim c m S H ∧ RelG c m S.n H g σ ∧ RelDs c m S.n H l vs ∧ PoG c E m S H Q (x l g S)
theorem PG.imp {e : Expr} {t t' : TG} (h : PG X e t) (i : ∀ v σ H Q, t' v σ H Q → t v σ H Q) : PG X e t' := ⟨fun pins s σ H v u Q I r q => h.run pins s σ H v u Q I r (i v σ H Q q)⟩
theorem PGs.imp {e : List Expr} {t t' : TGs} (h : PGs X e t) (i : ∀ v σ H Q, t' v σ H Q → t v σ H Q) : PGs X e t' := ⟨fun pins s σ H v u Q I r q => h.run pins s σ H v u Q I r (i v σ H Q q)⟩
theorem PoG.go {m1 : Nat → Addr} {S1 : Sr} {H1 : Hp} (s : Sim c m S H) (a : Nxt c m S H m1 S1 H1) {Q : L2.St → Hp → Prop} {r : RS} (h : PoG c E m S H Q r) : PoG c E m1 S1 H1 Q r := by
  cases r with
  | nx g S' => exact fun m' H' v b r => h m' H' v (a.trans s b) r
  | ex q S' => exact fun m' H' b => h m' H' (a.trans s b)
  | _ => exact h
def gNm (i : Nat) : MG := fun d g S => .nx (g.set i (some d)) S
theorem qg_name {i : Nat} {x : Str} {pos : Pos} (hN : X.N.Nodup) (hi : X.N[i]? = some x) (hx : Loc X.env.scope x) (hf : X.fn x = true ∨ X.env.scope.names.lookup x = some .local := by first | exact .inl rfl | exact .inr rfl | assumption) : PG X (.Name x pos) (rdG c E (gNm i)) :=
  PG.imp (pg_name hN hi hx hf) fun v σ H Q ⟨m, S, g, d, s, rg, r, q⟩ => q m H _ (Nxt.refl s) (rg.set i r)
theorem seqGE {x : ME} {k : D → Sr → RS} {Q : L2.St → Hp → Prop} {QQ : VK} (s : Sim c m S H) (rg : RelG c m S.n H g σ) (h : PoG c E m S H Q (toRS (x g S) k))
    (hk : ∀ m1 S1 H1 d v, Nxt c m S H m1 S1 H1 → RelD c m1 S1.n H1 d v → PoG c E m1 S1 H1 Q (k d S1) → QQ v H1) : rdE c E x σ H QQ := by
  refine ⟨m, S, g, s, rg, ?_⟩
  cases e : x g S with
  | ok d S1 =>
    rw [e] at h
    exact fun m1 H1 v a r => hk m1 S1 H1 d v a r (PoG.go s a h)
  | exc q S1 =>
    rw [e] at h
    exact h
  | bad =>
    rw [e] at h
    exact h
def gSub' (o i : ME) : MG := fun d g S => toRS (o g S) fun ov S1 => toRS (i g S1) fun iv S2 => match putAt ov iv d S2 with
  | some S3 => .nx g S3
  | none => .bad
theorem qg_sub {o i : Expr} {mo mi : ME} {pos : Pos} (hu : X.A.units + 1 < cLine) (ho : PE X o (rdE c E mo)) (hi : PE X i (rdE c E mi)) (ha : ∀ v, assign (.Subscript o i pos) X.env v = (do
      let ov ← holding [v] (eval o X.env)
      let iv ← holding [v, ov] (eval i X.env)
      standAt pos
      holding [v, ov, iv] (setItem ov iv v)
      release [v, ov, iv] []) := by intro _; rfl) : PG X (.Subscript o i pos) (rdG c E (gSub' mo mi)) :=
  PG.imp (pg_sub ho hi (set_A hu) ha) fun v σ H Q ⟨m, S, g, d, s, rg, r, q⟩ => seqGE s rg q fun m1 S1 H1 od ov a ro q1 => seqGE a.sim (a.relG rg) q1 fun m2 S2 H2 id iv b ri q2 => by
    cases e : putAt od id d S2 with
    | none => rw [e] at q2; exact q2.elim
    | some S3 =>
      rw [e] at q2
      exact setA_of b.sim (b.relD ro) ri (b.relD (a.relD r)) e fun H' n => q2 m2 H' σ n (n.relG (b.relG (a.relG rg)))
def putFD (f : Str) (v : D) : List (Str × D) → List (Str × D)
  | [] => [(f, v)]
  | (g, x) :: r => if g = f then (g, v) :: r else (g, x) :: putFD f v r
theorem RelK.putF {n : Nat} (f : Str) {d : D} {w : V} (hd : RelD c m n H d w) : ∀ {l : List (Str × D)} {vs : List (Str × V)}, RelK c m n H l vs → RelK c m n H (putFD f d l) (putF f w vs)
  | [], _, h => by rw [rk_nil h]; exact mkk_cons (p := (f, d)) hd mkk_nil
  | (g, x) :: l, _, h => by
    obtain ⟨v, r, rfl, h1, h2⟩ := rk_cons h
    unfold putFD L2.putF
    by_cases e : g = f
    · rw [if_pos e, if_pos e]
      exact mkk_cons (p := (g, d)) hd h2
    · rw [if_neg e, if_neg e]
      exact mkk_cons h1 (RelK.putF f hd h2)
def setA (qs : List Str) (f : Str) (o d : D) (S : Sr) : Option Sr := match o with
  | .adr i => (match S.f i with
    | some (.ins q fs) => if q ∈ qs ∧ fs.length < 1000 then some (S.put i (.ins q (putFD f d fs))) else none
    | _ => none)
  | _ => none
theorem setA_ok {qs : List Str} {f : Str} {o d : D} {ov w : V} {S' : Sr} (s : Sim c m S H) (ro : RelD c m S.n H o ov) (rd : RelD c m S.n H d w) (e : setA qs f o d S = some S') :
    ∃ a q dx fs, q ∈ qs ∧ ov = .ref a ∧ H a = some (.ins (c.cls q) dx fs) ∧ fs.length < 1000 ∧ Nxt c m S H m S' (upd H a (.ins (c.cls q) dx (putF f w fs))) := by
  cases o <;> try cases e
  rename_i i
  obtain ⟨rfl, hi⟩ := rd_adr ro
  unfold setA at e
  dsimp only at e
  split at e
  · rename_i q fs ef
    split at e
    · rename_i hq
      cases e
      obtain ⟨dx, vs, hh, rk⟩ := s.ins ef
      exact ⟨m i, q, dx, vs, hq.1, rfl, hh, by rw [← rk.length]; exact hq.2, Nxt.put (x := .ins q (putFD f d fs)) s ef ⟨dx, _, rfl, rk.putF f rd⟩⟩
    · cases e
  · cases e
def mFld (qs : List Str) (f : Str) (o v : ME) : MS := fun g S => toRS (v g S) fun d S1 => toRS (o g S1) fun ov S2 => match setA qs f ov d S2 with
  | some S3 => .nx g S3
  | none => .bad
theorem qs_fld {o value : Expr} {f : Str} {qs : List Str} {mo mv : ME} {pos pos' : Pos} (A : Att c X.K qs f) (ho : PE X o (rdE c E mo)) (hv : PE X value (rdE c E mv)) (hs : swapsWith value (some (.Attribute o f pos')) pos.line X.env = pure false) : PS X (.Assign [.Attribute o f pos'] value pos) (rdS c E (mFld qs f mo mv)) :=
  PS.imp (ps_fld ho hv hs) fun Z σ H ⟨m, S, g, s, rg, q⟩ => seqSE s rg q fun m1 S1 H1 d v a r q1 => seqSE a.sim (a.relG rg) q1 fun m2 S2 H2 od ov b ro q2 => by
    cases e : setA qs f od d S2 with
    | none => rw [e] at q2; exact q2.elim
    | some S3 =>
      rw [e] at q2
      obtain ⟨p, q, dx, fs, hq, rfl, hh, hl, n⟩ := setA_ok b.sim ro (b.relD r) e
      exact ⟨p, _, dx, fs, rfl, hh, A.cl q hq, A.no q hq, hl, q2 m2 _ σ n (n.relG (b.relG (a.relG rg)))⟩
/-- an attribute as a target among others -/
def gAttr (K : PySem.W.Frag) (f : Str) (ta : TE) : TG := fun v σ H Q => ta σ H fun x H1 => ∃ a C dx fs, x = .ref a ∧ H1 a = some (.ins C dx fs) ∧ Cls K C ∧ NoAttr K C f ∧ fs.length < 1000 ∧ Q σ (upd H1 a (.ins C dx (putF f v fs)))
theorem pg_attr {o : Expr} {f : Str} {ta : TE} {pos : Pos} (ho : PE X o ta) : PG X (.Attribute o f pos) (gAttr X.K f ta) := by
  refine ⟨fun pins s σ H v u Q I r h => ?_⟩
  rw [assign_Attribute]
  refine wpAny_bind (wpAny_holding (thn (ho.run pins s σ H _ I h) fun ov s1 ⟨x, H1, I1, rx, a, C, dx, fs, ex, ea, cl, n, l, q⟩ => ?_))
  subst ex
  obtain rfl : ov = Value.ref a := rx
  refine wpAny_bind (wpAny_standAt (wpAny_bind (wpAny_holding (setattr_ok I1 ea cl n l r fun s3 I3 => ?_))))
  exact wpAny_release ⟨σ, _, I3, q⟩
def gFld (qs : List Str) (f : Str) (o : ME) : MG := fun d g S => toRS (o g S) fun ov S2 => match setA qs f ov d S2 with
  | some S3 => .nx g S3
  | none => .bad
theorem qg_attr {o : Expr} {f : Str} {qs : List Str} {mo : ME} {pos : Pos} (A : Att c X.K qs f) (ho : PE X o (rdE c E mo)) : PG X (.Attribute o f pos) (rdG c E (gFld qs f mo)) :=
  PG.imp (pg_attr ho) fun v σ H Q ⟨m, S, g, d, s, rg, r, q⟩ => seqGE s rg q fun m1 S1 H1 od ov a ro q1 => by
    cases e : setA qs f od d S1 with
    | none => rw [e] at q1; exact q1.elim
    | some S3 =>
      rw [e] at q1
      obtain ⟨p, q, dx, fs, hq, rfl, hh, hl, n⟩ := setA_ok a.sim ro (a.relD r) e
      exact ⟨p, _, dx, fs, rfl, hh, A.cl q hq, A.no q hq, hl, q1 m1 _ σ n (n.relG (a.relG rg))⟩
def gNl : List D → MS := fun l g S => match l with
  | [] => .nx g S
  | _ => .bad
def gCn (t : MG) (r : List D → MS) : List D → MS := fun l g S => match l with
  | d :: l => (match t d g S with
    | .nx g' S' => r l g' S'
    | .ex q S' => .ex q S'
    | _ => .bad)
  | [] => .bad
def gTp (n : Nat) (t : List D → MS) : MG := fun d g S => match d with
  | .tup l => if l.length = n then t l g S else .bad
  | .ktp l => if l.length = n then t l g S else .bad
  | _ => .bad
theorem qgs_nil : PGs X [] (rdGs c E gNl) := PGs.imp pgs_nil fun vs σ H Q ⟨m, S, g, l, s, rg, r, q⟩ => by
  cases l with
  | nil => exact ⟨rd_nil r, q m H σ (Nxt.refl s) rg⟩
  | cons d l => exact (show False from q).elim
theorem qgs_cons {e : Expr} {es : List Expr} {t : MG} {u : List D → MS} (h1 : PG X e (rdG c E t)) (h2 : PGs X es (rdGs c E u)) (hs : (assignEach (e :: es) X.env).map (·.2) = assign e X.env :: (assignEach es X.env).map (·.2) := by rfl) : PGs X (e :: es) (rdGs c E (gCn t u)) :=
  PGs.imp (pgs_cons h1 h2 hs) fun vs σ H Q ⟨m, S, g, l, s, rg, r, q⟩ => by
    cases l with
    | nil => exact (show False from q).elim
    | cons d l =>
      obtain ⟨v, w, rfl, r1, r2⟩ := rd_cons r
      refine ⟨v, w, rfl, m, S, g, d, s, rg, r1, ?_⟩
      unfold gCn at q
      dsimp only at q
      cases e : t d g S with
      | nx g' S' =>
        rw [e] at q
        exact fun m' H' σ' n rg' => ⟨m', S', g', l, n.sim, rg', n.relDs r2, PoG.go s n q⟩
      | ex p S' => rw [e] at q; exact q
      | rt d S' => rw [e] at q; exact q.elim
      | bk d S' => rw [e] at q; exact q.elim
      | ct d S' => rw [e] at q; exact q.elim
      | bad => rw [e] at q; exact q.elim
theorem pog_if {p : Prop} [Decidable p] {Q : L2.St → Hp → Prop} {r : RS} (h : PoG c E m S H Q (if p then r else .bad)) : p ∧ PoG c E m S H Q r := by
  by_cases hp : p
  · rw [if_pos hp] at h
    exact ⟨hp, h⟩
  · rw [if_neg hp] at h
    exact h.elim
theorem qg_tup {es : List Expr} {k n : Nat} {u : List D → MS} {pos : Pos} (hK : X.K = c.K) (hc : X.calm = true) (h : PGs X es (rdGs c E u)) (hn : (assignEach es X.env).length = n := by rfl) (hst : (assignEach es X.env).findIdx? (·.1) = none := by rfl) : PG X (.Tuple es k pos) (rdG c E (gTp n u)) :=
  PG.imp (pg_tup hc h hn hst) fun v σ H Q ⟨m, S, g, d, s, rg, r, q⟩ => by
    rw [hK]
    cases d <;> first | exact (show False from q).elim | skip
    · obtain ⟨a, vs, rfl, hh, rs⟩ := rd_tup r
      obtain ⟨hl, q⟩ := pog_if (c := c) (E := E) q
      exact ⟨a, vs, rfl, .inl (.inl hh), by rw [← rs.length]; exact hl, m, S, g, _, s, rg, rs, q⟩
    · obtain ⟨a, vs, rfl, hh, rs⟩ := rd_ktp r
      obtain ⟨hl, q⟩ := pog_if (c := c) (E := E) q
      exact ⟨a, vs, rfl, hh.sq, by rw [← rs.length]; exact hl, m, S, g, _, s, rg, rs, q⟩
def mAsg (a : ME) (t : MG) : MS := fun g S => toRS (a g S) fun d S1 => match t d g S1 with
  | .nx g' S' => .nx g' S'
  | .ex q S' => .ex q S'
  | _ => .bad
theorem qs_asg {tg e : Expr} {ma : ME} {t : MG} {pos : Pos} (he : PE X e (rdE c E ma)) (hg : PG X tg (rdG c E t)) (hs : swapsWithSole [tg] e pos.line X.env = pure false := by rfl) (hw : swappedStores [tg] e X.env = pure none := by rfl)
    (h1 : (assignEach [tg] X.env).map (·.2) = [assign tg X.env] := by rfl) : PS X (.Assign [tg] e pos) (rdS c E (mAsg ma t)) :=
  PS.imp (ps_asg he hg hs hw h1) fun Z σ H ⟨m, S, g, s, rg, q⟩ => seqSE s rg q fun m1 S1 H1 d v a r q1 => by
    refine ⟨m1, S1, g, d, a.sim, a.relG rg, r, ?_⟩
    cases e : t d g S1 with
    | nx g' S' => rw [e] at q1; exact q1
    | ex p S' => rw [e] at q1; exact q1
    | rt d S' => rw [e] at q1; exact q1.elim
    | bk d S' => rw [e] at q1; exact q1.elim
    | ct d S' => rw [e] at q1; exact q1.elim
    | bad => rw [e] at q1; exact q1.elim
/-- a, b = x, y of local names -/
def mPar (i j : Nat) (a : MA) : MS := fun g S => toRSA (a g S) fun l S1 => match l with
  | [x, y] => .nx ((g.set i (some x)).set j (some y)) S1
  | _ => .bad
theorem qs_par {i j : Nat} {x y : Str} {a b : Expr} {ma : MA} {px py pt pos : Pos} {kt k2 pt2} (hc : X.calm = true) (hN : X.N.Nodup) (hi : X.N[i]? = some x) (hj : X.N[j]? = some y) (hij : i ≠ j)
    (hx : X.env.scope.names.lookup x = some .local) (hy : X.env.scope.names.lookup y = some .local) (ha : PA X [a, b] (rdA c E ma))
    (hw : swappedStores [.Tuple [.Name x px, .Name y py] kt pt] (.Tuple [a, b] k2 pt2) X.env = pure (some [x, y]))
    (hs : swapsWithSole [.Tuple [.Name x px, .Name y py] kt pt] (.Tuple [a, b] k2 pt2) pos.line X.env = pure false := by rfl) :
    PS X (.Assign [.Tuple [.Name x px, .Name y py] kt pt] (.Tuple [a, b] k2 pt2) pos) (rdS c E (mPar i j ma)) :=
  PS.imp (ps_par hc hN hi hj hij hx hy ha hw hs) fun Z σ H ⟨m, S, g, s, rg, q⟩ => seqSA s rg q fun m1 S1 H1 l vs a rs q1 => by
    split at q1
    · obtain ⟨v, w, rfl, r1, r2⟩ := two_of rs
      exact ⟨v, w, rfl, q1 m1 H1 _ (Nxt.refl a.sim) (((a.relG rg).set i r1).set j r2)⟩
    · exact q1.elim
def mPar3 (i j k : Nat) (a : MA) : MS := fun g S => toRSA (a g S) fun l S1 => match l with
  | [x, y, z] => .nx (((g.set i (some x)).set j (some y)).set k (some z)) S1
  | _ => .bad
theorem qs_par3 {i j k : Nat} {x y z : Str} {a b e : Expr} {ma : MA} {px py pz pt pos : Pos} {kt k2 pt2} (hc : X.calm = true) (hN : X.N.Nodup) (hi : X.N[i]? = some x) (hj : X.N[j]? = some y) (hk : X.N[k]? = some z) (hij : i ≠ j) (hik : i ≠ k) (hjk : j ≠ k)
    (hx : X.env.scope.names.lookup x = some .local) (hy : X.env.scope.names.lookup y = some .local) (hz : X.env.scope.names.lookup z = some .local) (ha : PA X [a, b, e] (rdA c E ma))
    (hw : swappedStores [.Tuple [.Name x px, .Name y py, .Name z pz] kt pt] (.Tuple [a, b, e] k2 pt2) X.env = pure (some [x, y, z]))
    (hs : swapsWithSole [.Tuple [.Name x px, .Name y py, .Name z pz] kt pt] (.Tuple [a, b, e] k2 pt2) pos.line X.env = pure false := by rfl) :
    PS X (.Assign [.Tuple [.Name x px, .Name y py, .Name z pz] kt pt] (.Tuple [a, b, e] k2 pt2) pos) (rdS c E (mPar3 i j k ma)) :=
  PS.imp (ps_par3 hc hN hi hj hk hij hik hjk hx hy hz ha hw hs) fun Z σ H ⟨m, S, g, s, rg, q⟩ => seqSA s rg q fun m1 S1 H1 l vs a rs q1 => by
    split at q1
    · obtain ⟨v, w, rfl, r1, r2⟩ := rd_cons rs
      obtain ⟨v2, w2, rfl, r3, r4⟩ := two_of r2
      exact ⟨v, v2, w2, rfl, q1 m1 H1 _ (Nxt.refl a.sim) ((((a.relG rg).set i r1).set j r3).set k r4)⟩
    · exact q1.elim
/-- x op= e -/
def mAug (i : Nat) (f : D → D → SM D) (a : ME) : MS := fun g S => match g[i]? with
  | some (some x) => toRS (a g S) fun y S1 => toRS (f x y S1) fun z S2 => .nx (g.set i (some z)) S2
  | _ => .bad
theorem qs_aug {i : Nat} {x : Str} {e : Expr} {ma : ME} {op : Operator} {r : R2} {f : D → D → SM D} {pos pos' : Pos} (hN : X.N.Nodup) (hi : X.N[i]? = some x) (hx : Loc X.env.scope x) (he : PE X e (rdE c E ma)) (ho : OpR X (inplaceOp op) r) (hs : Snd2 c r f) (hf : X.fn x = true ∨ X.env.scope.names.lookup x = some .local := by first | exact .inl rfl | exact .inr rfl | assumption) :
    PS X (.AugAssign (.Name x pos') op e pos) (rdS c E (mAug i f ma)) :=
  PS.imp (ps_aug (ti := r) hN hi hx he (fun pins s σ H x y v u Q I rx ry h => ho pins s σ H x y v u Q I rx ry h) hf) fun Z σ H ⟨m, S, g, s, rg, q⟩ => by
    unfold mAug at q
    split at q
    · rename_i d ed
      obtain ⟨v, ev, rv⟩ := rg.2 i d ed
      refine ⟨v, ev, seqSE s rg q fun m1 S1 H1 y w a rw' q1 => ?_⟩
      cases e : f d y S1 with
      | ok z S2 =>
        rw [e] at q1
        refine hs E m1 S1 H1 _ d y v w a.sim (a.relD rv) rw' ?_
        rw [e]
        exact fun m2 H2 u b ru => q1 m2 H2 _ b ((b.relG (a.relG rg)).set i ru)
      | exc p S2 =>
        rw [e] at q1
        refine hs E m1 S1 H1 _ d y v w a.sim (a.relD rv) rw' ?_
        rw [e]
        exact q1
      | bad => rw [e] at q1; exact q1.elim
    · exact q.elim
/-- o.f op= e -/
def mFldAug (qs : List Str) (fl : Str) (f : D → D → SM D) (o v : ME) : MS := fun g S => toRS (o g S) fun ov S1 => match ov with
  | .adr i => (match S1.f i with
    | some (.ins q fs) => if q ∈ qs then (match fs.lookup fl with
      | some x => toRS (v g S1) fun y S2 => toRS (f x y S2) fun z S3 => match setA [q] fl (.adr i) z S3 with
        | some S4 => .nx g S4
        | none => .bad
      | none => .bad) else .bad
    | _ => .bad)
  | _ => .bad
theorem pos_if {p : Prop} [Decidable p] {Z : Ends} {r : RS} (h : PoS c E m S H Z (if p then r else .bad)) : p ∧ PoS c E m S H Z r := by
  by_cases hp : p
  · rw [if_pos hp] at h
    exact ⟨hp, h⟩
  · rw [if_neg hp] at h
    exact h.elim
theorem qs_fldaug {o value : Expr} {fl : Str} {qs : List Str} {mo mv : ME} {op : Operator} {r : R2} {f : D → D → SM D} {pos tpos : Pos} (A : Att c X.K qs fl) (ho : PE X o (rdE c E mo)) (hv : PE X value (rdE c E mv)) (hop : OpR X (inplaceOp op) r) (hs : Snd2 c r f) : PS X (.AugAssign (.Attribute o fl tpos) op value pos) (rdS c E (mFldAug qs fl f mo mv)) :=
  PS.imp (ps_fldaug (rd := r) ho hv (fun pins s σ H x y v u Q I rx ry h => hop pins s σ H x y v u Q I rx ry h)) fun Z σ H ⟨m, S, g, s, rg, q⟩ => seqSE s rg q fun m1 S1 H1 od ov a ro q1 => by
    cases od <;> first | exact (show False from q1).elim | skip
    rename_i i
    have ro0 := ro
    obtain ⟨rfl, hi⟩ := rd_adr ro
    dsimp only at q1
    split at q1
    · rename_i p fs ef
      obtain ⟨hq, q2⟩ := pos_if q1
      obtain ⟨dx, vs, hh, rk⟩ := a.sim.ins ef
      rcases rk.lookup fl with ⟨e1, _⟩ | ⟨x, v, e1, e2, r1⟩
      · rw [e1] at q2
        exact q2.elim
      · rw [e1] at q2
        refine ⟨_, _, dx, vs, v, rfl, hh, A.cl p hq, A.no p hq, e2, seqSE a.sim (a.relG rg) q2 fun m2 S2 H2 y w b ry q3 => ?_⟩
        cases e : f x y S2 with
        | ok z S3 =>
          rw [e] at q3
          refine hs E m2 S2 H2 _ x y v w b.sim (b.relD r1) ry ?_
          rw [e]
          intro m3 H3 u d ru
          have q5 : PoS c E m2 S2 H2 Z (match setA [p] fl (.adr i) z S3 with
            | some S4 => .nx g S4
            | none => .bad) := q3
          clear q3
          cases e4 : setA [p] fl (.adr i) z S3 with
          | none => rw [e4] at q5; exact q5.elim
          | some S4 =>
            rw [e4] at q5
            have bd := b.trans a.sim d
            obtain ⟨p', q', dx', fs', hq', ep, hh', hl, n⟩ := setA_ok d.sim (bd.relD ro0) ru e4
            have eq' : q' = p := by simpa using hq'
            subst eq'
            have eq2 : p' = m1 i := by
              have := (rd_adr (bd.relD ro0)).1
              injection ep with ep
              exact ep.symm
            rw [eq2] at hh' n
            exact ⟨dx', fs', hh', hl, q5 m3 _ σ (d.trans b.sim n) (n.relG (d.relG (b.relG (a.relG rg))))⟩
        | exc z S3 =>
          rw [e] at q3
          refine hs E m2 S2 H2 _ x y v w b.sim (b.relD r1) ry ?_
          rw [e]
          exact q3
        | bad => rw [e] at q3; exact q3.elim
    · exact q1.elim
end
end Y

set_option Elab.async false
set_option linter.all false
set_option maxRecDepth 100000
set_option maxHeartbeats 1000000
/-! Y8: loops, comprehensions. -/
namespace Y
open PySem PySem.Spec PyProof.Rows L2
/-! ### what is walked -/
/-- n: a bound of the turns; nxt: some none: the end; none: not told -/
structure Src where
  n : Nat
  nxt : Nat → Sr → Option (Option D)
def sqn (l : List D) : Src := ⟨l.length, fun i _ => some l[i]?⟩
def sqa (j n : Nat) : Src := ⟨n, fun i S => match S.f j with
  | some (.lst l) => some l[i]?
  | _ => none⟩
def sqr (lo k : Int) (n : Nat) : Src := ⟨n, fun i _ => some (if i < n then some (.int (lo + (i : Int) * k)) else none)⟩
def sqs (x : Str) : Src := ⟨x.cps.size, fun i _ => some (x.cps[i]?.map fun c => .str ⟨#[c]⟩)⟩
def sqe (s : Src) : Src := ⟨s.n, fun i S => match s.nxt i S with
  | some (some d) => some (some (.tup [.int (i : Int), d]))
  | some none => some none
  | none => none⟩
def sqz (a b : Src) : Src := ⟨a.n, fun i S => match a.nxt i S, b.nxt i S with
  | some (some x), some (some y) => some (some (.tup [x, y]))
  | some none, some _ => some none
  | some (some _), some none => some none
  | _, _ => none⟩
structure ItOk (c : Ct) (J : It) (sr : Src) (m0 : Nat → Addr) (S0 : Sr) (H0 : Hp) : Prop where
  go : ∀ i m S H d, Nxt c m0 S0 H0 m S H → sr.nxt i S = some (some d) → J.go i H ∧ ∀ x H', J.yld i H x H' → Nxt c m S H m S H' ∧ RelD c m S.n H' d x
  stop : ∀ i m S H, Nxt c m0 S0 H0 m S H → sr.nxt i S = some none → J.stop i H
abbrev MI := Gm → SM Src
section
variable {X : Cx} {c : Ct} {E : XK} {m : Nat → Addr} {S : Sr} {H : Hp} {g : Gm} {σ : L2.St}
def PoI (c : Ct) (E : XK) (m : Nat → Addr) (S : Sr) (H : Hp) (Q : It → Hp → Prop) : R Src → Prop
  | .ok sr S' => ∀ m' H' J, Nxt c m S H m' S' H' → ItOk c J sr m' S' H' → Q J H'
  | .exc q S' => ∀ m' H', Nxt c m S H m' S' H' → E (.ref (c.cls q)) none H'
  | .bad => False
def rdI (c : Ct) (E : XK) (x : MI) : TI := fun σ H Q => ∃ m S g, Sim c m S H ∧ RelG c m S.n H g σ ∧ PoI c E m S H Q (x g S)
theorem PI.imp {tg it : Expr} {t t' : TI} (h : PI X tg it t) (i : ∀ σ H Q, t' σ H Q → t σ H Q) : PI X tg it t' := ⟨fun pins s σ H Q I q => h.run pins s σ H Q I (i σ H Q q)⟩
theorem PI.or {tg it : Expr} {t t' : TI} (h : PI X tg it t) (h' : PI X tg it t') : PI X tg it fun σ H Q => t σ H Q ∨ t' σ H Q := ⟨fun pins s σ H Q I q => q.elim (h.run pins s σ H Q I) (h'.run pins s σ H Q I)⟩
theorem PoI.go {m1 : Nat → Addr} {S1 : Sr} {H1 : Hp} (s : Sim c m S H) (a : Nxt c m S H m1 S1 H1) {Q : It → Hp → Prop} {r : R Src} (h : PoI c E m S H Q r) : PoI c E m1 S1 H1 Q r := by
  cases r with
  | ok d S' => exact fun m' H' J b i => h m' H' J (a.trans s b) i
  | exc q S' => exact fun m' H' b => h m' H' (a.trans s b)
  | bad => exact h
def mSrcD (ar : Bool) (d : D) (S : Sr) : R Src := match d with
  | .tup l => if ar then .ok (sqn l) S else .bad
  | .ktp l => if ar then .ok (sqn l) S else .bad
  | .fro l => .ok (sqn l) S
  | .str x => if ar then .ok (sqs x) S else .bad
  | .adr i => (match S.f i with
    | some (.lst l) => .ok (sqa i l.length) S
    | _ => .bad)
  | _ => .bad
def mSrc (a : ME) : MI := fun g => SM.bind (a g) (mSrcD true)
/-- the reading of a mirror's outcome -/
theorem rdE_of {x : ME} {QQ : VK} (s : Sim c m S H) (rg : RelG c m S.n H g σ) (h : PoE c E m S H QQ (x g S)) : rdE c E x σ H QQ := ⟨m, S, g, s, rg, h⟩
theorem it_fro {l : List D} {a : Addr} {vs : List V} {n : Nat} (hn : n ≤ S.n) (h : SqF c.K H a vs) (rs : RelDs c m n H l vs) : ItOk c (Itl c.K a) (sqn l) m S H := by
  refine ⟨fun i m1 S1 H1 d a1 e => ?_, fun i m1 S1 H1 a1 e => ?_⟩
  · have e : l[i]? = some d := Option.some.inj e
    have rs := rs.mono (fun j hj => a1.mu j (Nat.lt_of_lt_of_le hj hn)) (Nat.le_trans hn a1.le) a1.kp
    obtain ⟨v, e1, r1⟩ := rs.get e
    have hq := (a1.kp.sqF h).sq
    exact ⟨⟨vs, v, hq, e1⟩, fun x H' ⟨e2, y⟩ => by
      subst e2
      have := y vs hq
      rw [e1] at this
      cases this
      exact ⟨Nxt.refl a1.sim, r1⟩⟩
  · have e : l[i]? = none := Option.some.inj e
    refine ⟨vs, (a1.kp.sqF h).sq, ?_⟩
    rw [← rs.length]
    exact List.getElem?_eq_none_iff.mp e
theorem it_tup {l : List D} {a : Addr} {vs : List V} {n : Nat} (hn : n ≤ S.n) (h : SqT c.K H a vs) (rs : RelDs c m n H l vs) : ItOk c (Itt c.K a) (sqn l) m S H := by
  refine ⟨fun i m1 S1 H1 d a1 e => ?_, fun i m1 S1 H1 a1 e => ?_⟩
  · have e : l[i]? = some d := Option.some.inj e
    have rs := rs.mono (fun j hj => a1.mu j (Nat.lt_of_lt_of_le hj hn)) (Nat.le_trans hn a1.le) a1.kp
    obtain ⟨v, e1, r1⟩ := rs.get e
    have hq := a1.kp.sqT h
    exact ⟨⟨vs, v, hq, e1⟩, fun x H' ⟨e2, y⟩ => by
      subst e2
      have := y vs hq
      rw [e1] at this
      cases this
      exact ⟨Nxt.refl a1.sim, r1⟩⟩
  · have e : l[i]? = none := Option.some.inj e
    refine ⟨vs, a1.kp.sqT h, ?_⟩
    rw [← rs.length]
    exact List.getElem?_eq_none_iff.mp e
theorem it_str {x : Str} : ItOk c (Its x) (sqs x) m S H := by
  refine ⟨fun i m1 S1 H1 d a1 e => ?_, fun i m1 S1 H1 a1 e => ?_⟩
  · have e : (x.cps[i]?.map fun c => D.str ⟨#[c]⟩) = some d := Option.some.inj e
    obtain ⟨k, e1, e2⟩ := Option.map_eq_some_iff.mp e
    refine ⟨(Array.getElem?_eq_some_iff.mp e1).1, fun v H' ⟨e3, k', e4, e5⟩ => ?_⟩
    subst e3 e2
    rw [e1] at e4
    cases e4
    subst e5
    exact ⟨Nxt.refl a1.sim, mk_str⟩
  · have e : (x.cps[i]?.map fun c => D.str ⟨#[c]⟩) = none := Option.some.inj e
    have e1 := Option.map_eq_none_iff.mp e
    exact Array.getElem?_eq_none_iff.mp e1
theorem it_adr {j n : Nat} (hj : j < S.n) : ItOk c (Itl c.K (m j)) (sqa j n) m S H := by
  refine ⟨fun i m1 S1 H1 d a1 e => ?_, fun i m1 S1 H1 a1 e => ?_⟩
  · have e : (match S1.f j with
      | some (.lst l) => some l[i]?
      | _ => none) = some (some d) := e
    split at e
    · rename_i l el
      have e : l[i]? = some d := Option.some.inj e
      obtain ⟨vs, h, rs⟩ := a1.sim.lst el
      rw [a1.mu j hj] at h
      obtain ⟨v, e1, r1⟩ := rs.get e
      have hq : SqL c.K H1 (m j) vs := .inl (.inl h)
      exact ⟨⟨vs, v, hq, e1⟩, fun x H' ⟨e2, y⟩ => by
        subst e2
        have := y vs hq
        rw [e1] at this
        cases this
        exact ⟨Nxt.refl a1.sim, r1⟩⟩
    · cases e
  · have e : (match S1.f j with
      | some (.lst l) => some l[i]?
      | _ => none) = some none := e
    split at e
    · rename_i l el
      have e : l[i]? = none := Option.some.inj e
      obtain ⟨vs, h, rs⟩ := a1.sim.lst el
      rw [a1.mu j hj] at h
      refine ⟨vs, .inl (.inl h), ?_⟩
      rw [← rs.length]
      exact List.getElem?_eq_none_iff.mp e
    · cases e
theorem seqIE {x : ME} {k : D → SM Src} {Q : It → Hp → Prop} {QQ : VK} (s : Sim c m S H) (rg : RelG c m S.n H g σ) (h : PoI c E m S H Q (SM.bind (x g) k S))
    (hk : ∀ m1 S1 H1 d v, Nxt c m S H m1 S1 H1 → RelD c m1 S1.n H1 d v → PoI c E m1 S1 H1 Q (k d S1) → QQ v H1) : rdE c E x σ H QQ := by
  refine ⟨m, S, g, s, rg, ?_⟩
  unfold SM.bind at h
  cases e : x g S with
  | ok d S1 =>
    rw [e] at h
    exact fun m1 H1 v a r => hk m1 S1 H1 d v a r (PoI.go s a h)
  | exc q S1 =>
    rw [e] at h
    exact h
  | bad =>
    rw [e] at h
    exact h
theorem seqIA {x : MA} {k : List D → SM Src} {Q : It → Hp → Prop} {QQ : List V → Hp → Prop} (s : Sim c m S H) (rg : RelG c m S.n H g σ) (h : PoI c E m S H Q (SM.bind (x g) k S))
    (hk : ∀ m1 S1 H1 d v, Nxt c m S H m1 S1 H1 → RelDs c m1 S1.n H1 d v → PoI c E m1 S1 H1 Q (k d S1) → QQ v H1) : rdA c E x σ H QQ := by
  refine ⟨m, S, g, s, rg, ?_⟩
  unfold SM.bind at h
  cases e : x g S with
  | ok d S1 =>
    rw [e] at h
    exact fun m1 H1 v a r => hk m1 S1 H1 d v a r (PoI.go s a h)
  | exc q S1 =>
    rw [e] at h
    exact h
  | bad =>
    rw [e] at h
    exact h
theorem pi_if {p : Prop} [Decidable p] {Q : It → Hp → Prop} {r : R Src} (h : PoI c E m S H Q (if p then r else .bad)) : p ∧ PoI c E m S H Q r := by
  by_cases hp : p
  · rw [if_pos hp] at h
    exact ⟨hp, h⟩
  · rw [if_neg hp] at h
    exact h.elim
theorem qi_seq {tg e : Expr} {ma : ME} (hK : X.K = c.K) (h : PE X e (rdE c E ma)) : PI X tg e (rdI c E (mSrc ma)) :=
  PI.imp (PI.or (pi_list h) (PI.or (pi_tup h) (pi_str h))) fun σ H Q ⟨m, S, g, s, rg, q⟩ => by
    unfold mSrc SM.bind at q
    rw [hK]
    cases e0 : ma g S with
    | bad =>
      rw [e0] at q
      exact q.elim
    | exc p S1 =>
      rw [e0] at q
      exact .inl (rdE_of s rg (by rw [e0]; exact q))
    | ok d S1 =>
      rw [e0] at q
      cases d with
      | fro l => exact .inl (rdE_of s rg (by
          rw [e0]
          intro m1 H1 v a r
          obtain ⟨p, vs, rfl, hh, rs⟩ := rd_fro r
          exact ⟨p, rfl, ⟨vs, hh.sq⟩, q m1 H1 _ a (it_fro (Nat.le_refl _) hh rs)⟩))
      | tup l => exact .inr (.inl (rdE_of s rg (by
          rw [e0]
          intro m1 H1 v a r
          obtain ⟨p, vs, rfl, hh, rs⟩ := rd_tup r
          exact ⟨p, rfl, ⟨vs, .inl (.inl hh)⟩, q m1 H1 _ a (it_tup (Nat.le_refl _) (.inl (.inl hh)) rs)⟩)))
      | ktp l => exact .inr (.inl (rdE_of s rg (by
          rw [e0]
          intro m1 H1 v a r
          obtain ⟨p, vs, rfl, hh, rs⟩ := rd_ktp r
          exact ⟨p, rfl, ⟨vs, hh.sq⟩, q m1 H1 _ a (it_tup (Nat.le_refl _) hh.sq rs)⟩)))
      | str x => exact .inr (.inr (rdE_of s rg (by
          rw [e0]
          intro m1 H1 v a r
          exact ⟨x, rd_str r, q m1 H1 _ a it_str⟩)))
      | adr j =>
        refine .inl (rdE_of s rg ?_)
        rw [e0]
        intro m1 H1 v a r
        obtain ⟨rfl, hj⟩ := rd_adr r
        unfold mSrcD at q
        dsimp only at q
        split at q
        · rename_i l el
          obtain ⟨vs, hh, rs⟩ := a.sim.lst el
          exact ⟨_, rfl, ⟨vs, .inl (.inl hh)⟩, q m1 H1 _ a (it_adr hj)⟩
        · exact q.elim
      | _ => exact q.elim
def mRng1 (a : MA) : MI := fun g => SM.bind (a g) fun l S => match l with
  | [.int j] => if -(2 ^ 62) ≤ j ∧ j < 2 ^ 62 then .ok (sqr 0 1 j.toNat) S else .bad
  | _ => .bad
def mRng2 (a : MA) : MI := fun g => SM.bind (a g) fun l S => match l with
  | [.int i, .int j] => if -(2 ^ 62) ≤ i ∧ i < 2 ^ 62 ∧ -(2 ^ 62) ≤ j ∧ j < 2 ^ 62 then .ok (sqr i 1 (j - i).toNat) S else .bad
  | _ => .bad
/-- down by one -/
def mRng3 (a : MA) : MI := fun g => SM.bind (a g) fun l S => match l with
  | [.int i, .int j, .int k] => if (-(2 ^ 62) ≤ i ∧ i < 2 ^ 62 ∧ -(2 ^ 62) ≤ j ∧ j < 2 ^ 62) ∧ k = -1 then .ok (sqr i (-1) (i - j).toNat) S else .bad
  | _ => .bad
theorem it_rng {lo k : Int} {n : Nat} {J : It} (h1 : ∀ i H, J.go i H ↔ i < n) (h2 : ∀ i H x H', J.yld i H x H' → H' = H ∧ x = .int (lo + (i : Int) * k)) (h3 : ∀ i H, J.stop i H ↔ n ≤ i) : ItOk c J (sqr lo k n) m S H := by
  refine ⟨fun i m1 S1 H1 d a1 e => ?_, fun i m1 S1 H1 a1 e => ?_⟩
  · have e : (if i < n then some (D.int (lo + (i : Int) * k)) else none) = some d := Option.some.inj e
    split at e
    · rename_i hl
      cases e
      refine ⟨(h1 i H1).mpr hl, fun x H' y => ?_⟩
      obtain ⟨rfl, rfl⟩ := h2 i H1 x H' y
      exact ⟨Nxt.refl a1.sim, mk_int⟩
    · cases e
  · have e : (if i < n then some (D.int (lo + (i : Int) * k)) else none) = none := Option.some.inj e
    split at e
    · cases e
    · rename_i hl
      exact (h3 i H1).mpr (Nat.le_of_not_lt hl)
theorem qi_rng1 {tg a : Expr} {ma : MA} {p pos : Pos} (hg : Gl X "range") (hm : X.mg "range" = none) (ha : PA X [a] (rdA c E ma)) (hs : starEach [a] X.env = [(false, eval a X.env)] := by rfl) : PI X tg (.Call (.Name "range" p) [a] [] pos) (rdI c E (mRng1 ma)) :=
  PI.imp (pi_range1 hg hm ha hs) fun σ H Q ⟨m, S, g, s, rg, q⟩ => seqIA s rg q fun m1 S1 H1 l vs a rs q1 => by
    split at q1
    · rename_i j
      obtain ⟨v, w, rfl, r1, r2⟩ := rd_cons rs
      rw [rd_int r1, rd_nil r2]
      obtain ⟨hl, q2⟩ := pi_if (c := c) (E := E) q1
      exact ⟨j, rfl, hl.1, hl.2, q2 m1 H1 _ (Nxt.refl a.sim) (it_rng (fun _ _ => Iff.rfl) (fun i H x H' y => ⟨y.1, by rw [y.2, Int.mul_one]⟩) fun _ _ => Iff.rfl)⟩
    · exact q1.elim
theorem qi_rng2 {tg a b : Expr} {ma : MA} {p pos : Pos} (hg : Gl X "range") (hm : X.mg "range" = none) (ha : PA X [a, b] (rdA c E ma)) (hs : starEach [a, b] X.env = [(false, eval a X.env), (false, eval b X.env)] := by rfl) (hs2 : starEach [b] X.env = [(false, eval b X.env)] := by rfl) : PI X tg (.Call (.Name "range" p) [a, b] [] pos) (rdI c E (mRng2 ma)) :=
  PI.imp (pi_range2 hg hm ha hs hs2) fun σ H Q ⟨m, S, g, s, rg, q⟩ => seqIA s rg q fun m1 S1 H1 l vs a rs q1 => by
    split at q1
    · rename_i i j
      obtain ⟨v, w, rfl, r1, r2⟩ := rd_cons rs
      obtain ⟨v, w, rfl, r3, r4⟩ := rd_cons r2
      rw [rd_int r1, rd_int r3, rd_nil r4]
      obtain ⟨hl, q2⟩ := pi_if (c := c) (E := E) q1
      exact ⟨i, j, rfl, hl, q2 m1 H1 _ (Nxt.refl a.sim) (it_rng (fun _ _ => Iff.rfl) (fun i H x H' y => ⟨y.1, by rw [y.2, Int.mul_one]⟩) fun _ _ => Iff.rfl)⟩
    · exact q1.elim
theorem qi_rng3 {tg a b d : Expr} {ma : MA} {p pos : Pos} (hg : Gl X "range") (hm : X.mg "range" = none) (ha : PA X [a, b, d] (rdA c E ma)) (hs : starEach [a, b, d] X.env = (false, eval a X.env) :: starEach [b, d] X.env := by rfl) (hpl : (backTo pos (starEach [b, d] X.env)).any (·.1) = false := by rfl) : PI X tg (.Call (.Name "range" p) [a, b, d] [] pos) (rdI c E (mRng3 ma)) :=
  PI.imp (pi_range3 hg hm ha hs hpl) fun σ H Q ⟨m, S, g, s, rg, q⟩ => seqIA s rg q fun m1 S1 H1 l vs a rs q1 => by
    split at q1
    · rename_i i j k
      obtain ⟨v, w, rfl, r1, r2⟩ := rd_cons rs
      obtain ⟨v, w, rfl, r3, r4⟩ := rd_cons r2
      obtain ⟨v, w, rfl, r5, r6⟩ := rd_cons r4
      rw [rd_int r1, rd_int r3, rd_int r5, rd_nil r6]
      obtain ⟨⟨hl, rfl⟩, q2⟩ := pi_if (c := c) (E := E) q1
      exact ⟨i, j, -1, _, rfl, RgC.neg hl.1 hl.2.1 hl.2.2.1 hl.2.2.2, q2 m1 H1 _ (Nxt.refl a.sim) (it_rng (fun _ _ => Iff.rfl) (fun i H x H' y => y) fun _ _ => Iff.rfl)⟩
    · exact q1.elim
/-! ### enumerate, zip -/
/-- a list's place and its walk -/
def SqOk (c : Ct) (sr : Src) (a : Addr) (m0 : Nat → Addr) (S0 : Sr) (H0 : Hp) : Prop :=
  ∀ i m S H, Nxt c m0 S0 H0 m S H → (∀ o, sr.nxt i S = some o → ∃ vs, SqL c.K H a vs ∧ (match o with
    | some d => ∃ v, vs[i]? = some v ∧ RelD c m S.n H d v
    | none => vs.length ≤ i))
theorem sq_of {d : D} {v : V} {sr : Src} {S' : Sr} (s : Sim c m S H) (r : RelD c m S.n H d v) (e : mSrcD false d S = .ok sr S') : S' = S ∧ ∃ a, v = .ref a ∧ SqOk c sr a m S H ∧ ∃ vs, SqL c.K H a vs := by
  cases d with
  | fro l =>
    cases e
    obtain ⟨a, vs, rfl, hh, rs⟩ := rd_fro r
    refine ⟨rfl, a, rfl, fun i m1 S1 H1 a1 o e => ⟨vs, (a1.kp.sqF hh).sq, ?_⟩, vs, hh.sq⟩
    have e : l[i]? = o := Option.some.inj e
    cases o with
    | none =>
      show vs.length ≤ i
      rw [← rs.length]
      exact List.getElem?_eq_none_iff.mp e
    | some d => exact (a1.relDs rs).get e
  | adr j =>
    obtain ⟨rfl, hj⟩ := rd_adr r
    unfold mSrcD at e
    dsimp only at e
    split at e
    · rename_i l el
      cases e
      obtain ⟨vs, hh, rs⟩ := s.lst el
      refine ⟨rfl, _, rfl, fun i m1 S1 H1 a1 o e => ?_, vs, .inl (.inl hh)⟩
      have e : (match S1.f j with
        | some (.lst l) => some l[i]?
        | _ => none) = some o := e
      split at e
      · rename_i l2 el2
        have e : l2[i]? = o := Option.some.inj e
        obtain ⟨vs2, h2, rs2⟩ := a1.sim.lst el2
        rw [a1.mu j hj] at h2
        refine ⟨vs2, .inl (.inl h2), ?_⟩
        cases o with
        | none =>
          show vs2.length ≤ i
          rw [← rs2.length]
          exact List.getElem?_eq_none_iff.mp e
        | some d => exact rs2.get e
      · cases e
    · cases e
  | _ => cases e
theorem it_enum {sr : Src} {a : Addr} (h : SqOk c sr a m S H) : ItOk c (Ite c.K a) (sqe sr) m S H := by
  refine ⟨fun i m1 S1 H1 d a1 e => ?_, fun i m1 S1 H1 a1 e => ?_⟩
  · unfold sqe at e
    dsimp only at e
    split at e
    · rename_i d0 e0
      cases e
      obtain ⟨vs, hq, v, e1, r⟩ := h i m1 S1 H1 a1 _ e0
      refine ⟨⟨vs, v, hq, e1⟩, fun x H' ⟨T, y, e2, hT, e3, hy⟩ => ?_⟩
      subst e2 e3
      have e4 := hy vs hq
      rw [e1] at e4
      cases e4
      have n : Nxt c m1 S1 H1 m1 S1 (upd H1 T (.tup [.int (i : Nat), v])) := Nxt.fresh a1.sim hT
      exact ⟨n, mk_tup upd_same (mk_cons mk_int (mk_cons (n.relD r) mk_nil))⟩
    · cases e
    · cases e
  · unfold sqe at e
    dsimp only at e
    split at e
    · cases e
    · rename_i e0
      obtain ⟨vs, hq, hl⟩ := h i m1 S1 H1 a1 _ e0
      exact ⟨vs, hq, hl⟩
    · cases e
theorem it_zip {sr sr2 : Src} {a b : Addr} (h : SqOk c sr a m S H) (h2 : SqOk c sr2 b m S H) : ItOk c (Itz c.K a b) (sqz sr sr2) m S H := by
  refine ⟨fun i m1 S1 H1 d a1 e => ?_, fun i m1 S1 H1 a1 e => ?_⟩
  · unfold sqz at e
    dsimp only at e
    split at e
    · rename_i d0 d1 e0 e1
      cases e
      obtain ⟨vs, hq, v, e2, r⟩ := h i m1 S1 H1 a1 _ e0
      obtain ⟨ws, hq2, w, e3, r2⟩ := h2 i m1 S1 H1 a1 _ e1
      refine ⟨⟨vs, ws, v, w, hq, hq2, e2, e3⟩, fun x H' ⟨T, y, z, e4, hT, e5, hy, hz⟩ => ?_⟩
      subst e4 e5
      have e6 := hy vs hq
      have e7 := hz ws hq2
      rw [e2] at e6
      rw [e3] at e7
      cases e6
      cases e7
      have n : Nxt c m1 S1 H1 m1 S1 (upd H1 T (.tup [v, w])) := Nxt.fresh a1.sim hT
      exact ⟨n, mk_tup upd_same (mk_cons (n.relD r) (mk_cons (n.relD r2) mk_nil))⟩
    · cases e
    · cases e
    · cases e
  · unfold sqz at e
    dsimp only at e
    split at e
    · cases e
    · rename_i o e0 e1
      obtain ⟨vs, hq, hl⟩ := h i m1 S1 H1 a1 _ e0
      obtain ⟨ws, hq2, _⟩ := h2 i m1 S1 H1 a1 _ e1
      exact ⟨vs, ws, hq, hq2, .inl hl⟩
    · rename_i d0 e0 e1
      obtain ⟨vs, hq, _⟩ := h i m1 S1 H1 a1 _ e0
      obtain ⟨ws, hq2, hl⟩ := h2 i m1 S1 H1 a1 _ e1
      exact ⟨vs, ws, hq, hq2, .inr hl⟩
    · cases e
def itSrc : R Src → (Src → Src) → R Src
  | .ok s S, f => .ok (f s) S
  | .exc q S, _ => .exc q S
  | .bad, _ => .bad
def mEnum (a : MA) : MI := fun g => SM.bind (a g) fun l S => match l with
  | [d] => (match mSrcD false d S with
    | .ok s S' => .ok (sqe s) S'
    | _ => .bad)
  | _ => .bad
theorem qi_enum {e : Expr} {ma : MA} {p pos tpos : Pos} {elts : List Expr} {kk : Nat} (hK : X.K = c.K) (hg : Gl X "enumerate") (hm : X.mg "enumerate" = none) (ha : PA X [e] (rdA c E ma)) (hs : starEach [e] X.env = [(false, eval e X.env)] := by rfl) :
    PI X (.Tuple elts kk tpos) (.Call (.Name "enumerate" p) [e] [] pos) (rdI c E (mEnum ma)) :=
  PI.imp (pi_enum hg hm ha hs) fun σ H Q ⟨m, S, g, s, rg, q⟩ => seqIA s rg q fun m1 S1 H1 l vs a rs q1 => by
    rw [hK]
    split at q1
    · obtain ⟨v, w, rfl, r1, r2⟩ := rd_cons rs
      rw [rd_nil r2]
      split at q1
      · rename_i sr S' e1
        obtain ⟨rfl, p, rfl, hq, vs, hv⟩ := sq_of a.sim r1 e1
        exact ⟨p, vs, rfl, hv, q1 m1 H1 _ (Nxt.refl a.sim) (it_enum hq)⟩
      · exact q1.elim
    · exact q1.elim
def mZip (a : MA) : MI := fun g => SM.bind (a g) fun l S => match l with
  | [d, e] => (match mSrcD false d S, mSrcD false e S with
    | .ok s _, .ok t _ => .ok (sqz s t) S
    | _, _ => .bad)
  | _ => .bad
theorem qi_zip {e e2 : Expr} {ma : MA} {p pos tpos : Pos} {elts : List Expr} {kk : Nat} (hK : X.K = c.K) (hg : Gl X "zip") (hm : X.mg "zip" = none) (ha : PA X [e, e2] (rdA c E ma)) (hs : starEach [e, e2] X.env = (false, eval e X.env) :: starEach [e2] X.env := by rfl)
    (hpl : (backTo pos (starEach [e2] X.env)).any (·.1) = false := by rfl) :
    PI X (.Tuple elts kk tpos) (.Call (.Name "zip" p) [e, e2] [] pos) (rdI c E (mZip ma)) :=
  PI.imp (pi_zip hg hm ha hs hpl) fun σ H Q ⟨m, S, g, s, rg, q⟩ => seqIA s rg q fun m1 S1 H1 l vs a rs q1 => by
    rw [hK]
    split at q1
    · obtain ⟨v, w, rfl, r1, r2⟩ := rd_cons rs
      obtain ⟨v2, w2, rfl, r3, r4⟩ := rd_cons r2
      rw [rd_nil r4]
      split at q1
      · rename_i sr _ sr2 _ e1 e2
        obtain ⟨_, p, rfl, hq, vs, hv⟩ := sq_of a.sim r1 e1
        obtain ⟨_, p2, rfl, hq2, vs2, hv2⟩ := sq_of a.sim r3 e2
        exact ⟨p, p2, vs, vs2, rfl, hv, hv2, q1 m1 H1 _ (Nxt.refl a.sim) (it_zip hq hq2)⟩
      · exact q1.elim
    · exact q1.elim
/-! ### for -/
def forG (sr : Src) (step : D → MS) : Nat → Nat → MS
  | 0, i => fun g S => match sr.nxt i S with
    | some none => .nx g S
    | _ => .bad
  | r + 1, i => fun g S => match sr.nxt i S with
    | some none => .nx g S
    | some (some d) => (match step d g S with
      | .nx g' S' => forG sr step r (i + 1) g' S'
      | .ct g' S' => forG sr step r (i + 1) g' S'
      | .bk g' S' => .nx g' S'
      | .rt v S' => .rt v S'
      | .ex q S' => .ex q S'
      | .bad => .bad)
    | none => .bad
def mStep (t : MG) (b : MS) : D → MS := fun d g S => match t d g S with
  | .nx g' S' => b g' S'
  | .ex q S' => .ex q S'
  | _ => .bad
def mFor (src : MI) (t : MG) (b : MS) : MS := fun g S => match src g S with
  | .ok sr S' => forG sr (mStep t b) sr.n 0 g S'
  | .exc q S' => .ex q S'
  | .bad => .bad
theorem qs_for {tg iter : Expr} {body : List Stmt} {mi : MI} {t : MG} {b : MS} {pos : Pos} (hp : PassesOwn (model X.prog X.w) X.A X.env X.xe) (hc : X.calm = true) (hi : PI X tg iter (rdI c E mi)) (hg : PG X tg (rdG c E t)) (hb : PSs X body (rdS c E b))
    (hs : ∀ x, foldedSetIterable iter X.env x = pure x := by intro _; rfl) : PS X (.For tg iter body [] pos) (rdS c E (mFor mi t b)) :=
  PS.imp (ps_for hp hc hi hg hb hs) fun Z σ H ⟨m, S, g, s, rg, q⟩ => by
    refine ⟨m, S, g, s, rg, ?_⟩
    unfold mFor at q
    cases e : mi g S with
    | exc p S1 => rw [e] at q; exact q
    | bad => rw [e] at q; exact q.elim
    | ok sr S1 =>
      rw [e] at q
      intro m1 H1 J a io
      refine ⟨fun i k σ H => ∃ m S g, Nxt c m1 S1 H1 m S H ∧ RelG c m S.n H g σ ∧ PoS c E m S H Z (forG sr (mStep t b) k i g S), ⟨sr.n, m1, S1, g, Nxt.refl a.sim, a.relG rg, PoS.go s a q⟩, ?_⟩
      rintro i k σ2 H2 ⟨m2, S2, g2, n2, rg2, q2⟩
      cases hn : sr.nxt i S2 with
      | none => cases k <;> (unfold forG at q2; rw [hn] at q2; exact q2.elim)
      | some o =>
        cases o with
        | none =>
          refine .inl ⟨io.stop i m2 S2 H2 n2 hn, ?_⟩
          cases k <;> (unfold forG at q2; rw [hn] at q2; exact q2 m2 H2 σ2 (Nxt.refl n2.sim) rg2)
        | some d =>
          cases k with
          | zero => unfold forG at q2; rw [hn] at q2; exact q2.elim
          | succ k =>
            unfold forG at q2
            rw [hn] at q2
            dsimp only at q2
            obtain ⟨h1, h2⟩ := io.go i m2 S2 H2 d n2 hn
            refine .inr ⟨h1, fun σ' H' => ∃ m S g, Nxt c m1 S1 H1 m S H' ∧ RelG c m S.n H' g σ' ∧ PoS c E m S H' Z (forG sr (mStep t b) k (i + 1) g S), fun σ' H' w => ⟨k, Nat.lt_succ_self k, w⟩, fun x H' y => ?_⟩
            obtain ⟨n3, r3⟩ := h2 x H' y
            have q3 := PoS.go n2.sim n3 q2
            have n23 := n2.trans a.sim n3
            refine ⟨m2, S2, g2, d, n3.sim, n3.relG rg2, r3, ?_⟩
            unfold mStep at q3
            cases e3 : t d g2 S2 with
            | nx g4 S4 =>
              rw [e3] at q3
              intro m4 H4 σ4 n4 rg4
              refine ⟨m4, S4, g4, n4.sim, rg4, ?_⟩
              have q4 := PoS.go n3.sim n4 q3
              have n24 := n23.trans a.sim n4
              dsimp only at q4
              cases e4 : b g4 S4 with
              | nx g5 S5 => rw [e4] at q4; exact fun m5 H5 σ5 n5 rg5 => ⟨m5, S5, g5, n24.trans a.sim n5, rg5, PoS.go n4.sim n5 q4⟩
              | ct g5 S5 => rw [e4] at q4; exact fun m5 H5 σ5 n5 rg5 => ⟨m5, S5, g5, n24.trans a.sim n5, rg5, PoS.go n4.sim n5 q4⟩
              | bk g5 S5 => rw [e4] at q4; exact q4
              | rt v S5 => rw [e4] at q4; exact q4
              | ex p S5 => rw [e4] at q4; exact q4
              | bad => rw [e4] at q4; exact q4.elim
            | ex p S4 => rw [e3] at q3; exact q3
            | rt _ _ => rw [e3] at q3; exact q3.elim
            | bk _ _ => rw [e3] at q3; exact q3.elim
            | ct _ _ => rw [e3] at q3; exact q3.elim
            | bad => rw [e3] at q3; exact q3.elim
/-! ### while -/
def whileG (t : MT) (b : MS) : Nat → MS
  | 0 => fun _ _ => .bad
  | k + 1 => fun g S => toRST (t g S) fun v S1 => if v = true then (match b g S1 with
      | .nx g' S' => whileG t b k g' S'
      | .ct g' S' => whileG t b k g' S'
      | .bk g' S' => .nx g' S'
      | .rt v S' => .rt v S'
      | .ex q S' => .ex q S'
      | .bad => .bad) else .nx g S1
theorem qs_while {t : Expr} {body : List Stmt} {mt : MT} {b : MS} {pos : Pos} (k : Nat) (hp : PassesOwn (model X.prog X.w) X.A X.env X.xe) (ht : PT X t (rdT c E mt)) (hb : PSs X body (rdS c E b)) : PS X (.While t body [] pos) (rdS c E (whileG mt b k)) :=
  PS.imp (ps_while hp ht hb) fun Z σ H ⟨m, S, g, s, rg, q⟩ => by
    refine ⟨fun k σ H => ∃ m S g, Sim c m S H ∧ RelG c m S.n H g σ ∧ PoS c E m S H Z (whileG mt b k g S), ⟨k, m, S, g, s, rg, q⟩, ?_⟩
    rintro k σ1 H1 ⟨m1, S1, g1, s1, rg1, q1⟩
    cases k with
    | zero => exact q1.elim
    | succ k =>
      unfold whileG at q1
      refine seqST s1 rg1 q1 fun m2 S2 H2 v a2 q2 => ?_
      cases v with
      | false => exact q2 m2 H2 σ1 (Nxt.refl a2.sim) (a2.relG rg1)
      | true =>
        refine ⟨fun σ' H' => ∃ m S g, Sim c m S H' ∧ RelG c m S.n H' g σ' ∧ PoS c E m S H' Z (whileG mt b k g S), fun σ' H' w => ⟨k, Nat.lt_succ_self k, w⟩, m2, S2, g1, a2.sim, a2.relG rg1, ?_⟩
        rw [if_pos rfl] at q2
        cases e4 : b g1 S2 with
        | nx g5 S5 => rw [e4] at q2; exact fun m5 H5 σ5 n5 rg5 => ⟨m5, S5, g5, n5.sim, rg5, PoS.go a2.sim n5 q2⟩
        | ct g5 S5 => rw [e4] at q2; exact fun m5 H5 σ5 n5 rg5 => ⟨m5, S5, g5, n5.sim, rg5, PoS.go a2.sim n5 q2⟩
        | bk g5 S5 => rw [e4] at q2; exact q2
        | rt v S5 => rw [e4] at q2; exact q2
        | ex p S5 => rw [e4] at q2; exact q2
        | bad => rw [e4] at q2; exact q2.elim
end
end Y

set_option Elab.async false
set_option linter.all false
set_option maxRecDepth 100000
set_option maxHeartbeats 1000000
/-! Y9: list comprehensions. -/
namespace Y
open PySem PySem.Spec PyProof.Rows L2
/-- a target of names -/
inductive Tg where
  | nm (i : Nat) | tp (l : List Nat)
def setsV : List Nat → List V → L2.St → L2.St
  | i :: is, v :: vs, σ => setsV is vs (σ.set i (some v))
  | _, _, σ => σ
def setsD : List Nat → List D → Gm → Gm
  | i :: is, v :: vs, σ => setsD is vs (σ.set i (some v))
  | _, _, σ => σ
def gTg (K : PySem.W.Frag) : Tg → TG
  | .nm i => fun v σ H Q => Q (σ.set i (some v)) H
  | .tp is => fun v σ H Q => ∃ a vs, v = .ref a ∧ SqT K H a vs ∧ vs.length = is.length ∧ Q (setsV is vs σ) H
def gNms (is : List Nat) : TGs := fun vs σ H Q => vs.length = is.length ∧ Q (setsV is vs σ) H
def Tg.put : Tg → D → Gm → Option Gm
  | .nm i, d, g => some (g.set i (some d))
  | .tp is, .tup l, g => if l.length = is.length then some (setsD is l g) else none
  | .tp is, .ktp l, g => if l.length = is.length then some (setsD is l g) else none
  | _, _, _ => none
def Tg.ix : Tg → List Nat
  | .nm i => [i]
  | .tp l => l
def wipeD (g : Gm) : List Nat → Gm
  | [] => g
  | v :: vs => (wipeD g vs).set v none
section
variable {X : Cx} {c : Ct} {E : XK} {m : Nat → Addr} {S : Sr} {H : Hp} {g : Gm} {σ : L2.St}
theorem qt_name {i : Nat} {x : Str} {pos : Pos} (hN : X.N.Nodup) (hi : X.N[i]? = some x) (hx : Loc X.env.scope x) (hf : X.fn x = true ∨ X.env.scope.names.lookup x = some .local := by first | exact .inl rfl | exact .inr rfl | assumption) : PG X (.Name x pos) (gTg X.K (.nm i)) :=
  PG.imp (pg_name hN hi hx hf) fun v σ H Q q => q
theorem qt_nil : PGs X [] (gNms []) := PGs.imp pgs_nil fun vs σ H Q ⟨h, q⟩ => by
  cases vs with
  | nil => exact ⟨rfl, q⟩
  | cons v vs => exact absurd h (by simp)
theorem qt_cons {i : Nat} {is : List Nat} {x : Str} {pos : Pos} {es : List Expr} (hN : X.N.Nodup) (hi : X.N[i]? = some x) (hx : Loc X.env.scope x) (h2 : PGs X es (gNms is)) (hf : X.fn x = true ∨ X.env.scope.names.lookup x = some .local := by first | exact .inl rfl | exact .inr rfl | assumption)
    (hs : (assignEach (.Name x pos :: es) X.env).map (·.2) = assign (.Name x pos) X.env :: (assignEach es X.env).map (·.2) := by rfl) : PGs X (.Name x pos :: es) (gNms (i :: is)) :=
  PGs.imp (pgs_cons (pg_name hN hi hx hf) h2 hs) fun vs σ H Q ⟨h, q⟩ => by
    cases vs with
    | nil => exact absurd h (by simp)
    | cons v vs => exact ⟨v, vs, rfl, by simpa using h, q⟩
theorem qt_tup {es : List Expr} {k : Nat} {is : List Nat} {pos : Pos} (hc : X.calm = true) (h : PGs X es (gNms is)) (hn : (assignEach es X.env).length = is.length := by rfl) (hst : (assignEach es X.env).findIdx? (·.1) = none := by rfl) : PG X (.Tuple es k pos) (gTg X.K (.tp is)) :=
  PG.imp (pg_tup hc h hn hst) fun v σ H Q ⟨a, vs, e, hq, hl, q⟩ => ⟨a, vs, e, hq, hl, hl, q⟩
theorem wipe_set {i : Nat} {o : Option V} (σ : L2.St) : ∀ {vs : List Nat}, i ∈ vs → wipe (σ.set i o) vs = wipe σ vs
  | v :: vs, h => by
    unfold wipe
    by_cases hi : i ∈ vs
    · rw [wipe_set σ hi]
    · have e : i = v := by
        rcases List.mem_cons.mp h with e | e
        · exact e
        · exact absurd e hi
      subst e
      have : ∀ (vs : List Nat), i ∉ vs → wipe (σ.set i o) vs = (wipe σ vs).set i o := by
        intro vs
        induction vs with
        | nil => intro _; rfl
        | cons w ws ih =>
          intro hn
          have h1 : i ∉ ws := fun z => hn (List.mem_cons_of_mem _ z)
          have h2 : i ≠ w := fun z => hn (by rw [z]; exact List.mem_cons_self)
          unfold wipe
          rw [ih h1, List.set_comm _ _ h2]
      rw [this vs hi, List.set_set]
theorem wipe_idem (σ : L2.St) : ∀ (vs ws : List Nat), (∀ i ∈ ws, i ∈ vs) → wipe (wipe σ ws) vs = wipe σ vs
  | vs, [], _ => rfl
  | vs, w :: ws, h => by
    show L2.wipe ((L2.wipe σ ws).set w none) vs = L2.wipe σ vs
    rw [wipe_set _ (h w List.mem_cons_self)]
    exact wipe_idem σ vs ws fun i hi => h i (List.mem_cons_of_mem _ hi)
theorem wipe_sets : ∀ {is : List Nat} {xs : List V} {σ : L2.St} {vs : List Nat}, (∀ i ∈ is, i ∈ vs) → wipe (setsV is xs σ) vs = wipe σ vs
  | [], _, _, _, _ => rfl
  | i :: is, [], _, _, _ => rfl
  | i :: is, x :: xs, σ, vs, h => by
    unfold setsV
    rw [wipe_sets fun j hj => h j (List.mem_cons_of_mem _ hj)]
    exact wipe_set σ (h i List.mem_cons_self)
theorem RelG.wipe {n : Nat} (rg : RelG c m n H g σ) : ∀ (vs : List Nat), RelG c m n H (wipeD g vs) (L2.wipe σ vs)
  | [] => rg
  | v :: vs => by
    have ih := RelG.wipe rg vs
    unfold wipeD L2.wipe
    refine ⟨by rw [List.length_set, List.length_set]; exact ih.1, fun j x e => ?_⟩
    by_cases h : v = j
    · subst h
      by_cases hl : v < (wipeD g vs).length
      · rw [List.getElem?_set_self hl] at e
        cases e
      · rw [List.getElem?_eq_none (by rw [List.length_set]; omega)] at e
        cases e
    · rw [List.getElem?_set_ne h] at e
      obtain ⟨w, e1, r1⟩ := ih.2 j x e
      exact ⟨w, by rw [List.getElem?_set_ne h]; exact e1, r1⟩
theorem RelG.sets {n : Nat} : ∀ {is : List Nat} {ds : List D} {vs : List V} {g : Gm} {σ : L2.St}, RelG c m n H g σ → RelDs c m n H ds vs → RelG c m n H (setsD is ds g) (setsV is vs σ)
  | [], _, _, _, _, rg, _ => rg
  | i :: is, [], vs, _, _, rg, r => by rw [rd_nil r]; exact rg
  | i :: is, d :: ds, _, _, _, rg, r => by
    obtain ⟨v, w, rfl, r1, r2⟩ := rd_cons r
    exact RelG.sets (is := is) (ds := ds) (rg.set i r1) r2
/-- the turns -/
def lcG (sr : Src) (t : Tg) (mt : MT) (me : ME) (g0 : Gm) (D0 : Nat) : Nat → Nat → SM Unit
  | 0, i => fun S => match sr.nxt i S with
    | some none => .ok () S
    | _ => .bad
  | r + 1, i => fun S => match sr.nxt i S with
    | some none => .ok () S
    | some (some d) => (match t.put d g0 with
      | none => .bad
      | some g => (match mt g S with
        | .ok false S1 => lcG sr t mt me g0 D0 r (i + 1) S1
        | .ok true S1 => (match me g S1 with
          | .ok y S2 => (match S2.f D0 with
            | some (.lst acc) => if acc.length < sizeLine then lcG sr t mt me g0 D0 r (i + 1) (S2.put D0 (.lst (acc ++ [y]))) else .bad
            | _ => .bad)
          | _ => .bad)
        | _ => .bad))
    | none => .bad
def mLc (src : MI) (t : Tg) (mt : MT) (me : ME) (vs : List Nat) : ME := fun g => SM.bind (src g) fun sr S1 => SM.bind (lcG sr t mt me (wipeD g vs) S1.n sr.n 0) (fun _ S' => .ok (.adr S1.n) S') (S1.alloc (.lst []))
def mYes : MT := fun _ S => .ok true S
theorem qy_nil : PTs X [] (rdT c E mYes) := ⟨fun pins s σ H Q I ⟨m, S, g, si, rg, q⟩ => pts_nil.run pins s σ H Q I (q m H (Nxt.refl si))⟩
/-- an exception leaves no element -/
abbrev noX : XK := fun _ _ _ => False
theorem lc_of {mi : MI} {t : Tg} {mt : MT} {me : ME} {vs : List Nat} (ht : ∀ i ∈ t.ix, i ∈ vs) (σ : L2.St) (H : Hp) (Q : VK) (h : rdE c E (mLc mi t mt me vs) σ H Q) :
    tLc (rdI c E mi) (gTg c.K t) (rdT c noX mt) (rdE c noX me) vs σ H Q := by
  obtain ⟨m, S, g, s, rg, q⟩ := h
  refine ⟨m, S, g, s, rg, ?_⟩
  unfold mLc SM.bind at q
  cases e : mi g S with
  | exc p S1 => rw [e] at q; exact q
  | bad => rw [e] at q; exact q.elim
  | ok sr S1 =>
    rw [e] at q
    intro m1 H1 J a io DD hD
    have al := Nxt.alloc (x := .lst []) (o := .lst []) a.sim hD ⟨[], rfl, mk_nil⟩
    have n0 := a.trans s al
    have q1 := PoE.go s n0 q
    -- a word that goes from turn to turn
    have gm : ext m1 S1.n DD S1.n = DD := ext_same
    refine ⟨fun i k H => ∃ m S, Nxt c (ext m1 S1.n DD) (S1.alloc (.lst [])) (upd H1 DD (.lst [])) m S H ∧ PoE c E m S H Q (SM.bind (lcG sr t mt me (wipeD g vs) S1.n k i) (fun _ S' => .ok (.adr S1.n) S') S), ⟨sr.n, _, _, Nxt.refl al.sim, q1⟩, ?_⟩
    rintro i k H2 ⟨m2, S2, n2, q2⟩
    have hm2 : m2 S1.n = DD := by rw [n2.mu S1.n (Nat.lt_succ_self _), gm]
    have hlt2 : S1.n < S2.n := Nat.lt_of_lt_of_le (Nat.lt_succ_self _) n2.le
    cases hn : sr.nxt i S2 with
    | none => cases k <;> (unfold SM.bind lcG at q2; rw [hn] at q2; exact q2.elim)
    | some o =>
      have nn := al.trans a.sim n2
      cases o with
      | none =>
        refine .inl ⟨io.stop i m2 S2 H2 nn hn, ?_⟩
        cases k <;> (unfold SM.bind lcG at q2; rw [hn] at q2; refine q2 m2 H2 _ (Nxt.refl n2.sim) ?_; rw [← hm2]; exact mk_adr hlt2)
      | some d =>
        cases k with
        | zero => unfold SM.bind lcG at q2; rw [hn] at q2; exact q2.elim
        | succ k =>
          unfold SM.bind lcG at q2
          rw [hn] at q2
          dsimp only at q2
          obtain ⟨h1, h2⟩ := io.go i m2 S2 H2 d nn hn
          refine .inr ⟨h1, fun H' => ∃ m S, Nxt c (ext m1 S1.n DD) (S1.alloc (.lst [])) (upd H1 DD (.lst [])) m S H' ∧ PoE c E m S H' Q (SM.bind (lcG sr t mt me (wipeD g vs) S1.n k (i + 1)) (fun _ S' => .ok (.adr S1.n) S') S), fun H' w => ⟨k, Nat.lt_succ_self k, w⟩, fun x H3 y => ?_⟩
          obtain ⟨n3, r3⟩ := h2 x H3 y
          have n23 := n2.trans al.sim n3
          have rg3 : RelG c m2 S2.n H3 (wipeD g vs) (L2.wipe σ vs) := n23.relG (al.relG ((a.relG rg).wipe vs))
          have q3 := PoE.go n2.sim n3 q2
          cases ep : t.put d (wipeD g vs) with
          | none => rw [ep] at q3; exact q3.elim
          | some g4 =>
            rw [ep] at q3
            dsimp only at q3
            -- the turn's own part
            have core : ∀ σ4 : L2.St, RelG c m2 S2.n H3 g4 σ4 → rdT c noX mt σ4 H3 fun b H4 => if b = true then rdE c noX me σ4 H4 fun y H5 => ∃ acc, H5 DD = some (.lst acc) ∧ acc.length < sizeLine ∧ (∃ m S, Nxt c (ext m1 S1.n DD) (S1.alloc (.lst [])) (upd H1 DD (.lst [])) m S (upd H5 DD (.lst (acc ++ [y]))) ∧ PoE c E m S (upd H5 DD (.lst (acc ++ [y]))) Q (SM.bind (lcG sr t mt me (wipeD g vs) S1.n k (i + 1)) (fun _ S' => .ok (.adr S1.n) S') S)) else (∃ m S, Nxt c (ext m1 S1.n DD) (S1.alloc (.lst [])) (upd H1 DD (.lst [])) m S H4 ∧ PoE c E m S H4 Q (SM.bind (lcG sr t mt me (wipeD g vs) S1.n k (i + 1)) (fun _ S' => .ok (.adr S1.n) S') S)) := by
              intro σ4 rg4
              refine ⟨m2, S2, g4, n3.sim, rg4, ?_⟩
              cases et : mt g4 S2 with
              | exc p S3 => rw [et] at q3; exact q3.elim
              | bad => rw [et] at q3; exact q3.elim
              | ok b S3 =>
                rw [et] at q3
                intro m3 H4 n4
                have q4 := PoE.go n3.sim n4 q3
                have n24 := n23.trans al.sim n4
                cases b with
                | false => exact ⟨m3, S3, n24, q4⟩
                | true =>
                  rw [if_pos rfl]
                  dsimp only at q4
                  refine ⟨m3, S3, g4, n4.sim, n4.relG rg4, ?_⟩
                  cases ee : me g4 S3 with
                  | exc p S4 => rw [ee] at q4; exact q4.elim
                  | bad => rw [ee] at q4; exact q4.elim
                  | ok yd S4 =>
                    rw [ee] at q4
                    dsimp only at q4
                    intro m5 H5 yv n5 ry
                    have q5 := PoE.go n4.sim n5 q4
                    have n25 := n24.trans al.sim n5
                    have hm5 : m5 S1.n = DD := by rw [n25.mu S1.n (Nat.lt_succ_self _), gm]
                    cases ea : S4.f S1.n with
                    | none => rw [ea] at q5; exact q5.elim
                    | some mo =>
                      rw [ea] at q5
                      cases mo with
                      | lst acc =>
                        dsimp only at q5
                        by_cases hz : acc.length < sizeLine
                        · rw [if_pos hz] at q5
                          obtain ⟨vs', hh, rs⟩ := n5.sim.lst ea
                          rw [hm5] at hh
                          have pu := Nxt.put (x := .lst (acc ++ [yd])) (o := .lst (vs' ++ [yv])) n5.sim ea ⟨_, rfl, rs.append (mk_cons ry mk_nil)⟩
                          rw [hm5] at pu
                          exact ⟨vs', hh, by rw [← rs.length]; exact hz, m5, _, n25.trans al.sim pu, PoE.go n5.sim pu q5⟩
                        · rw [if_neg hz] at q5
                          exact q5.elim
                      | _ => exact q5.elim
            cases t with
            | nm j =>
              cases ep
              exact ⟨by rw [wipe_set _ (ht j (List.mem_singleton.mpr rfl))]; exact wipe_idem σ vs vs fun _ h => h, core _ (rg3.set j r3)⟩
            | tp is =>
              cases d with
              | tup l =>
                dsimp only [Tg.put] at ep
                split at ep
                · rename_i hl
                  cases ep
                  obtain ⟨p, ws, rfl, hh, rs⟩ := rd_tup r3
                  exact ⟨p, ws, rfl, .inl (.inl hh), by rw [← rs.length]; exact hl, by rw [wipe_sets (is := is) ht]; exact wipe_idem σ vs vs fun _ h => h, core _ (rg3.sets rs)⟩
                · cases ep
              | ktp l =>
                dsimp only [Tg.put] at ep
                split at ep
                · rename_i hl
                  cases ep
                  obtain ⟨p, ws, rfl, hh, rs⟩ := rd_ktp r3
                  exact ⟨p, ws, rfl, hh.sq, by rw [← rs.length]; exact hl, by rw [wipe_sets (is := is) ht]; exact wipe_idem σ vs vs fun _ h => h, core _ (rg3.sets rs)⟩
                · cases ep
              | _ => cases ep
theorem qe_lc {elt tg iter : Expr} {ifs : List Expr} {scope : Scope} {own : List (Str × Nat)} {pos : Pos} {mi : MI} {t : Tg} {mt : MT} {me : ME} (hK : X.K = c.K) (hc : X.calm = true) (hN : X.N.Nodup) (hi : PI X tg iter (rdI c E mi)) (ok : BlkOk X.N X.env.scope scope own)
    (hg : ∀ (s : Shared) (H : Hp) (C : Addr) (cl : List (Str × Addr)) (fp : List Addr), PG (X.blk s H scope (compEnvC scope cl C X.env) fp) tg (gTg X.K t))
    (ht : ∀ (s : Shared) (H : Hp) (C : Addr) (cl : List (Str × Addr)) (fp : List Addr), PTs (X.blk s H scope (compEnvC scope cl C X.env) fp) ifs (rdT c noX mt))
    (he : ∀ (s : Shared) (H : Hp) (C : Addr) (cl : List (Str × Addr)) (fp : List Addr), PE (X.blk s H scope (compEnvC scope cl C X.env) fp) elt (rdE c noX me))
    (hv : ∀ i ∈ t.ix, i ∈ own.map (·.2) := by decide) (hs : ∀ x, foldedSetIterable iter X.env x = pure x := by intro _; rfl) :
    PE X (.ListComp elt [⟨tg, iter, ifs, 0⟩] scope pos) (rdE c E (mLc mi t mt me (own.map (·.2)))) :=
  PE.imp (pe_lc hc hN hi ok hg ht he hs) fun σ H Q h => by
    rw [hK]
    exact lc_of hv σ H Q h
theorem qs_setLc {i : Nat} {y : Str} {py : Pos} {elt tg iter : Expr} {ifs : List Expr} {scope : Scope} {own : List (Str × Nat)} {pos spos : Pos} {mi : MI} {t : Tg} {mt : MT} {me : ME} (hK : X.K = c.K) (hc : X.calm = true) (hN : X.N.Nodup) (hy : X.N[i]? = some y) (hyl : X.env.scope.names.lookup y = some .local)
    (hsw : swapsWith (.ListComp elt [⟨tg, iter, ifs, 0⟩] scope pos) (some (.Name y py)) spos.line X.env = pure true) (hi : PI X tg iter (rdI c E mi)) (ok : BlkOk X.N X.env.scope scope own)
    (hg : ∀ (s : Shared) (H : Hp) (C : Addr) (cl : List (Str × Addr)) (fp : List Addr), PG (X.blk s H scope (compEnvC scope cl C X.env) fp) tg (gTg X.K t))
    (ht : ∀ (s : Shared) (H : Hp) (C : Addr) (cl : List (Str × Addr)) (fp : List Addr), PTs (X.blk s H scope (compEnvC scope cl C X.env) fp) ifs (rdT c noX mt))
    (he : ∀ (s : Shared) (H : Hp) (C : Addr) (cl : List (Str × Addr)) (fp : List Addr), PE (X.blk s H scope (compEnvC scope cl C X.env) fp) elt (rdE c noX me))
    (hv : ∀ i ∈ t.ix, i ∈ own.map (·.2) := by decide) (hs : ∀ x, foldedSetIterable iter X.env x = pure x := by intro _; rfl) :
    PS X (.Assign [.Name y py] (.ListComp elt [⟨tg, iter, ifs, 0⟩] scope pos) spos) (rdS c E (mSet i (mLc mi t mt me (own.map (·.2))))) :=
  PS.imp (ps_setLc hc hN hy hyl hsw hi ok hg ht he hs) fun Z σ H ⟨m, S, g, s, rg, q⟩ => by
    have z : rdE c E (mLc mi t mt me (own.map (·.2))) σ H fun v H1 => Z.nx (σ.set i (some v)) H1 := by
      refine seqSE s rg q fun m1 S1 H1 d v a r q1 => q1 m1 H1 _ (Nxt.refl a.sim) ((a.relG rg).set i r)
    have z2 := lc_of hv σ H _ z
    rw [hK]
    exact z2
end
end Y

set_option Elab.async false
set_option linter.all false
set_option maxRecDepth 100000
set_option maxHeartbeats 1000000
/-! Y10: methods of built-in types, dicts written out. -/
namespace Y
open PySem PySem.Spec PyProof.Rows L2
def tyF (T : String) (d : D) (S : Sr) : Bool := match d with
  | .str _ => T == "str"
  | .fro _ => T == "list"
  | .ktp _ => T == "tuple"
  | .adr i => (match S.f i with
    | some (.lst _) => T == "list"
    | some (.dic _) => T == "dict"
    | some (.dit _) => T == "dict"
    | _ => false)
  | _ => false
section
variable {X : Cx} {c : Ct} {E : XK} {m : Nat → Addr} {S : Sr} {H : Hp} {g : Gm} {σ : L2.St}
theorem tyF_ok {T : String} {d : D} {v : V} (s : Sim c m S H) (r : RelD c m S.n H d v) (h : tyF T d S = true) : tyV c.K T v H := by
  cases d with
  | str z => rw [rd_str r]; exact eq_of_beq h
  | fro l =>
    obtain ⟨a, vs, rfl, hh, rs⟩ := rd_fro r
    exact .inl ⟨eq_of_beq h, vs, hh.sq⟩
  | ktp l =>
    obtain ⟨a, vs, rfl, ⟨o, its, n, h1, h2, h3, h4⟩, rs⟩ := rd_ktp r
    exact .inr (.inl ⟨eq_of_beq h, o, h1, h2, h3⟩)
  | adr i =>
    obtain ⟨rfl, hi⟩ := rd_adr r
    unfold tyF at h
    dsimp only at h
    split at h
    · rename_i l el
      obtain ⟨vs, hh, rs⟩ := s.lst el
      exact .inl ⟨eq_of_beq h, vs, .inl (.inl hh)⟩
    · rename_i l el
      obtain ⟨vs, hh, rs⟩ := s.dic el
      exact .inr (.inr (.inl ⟨eq_of_beq h, .inl ⟨vs, hh⟩⟩))
    · rename_i l el
      obtain ⟨vs, hh, rs⟩ := s.dit el
      exact .inr (.inr (.inl ⟨eq_of_beq h, .inr ⟨vs, hh⟩⟩))
    · cases h
  | _ => cases h
/-- what a method answers -/
abbrev FM := D → List D → SM D
def SndM (c : Ct) (r : V → List V → Hp → VK → Prop) (f : FM) : Prop := ∀ (E : XK) (m : Nat → Addr) (S : Sr) (H : Hp) (Q : VK) (x : D) (v : V) (l : List D) (vs : List V), Sim c m S H → RelD c m S.n H x v → RelDs c m S.n H l vs → PoE c E m S H Q (f x l S) → r v vs H Q
def mBM (T : String) (f : FM) (o : ME) (a : MA) : ME := fun g => SM.bind (o g) fun x S1 => if tyF T x S1 = true then SM.bind (a g) (f x) S1 else .bad
theorem tBM_of {T : String} {r : V → List V → Hp → VK → Prop} {f : FM} {mo : ME} {ma : MA} (hs : SndM c r f) (σ : L2.St) (H : Hp) (Q : VK) (h : rdE c E (mBM T f mo ma) σ H Q) : tBM c.K T r (rdE c E mo) (rdA c E ma) σ H Q := by
  obtain ⟨m, S, g, s, rg, q⟩ := h
  refine seqE s rg q fun m1 S1 H1 x v a r q1 => ?_
  obtain ⟨ht, q2⟩ := po_if q1
  exact ⟨tyF_ok a.sim r ht, seqEA a.sim (a.relG rg) q2 fun m2 S2 H2 l vs b rs q3 => hs E m2 S2 H2 Q x v l vs b.sim (b.relD r) rs q3⟩
theorem qe_bm {o e : Expr} {es : List Expr} {mo : ME} {ma : MA} {name : Str} {apos cpos : Pos} {T id : String} {r : V → List V → Hp → VK → Prop} {f : FM} (hK : X.K = c.K) (pa : PlainAttrs T) (slot : Slot T name id) (hty : typeOf (.builtin id) = pure (.type "method_descriptor")) (hm : MtR X id r) (hs : SndM c r f)
    (ho : PE X o (rdE c E mo)) (ha : PA X (e :: es) (rdA c E ma))
    (hbase : attributeBase o name X.env (eval o X.env) = eval o X.env := by rfl)
    (hfew : ((backTo cpos (starEach (e :: es) X.env)).all (fun x => !x.1) && (backToKw cpos (keywordEach [] X.env)).all (fun x => x.1.isSome)
      && decide ((e :: es).length + ([] : List Keyword).length + (if ([] : List Keyword).isEmpty then 0 else 1) < 30)) = true := by rfl)
    (hline : (apos.endLine == cpos.line) = true := by rfl) (hst : starEach (e :: es) X.env = (false, eval e X.env) :: starEach es X.env := by rfl) (hplain : (backTo cpos (starEach es X.env)).any (·.1) = false := by rfl) :
    PE X (.Call (.Attribute o name apos) (e :: es) [] cpos) (rdE c E (mBM T f mo ma)) :=
  PE.imp (pe_bm pa slot hty hm ho ha hbase hfew hline hst hplain) fun σ H Q h => by
    rw [hK]
    exact tBM_of hs σ H Q h
theorem qe_bm0 {o : Expr} {mo : ME} {name : Str} {apos cpos : Pos} {T id : String} {r : V → List V → Hp → VK → Prop} {f : FM} (hK : X.K = c.K) (pa : PlainAttrs T) (slot : Slot T name id) (hty : typeOf (.builtin id) = pure (.type "method_descriptor")) (hm : MtR X id r) (hs : SndM c r f)
    (ho : PE X o (rdE c E mo)) (hbase : attributeBase o name X.env (eval o X.env) = eval o X.env := by rfl) (hline : (apos.endLine == cpos.line) = true := by rfl) :
    PE X (.Call (.Attribute o name apos) [] [] cpos) (rdE c E (mBM T f mo mNil)) :=
  PE.imp (pe_bm0 pa slot hty hm ho hbase hline) fun σ H Q h => by
    rw [hK]
    obtain ⟨m, S, g, s, rg, q⟩ := h
    refine seqE s rg q fun m1 S1 H1 x v a r q1 => ?_
    obtain ⟨ht, q2⟩ := po_if q1
    exact ⟨tyF_ok a.sim r ht, hs E m1 S1 H1 Q x v [] [] a.sim r mk_nil q2⟩
/-! ### lists -/
def fApp : FM := fun x l S => match x, l with
  | .adr i, [d] => (match S.f i with
    | some (.lst xs) => if xs.length < sizeLine then .ok .non (S.put i (.lst (xs ++ [d]))) else .bad
    | _ => .bad)
  | _, _ => .bad
theorem snd_append : SndM c rAppend fApp := fun E m S H Q x v l vs s rx rs q => by
  unfold fApp at q
  split at q
  · rename_i i d
    obtain ⟨rfl, hi⟩ := rd_adr rx
    obtain ⟨w, t, rfl, r1, r2⟩ := rd_cons rs
    rw [rd_nil r2]
    split at q
    · rename_i xs ex
      obtain ⟨hz, q⟩ := po_if q
      obtain ⟨ys, hh, rs⟩ := s.lst ex
      have pu := Nxt.put (x := .lst (xs ++ [d])) (o := .lst (ys ++ [w])) s ex ⟨_, rfl, rs.append (mk_cons r1 mk_nil)⟩
      exact ⟨_, ys, w, rfl, rfl, hh, by rw [← rs.length]; exact hz, q m _ _ pu mk_non⟩
    · exact q.elim
  · exact q.elim
def fPop : FM := fun x l S => match x, l with
  | .adr i, [] => (match S.f i with
    | some (.lst xs) => (match xs[xs.length - 1]? with
      | some d => .ok d (S.put i (.lst xs.dropLast))
      | none => .bad)
    | _ => .bad)
  | _, _ => .bad
theorem RelDs.dropLast {n : Nat} : ∀ {l : List D} {vs : List V}, RelDs c m n H l vs → RelDs c m n H l.dropLast vs.dropLast
  | [], _, h => by rw [rd_nil h]; exact mk_nil
  | [d], _, h => by
    obtain ⟨w, t, rfl, r1, r2⟩ := rd_cons h
    rw [rd_nil r2]
    exact mk_nil
  | d :: e :: l, _, h => by
    obtain ⟨w, t, rfl, r1, r2⟩ := rd_cons h
    obtain ⟨w2, t2, rfl, r3, r4⟩ := rd_cons r2
    exact mk_cons r1 (RelDs.dropLast (l := e :: l) r2)
theorem snd_pop : SndM c rPop fPop := fun E m S H Q x v l vs s rx rs q => by
  unfold fPop at q
  split at q
  · rename_i i
    obtain ⟨rfl, hi⟩ := rd_adr rx
    rw [rd_nil rs]
    split at q
    · rename_i xs ex
      split at q
      · rename_i d ed
        obtain ⟨ys, hh, rs⟩ := s.lst ex
        obtain ⟨w, e1, r1⟩ := rs.get ed
        have pu := Nxt.put (x := .lst xs.dropLast) (o := .lst ys.dropLast) s ex ⟨_, rfl, rs.dropLast⟩
        exact ⟨_, ys, w, rfl, rfl, hh, by rw [← rs.length]; exact e1, q m _ _ pu (pu.relD r1)⟩
      · exact q.elim
    · exact q.elim
  · exact q.elim
theorem RelDs.erase {n : Nat} : ∀ {l : List D} {vs : List V} (k : Nat), RelDs c m n H l vs → RelDs c m n H (l.eraseIdx k) (vs.eraseIdx k)
  | [], _, k, h => by rw [rd_nil h]; exact mk_nil
  | d :: l, _, 0, h => by
    obtain ⟨w, t, rfl, r1, r2⟩ := rd_cons h
    exact r2
  | d :: l, _, k + 1, h => by
    obtain ⟨w, t, rfl, r1, r2⟩ := rd_cons h
    exact mk_cons r1 (RelDs.erase k r2)
def fPopAt : FM := fun x l S => match x, l with
  | .adr i, [.int j] => (match S.f i with
    | some (.lst xs) => if -(2 ^ 63) ≤ j ∧ j < 2 ^ 63 then (match seqIndex? j xs.length with
      | some k => (match xs[k]? with
        | some d => .ok d (S.put i (.lst (xs.eraseIdx k)))
        | none => .bad)
      | none => .bad) else .bad
    | _ => .bad)
  | _, _ => .bad
theorem snd_popAt : SndM c rPopAt fPopAt := fun E m S H Q x v l vs s rx rs q => by
  unfold fPopAt at q
  split at q
  · rename_i i j
    obtain ⟨rfl, hi⟩ := rd_adr rx
    obtain ⟨w, t, rfl, r1, r2⟩ := rd_cons rs
    rw [rd_int r1, rd_nil r2]
    split at q
    · rename_i xs ex
      obtain ⟨hj, q⟩ := po_if q
      split at q
      · rename_i k ek
        split at q
        · rename_i d ed
          obtain ⟨ys, hh, rs⟩ := s.lst ex
          obtain ⟨w, e1, r1⟩ := rs.get ed
          have pu := Nxt.put (x := .lst (xs.eraseIdx k)) (o := .lst (ys.eraseIdx k)) s ex ⟨_, rfl, rs.erase k⟩
          exact ⟨_, ys, j, k, w, rfl, rfl, hh, hj.1, hj.2, by rw [← rs.length]; exact ek, e1, q m _ _ pu (pu.relD r1)⟩
        · exact q.elim
      · exact q.elim
    · exact q.elim
  · exact q.elim
/-- a tuple of texts of the module's own -/
def strsOf : List D → Option (List Str)
  | [] => some []
  | .str z :: l => (strsOf l).map fun r => z :: r
  | _ => none
theorem strs_rel {n : Nat} : ∀ {l : List D} {ys : List Str} {vs : List V}, strsOf l = some ys → RelDs c m n H l vs → vs = ys.map V.str
  | [], ys, vs, e, r => by
    cases e
    rw [rd_nil r]
    rfl
  | d :: l, ys, vs, e, r => by
    obtain ⟨w, t, rfl, r1, r2⟩ := rd_cons r
    cases d with
    | str z =>
      obtain ⟨zs, e1, e2⟩ := Option.map_eq_some_iff.mp e
      subst e2
      rw [strs_rel e1 r2, rd_str r1]
      rfl
    | _ => cases e
def ixS : List Str → Str → Option Nat
  | [], _ => none
  | y :: l, z => if y = z then some 0 else (ixS l z).map (· + 1)
theorem ixS_of : ∀ {l : List Str} {z : Str} {j : Nat}, ixS l z = some j → l[j]? = some z ∧ ∀ k, k < j → l[k]? ≠ some z
  | [], _, _, e => by cases e
  | y :: l, z, j, e => by
    unfold ixS at e
    split at e
    · rename_i h
      cases e
      exact ⟨by rw [h]; rfl, fun k hk => absurd hk (Nat.not_lt_zero k)⟩
    · rename_i h
      obtain ⟨i, e1, e2⟩ := Option.map_eq_some_iff.mp e
      subst e2
      obtain ⟨h1, h2⟩ := ixS_of e1
      refine ⟨h1, fun k hk e3 => ?_⟩
      cases k with
      | zero => exact h (Option.some.inj e3)
      | succ k => exact h2 k (Nat.lt_of_succ_lt_succ hk) e3
def fTix : FM := fun x l S => match x, l with
  | .ktp xs, [.str z] => (match strsOf xs with
    | some ys => (match ixS ys z with
      | some j => .ok (.int (j : Nat)) S
      | none => .bad)
    | none => .bad)
  | _, _ => .bad
theorem snd_tix : SndM c (fun x xs H Q => ∃ p, ∃ ys : List Str, ∃ z j, x = .ref p ∧ xs = [.str z] ∧ SqT c.K H p (ys.map V.str) ∧ ys[j]? = some z ∧ (∀ m, m < j → ys[m]? ≠ some z) ∧ Q (.int (j : Nat)) H) fTix := fun E m S H Q x v l vs s rx rs q => by
  unfold fTix at q
  split at q
  · rename_i xs z
    obtain ⟨a, ws, rfl, hh, r0⟩ := rd_ktp rx
    obtain ⟨w, t, rfl, r1, r2⟩ := rd_cons rs
    rw [rd_str r1, rd_nil r2]
    split at q
    · rename_i ys ey
      split at q
      · rename_i j ej
        have e := strs_rel ey r0
        subst e
        obtain ⟨h1, h2⟩ := ixS_of ej
        exact ⟨a, ys, z, j, rfl, rfl, hh.sq, h1, h2, q m H _ (Nxt.refl s) mk_int⟩
      · exact q.elim
    · exact q.elim
  · exact q.elim
/-! ### a dict written out -/
abbrev MP := Gm → SM (List (D × D))
def evP : List (ME × ME) → MP
  | [] => fun _ S => .ok [] S
  | p :: r => fun g => SM.bind (p.1 g) fun x => SM.bind (p.2 g) fun y => SM.bind (evP r g) fun l S => .ok ((x, y) :: l) S
def RelP (c : Ct) (m : Nat → Addr) (n : Nat) (H : Hp) : List (D × D) → List (V × V) → Prop
  | [], ws => ws = []
  | p :: r, ws => ∃ x y t, ws = (x, y) :: t ∧ RelD c m n H p.1 x ∧ RelD c m n H p.2 y ∧ RelP c m n H r t
def PoP (c : Ct) (E : XK) (m : Nat → Addr) (S : Sr) (H : Hp) (Q : List (V × V) → Hp → Prop) : R (List (D × D)) → Prop
  | .ok l S' => ∀ m' H' ws, Nxt c m S H m' S' H' → RelP c m' S'.n H' l ws → Q ws H'
  | .exc q S' => ∀ m' H', Nxt c m S H m' S' H' → E (.ref (c.cls q)) none H'
  | .bad => False
theorem PoP.go {m1 : Nat → Addr} {S1 : Sr} {H1 : Hp} (s : Sim c m S H) (a : Nxt c m S H m1 S1 H1) {Q : List (V × V) → Hp → Prop} {r : R (List (D × D))} (h : PoP c E m S H Q r) : PoP c E m1 S1 H1 Q r := by
  cases r with
  | ok d S' => exact fun m' H' v b r => h m' H' v (a.trans s b) r
  | exc q S' => exact fun m' H' b => h m' H' (a.trans s b)
  | bad => exact h
theorem seqPE {x : ME} {k : D → SM (List (D × D))} {Q : List (V × V) → Hp → Prop} {QQ : VK} (s : Sim c m S H) (rg : RelG c m S.n H g σ) (h : PoP c E m S H Q (SM.bind (x g) k S))
    (hk : ∀ m1 S1 H1 d v, Nxt c m S H m1 S1 H1 → RelD c m1 S1.n H1 d v → PoP c E m1 S1 H1 Q (k d S1) → QQ v H1) : rdE c E x σ H QQ := by
  refine ⟨m, S, g, s, rg, ?_⟩
  unfold SM.bind at h
  cases e : x g S with
  | ok d S1 =>
    rw [e] at h
    exact fun m1 H1 v a r => hk m1 S1 H1 d v a r (PoP.go s a h)
  | exc q S1 =>
    rw [e] at h
    exact h
  | bad =>
    rw [e] at h
    exact h
def rdPs (c : Ct) (E : XK) (prs : List (ME × ME)) : List (TE × TE) := prs.map fun p => (rdE c E p.1, rdE c E p.2)
theorem pairs_of : ∀ {prs : List (ME × ME)} {m : Nat → Addr} {S : Sr} {H : Hp} {Q : List (V × V) → Hp → Prop}, Sim c m S H → RelG c m S.n H g σ → PoP c E m S H Q (evP prs g S) → tPairs (rdPs c E prs) σ H Q
  | [], m, S, H, Q, s, rg, q => q m H [] (Nxt.refl s) rfl
  | p :: r, m, S, H, Q, s, rg, q => by
    refine seqPE s rg q fun m1 S1 H1 d v a rd q1 => seqPE a.sim (a.relG rg) q1 fun m2 S2 H2 e w b re q2 => ?_
    refine pairs_of (prs := r) b.sim (b.relG (a.relG rg)) ?_
    unfold SM.bind at q2
    cases e0 : evP r g S2 with
    | ok l S3 =>
      rw [e0] at q2
      exact fun m3 H3 ws n rw_ => q2 m3 H3 _ n ⟨v, w, ws, rfl, n.relD (b.relD rd), n.relD re, rw_⟩
    | exc p S3 => rw [e0] at q2; exact q2
    | bad => rw [e0] at q2; exact q2
def keysP : List (D × D) → Option (List (Key × D))
  | [] => some []
  | (k, v) :: r => (match keyD k, keysP r with
    | some a, some l => some ((a, v) :: l)
    | _, _ => none)
theorem keysP_of {n : Nat} : ∀ {l : List (D × D)} {ks : List (Key × D)} {ws : List (V × V)}, keysP l = some ks → RelP c m n H l ws → ∃ kvs : List (Key × V), ws = kvs.map (fun kv => (kV kv.1, kv.2)) ∧ RelK c m n H ks kvs
  | [], ks, ws, e, r => by
    cases e
    exact ⟨[], r, mkk_nil⟩
  | (k, v) :: l, ks, ws, e, r => by
    obtain ⟨x, y, t, rfl, r1, r2, r3⟩ := r
    unfold keysP at e
    split at e
    · rename_i a l2 ea el
      cases e
      obtain ⟨kvs, h1, h2⟩ := keysP_of el r3
      refine ⟨(a, y) :: kvs, ?_, mkk_cons (p := (a, v)) r2 h2⟩
      rw [key_of r1 ea, h1]
      rfl
    · cases e
def mergeD (l more : List (Key × D)) : List (Key × D) := more.foldl (fun acc kv => putD acc kv.1 kv.2) l
theorem RelK.merge {n : Nat} : ∀ {more : List (Key × D)} {mv : List (Key × V)} {l : List (Key × D)} {vs : List (Key × V)}, RelK c m n H more mv → RelK c m n H l vs → RelK c m n H (mergeD l more) (mergeK vs mv)
  | [], _, l, vs, h, r => by rw [rk_nil h]; exact r
  | p :: more, _, l, vs, h, r => by
    obtain ⟨v, t, rfl, h1, h2⟩ := rk_cons h
    exact RelK.merge (more := more) (mv := t) h2 (RelK.put p.1 h1 r)
/-- the new dict stands empty while the pairs are made -/
def mDisp (prs : List (ME × ME)) : ME := fun g S => SM.bind (evP prs g) (fun l S1 => match S1.f S.n with
  | some (.dic []) => (match keysP l with
    | some ks => if ks.length ≤ 15 then .ok (.adr S.n) (S1.put S.n (.dic (mergeD [] ks))) else .bad
    | none => .bad)
  | _ => .bad) (S.alloc (.dic []))
theorem qe_disp {pos : Pos} {keys : List (Option Expr)} {values : List Expr} {prs : List (ME × ME)} (h : PPs X pos keys values (rdPs c E prs)) (hall : keys.all (·.isSome) = true) (hl : keys.length = values.length) (h0 : keys ≠ []) (h15 : keys.length ≤ 15) : PE X (.Dict keys values pos) (rdE c E (mDisp prs)) :=
  PE.imp (pe_disp h hall hl h0 h15) fun σ H Q ⟨m, S, g, s, rg, q⟩ p hp => by
    have al := Nxt.alloc (x := .dic []) (o := .dK []) s hp ⟨[], rfl, mkk_nil⟩
    have q := PoE.go s al q
    refine pairs_of al.sim (al.relG rg) ?_
    unfold mDisp SM.bind at q
    cases e0 : evP prs g (S.alloc (.dic [])) with
    | exc p S3 => rw [e0] at q; exact q
    | bad => rw [e0] at q; exact q
    | ok l S3 =>
      rw [e0] at q
      intro m3 H3 ws n rw_
      have q := PoE.go al.sim n q
      have e1 : m3 S.n = p := by rw [n.mu S.n (Nat.lt_succ_self _)]; exact ext_same
      have hlt : S.n < S3.n := Nat.lt_of_lt_of_le (Nat.lt_succ_self _) n.le
      dsimp only at q
      split at q
      · rename_i es
        obtain ⟨vs, hh, rk⟩ := n.sim.dic es
        rw [rk_nil rk, e1] at hh
        split at q
        · rename_i ks ek
          obtain ⟨hz, q⟩ := po_if q
          obtain ⟨kvs, h1, h2⟩ := keysP_of ek rw_
          have pu := Nxt.put (x := .dic (mergeD [] ks)) (o := .dK (mergeK [] kvs)) n.sim es ⟨_, rfl, RelK.merge h2 mkk_nil⟩
          refine ⟨hh, kvs, h1, by rw [← h2.length]; exact hz, ?_⟩
          have z := q m3 _ _ pu (mk_adr hlt)
          rw [e1] at z
          exact z
        · exact q.elim
      · exact q.elim
theorem qp_nil {pos : Pos} : PPs X pos [] [] (rdPs c E []) := pps_nil
theorem qp_cons {pos : Pos} {k v : Expr} {ks : List (Option Expr)} {vs : List Expr} {mk mv : ME} {prs : List (ME × ME)} (hk : PE X k (rdE c E mk)) (hv : PE X v (rdE c E mv)) (hr : PPs X pos ks vs (rdPs c E prs)) : PPs X pos (some k :: ks) (v :: vs) (rdPs c E ((mk, mv) :: prs)) := pps_cons hk hv hr
end
end Y

set_option Elab.async false
set_option linter.all false
set_option maxRecDepth 100000
set_option maxHeartbeats 1000000
/-! Y11: defs, lambdas that are told. -/
namespace Y
open PySem PySem.Spec PyProof.Rows L2
/-! ### what may leave -/
theorem passesT {X : Cx} {E : XK} (tk : Takes X (fun cls d _ H => E cls d H)) : Passes (L2.CX X.prog X.w) X E := passes_call tk fun _ _ _ _ h => h
theorem passesN {X : Cx} : Passes (L2.CX X.prog X.w) X noX := fun pins σ H s e s' I c => by
  obtain ⟨_, _, _, _, _, _, _, _, _, _, _, _, z⟩ := c
  exact z.elim
/-- nothing is told of what is never reached -/
def mBad : ME := fun _ _ => .bad
def mBadS : MS := fun _ _ => .bad
def mBadT : MT := fun _ _ => .bad
def mBadA : MA := fun _ _ => .bad
def mBadI : MI := fun _ _ => .bad
section
variable {X : Cx} {c : Ct} {E : XK}
theorem qe_bad {e : Expr} : PE X e (rdE c E mBad) := ⟨fun _ _ _ _ _ _ ⟨_, _, _, _, _, q⟩ => q.elim⟩
theorem qs_bad {e : Stmt} : PS X e (rdS c E mBadS) := ⟨fun _ _ _ _ _ _ ⟨_, _, _, _, _, q⟩ => q.elim⟩
theorem qss_bad {e : List Stmt} : PSs X e (rdS c E mBadS) := ⟨fun _ _ _ _ _ _ ⟨_, _, _, _, _, q⟩ => q.elim⟩
theorem qt_bad {e : Expr} : PT X e (rdT c E mBadT) := ⟨fun _ _ _ _ _ _ ⟨_, _, _, _, _, q⟩ => q.elim⟩
/-- a global -/
theorem qe_glob {x : Str} {d : D} {v : V} {u : Value} {pos : Pos} (hg : Gl X x) (hm : X.mg x = some u) (r : RelV v u) (rd : ∀ m n H, RelD c m n H d v) (hd : (x == ("__debug__" : Str)) = false := by decide) : PE X (.Name x pos) (rdE c E (mC d)) := qe_k (pe_glob hg hm r hd) rd
end
/-! ### defs -/
def mFun (N : Nat) (b : MS) : List D → SM D := fun l S => match b (l.map some ++ List.replicate (N - l.length) none) S with
  | .nx _ S' => .ok .non S'
  | .rt d S' => .ok d S'
  | .ex q S' => .exc q S'
  | _ => .bad
section
variable {c : Ct} {m : Nat → Addr} {n : Nat} {H : Hp}
theorem relG_none : ∀ (k : Nat), RelG c m n H (List.replicate k none) (List.replicate k none) := fun k => ⟨by simp, fun i d e => by
  rw [List.getElem?_replicate] at e
  split at e
  · cases e
  · cases e⟩
theorem relG_start : ∀ {l : List D} {vs : List V} (k : Nat), RelDs c m n H l vs → RelG c m n H (l.map some ++ List.replicate k none) (vs.map some ++ List.replicate k none)
  | [], _, k, h => by rw [rd_nil h]; exact relG_none k
  | d :: l, _, k, h => by
    obtain ⟨v, w, rfl, r1, r2⟩ := rd_cons h
    have ih := relG_start (l := l) k r2
    refine ⟨?_, fun i x e => ?_⟩
    · show (l.map some ++ List.replicate k none).length + 1 = (w.map some ++ List.replicate k none).length + 1
      rw [ih.1]
    · cases i with
      | zero =>
        have e2 : d = x := Option.some.inj (Option.some.inj e)
        subst e2
        exact ⟨v, rfl, r1⟩
      | succ i => exact ih.2 i x e
end
section
variable {P : Program} {w : World} {K : PySem.W.Frag} {mg : Str → Option Value} {base : Heap} {c : Ct}
theorem fn_run {N ps : List Str} {x qual : Str} {params : Arguments} {body : List Stmt} {scope : Scope} {dvs : List V} {kws : List (Str × V)} {f : Addr} {fd : FuncData} {k : Nat} {b : MS} (F : FunD K x qual params body scope dvs kws f fd) (S : FnScope N ps scope)
    (hb : ∀ (cdv : Value) (A : Around) (outer : List Env) (s : Shared) (H : Hp) (E : XK), Room k (A.deeper (envOfC qual scope s.heap.objs.size f cdv)) → PSs (cxOf (L2.CX P w) P w K mg base N qual scope f cdv A outer s H E) body (rdS c E b)) :
    FnOk P w K mg base (L2.CX P w) (k + 1) f fd ps (spOf c ps.length (mFun N.length b)) := by
  refine F.ok S (fun vs H Q E h => h.1) fun cdv A outer s H vs Q E hr h => ⟨_, hb cdv A outer s H E hr, ?_⟩
  obtain ⟨hl, m, S, l, si, rs, q⟩ := h
  unfold mFun at q
  refine ⟨m, S, l.map some ++ List.replicate (N.length - l.length) none, si, ?_, ?_⟩
  · unfold L2.start
    rw [← rs.length]
    exact relG_start _ rs
  · cases e : b (l.map some ++ List.replicate (N.length - l.length) none) S with
    | nx g S' =>
      rw [e] at q
      exact fun m' H' σ' a r => q m' H' _ a mk_non
    | rt d S' => rw [e] at q; exact q
    | ex d S' => rw [e] at q; exact q
    | bk g S' => rw [e] at q; exact q.elim
    | ct g S' => rw [e] at q; exact q.elim
    | bad => rw [e] at q; exact q.elim
/-- a def without defaults, by its name -/
theorem gfn_of {k n : Nat} {x qual : Str} {params : Arguments} {body : List Stmt} {scope : Scope} {kws : List (Str × V)} {f : Addr} {fd : FuncData} {ps : List Str} {mf : List D → SM D} (F : FunD K x qual params body scope [] kws f fd) (hn : ps.length = n) (h : FnOk P w K mg base (L2.CX P w) k f fd ps (spOf c n mf)) (hm : mg x = some (.ref f)) (b : Binds K fd ps []) :
    Gfn P w K mg base c k x n [] mf := ⟨f, fd, ps, [], [], h, hm, F.kp, b, .nil, fun _ _ _ => mk_nil⟩
theorem gm_of {k n : Nat} {q x qual : Str} {params : Arguments} {body : List Stmt} {scope : Scope} {kws : List (Str × V)} {f : Addr} {fd : FuncData} {ps : List Str} {mf : List D → SM D} (F : FunD K x qual params body scope [] kws f fd) (hn : ps.length = n) (h : FnOk P w K mg base (L2.CX P w) k f fd ps (spOf c n mf)) (hc : Cls K (c.cls q)) (hm : Meth K (c.cls q) x f) (b : Binds K fd ps []) :
    Gm' P w K mg base c k q x n [] mf := ⟨hc, f, fd, ps, [], [], h, hm, b, .nil, fun _ _ _ => mk_nil⟩
theorem gk_of {k n : Nat} {q x qual : Str} {params : Arguments} {body : List Stmt} {scope : Scope} {kws : List (Str × V)} {f : Addr} {fd : FuncData} {ps : List Str} {mf : List D → SM D} (F : FunD K x qual params body scope [] kws f fd) (hn : ps.length = n) (h : FnOk P w K mg base (L2.CX P w) k f fd ps (spOf c n mf)) (hg : mg q = some (.ref (c.cls q))) (hm : Mk K (c.cls q) f) (b : Binds K fd ps []) :
    Gk P w K mg base c k q n [] mf := ⟨hg, f, fd, ps, [], [], h, hm, b, .nil, fun _ _ _ => mk_nil⟩
/-- .. with defaults -/
theorem gk_ofD {k n : Nat} {q x qual : Str} {params : Arguments} {body : List Stmt} {scope : Scope} {dvs : List V} {kws : List (Str × V)} {f : Addr} {fd : FuncData} {ps : List Str} {mf : List D → SM D} {dd : List D} (F : FunD K x qual params body scope dvs kws f fd) (hn : ps.length = n) (h : FnOk P w K mg base (L2.CX P w) k f fd ps (spOf c n mf)) (hg : mg q = some (.ref (c.cls q))) (hm : Mk K (c.cls q) f)
    (j : Nat) (b : ∃ ds, Vals (dvs.drop j) ds ∧ Binds K fd ps ds) (hd : ∀ m n H, RelDs c m n H dd (dvs.drop j)) : Gk P w K mg base c k q n dd mf := by
  obtain ⟨ds, h1, h2⟩ := b
  exact ⟨hg, f, fd, ps, ds, _, h, hm, h2, h1, hd⟩
end
/-! ### told: try: return what() / except .. -/
/-- the except clauses: class, answer -/
abbrev Tcl := List (Str × Str)
/-- is the class q' caught by the clause of q (own: the classes of the program, each with the ones above it) -/
def pickT (sub : Str → Str → Bool) (q : Str) : Tcl → Option Str
  | [] => none
  | p :: r => if sub q p.1 = true then some p.2 else pickT sub q r
def mTold (sub : Str → Str → Bool) (qs : List Str) (cl : Tcl) (a : ME) : ME := fun g S => match a g S with
  | .ok d S' => .ok d S'
  | .exc q S' => if q ∈ qs then (match pickT sub q cl with
    | some r => .ok (.str r) S'
    | none => .bad) else .bad
  | .bad => .bad
section
variable {X : Cx}
def TMany (K : PySem.W.Frag) : List (Addr × Str) → Value → (Str → Hp → Prop) → Hp → Prop
  | [], _, _, _ => False
  | p :: r, cls, Q, H => ∃ b, PySem.W.exmOne K cls (.ref p.1) = some b ∧ (b = true → Q p.2 H) ∧ (b = false → TMany K r cls Q H)
def TToldM (K : PySem.W.Frag) (l : List (Addr × Str)) : (XK → Hp → VK → Prop) → Hp → VK → Prop := fun tl H Q => tl (fun cls _ H' => TMany K l cls (fun r H'' => Q (.str r) H'') H') H Q
/-- two clauses -/
theorem told2_gives {Ng : List Str} {x a e e2 q ret ret2 : Str} {sg : Scope} {g CS CS2 : Addr} {cdg : Value} {j j2 : Nat} {p1 p2 p3 p4 p5 p6 p7 p8 p9 pa pb pc : Pos} (hge : sg.names.lookup e = some .globalImplicit) (hme : X.mg e = some (.ref CS)) (hde : (e == ("__debug__" : Str)) = false) (hge2 : sg.names.lookup e2 = some .globalImplicit) (hme2 : X.mg e2 = some (.ref CS2)) (hde2 : (e2 == ("__debug__" : Str)) = false)
    (h0 : ∀ f : Addr, (L2.start Ng [V.ref f])[0]? = some (some (V.ref f))) :
    LamX.GivesTo X Ng x sg g cdg [.Try [.Return (some (.Call (.Name a p1) [] [] p2)) p3] [.ExceptHandler (some (.Name e p4)) none [.Return (some (.Constant (.str ret) j p5)) p6] p7, .ExceptHandler (some (.Name e2 p9)) none [.Return (some (.Constant (.str ret2) j2 pa)) pb] pc] [] [] p8] a q (TToldM X.K [(CS, ret), (CS2, ret2)]) := by
  intro f c' s H Q tl act hc h
  have hgl : Gl (cxOf C8.CX0 X.prog X.w X.K X.mg X.base Ng x sg g cdg X.A X.stack s H C8.E0).nox e := hge
  have hgl2 : Gl (cxOf C8.CX0 X.prog X.w X.K X.mg X.base Ng x sg g cdg X.A X.stack s H C8.E0).nox e2 := hge2
  refine ⟨_, pss_one (ps_try_many (X := (cxOf C8.CX0 X.prog X.w X.K X.mg X.base Ng x sg g cdg X.A X.stack s H C8.E0).nox) (l := [(.ref CS, fun _ _ _ => tRet (tC (.str ret))), (.ref CS2, fun _ _ _ => tRet (tC (.str ret2)))]) (Wout := fun _ _ _ _ => False)
      (tb := fun W D σ H => ∃ Ech : XK, (∀ cls d σ' H', Ech cls d H' → W cls d σ' H') ∧ σ[0]? = some (some (.ref f)) ∧ H c' = some (LamX.CodeO c' q) ∧ tl Ech H D.rt)
      rfl rfl takes_none5 (fun W pn xe tk _ => ?_) (.cons ⟨hgl, hde, .inl hme⟩ (fun a oe cls d pn _ _ => pss_one (ps_ret pe_str)) (.cons ⟨hgl2, hde2, .inl hme2⟩ (fun a oe cls d pn _ _ => pss_one (ps_ret pe_str)) .nil))), ?_⟩
  · refine ⟨fun pins s' σ H' D I h' => ?_⟩
    obtain ⟨Ech, hW, h1, h2, h3⟩ := h'
    have hp := act W pn xe Ech p1 p2 tk hW
    have hq := pss_one (ps_ret (pos := p3) hp)
    exact hq.run pins s' σ H' D I ⟨h1, h2, h3⟩
  · refine ⟨_, fun cls d σ' H' hw => ?_, h0 f, hc, h⟩
    obtain ⟨b, e1, e2, e3⟩ := hw
    refine ⟨b, e1, fun hb a _ => e2 hb, fun hb => ?_⟩
    obtain ⟨b2, e4, e5, e6⟩ := e3 hb
    exact ⟨b2, e4, fun hb a _ => e5 hb, fun hb => e6 hb⟩
/-- what the clauses' classes say of the program's -/
def ExmOk (K : PySem.W.Frag) (c : Ct) (sub : Str → Str → Bool) (qs : List Str) (cl : Tcl) : Prop := ∀ q ∈ qs, ∀ p ∈ cl, PySem.W.exmOne K (.ref (c.cls q)) (.ref (c.cls p.1)) = some (sub q p.1)
theorem tmany_of {K : PySem.W.Frag} {c : Ct} {sub : Str → Str → Bool} {q : Str} : ∀ {cl : Tcl} {z : Str} {Q : Str → Hp → Prop} {H : Hp}, (∀ p ∈ cl, PySem.W.exmOne K (.ref (c.cls q)) (.ref (c.cls p.1)) = some (sub q p.1)) → pickT sub q cl = some z → Q z H → TMany K (cl.map fun p => (c.cls p.1, p.2)) (.ref (c.cls q)) Q H
  | [], _, _, _, _, e, _ => by cases e
  | r :: cl, z, Q, H, ex, e, h => by
    unfold pickT at e
    refine ⟨sub q r.1, ex r List.mem_cons_self, fun hb => ?_, fun hb => ?_⟩
    · rw [if_pos hb] at e
      cases e
      exact h
    · rw [if_neg (by rw [hb]; exact Bool.false_ne_true)] at e
      exact tmany_of (fun p hp => ex p (List.mem_cons_of_mem _ hp)) e h
/-- the def told as the module has it -/
structure Told (P : Program) (w : World) (K : PySem.W.Frag) (mg : Str → Option Value) (base : Heap) (c : Ct) (x : Str) (sub : Str → Str → Bool) (qs : List Str) (cl : Tcl) : Prop where
  ex : ∀ (X : Cx) (q : Str), X.prog = P → X.w = w → X.K = K → X.mg = mg → X.base = base → ∃ (a : Str) (g : Addr) (pg : Arguments) (bg : List Stmt) (sg : Scope) (dV kV doc pm cdv ct oc : Value) (an od : Option Addr) (osl : Array (Option Value)) (Ng : List Str),
    mg x = some (.ref g) ∧ PySem.W.keepIn K (.ref g) = true ∧ K.lookup g = some ⟨oc, od, .func (PySem.W.fnOf x x pg bg sg dV kV doc pm an cdv ct), osl⟩ ∧ PySem.W.codeIn K cdv x = true ∧ L2.Binds K (PySem.W.fnOf x x pg bg sg dV kV doc pm an cdv ct) [a] [] ∧ FnScope Ng [a] sg ∧ Ng[0]? = some a ∧ Vis sg a ∧
      LamX.GivesTo X Ng x sg g cdv bg a q (TToldM K (cl.map fun p => (c.cls p.1, p.2))) ∧ (a == ("__debug__" : Str)) = false ∧ (a == ("__classdict__" : Str)) = false
  exm : ExmOk K c sub qs cl
theorem qe_told {c : Ct} {E : XK} {sub : Str → Str → Bool} {qs : List Str} {cl : Tcl} {x : Str} {cc P : Addr} {k : Nat} {params : Arguments} {body : Expr} {scope : Scope} {me : ME} {p lpos pos : Pos} (T : Told X.prog X.w X.K X.mg X.base c x sub qs cl) (hg : Gl X x)
    (TB : LamX.TabB X.base X.mg cc P) (hcode : X.env.code = .ref cc) (hmT : (P, X.env.qual ++ "<lambda>") ∈ c.T) (hu : ∀ p ∈ c.T, p.1 = P → p.2 = X.env.qual ++ "<lambda>") (hr : Room (k + 2) X.A) (L : LamX.LamS X.env.scope scope)
    (hbody : ∀ (A : Around) (outer : List Env) (s : Shared) (H : Hp) (E : XK) (f c' : Addr), Room k (A.deeper (LamX.lamEnv X scope s.heap.objs.size f c')) → PE (LamX.lamCx X A outer s H E scope f c') body (rdE c E me))
    (hdef : defaultsOf params X.env = ([], []) := by rfl)
    (hbind : ∀ (q : Str) (cl : List (Str × Addr)) (pm cv ctv : Value), bindArgs (PySem.W.kla_fn "<lambda>" q params body scope cl pm cv ctv) ⟨[], []⟩ = pure [] := by intros; rfl)
    (hdb : (x == ("__debug__" : Str)) = false := by decide) :
    PE X (.Call (.Name x p) [.Lambda params body scope lpos] [] pos) (rdE c E (mTold sub qs cl me)) := by
  obtain ⟨a, g, pg, bg, sg, dV, kV, doc, pm, cdv, ct, oc, an, od, osl, Ng, h1, h2, h3, h4, h5, h6, h7, h8, h9, h10, h11⟩ := T.ex X (X.env.qual ++ "<lambda>") rfl rfl rfl rfl rfl
  refine PE.imp (LamX.pe_lamcall (T := c.T) hg h1 h2 h3 h4 h5 h6 h7 h8 h9 TB hcode hmT hu hr L hdef hbind hbody hdb h10 h11) fun σ H Q ⟨m, S, g, s, rg, q⟩ => ⟨s.tabs, fun H1 eN T1 => ?_⟩
  have n := Nxt.extN s eN T1
  refine ⟨m, S, g, n.sim, n.relG rg, ?_⟩
  unfold mTold at q
  cases e : me g S with
  | ok d S' =>
    rw [e] at q
    exact fun m' H' v a r => q m' H' v (n.trans s a) r
  | bad => rw [e] at q; exact q.elim
  | exc p S' =>
    rw [e] at q
    intro m' H' a
    dsimp only at q
    split at q
    · rename_i hp
      split at q
      · rename_i r er
        exact tmany_of (fun p' hp' => T.exm p hp p' hp') er (q m' H' _ (n.trans s a) mk_str)
      · exact q.elim
    · exact q.elim
end
end Y

set_option Elab.async false
set_option linter.all false
set_option maxRecDepth 100000
set_option maxHeartbeats 1000000
/-! Y12: for what is printed. -/
namespace Y
open PySem PySem.Spec PyProof.Rows L2
/-- a global of the module: its value -/
def GK (mg : Str → Option Value) (c : Ct) (x : Str) (d : D) : Prop := ∃ v u, mg x = some u ∧ RelV v u ∧ ∀ m n H, RelD c m n H d v
theorem qe_gk {X : Cx} {c : Ct} {E : XK} {x : Str} {d : D} {pos : Pos} (h : GK X.mg c x d) (hg : Gl X x) (hd : (x == ("__debug__" : Str)) = false := by decide) : PE X (.Name x pos) (rdE c E (mC d)) := by
  obtain ⟨v, u, h1, h2, h3⟩ := h
  exact qe_glob hg h1 h2 h3 hd
theorem qt_pw {X : Cx} {e : Expr} {t : TT} (h : PW X e t) : PT X e t := h.pt
theorem passesL {X : Cx} {A : Around} {outer : List Env} {s : Shared} {H : Hp} {E : XK} {scope : Scope} {f c' : Addr} : Passes (L2.CX (LamX.lamCx X A outer s H E scope f c').prog (LamX.lamCx X A outer s H E scope f c').w) (LamX.lamCx X A outer s H E scope f c') E := passesT (takes_of rfl rfl rfl rfl)
/-- while: so many turns -/
def FU : Nat := 1000000
end Y

set_option Elab.async false
set_option linter.all false
set_option maxRecDepth 100000
set_option maxHeartbeats 1000000
/-! Y13: from a head's facts. -/
namespace Y
open PySem PySem.Spec PyProof.Rows L2
/-! ### values of the written part -/
mutual
def vB (K : PySem.W.Frag) : D → Value → Bool
  | .non, .none => true
  | .bl b, .bool c => b == c
  | .int i, .int j _ => decide (i = j)
  | .str x, .str y _ => decide (x = y)
  | .ktp l, .ref a => (match K.lookup a with
    | some ⟨.type t, none, .seq its _, _⟩ => decide (t = "tuple") && (decide (its.size ≤ sizeLine) && vsB K l its.toList)
    | _ => false)
  | .fro l, .ref a => (match K.lookup a with
    | some ⟨.type t, none, .seq its _, _⟩ => decide (t = "list") && (decide (its.size ≤ sizeLine) && vsB K l its.toList)
    | _ => false)
  | _, _ => false
def vsB (K : PySem.W.Frag) : List D → List Value → Bool
  | [], [] => true
  | d :: l, u :: us => vB K d u && vsB K l us
  | _, _ => false
end
mutual
theorem vB_ok {c : Ct} : ∀ {d : D} {u : Value}, vB c.K d u = true → ∃ v, RelV v u ∧ ∀ m n H, RelD c m n H d v
  | .non, u, h => by
    cases u <;> first | exact ⟨.non, rfl, fun _ _ _ => mk_non⟩ | (unfold vB at h; cases h)
  | .bl b, u, h => by
    cases u <;> first | (unfold vB at h; exact ⟨.bl b, by rw [eq_of_beq h]; rfl, fun _ _ _ => mk_bl⟩) | (unfold vB at h; cases h)
  | .int i, u, h => by
    cases u <;> first | (unfold vB at h; exact ⟨.int i, ⟨_, by rw [of_decide_eq_true h]⟩, fun _ _ _ => mk_int⟩) | (unfold vB at h; cases h)
  | .str i, u, h => by
    cases u <;> first | (unfold vB at h; exact ⟨.str i, ⟨_, by rw [of_decide_eq_true h]⟩, fun _ _ _ => mk_str⟩) | (unfold vB at h; cases h)
  | .ktp l, u, h => by
    cases u <;> first | (unfold vB at h; done) | skip
    case ref a =>
      unfold vB at h
      split at h
      · rename_i t its n sl e
        obtain ⟨h1, h2⟩ := He.ba h
        obtain ⟨h3, h4⟩ := He.ba h2
        obtain ⟨vs, r, k⟩ := vsB_ok (c := c) h4
        exact ⟨.ref a, rfl, fun m n H => mk_ktp ⟨_, its, _, e, congrArg Value.type (of_decide_eq_true h1), rfl, rfl, of_decide_eq_true h3, r⟩ (k m n H)⟩
      · cases h
    all_goals (unfold vB at h; cases h)
  | .fro l, u, h => by
    cases u <;> first | (unfold vB at h; done) | skip
    case ref a =>
      unfold vB at h
      split at h
      · rename_i t its n sl e
        obtain ⟨h1, h2⟩ := He.ba h
        obtain ⟨h3, h4⟩ := He.ba h2
        obtain ⟨vs, r, k⟩ := vsB_ok (c := c) h4
        refine ⟨.ref a, rfl, fun m n H => ?_⟩
        unfold RelD
        exact ⟨a, vs, rfl, .inr ⟨_, its, _, e, congrArg Value.type (of_decide_eq_true h1), rfl, rfl, of_decide_eq_true h3, r⟩, k m n H⟩
      · cases h
    all_goals (unfold vB at h; cases h)
  | .tup l, u, h => by unfold vB at h; cases h
  | .adr l, u, h => by unfold vB at h; cases h
theorem vsB_ok {c : Ct} : ∀ {l : List D} {us : List Value}, vsB c.K l us = true → ∃ vs, Vals vs us ∧ ∀ m n H, RelDs c m n H l vs
  | [], [], h => ⟨[], .nil, fun _ _ _ => mk_nil⟩
  | [], _ :: _, h => by unfold vsB at h; cases h
  | _ :: _, [], h => by unfold vsB at h; cases h
  | d :: l, u :: us, h => by
    unfold vsB at h
    obtain ⟨h1, h2⟩ := He.ba h
    obtain ⟨v, r1, k1⟩ := vB_ok (c := c) h1
    obtain ⟨vs, r2, k2⟩ := vsB_ok (c := c) h2
    exact ⟨v :: vs, .cons r1 r2, fun m n H => mk_cons (k1 m n H) (k2 m n H)⟩
end
/-- the module's name x is this -/
def glB (K : PySem.W.Frag) (x : Str) (d : D) : Bool := match PySem.W.nsIn K mainGlobals x with
  | some (some u) => vB K d u
  | _ => false
theorem glB_ok {c : Ct} {h : Heap} {mg : Str → Option Value} {x : Str} {d : D} (X : c.K.In h) (G : h.Ns mainGlobals mg) (e : glB c.K x d = true) : GK mg c x d := by
  unfold glB at e
  split at e
  · rename_i u eu
    obtain ⟨v, r, k⟩ := vB_ok (c := c) e
    exact ⟨v, u, PySem.W.mg_of X G eu, r, k⟩
  · cases e
theorem exo_of {c : Ct} {h : Heap} {mg : Str → Option Value} {x : Str} (X : c.K.In h) (G : h.Ns mainGlobals mg) (hc : c.cls x = He.ga c.K x) (e1 : (He.Fa.glo x).ok c.K = true) (e2 : (He.Fa.exc x).ok c.K = true) : Exo c.K mg c x := by
  obtain ⟨h1, h2, h3, h4⟩ := He.exc_ok e2
  exact ⟨by rw [hc]; exact He.glo_ok X G e1, by rw [hc]; exact h1, by rw [hc]; exact h2, by rw [hc]; exact h3, by rw [hc]; exact h4⟩
/-! ### told with two clauses -/
theorem told2_of {P : Program} {w : World} {K : PySem.W.Frag} {mg : Str → Option Value} {base : Heap} {c : Ct} {x a e e2 ret ret2 : Str} {params : Arguments} {scope : Scope} {f : Addr} {fd : FuncData} {j j2 : Nat} {p1 p2 p3 p4 p5 p6 p7 p8 p9 pa pb pc : Pos} {sub : Str → Str → Bool} {qs : List Str} {Ng : List Str}
    (F : FunD K x x params [.Try [.Return (some (.Call (.Name a p1) [] [] p2)) p3] [.ExceptHandler (some (.Name e p4)) none [.Return (some (.Constant (.str ret) j p5)) p6] p7, .ExceptHandler (some (.Name e2 p9)) none [.Return (some (.Constant (.str ret2) j2 pa)) pb] pc] [] [] p8] scope [] [] f fd)
    (hm : mg x = some (.ref f)) (b : Binds K fd [a] []) (S : FnScope Ng [a] scope) (h0 : Ng[0]? = some a) (hv : Vis scope a) (ha : (a == ("__debug__" : Str)) = false) (ha2 : (a == ("__classdict__" : Str)) = false)
    (hge : scope.names.lookup e = some .globalImplicit) (hme : mg e = some (.ref (c.cls e))) (hde : (e == ("__debug__" : Str)) = false) (hge2 : scope.names.lookup e2 = some .globalImplicit) (hme2 : mg e2 = some (.ref (c.cls e2))) (hde2 : (e2 == ("__debug__" : Str)) = false)
    (hs : ∀ f : Addr, (L2.start Ng [V.ref f])[0]? = some (some (V.ref f))) (ex : ExmOk K c sub qs [(e, ret), (e2, ret2)]) : Told P w K mg base c x sub qs [(e, ret), (e2, ret2)] := by
  refine ⟨fun X q h1 h2 h3 h4 h5 => ?_, ex⟩
  subst h1 h2 h3 h4 h5
  obtain ⟨oc, od, dV, kV, doc, pm, an, cdv, ct, osl, rfl, lk, hcd, _, _⟩ := F.ex
  exact ⟨a, f, params, _, scope, dV, kV, doc, pm, cdv, ct, oc, an, od, osl, Ng, hm, F.kp, lk, hcd, b, S, h0, hv, told2_gives hge hme hde hge2 hme2 hde2 hs, ha, ha2⟩
/-! ### the law's own def: its code object is known -/
theorem fn_runL {P : Program} {w : World} {K : PySem.W.Frag} {mg : Str → Option Value} {base : Heap} {c : Ct} {N ps : List Str} {x qual : Str} {params : Arguments} {body : List Stmt} {scope : Scope} {dvs : List V} {kws : List (Str × V)} {p : Str × Option Str} {fd : FuncData} {k : Nat} {b : MS} (F : FunD K x qual params body scope dvs kws (He.fAd K p) fd) (S : FnScope N ps scope)
    (hb : ∀ (A : Around) (outer : List Env) (s : Shared) (H : Hp) (E : XK) (cdv : Value), cdv = .ref (He.codeOf K p) → Room k (A.deeper (envOfC qual scope s.heap.objs.size (He.fAd K p) cdv)) → PSs (cxOf (L2.CX P w) P w K mg base N qual scope (He.fAd K p) cdv A outer s H E) body (rdS c E b)) :
    FnOk P w K mg base (L2.CX P w) (k + 1) (He.fAd K p) fd ps (spOf c ps.length (mFun N.length b)) := by
  obtain ⟨oc, od, dV, kV, doc, pm, an, cdv, ct, osl, rfl, lk, hcd, _, _⟩ := F.ex
  obtain ⟨cc, rfl⟩ := He.codeIn_ref hcd
  have e := He.codeOf_eq (p := p) lk rfl
  refine fn_of lk hcd S (fun vs H Q E h => h.1) fun A outer s H vs Q E hr h => ⟨_, hb A outer s H E _ (by rw [e]) hr, ?_⟩
  obtain ⟨hl, m, S, l, si, rs, q⟩ := h
  unfold mFun at q
  refine ⟨m, S, l.map some ++ List.replicate (N.length - l.length) none, si, ?_, ?_⟩
  · unfold L2.start
    rw [← rs.length]
    exact relG_start _ rs
  · cases e : b (l.map some ++ List.replicate (N.length - l.length) none) S with
    | nx g S' =>
      rw [e] at q
      exact fun m' H' σ' a r => q m' H' _ a mk_non
    | rt d S' => rw [e] at q; exact q
    | ex d S' => rw [e] at q; exact q
    | bk g S' => rw [e] at q; exact q.elim
    | ct g S' => rw [e] at q; exact q.elim
    | bad => rw [e] at q; exact q.elim
/-- the store at the start: the script alone, if it is a list that may be written -/
def S0 : Sr := ⟨0, fun _ => none⟩
def S1 (l : List D) : Sr := ⟨1, fun i => if i = 0 then some (.lst l) else none⟩
theorem rel_ints {c : Ct} {m : Nat → Addr} {n : Nat} {H : Hp} : ∀ ns : List Int, RelDs c m n H (ns.map .int) (ns.map V.int)
  | [] => mk_nil
  | i :: ns => mk_cons mk_int (rel_ints ns)
theorem law_start {c : Ct} {mf : List D → SM D} {H : Hp} {a : Addr} {ns : List Int} {E : XK} (ht : LamX.Tabs c.T H) (hS : SqL c.K H a (ns.map V.int)) (p1 : ∃ S', mf [.fro (ns.map .int)] S0 = .ok (.bl true) S') (p2 : ∃ S', mf [.adr 0] (S1 (ns.map .int)) = .ok (.bl true) S') :
    spOf c 1 mf [.ref a] H (fun v _ => v = .bl true) E := by
  have fro : SqF c.K H a (ns.map V.int) → spOf c 1 mf [.ref a] H (fun v _ => v = .bl true) E := fun h => by
    obtain ⟨S', e⟩ := p1
    refine ⟨rfl, fun _ => 0, S0, [.fro (ns.map .int)], ⟨fun i x e => (nomatch e), fun i h => absurd h (Nat.not_lt_zero i), fun i j h => absurd h (Nat.not_lt_zero i), fun i x e => (nomatch e), ht⟩, mk_cons ?_ mk_nil, ?_⟩
    · unfold RelD
      exact ⟨a, _, rfl, h, rel_ints ns⟩
    · rw [e]
      exact fun m' H' v _ r => rd_bl r
  rcases hS with (h | ⟨o, h⟩) | h
  · obtain ⟨S', e⟩ := p2
    refine ⟨rfl, fun _ => a, S1 (ns.map .int), [.adr 0], ⟨fun i x e => ?_, fun i hi => ?_, fun i j hi hj _ => ?_, fun i x e => ?_, ht⟩, mk_cons (mk_adr (Nat.lt_succ_self 0)) mk_nil, ?_⟩
    · by_cases hi : i = 0
      · rw [hi]
        exact Nat.lt_succ_self 0
      · have e : (if i = 0 then some (MO.lst (ns.map .int)) else none) = some x := e
        rw [if_neg hi] at e
        cases e
    · have hi : i < 1 := hi
      exact ⟨_, if_pos (by omega)⟩
    · have hi : i < 1 := hi
      have hj : j < 1 := hj
      omega
    · by_cases hi : i = 0
      · have e : (if i = 0 then some (MO.lst (ns.map .int)) else none) = some x := e
        rw [if_pos hi] at e
        cases e
        exact ⟨_, h, ns.map V.int, rfl, rel_ints ns⟩
      · have e : (if i = 0 then some (MO.lst (ns.map .int)) else none) = some x := e
        rw [if_neg hi] at e
        cases e
    · rw [e]
      exact fun m' H' v _ r => rd_bl r
  · exact fro (.inl ⟨o, h⟩)
  · exact fro (.inr h)
theorem tabs_start {H : Hp} {P : Addr} {q : Str} (h : H P = some (.tbl #[])) : LamX.Tabs [(P, q)] H := fun p hp => by
  have e : p = (P, q) := by simpa using hp
  rw [e]
  exact LamX.TabS.nil h
theorem all_at {l : List Bool} (h : l.all id = true) (i : Nat) {b : Bool} (e : l[i]? = some b) : b = true := List.all_eq_true.mp h b (List.mem_of_getElem? e)
theorem relV_ref {v : V} {a : Addr} (h : L2.RelV v (.ref a)) : v = .ref a := by
  cases v with
  | ref b =>
    have e : Value.ref a = Value.ref b := h
    cases e
    rfl
  | int i => obtain ⟨_, e⟩ := h; cases e
  | str i => obtain ⟨_, e⟩ := h; cases e
  | byt i => obtain ⟨_, e⟩ := h; cases e
  | flt i => obtain ⟨_, e⟩ := h; cases e
  | _ => cases h
theorem valsRef : ∀ {as : List Addr} {vs : List V}, Vals vs (as.map Value.ref) → vs = as.map V.ref
  | [], _, .nil => rfl
  | a :: as, _, .cons r t => by rw [relV_ref r, valsRef t] <;> rfl
theorem vals_refs {c : Ct} {l : List D} (as : List Addr) {vs : List V} (r : Vals vs (as.map Value.ref)) (k : ∀ m n H, RelDs c m n H l vs) : ∀ m n H, RelDs c m n H l (as.map V.ref) := by
  rw [valsRef r] at k
  exact k
end Y

set_option Elab.async false
set_option linter.all false
set_option maxRecDepth 100000
set_option maxHeartbeats 2000000
/-! Y14: a comprehension's block that knows of the frame around it; lists of lambdas that are told one by one. -/
namespace Y
open PySem PySem.Spec PyProof.Rows L2
section
variable {X : Cx}
/-- the block of one for: what it needs of its target, its tests, its item may lean on the frame's own state at the block's start -/
theorem lc_frame {own : List (Str × Nat)} {wi : TI} {g : TG} {tt : TT} {te : TE} {elt tg iter : Expr} {ifs : List Expr} {scope : Scope} {cpos : Pos} (calm : X.calm = true) (nd : X.N.Nodup) (hit : PI X tg iter wi) (bok : BlkOk X.N X.env.scope scope own)
    (parts : ∀ (pz : List (Addr × Obj)) (z : L2.St) (sB : Shared) (HB : Hp) (LB : Addr) (clB : List (Str × Addr)) (fB : List Addr), Inv X pz z HB sB → (∀ b ∈ fB, FpOk X pz HB b ∧ b < sB.heap.objs.size) →
      PG (X.blk sB HB scope (compEnvC scope clB LB X.env) fB) tg g ∧ PTs (X.blk sB HB scope (compEnvC scope clB LB X.env) fB) ifs (fun y H Q => wipe y (own.map (·.2)) = wipe z (own.map (·.2)) ∧ tt y H Q) ∧ PE (X.blk sB HB scope (compEnvC scope clB LB X.env) fB) elt (fun y H Q => wipe y (own.map (·.2)) = wipe z (own.map (·.2)) ∧ te y H Q))
    (fold : ∀ x, foldedSetIterable iter X.env x = pure x := by intro _; rfl) :
    PE X (.ListComp elt [⟨tg, iter, ifs, 0⟩] scope cpos) (tLc wi g tt te (own.map (·.2))) := by
  refine ⟨fun pz sA z HA Q IA rdg => ?_⟩
  rw [eval_ListComp]
  have clo : ∀ y ∈ scope.names, y.2 = .free → ∃ d, X.env.cells.lookup y.1 = some d := by
    intro y hy fr
    exact IA.ok.has _ (bok.free y hy fr)
  refine wpAny_comprehension_free rfl fold (closure_ok clo) bok.kind (fun y hy l => (bok.uniq y hy).trans (congrArg some l)) ?_
  refine thn (hit.run pz sA z HA _ IA rdg) fun xv sX lv => ?_
  refine thn lv fun iv sI got => ?_
  obtain ⟨ia, fB, tn, J, HI, rfl, II, TT, tn0, fpI, more⟩ := got
  refine wpAny_newObj_type (newEnv_comp ?_) (Nat.zero_le _)
  obtain ⟨DD, eD⟩ : ∃ d, d = sI.heap.objs.size := ⟨_, rfl⟩
  obtain ⟨sB, eB⟩ : ∃ s, s = ({ sI with heap := sI.heap.push { cls := .type "list", data := .seq ([] : List Value).toArray } } : Shared) := ⟨_, rfl⟩
  obtain ⟨HB, eH⟩ : ∃ h, h = upd HI DD (.lst []) := ⟨_, rfl⟩
  have freshD : HI DD = none := II.hok.fresh (Nat.le_of_eq eD.symm)
  have hpB : sB.heap = sI.heap.push { cls := .type "list", data := .seq ([] : List Value).toArray } := by rw [eB]
  have IB : Inv X pz z HB sB := by
    rw [eB, eH]
    refine II.laid (t' := sI.toks) (fun _ _ k => Heap.get?_push_of_some _ k) (Nat.le_of_eq eD.symm) ⟨Nat.zero_le _, [], 0, .nil, ?_⟩
    rw [eD]
    exact Heap.get?_push_size _ rfl
  have fpB : ∀ b ∈ fB, FpOk X pz HB b ∧ b < sB.heap.objs.size := by
    intro b hb
    obtain ⟨ob, eo, _⟩ := TT.obj _ _ tn0 b hb
    have lt := Heap.lt_size eo
    refine ⟨⟨?_, (fpI b hb).2⟩, ?_⟩
    · rw [eH, upd_ne (by rw [eD]; exact Nat.ne_of_lt lt)]
      exact (fpI b hb).1
    · rw [hpB, Heap.size_push]
      exact Nat.lt_succ_of_lt lt
  have tnB : tn 0 sB.heap := TT.keep _ _ _ tn0 fun b _ ob k => by
    rw [hpB]
    exact Heap.get?_push_of_some _ k
  have blk := block_start IB bok nd fpB
  obtain ⟨pg, pt, pe⟩ := parts pz z sB HB sB.heap.objs.size (cellsFrom (sB.heap.objs.size + 1) scope.names (cloFrom X.env.cells scope.names [])) fB IB fpB
  obtain ⟨W, ⟨k0, w0⟩, turn⟩ := more DD freshD
  rw [← eH] at w0
  rw [← eB, ← eD]
  show codeAny _ _ (.compStart (.ListComp elt [⟨tg, iter, ifs, 0⟩] scope cpos) 0 (.ref ia) (.ref DD) (compEnvC scope (cellsFrom (sB.heap.objs.size + 1) scope.names (cloFrom X.env.cells scope.names [])) sB.heap.objs.size X.env)) (compPost (model X.prog X.w) X.A X.xe none _ (.ref DD) sB.heap.objs.size) { sB with heap := pushCells (sB.heap.push { cls := .type "dict", data := .dict #[] }) scope.names }
  obtain ⟨ce, ece⟩ : ∃ e, e = compEnvC scope (cellsFrom (sB.heap.objs.size + 1) scope.names (cloFrom X.env.cells scope.names [])) sB.heap.objs.size X.env := ⟨_, rfl⟩
  rw [← ece] at blk pg pt pe ⊢
  have ceL : ce.locals = sB.heap.objs.size := by rw [ece] <;> rfl
  obtain ⟨sC, eC⟩ : ∃ s, s = ({ sB with heap := pushCells (sB.heap.push { cls := .type "dict", data := .dict #[] }) scope.names } : Shared) := ⟨_, rfl⟩
  rw [← eC] at blk ⊢
  have tnC : tn 0 sC.heap := TT.keep _ _ _ tnB fun b _ ob k => by
    rw [eC]
    exact pushCells_keeps _ _ _ _ (Heap.get?_push_of_some _ k)
  have fpIn : ∀ {zz : L2.St} {HH : Hp} {ss : Shared}, Inv (X.blk sB HB scope ce fB) [] zz HH ss → (∀ b ∈ fB, HH b = none) → ∀ b ∈ fB, FpOk (X.blk sB HB scope ce fB) [] HH b := by
    intro zz HH ss II nn b hb
    exact ⟨nn b hb, (II.ok.exf b hb).1, II.ok.exfs b hb, .inl hb, fun x d e => (II.ok.exf b hb).2 x d e, fun p hp => nomatch (show p ∈ ([] : List (Addr × Obj)) from hp)⟩
  have walk : codeAny (model X.prog X.w) X.A (.compLoop (.ListComp elt [⟨tg, iter, ifs, 0⟩] scope cpos) 0 (.ref ia) (.ref DD) ce) (compPost (model X.prog X.w) X.A X.xe none (EP X pz z Q) (.ref DD) sB.heap.objs.size) sC := by
    refine compLoop_any (fun k st => ∃ i HH, Inv (X.blk sB HB scope ce fB) [] (wipe z (own.map (·.2))) HH st ∧ tn i st.heap ∧ (∀ b ∈ fB, HH b = none) ∧ W i k HH) ?_ k0 ⟨0, HB, blk, tnC, fun b hb => (fpB b hb).1.1, w0⟩
    rintro k st ⟨i, HH, IH, tnH, nnH, wH⟩
    rcases turn i k HH wH with ⟨fin, qq⟩ | ⟨go, Nx, hNx, step⟩
    · refine thnF (TT.done (X.blk sB HB scope ce fB) rfl rfl rfl calm i [] st _ HH (fun _ _ => False) IH (fpIn IH nnH) tnH fin) fun r sE ⟨er, IE⟩ => ?_
      subst er
      have IO : Inv X pz z HH sE := IB.call' (ch := fB) IE.os IE.base IE.hok IE.bare fun b hb => ⟨(fpB b hb).1.2.2.2.1, (fpB b hb).1.2.1, (fpB b hb).1.2.2.2.2.1, (fpB b hb).1.2.2.2.2.2⟩
      have nn : HH sB.heap.objs.size = none := ceL ▸ (show HH ce.locals = none from IE.free)
      obtain ⟨mm, ns, _⟩ := IE.loc
      have ns : sE.heap.Ns ce.locals mm := ns
      rw [ceL] at ns
      refine ⟨mm, ns, fun hh sb => ⟨.ref DD, HH, ?_, rfl, qq⟩⟩
      obtain ⟨f0, f1, f2, f3, f4, f5⟩ := IB.fpOk (Nat.le_refl _) nn
      exact IO.turned (t' := sE.toks) (fun b ob hb k => (sb.2 b hb).trans k) f0 f1 f3 f4 f5
    · refine thnF (TT.item (X.blk sB HB scope ce fB) rfl rfl rfl calm i [] st _ HH (fun _ _ => False) IH (fpIn IH nnH) tnH go) fun r s6 ⟨u, er, h6⟩ => ?_
      subst er
      refine thnF h6 fun _ s7 ⟨x, H7, I7, r7, y7, tn7, n7⟩ => ?_
      have P7 := I7.pinned (fpIn I7 n7) (TT.obj _ _ tn7)
      refine thnF (pg.run _ s7 _ H7 x u _ P7 r7 (step x H7 y7)) fun _ s8 ⟨z8, H8, I8, ez, q8⟩ => ?_
      have again : ∀ {ss : Shared} {HX : Hp}, Inv (X.blk sB HB scope ce fB) ([] ++ pinsAt fB s7.heap) z8 HX ss → Nx HX → ∃ j, j < k ∧ ∃ i HX, Inv (X.blk sB HB scope ce fB) [] (wipe z (own.map (·.2))) HX ss ∧ tn i ss.heap ∧ (∀ b ∈ fB, HX b = none) ∧ W i j HX := by
        intro ss HX IX nx
        obtain ⟨j, lt, wX⟩ := hNx HX nx
        have same : ∀ b ∈ fB, ∀ ob, s7.heap.get? b = some ob → ss.heap.get? b = some ob ∧ HX b = none := by
          intro b hb ob k
          have pp := IX.pin (b, ob) (List.mem_append_right _ (List.mem_append_right _ (mem_pinsAt hb k)))
          exact ⟨pp.1, pp.2.1⟩
        refine ⟨j, lt, i + 1, HX, (IX.unpinned (pins := [])).weak (by rw [← ez, wipe_length]) (fun n v e => (wipe_some (by rw [ez]; exact e)).1), TT.keep _ _ _ tn7 fun b hb ob k => (same b hb ob k).1, fun b hb => ?_, wX⟩
        obtain ⟨ob, k, _⟩ := TT.obj _ _ tn7 b hb
        exact (same b hb ob k).2
      refine thnF (pt.run _ s8 z8 H8 _ I8 ⟨ez, q8⟩) fun b s9 ⟨H9, I9, q9⟩ => ?_
      cases b with
      | false =>
        rw [if_neg Bool.false_ne_true] at q9 ⊢
        exact again I9 q9
      | true =>
        rw [if_pos rfl] at q9 ⊢
        refine thnF (pe.run _ s9 z8 H9 _ I9 ⟨ez, q9⟩) fun v sV ⟨yv, HV, IV, rV, acc, eV, lV, nx⟩ => ?_
        exact app_ok (X := X.blk sB HB scope ce fB) IV eV lV rV fun sW IW => again IW nx
  exact codeAny_compStart_list walk (TT.self X.A 0 _ _ _ tnC walk)
/-! ### lambdas kept in a list -/
structure LamE where
  params : Arguments
  body : Expr
  scope : Scope
  pos : Pos
def LamE.e (l : LamE) : Expr := .Lambda l.params l.body l.scope l.pos
abbrev lamQ (X : Cx) : Str := X.env.qual ++ "<lambda>"
abbrev lamObj (X : Cx) (l : LamE) (pm : Value) (k : Addr) (ctv : Value) : Obj := PySem.W.kla_obj "<lambda>" (lamQ X) l.params l.body l.scope (cloFrom X.env.cells l.scope.names []) pm k ctv
/-- a lambda's object at f among the pins -/
def LamAt (X : Cx) (H : Hp) (pl : List (Addr × Obj)) (l : LamE) (f : Addr) : Prop :=
  ∃ pm k ctv, (f, lamObj X l pm k ctv) ∈ pl ∧ f ∉ frs X.stack ∧ H k = some (LamX.CodeO k (lamQ X))
def LamsAt (X : Cx) (H : Hp) (pl : List (Addr × Obj)) : List LamE → List Addr → Prop
  | [], fs => fs = []
  | l :: r, fs => ∃ f t, fs = f :: t ∧ LamAt X H pl l f ∧ LamsAt X H pl r t
section
variable {c : Ct} {m m' : Nat → Addr} {S S' : Sr} {H H' : Hp}
theorem codeO_keep (s : Sim c m S H) (a : Nxt c m S H m' S' H') {k : Addr} {q : Str} (h : H k = some (LamX.CodeO k q)) : H' k = some (LamX.CodeO k q) := by
  refine a.fr k _ (fun i hi e => ?_) h fun ps => LamX.codeO_ne ps
  obtain ⟨x, ex⟩ := s.all i hi
  obtain ⟨o, e1, r⟩ := s.at_ i x ex
  rw [← e, h] at e1
  cases e1
  exact codeO_not r k q rfl
theorem LamAt.go {pl pl' : List (Addr × Obj)} (s : Sim c m S H) (a : Nxt c m S H m' S' H') (sub : ∀ p ∈ pl, p ∈ pl') {l : LamE} {f : Addr} (h : LamAt X H pl l f) : LamAt X H' pl' l f := by
  obtain ⟨pm, k, ctv, h1, h2, h3⟩ := h
  exact ⟨pm, k, ctv, sub _ h1, h2, codeO_keep s a h3⟩
theorem LamsAt.go {pl pl' : List (Addr × Obj)} (s : Sim c m S H) (a : Nxt c m S H m' S' H') (sub : ∀ p ∈ pl, p ∈ pl') : ∀ {ls : List LamE} {fs : List Addr}, LamsAt X H pl ls fs → LamsAt X H' pl' ls fs
  | [], _, h => h
  | l :: r, _, ⟨f, t, e, h1, h2⟩ => ⟨f, t, e, h1.go s a sub, LamsAt.go s a sub h2⟩
theorem LamsAt.get {pl : List (Addr × Obj)} : ∀ {ls : List LamE} {fs : List Addr} {i : Nat} {l : LamE}, LamsAt X H pl ls fs → ls[i]? = some l → ∃ f, fs[i]? = some f ∧ LamAt X H pl l f
  | [], _, _, _, _, e => by cases e
  | x :: r, _, i, l, ⟨f, t, e, h1, h2⟩, el => by
    subst e
    cases i with
    | zero =>
      cases el
      exact ⟨f, rfl, h1⟩
    | succ i => exact LamsAt.get (i := i) h2 el
theorem LamsAt.length {pl : List (Addr × Obj)} : ∀ {ls : List LamE} {fs : List Addr}, LamsAt X H pl ls fs → fs.length = ls.length
  | [], _, h => by cases h; rfl
  | x :: r, _, ⟨f, t, e, h1, h2⟩ => by
    subst e
    exact congrArg (· + 1) (LamsAt.length h2)
end
/-- a lambda's object is pinned -/
theorem pin_lam {pz : List (Addr × Obj)} {z : L2.St} {H : Hp} {s : Shared} {l : LamE} {f k : Addr} {pm ctv : Value} (I : Inv X pz z H s) (hf : s.heap.get? f = some (lamObj X l pm k ctv)) (hn : H f = none) (hr : f ∉ frs X.stack) : Inv X (pz ++ [(f, lamObj X l pm k ctv)]) z H s := by
  refine I.pins_of fun p hp => ?_
  rcases List.mem_append.mp hp with h | h
  · exact I.pin p (List.mem_append_right _ h)
  · obtain rfl : p = (f, lamObj X l pm k ctv) := by simpa using h
    refine ⟨hf, hn, fun e => ?_, fun e => ?_, fun v e => nomatch e⟩
    · have e : f = X.env.locals := e
      obtain ⟨mm, ⟨o, es, ep, ho, hd, _⟩, _⟩ := I.loc
      rw [← e, hf] at ho
      rw [← Option.some.inj ho] at hd
      cases hd
    · rcases I.ok.stk with h | ⟨h, h2⟩
      · rw [h] at hr
        exact hr e
      · rw [h] at hr
        obtain ⟨en, h3, h4⟩ := List.mem_filterMap.mp e
        exact hr (List.mem_filterMap.mpr ⟨en, List.mem_cons_of_mem _ h3, h4⟩)
/-- the lambdas written in a list, from the left -/
theorem lams_eval {c : Ct} {cc P : Addr} {z : L2.St} {E : Value → Shared → Prop} {pos : Pos} (TB : LamX.TabB X.base X.mg cc P) (hcode : X.env.code = .ref cc) (hmT : (P, lamQ X) ∈ c.T) (hu : ∀ p ∈ c.T, p.1 = P → p.2 = lamQ X) :
    ∀ (ls : List LamE) {pz : List (Addr × Obj)} {s : Shared} {H : Hp} {m : Nat → Addr} {S : Sr} {Q : List Value → Shared → Prop}, (∀ l ∈ ls, LamX.LamS X.env.scope l.scope ∧ defaultsOf l.params X.env = ([], [])) → Inv X pz z H s → Sim c m S H →
      (∀ fs pl s' H', Inv X (pz ++ pl) z H' s' → Nxt c m S H m S H' → LamsAt X H' pl ls fs → Q (fs.map Value.ref) s') → wpAny (model X.prog X.w) X.A (spliced (backTo pos (starEach (ls.map LamE.e) X.env))) Q E s
  | [], pz, s, H, m, S, Q, _, I, si, h => Calls.spliced_nil (h [] [] s H (by rw [List.append_nil]; exact I) (Nxt.refl si) rfl)
  | l :: r, pz, s, H, m, S, Q, hl, I, si, h => by
    have e : starEach ((l :: r).map LamE.e) X.env = (false, eval l.e X.env) :: starEach (r.map LamE.e) X.env := rfl
    rw [e]
    show wpAny _ _ (spliced ((false, eval l.e X.env) :: backTo pos (starEach (r.map LamE.e) X.env))) _ _ s
    obtain ⟨L, dfl⟩ := hl l List.mem_cons_self
    refine Calls.spliced_cons (LamX.lam_make2 I TB hcode hmT hu si.tabs dfl (L.has I.ok) fun f k pm ctv H1 s1 I1 eN T1 hf hfn hfr hco => ?_)
    have n1 := Nxt.extN si eN T1
    have I2 := pin_lam (l := l) I1 hf hfn hfr
    refine lams_eval TB hcode hmT hu r (fun l' h' => hl l' (List.mem_cons_of_mem _ h')) I2 n1.sim fun fs pl s' H' I3 n2 at3 => ?_
    refine h (f :: fs) ((f, lamObj X l pm k ctv) :: pl) s' H' (by rw [List.append_assoc] at I3; exact I3) (n1.trans si n2) ⟨f, fs, rfl, ?_, at3.go n2.sim (Nxt.refl n2.sim) fun p hp => List.mem_cons_of_mem _ hp⟩
    exact ⟨pm, k, ctv, List.mem_cons_self, hfr, codeO_keep n1.sim n2 hco⟩
/-- what is known behind: the local i has the list of them -/
def KnL (c : Ct) (X : Cx) (pl : List (Addr × Obj)) (ls : List LamE) (i : Nat) (m : Nat → Addr) (S : Sr) (z : L2.St) (H : Hp) : Prop :=
  z.length = X.N.length ∧ ∃ (LL : Addr) (fs : List Addr), z[i]? = some (some (.ref LL)) ∧ H LL = some (.lst (fs.map V.ref)) ∧ (∀ j, j < S.n → LL ≠ m j) ∧ LamsAt X H pl ls fs
def rdSK (c : Ct) (E : XK) (Kn : (Nat → Addr) → Sr → L2.St → Hp → Prop) (x : MS) : TS := fun Z σ H => ∃ m S g, Sim c m S H ∧ RelG c m S.n H g σ ∧ Kn m S σ H ∧ PoS c E m S H Z (x g S)
def rdEK (c : Ct) (E : XK) (Kn : (Nat → Addr) → Sr → L2.St → Hp → Prop) (x : ME) : TE := fun σ H Q => ∃ m S g, Sim c m S H ∧ RelG c m S.n H g σ ∧ Kn m S σ H ∧ PoE c E m S H Q (x g S)
def mForget (i : Nat) (b : MS) : MS := fun g S => b (g.set i none) S
theorem RelG.forget {c : Ct} {m : Nat → Addr} {n : Nat} {H : Hp} {g : Gm} {σ : L2.St} (rg : RelG c m n H g σ) (i : Nat) (o : Option V) : RelG c m n H (g.set i none) (σ.set i o) := by
  refine ⟨by rw [List.length_set, List.length_set]; exact rg.1, fun j x e => ?_⟩
  by_cases h : i = j
  · subst h
    by_cases hl : i < g.length
    · rw [List.getElem?_set_self hl] at e
      cases e
    · rw [List.getElem?_eq_none (by rw [List.length_set]; omega)] at e
      cases e
  · rw [List.getElem?_set_ne h] at e
    obtain ⟨w, e1, r1⟩ := rg.2 j x e
    exact ⟨w, by rw [List.getElem?_set_ne h]; exact e1, r1⟩
theorem LamsAt.tr {H : Hp} {pl pn : List (Addr × Obj)} {xe : Value → Shared → Prop} : ∀ {ls : List LamE} {fs : List Addr}, LamsAt X H pl ls fs → LamsAt (X.tr pn xe) H pl ls fs
  | [], _, h => h
  | l :: r, _, ⟨f, t, e, h1, h2⟩ => ⟨f, t, e, h1, h2.tr⟩
theorem qss_lams {c : Ct} {E : XK} {cc P : Addr} {i : Nat} {y : Str} {py lpos pos : Pos} {ls : List LamE} {es : List Expr} {rest : List Stmt} {b : MS} (hes : es = ls.map LamE.e) (TB : LamX.TabB X.base X.mg cc P) (hcode : X.env.code = .ref cc) (hmT : (P, lamQ X) ∈ c.T) (hu : ∀ p ∈ c.T, p.1 = P → p.2 = lamQ X)
    (hN : X.N.Nodup) (hi : X.N[i]? = some y) (hy : X.env.scope.names.lookup y = some .local) (hl : ∀ l ∈ ls, LamX.LamS X.env.scope l.scope ∧ defaultsOf l.params X.env = ([], [])) (hsz : ls.length ≤ sizeLine) (hs : swapsWith (.List es lpos) (some (.Name y py)) pos.line X.env = pure false)
    (h2 : ∀ (pl pn : List (Addr × Obj)), (∀ p ∈ pl, p ∈ pn) → PSs (X.tr pn X.xe) rest (rdSK c E (KnL c (X.tr pn X.xe) pl ls i) b)) : PSs X (.Assign [.Name y py] (.List es lpos) pos :: rest) (rdS c E (mForget i b)) := by
  subst hes
  refine ⟨fun pz s z H Z I ⟨m, S, g, si, rg, q⟩ => ?_⟩
  refine wpAny_execs_cons (wpAny_Assign_Name (wpAny_List_spliced (lams_eval TB hcode hmT hu ls hl I si fun fs pl s1 H1 I1 n1 at1 => ?_)) hs)
  have lf := at1.length
  refine ⟨by rw [List.length_map, lf]; exact hsz, ?_⟩
  have fresh := I1.hok.fresh (Nat.le_refl s1.heap.objs.size)
  have I2 : Inv X (pz ++ pl) z (upd H1 s1.heap.objs.size (.lst (fs.map V.ref))) { s1 with heap := s1.heap.push { cls := .type "list", data := .seq (fs.map Value.ref).toArray } } :=
    I1.lnew (t' := s1.toks) (its := fs.map Value.ref) (by
      clear at1 lf
      induction fs with
      | nil => exact .nil
      | cons f fs ih => exact .cons rfl ih) (by rw [List.length_map, lf]; exact hsz)
  refine store_ok I2 hN hi (.inl hy) (v := .ref s1.heap.objs.size) rfl (fun s2 I3 => ?_) (.inr hy)
  have n2 : Nxt c m S H1 m S (upd H1 s1.heap.objs.size (.lst (fs.map V.ref))) := Nxt.fresh n1.sim fresh
  have n12 := n1.trans si n2
  have I4 := I3.toTry X.xe
  refine wpAny_mono ((h2 pl (X.pn ++ (pz ++ pl)) (fun p hp => List.mem_append_right _ (List.mem_append_right _ hp))).run [] s2 _ _ Z I4 ⟨m, S, g.set i none, n12.sim, (n12.relG rg).forget i _, ⟨I3.len, s1.heap.objs.size, fs, ?_, upd_same, fun j hj => (n1.sim.ne hj fresh), (at1.go n1.sim n2 fun _ h => h).tr⟩, PoS.go si n12 q⟩) (fun f s3 q3 => ?_) fun _ _ h => h
  · have hlen : i < z.length := by rw [I.len]; exact (List.getElem?_eq_some_iff.mp hi).1
    exact List.getElem?_set_self hlen
  · have back : ∀ {z' : L2.St} {H' : Hp}, Inv (X.tr (X.pn ++ (pz ++ pl)) X.xe) [] z' H' s3 → Inv X pz z' H' s3 := fun J => (J.ofTry I.ok).unpinned
    cases f with
    | next => obtain ⟨z', H', J, w⟩ := q3; exact ⟨z', H', back J, w⟩
    | brk => obtain ⟨z', H', J, w⟩ := q3; exact ⟨z', H', back J, w⟩
    | cont => obtain ⟨z', H', J, w⟩ := q3; exact ⟨z', H', back J, w⟩
    | ret u => obtain ⟨v, z', H', J, r, w⟩ := q3; exact ⟨v, z', H', back J, r, w⟩
/-! ### [.. for f in them if told(f) != ..] -/
theorem RelG.unwipe {c : Ct} {m : Nat → Addr} {n : Nat} {H : Hp} {g : Gm} {y z : L2.St} {vs : List Nat} (rg : RelG c m n H g y) (e : L2.wipe y vs = L2.wipe z vs) : RelG c m n H (wipeD g vs) z := by
  have r := rg.wipe vs
  rw [e] at r
  refine ⟨by rw [r.1, wipe_length], fun j d ej => ?_⟩
  obtain ⟨v, e1, r1⟩ := r.2 j d ej
  exact ⟨v, (wipe_some e1).1, r1⟩
/-- the call of told at the block's own name -/
def tToldF (c : Ct) (X : Cx) (pl : List (Addr × Obj)) (sub : Str → Str → Bool) (qs : List Str) (cl : Tcl) (prs : List (LamE × ME)) (i : Nat) (vs : List Nat) : TE := fun y H Q =>
  ∃ l me f m S g, (l, me) ∈ prs ∧ y[i]? = some (some (.ref f)) ∧ LamAt X H pl l f ∧ Sim c m S H ∧ RelG c m S.n H g y ∧ PoE c noX m S H Q (mTold sub qs cl me (wipeD g vs) S)
theorem pe_toldf {c : Ct} {sub : Str → Str → Bool} {qs : List Str} {cl : Tcl} {x fv : Str} {k i : Nat} {pl : List (Addr × Obj)} {prs : List (LamE × ME)} {vs : List Nat} {scope : Scope} {p p2 p3 : Pos} {pz : List (Addr × Obj)} {z : L2.St} {sB : Shared} {HB : Hp} {LB : Addr} {clB : List (Str × Addr)} {fB : List Addr}
    (T : Told X.prog X.w X.K X.mg X.base c x sub qs cl) (IB : Inv X pz z HB sB) (fpB : ∀ b ∈ fB, FpOk X pz HB b ∧ b < sB.heap.objs.size) (sub2 : ∀ q ∈ pl, q ∈ X.pn) (hg : Gl (X.blk sB HB scope (compEnvC scope clB LB X.env) fB) x) (hi : X.N[i]? = some fv) (hv : Vis (compEnvC scope clB LB X.env).scope fv)
    (hr : Room (k + 2) X.A) (hl : ∀ q ∈ prs, LamX.LamS X.env.scope q.1.scope ∧ (∀ (qn : Str) (cs : List (Str × Addr)) (pm cv ctv : Value), bindArgs (PySem.W.kla_fn "<lambda>" qn q.1.params q.1.body q.1.scope cs pm cv ctv) ⟨[], []⟩ = pure []) ∧
      ∀ (A : Around) (outer : List Env) (s : Shared) (H : Hp) (E : XK) (f c' : Addr), Room k (A.deeper (LamX.lamEnv X q.1.scope s.heap.objs.size f c')) → PE (LamX.lamCx X A outer s H E q.1.scope f c') q.1.body (rdE c E q.2))
    (hdb : (x == ("__debug__" : Str)) = false := by decide) (hd : (fv == ("__debug__" : Str)) = false := by decide) (hcd : (fv == ("__classdict__" : Str)) = false := by decide) :
    PE (X.blk sB HB scope (compEnvC scope clB LB X.env) fB) (.Call (.Name x p) [.Name fv p2] [] p3) (fun y H Q => L2.wipe y vs = L2.wipe z vs ∧ tToldF c X pl sub qs cl prs i vs y H Q) := by
  obtain ⟨a, g, pg, bg, sg, dV, kV, doc, pm, cdv, ct, oc, an, od, osl, Ng, h1, h2, h3, h4, h5, h6, h7, h8, h9, h10, h11⟩ := T.ex X (lamQ X) rfl rfl rfl rfl rfl
  refine ⟨fun pz2 s y H Q I ⟨ez, l, me, f, m, S, gg, hmem, hf, ⟨pm2, c2, ctv2, hpl, hfr, hco⟩, si, rg, q⟩ => ?_⟩
  obtain ⟨hL, hB, hE⟩ := hl _ hmem
  refine wpAny_Call_Name_kw (ld_glob I hg h1 ?_ hdb)
  have args := (pa_cons (X := X.blk sB HB scope (compEnvC scope clB LB X.env) fB) (pe_var (pos := p2) (i := i) hi hv hd hcd) pa_nil (by rfl)).run p3 pz2 s y H (fun vs H' => vs = [.ref f] ∧ H' = H) I ⟨.ref f, hf, rfl, rfl⟩
  refine PySem.W.callWith_K (h₀ := X.base) IB.ok.mod.kin h2 (thn args fun us s1 ⟨ws, H1, I1, rv, ew, eH⟩ => ⟨I1.kIn, ?_⟩) (by rfl) (by rfl)
  subst ew eH
  obtain ⟨u, eu, ru⟩ := rv.one
  obtain rfl : u = Value.ref f := ru
  subst eu
  have IO : Inv X pz z H1 s1 := IB.call' (ch := fB) I1.os I1.base I1.hok I1.bare fun b hb => ⟨(fpB b hb).1.2.2.2.1, (fpB b hb).1.2.1, (fpB b hb).1.2.2.2.2.1, (fpB b hb).1.2.2.2.2.2⟩
  obtain ⟨hof, hnf, _⟩ := IO.pin _ (List.mem_append_left _ (sub2 _ hpl))
  have rc : codeAny (model X.prog X.w) X.A (.call (.ref g) ⟨[.ref f], []⟩) (CR C8.CX0 X.stack X.prog X.w H1 s1 Q C8.E0) s1 := by
    refine LamX.run_ofS (N := Ng) (ps := [a]) (us := [.ref f]) (vs := [.ref f]) h3 h4 h6 hr IO.env0 (h5 s1 [.ref f] IO.kIn rfl) (.cons rfl .nil) rfl fun hr' => ?_
    have tl : TToldM X.K (cl.map fun p => (c.cls p.1, p.2)) (fun E H' Q' => rdE c E me z H' Q') H1 Q := by
      refine ⟨m, S, wipeD gg vs, si, rg.unwipe ez, ?_⟩
      unfold mTold at q
      cases e : me (wipeD gg vs) S with
      | ok d S' =>
        rw [e] at q
        exact q
      | bad => rw [e] at q; exact q.elim
      | exc r S' =>
        rw [e] at q
        intro m' H' n
        dsimp only at q
        split at q
        · rename_i hp
          split at q
          · rename_i w ew
            exact tmany_of (fun p' hp' => T.exm r hp p' hp') ew (q m' H' _ n mk_str)
          · exact q.elim
        · exact q.elim
    obtain ⟨t', ht', hq'⟩ := h9 f c2 s1 H1 Q (fun E H' Q' => rdE c E me z H' Q') (fun W pn xe E q1 q2 tk hW => LamX.pe_act (i := 0) IO hL hof hnf hfr (hB _ _ _ _ _) tk hW hr' (fun A outer s H hr2 => hE A outer s H E f c2 hr2) h7 h8 h10 h11) hco tl
    exact ⟨t', ht'.nox, hq'⟩
  refine wpAny_call (codeAny_mono rc fun r s2 hq => ?_)
  cases r with
  | error e => exact (show False from hq).elim
  | ok fl =>
    cases fl with
    | ret u => exact I1.after hq
    | next => exact False.elim hq
    | brk => exact False.elim hq
    | cont => exact False.elim hq
def lamTurns (sub : Str → Str → Bool) (qs : List Str) (cl : Tcl) (ans : Str) (g : Gm) : List ME → SM Unit
  | [] => fun S => .ok () S
  | me :: r => fun S => match mTold sub qs cl me g S with
    | .ok (.str w) S' => if w = ans then lamTurns sub qs cl ans g r S' else .bad
    | _ => .bad
def mLamComp (sub : Str → Str → Bool) (qs : List Str) (cl : Tcl) (ans : Str) (vs : List Nat) (mes : List ME) : ME := fun g S => SM.bind (lamTurns sub qs cl ans (wipeD g vs) mes) (fun _ S' => .ok (.adr S.n) S') (S.alloc (.lst []))
theorem ne_same {a : Str} {S : Sr} (ha : SeqAt.shaped (.str a) = true) : dNe (.str a) (.str a) S = .ok (D.bl false) S := by
  have e : PyData.eqv (.str a) (.str a) = true := by simp [PyData.eqv]
  show (if SeqAt.shaped (.str a) = true ∧ SeqAt.shaped (.str a) = true then R.ok (D.bl (!PyData.eqv (.str a) (.str a))) S else .bad) = .ok (D.bl false) S
  rw [e, if_pos ⟨ha, ha⟩]
  rfl
theorem PTs.imp {X : Cx} {e : List Expr} {t t' : TT} (h : PTs X e t) (i : ∀ σ H Q, t' σ H Q → t σ H Q) : PTs X e t' := ⟨fun pins s σ H Q I q => h.run pins s σ H Q I (i σ H Q q)⟩
theorem qe_lamcomp {c : Ct} {E : XK} {sub : Str → Str → Bool} {qs : List Str} {cl : Tcl} {x fv bad ans : Str} {k i ib j : Nat} {pl : List (Addr × Obj)} {prs : List (LamE × ME)} {elt : Expr} {scope : Scope} {pf pb p p2 p3 p4 p5 cpos : Pos} (hK : X.K = c.K)
    (T : Told X.prog X.w X.K X.mg X.base c x sub qs cl) (sub2 : ∀ q ∈ pl, q ∈ X.pn) (calm : X.calm = true) (nd : X.N.Nodup) (hib : X.N[ib]? = some bad) (hvb : Vis X.env.scope bad) (hi : X.N[i]? = some fv) (bok : BlkOk X.N X.env.scope scope [(fv, i)])
    (hg : ∀ (s : Shared) (H : Hp) (C : Addr) (cl : List (Str × Addr)) (fp : List Addr), Gl (X.blk s H scope (compEnvC scope cl C X.env) fp) x) (hv : ∀ (C : Addr) (cl : List (Str × Addr)), Vis (compEnvC scope cl C X.env).scope fv)
    (hpg : ∀ (s : Shared) (H : Hp) (C : Addr) (cl : List (Str × Addr)) (fp : List Addr), PG (X.blk s H scope (compEnvC scope cl C X.env) fp) (.Name fv pf) (gName i))
    (hr : Room (k + 2) X.A) (hl : ∀ q ∈ prs, LamX.LamS X.env.scope q.1.scope ∧ (∀ (qn : Str) (cs : List (Str × Addr)) (pm cv ctv : Value), bindArgs (PySem.W.kla_fn "<lambda>" qn q.1.params q.1.body q.1.scope cs pm cv ctv) ⟨[], []⟩ = pure []) ∧
      ∀ (A : Around) (outer : List Env) (s : Shared) (H : Hp) (E : XK) (f c' : Addr), Room k (A.deeper (LamX.lamEnv X q.1.scope s.heap.objs.size f c')) → PE (LamX.lamCx X A outer s H E q.1.scope f c') q.1.body (rdE c E q.2))
    (hdx : (x == ("__debug__" : Str)) = false := by decide) (hdb : (bad == ("__debug__" : Str)) = false := by decide) (hcb : (bad == ("__classdict__" : Str)) = false := by decide) (hdf : (fv == ("__debug__" : Str)) = false := by decide) (hcf : (fv == ("__classdict__" : Str)) = false := by decide)
    (hans : SeqAt.shaped (.str ans) = true := by rfl) (fold : ∀ v, foldedSetIterable (.Name bad pb) X.env v = pure v := by intro _; rfl) :
    PE X (.ListComp elt [⟨.Name fv pf, .Name bad pb, [.Compare (.Call (.Name x p) [.Name fv p2] [] p3) [.NotEq] [.Constant (.str ans) j p4] p5], 0⟩] scope cpos) (rdEK c E (KnL c X pl (prs.map Prod.fst) ib) (mLamComp sub qs cl ans [i] (prs.map Prod.snd))) := by
  refine PE.imp (lc_frame (own := [(fv, i)]) (wi := iList X.K (tVar ib)) (g := gName i) (tt := tTest (tOp (rNeD X.K) (tToldF c X pl sub qs cl prs i [i]) (tC (.str ans)))) (te := fun _ _ _ => False) calm nd (pi_list (pe_var hib hvb hdb hcb)) bok (fun pz z sB HB LB clB fB IB fpB => ⟨hpg sB HB LB clB fB, ?_, ⟨fun _ _ _ _ _ _ h => h.2.elim⟩⟩) fold) fun z H Q h => ?_
  · refine PTs.imp (pts_one (pt_cmpR (op_neD hr.units) (pe_toldf (vs := [i]) T IB fpB sub2 (hg sB HB LB clB fB) hi (hv LB clB) hr hl hdx hdf hcf) pe_str rfl)) fun y H Q h => ?_
    exact ⟨h.1, h.2⟩
  obtain ⟨m, S, g, s, rg, ⟨hlen, LL, fs, hz, hLL, hfar, hat⟩, q⟩ := h
  refine ⟨.ref LL, hz, LL, rfl, ⟨_, .inl (.inl hLL)⟩, fun DD hD => ?_⟩
  have lf := hat.length
  rw [List.length_map] at lf
  have al := Nxt.alloc (x := .lst []) (o := .lst []) s hD ⟨[], rfl, mk_nil⟩
  have q1 := PoE.go s al q
  have gm : ext m S.n DD S.n = DD := ext_same
  have keepLL : ∀ {m' : Nat → Addr} {S' : Sr} {H' : Hp}, Nxt c (ext m S.n DD) (S.alloc (.lst [])) (upd H DD (.lst [])) m' S' H' → SqL X.K H' LL (fs.map V.ref) := fun n => by
    have n' := al.trans s n
    exact .inl (.inl (n'.fr LL _ hfar hLL fun ps => by simp))
  refine ⟨fun a b HH => a + b = prs.length ∧ ∃ m' S', Nxt c (ext m S.n DD) (S.alloc (.lst [])) (upd H DD (.lst [])) m' S' HH ∧ PoE c E m' S' HH Q (SM.bind (lamTurns sub qs cl ans (wipeD g [i]) ((prs.drop a).map Prod.snd)) (fun _ S' => .ok (.adr S.n) S') S'), ⟨prs.length, Nat.zero_add _, _, _, Nxt.refl al.sim, q1⟩, ?_⟩
  rintro a b HH ⟨hab, m2, S2, n2, q2⟩
  have hLL2 := keepLL n2
  by_cases hlt : a < prs.length
  · obtain ⟨pr, epr⟩ : ∃ pr, prs[a]? = some pr := ⟨_, List.getElem?_eq_getElem hlt⟩
    obtain ⟨f, ef, hf⟩ := hat.get (i := a) (l := pr.1) (by rw [List.getElem?_map, epr]; rfl)
    have ef2 : (fs.map V.ref)[a]? = some (.ref f) := by rw [List.getElem?_map, ef]; rfl
    refine .inr ⟨⟨_, _, hLL2, ef2⟩, fun H' => a + 1 + (b - 1) = prs.length ∧ ∃ m' S', Nxt c (ext m S.n DD) (S.alloc (.lst [])) (upd H DD (.lst [])) m' S' H' ∧ PoE c E m' S' H' Q (SM.bind (lamTurns sub qs cl ans (wipeD g [i]) ((prs.drop (a + 1)).map Prod.snd)) (fun _ S' => .ok (.adr S.n) S') S'), fun H' w => ⟨b - 1, by omega, w⟩, fun v H' y => ?_⟩
    obtain ⟨e0, hy⟩ := y
    subst e0
    have ev : v = .ref f := by
      have := hy _ hLL2
      rw [ef2] at this
      exact (Option.some.inj this).symm
    subst ev
    refine ⟨by rw [wipe_set _ (by simp)]; exact wipe_idem z [i] [i] fun _ h => h, ?_⟩
    have ed : (prs.drop a).map Prod.snd = pr.2 :: (prs.drop (a + 1)).map Prod.snd := by
      rw [List.drop_eq_getElem_cons hlt, List.map_cons]
      have : prs[a] = pr := by
        rw [List.getElem?_eq_getElem hlt] at epr
        exact Option.some.inj epr
      rw [this]
    rw [ed] at q2
    have n02 := al.trans s n2
    have rg2 : RelG c m2 S2.n H' (wipeD g [i]) (L2.wipe z [i]) := (n02.relG rg).wipe [i]
    have ei : (L2.wipe z [i]).length = X.N.length := by rw [wipe_length]; exact hlen
    have hil : i < (L2.wipe z [i]).length := by rw [ei]; exact (List.getElem?_eq_some_iff.mp hi).1
    unfold SM.bind lamTurns at q2
    have ew : wipeD ((wipeD g [i]).set i none) [i] = wipeD g [i] := by
      show (((g.set i none).set i none)).set i none = g.set i none
      rw [List.set_set, List.set_set]
    refine ⟨pr.1, pr.2, f, m2, S2, (wipeD g [i]).set i none, List.mem_of_getElem? epr, List.getElem?_set_self hil, hf.go s n02 fun _ h => h, n2.sim, rg2.forget i _, ?_⟩
    rw [ew]
    cases et : mTold sub qs cl pr.2 (wipeD g [i]) S2 with
    | bad => rw [et] at q2; exact q2.elim
    | exc r S3 => rw [et] at q2; exact q2.elim
    | ok d S3 =>
      rw [et] at q2
      cases d with
      | str w =>
        dsimp only at q2
        by_cases hw : w = ans
        · rw [if_pos hw] at q2
          subst hw
          intro m3 H3 v n3 r3
          rw [rd_str r3]
          have z3 : rNeD c.K (.str w) (.str w) H3 fun v4 H4 => ∃ k, v4 = .bl k ∧ (if k = true then False else (a + 1 + (b - 1) = prs.length ∧ ∃ m' S', Nxt c (ext m S.n DD) (S.alloc (.lst [])) (upd H DD (.lst [])) m' S' H4 ∧ PoE c E m' S' H4 Q (SM.bind (lamTurns sub qs cl w (wipeD g [i]) ((prs.drop (a + 1)).map Prod.snd)) (fun _ S' => .ok (.adr S.n) S') S'))) := by
            refine snd_ne noX m3 S3 H3 _ (.str w) (.str w) (.str w) (.str w) n3.sim mk_str mk_str ?_
            rw [ne_same hans]
            intro m4 H4 v4 n4 r4
            refine ⟨false, rd_bl r4, ?_⟩
            rw [if_neg Bool.false_ne_true]
            have n24 := n2.trans al.sim (n3.trans n2.sim n4)
            exact ⟨by omega, m4, S3, n24, PoE.go n2.sim (n3.trans n2.sim n4) q2⟩
          rw [← hK] at z3
          exact z3
        · rw [if_neg hw] at q2
          exact q2.elim
      | _ => exact q2.elim
  · have e : prs.drop a = [] := List.drop_eq_nil_of_le (Nat.le_of_not_lt hlt)
    rw [e] at q2
    refine .inl ⟨⟨_, hLL2, by rw [List.length_map, lf]; omega⟩, ?_⟩
    have hm2 : m2 S.n = DD := by rw [n2.mu S.n (Nat.lt_succ_self _), gm]
    have hlt2 : S.n < S2.n := Nat.lt_of_lt_of_le (Nat.lt_succ_self _) n2.le
    have z := q2 m2 HH _ (Nxt.refl n2.sim) (mk_adr hlt2)
    rw [hm2] at z
    exact z
/-- the lambdas' bodies, one by one -/
inductive HL (X : Cx) (c : Ct) (k : Nat) : List LamE → List ME → Prop
  | nil : HL X c k [] []
  | cons {params : Arguments} {body : Expr} {scope : Scope} {pos : Pos} {me : ME} {ls : List LamE} {mes : List ME} (h1 : LamX.LamS X.env.scope scope) (h2 : ∀ (qn : Str) (cs : List (Str × Addr)) (pm cv ctv : Value), bindArgs (PySem.W.kla_fn "<lambda>" qn params body scope cs pm cv ctv) ⟨[], []⟩ = pure [])
      (h3 : ∀ (A : Around) (outer : List Env) (s : Shared) (H : Hp) (E : XK) (f c' : Addr), Room k (A.deeper (LamX.lamEnv X scope s.heap.objs.size f c')) → PE (LamX.lamCx X A outer s H E scope f c') body (rdE c E me)) (t : HL X c k ls mes) : HL X c k (⟨params, body, scope, pos⟩ :: ls) (me :: mes)
theorem HL.len {c : Ct} {k : Nat} {ls : List LamE} {mes : List ME} (h : HL X c k ls mes) : ls.length = mes.length := by
  induction h with
  | nil => rfl
  | cons _ _ _ _ ih => exact congrArg (· + 1) ih
theorem HL.all {c : Ct} {k : Nat} {ls : List LamE} {mes : List ME} (h : HL X c k ls mes) : ∀ q ∈ ls.zip mes, LamX.LamS X.env.scope q.1.scope ∧ (∀ (qn : Str) (cs : List (Str × Addr)) (pm cv ctv : Value), bindArgs (PySem.W.kla_fn "<lambda>" qn q.1.params q.1.body q.1.scope cs pm cv ctv) ⟨[], []⟩ = pure []) ∧
      ∀ (A : Around) (outer : List Env) (s : Shared) (H : Hp) (E : XK) (f c' : Addr), Room k (A.deeper (LamX.lamEnv X q.1.scope s.heap.objs.size f c')) → PE (LamX.lamCx X A outer s H E q.1.scope f c') q.1.body (rdE c E q.2) := by
  induction h with
  | nil => intro q hq; cases hq
  | cons h1 h2 h3 _ ih =>
    intro q hq
    rcases List.mem_cons.mp hq with e | e
    · subst e
      exact ⟨h1, h2, h3⟩
    · exact ih q e
theorem qe_lamcomp2 {c : Ct} {E : XK} {sub : Str → Str → Bool} {qs : List Str} {cl : Tcl} {x fv bad ans : Str} {k i ib j : Nat} {pl : List (Addr × Obj)} {ls : List LamE} {mes : List ME} {elt : Expr} {scope : Scope} {pf pb p p2 p3 p4 p5 cpos : Pos} (hK : X.K = c.K)
    (T : Told X.prog X.w X.K X.mg X.base c x sub qs cl) (sub2 : ∀ q ∈ pl, q ∈ X.pn) (calm : X.calm = true) (nd : X.N.Nodup) (hib : X.N[ib]? = some bad) (hvb : Vis X.env.scope bad) (hi : X.N[i]? = some fv) (bok : BlkOk X.N X.env.scope scope [(fv, i)])
    (hg : ∀ (s : Shared) (H : Hp) (C : Addr) (cl : List (Str × Addr)) (fp : List Addr), Gl (X.blk s H scope (compEnvC scope cl C X.env) fp) x) (hv : ∀ (C : Addr) (cl : List (Str × Addr)), Vis (compEnvC scope cl C X.env).scope fv)
    (hpg : ∀ (s : Shared) (H : Hp) (C : Addr) (cl : List (Str × Addr)) (fp : List Addr), PG (X.blk s H scope (compEnvC scope cl C X.env) fp) (.Name fv pf) (gName i))
    (hr : Room (k + 2) X.A) (hans : SeqAt.shaped (.str ans) = true) (hl : HL X c k ls mes)
    (hdx : (x == ("__debug__" : Str)) = false := by decide) (hdb : (bad == ("__debug__" : Str)) = false := by decide) (hcb : (bad == ("__classdict__" : Str)) = false := by decide) (hdf : (fv == ("__debug__" : Str)) = false := by decide) (hcf : (fv == ("__classdict__" : Str)) = false := by decide)
    (fold : ∀ v, foldedSetIterable (.Name bad pb) X.env v = pure v := by intro _; rfl) :
    PE X (.ListComp elt [⟨.Name fv pf, .Name bad pb, [.Compare (.Call (.Name x p) [.Name fv p2] [] p3) [.NotEq] [.Constant (.str ans) j p4] p5], 0⟩] scope cpos) (rdEK c E (KnL c X pl ls ib) (mLamComp sub qs cl ans [i] mes)) := by
  have z := qe_lamcomp (E := E) (ans := ans) (elt := elt) (pf := pf) (pb := pb) (p := p) (p2 := p2) (p3 := p3) (p4 := p4) (p5 := p5) (cpos := cpos) (j := j) (prs := ls.zip mes) hK T sub2 calm nd hib hvb hi bok hg hv hpg hr hl.all hdx hdb hcb hdf hcf hans fold
  have e1 : (ls.zip mes).map Prod.fst = ls := List.map_fst_zip (Nat.le_of_eq hl.len)
  have e2 : (ls.zip mes).map Prod.snd = mes := List.map_snd_zip (Nat.le_of_eq hl.len.symm)
  rw [e1, e2] at z
  exact z
/-! ### what is evaluated first may lean on what is known -/
theorem poSeq {c : Ct} {E : XK} {m : Nat → Addr} {S : Sr} {H : Hp} {x : SM D} {k : D → SM D} {Q QQ : VK} (s : Sim c m S H) (h : PoE c E m S H Q (SM.bind x k S))
    (hk : ∀ m1 S1 H1 d v, Nxt c m S H m1 S1 H1 → RelD c m1 S1.n H1 d v → PoE c E m1 S1 H1 Q (k d S1) → QQ v H1) : PoE c E m S H QQ (x S) := by
  unfold SM.bind at h
  cases e : x S with
  | ok d S1 =>
    rw [e] at h
    exact fun m1 H1 v a r => hk m1 S1 H1 d v a r (PoE.go s a h)
  | exc q S1 => rw [e] at h; exact h
  | bad => rw [e] at h; exact h
theorem poSeqS {c : Ct} {E : XK} {m : Nat → Addr} {S : Sr} {H : Hp} {r : R D} {k : D → Sr → RS} {Z : Ends} {QQ : VK} (s : Sim c m S H) (h : PoS c E m S H Z (toRS r k))
    (hk : ∀ m1 S1 H1 d v, Nxt c m S H m1 S1 H1 → RelD c m1 S1.n H1 d v → PoS c E m1 S1 H1 Z (k d S1) → QQ v H1) : PoE c E m S H QQ r := by
  cases r with
  | ok d S1 => exact fun m1 H1 v a r => hk m1 S1 H1 d v a r (PoS.go s a h)
  | exc q S1 => exact h
  | bad => exact h
section
variable {c : Ct} {E : XK} {Kn : (Nat → Addr) → Sr → L2.St → Hp → Prop}
theorem qs_retK {e : Expr} {ma : ME} {pos : Pos} (h : PE X e (rdEK c E Kn ma)) : PS X (.Return (some e) pos) (rdSK c E Kn (mRet ma)) :=
  PS.imp (ps_ret h) fun Z σ H ⟨m, S, g, s, rg, kn, q⟩ => ⟨m, S, g, s, rg, kn, poSeqS s q fun m1 S1 H1 d v a r q1 => q1 m1 H1 v (Nxt.refl a.sim) r⟩
theorem qe_andK {a b : Expr} {rest : List Expr} {ma mb : ME} {pos : Pos} (ha : PE X a (rdEK c E Kn ma)) (hb : PE X (.BoolOp .And (b :: rest) pos) (rdE c E mb)) : PE X (.BoolOp .And (a :: b :: rest) pos) (rdEK c E Kn (mAndV ma mb)) :=
  PE.imp (pe_and ha hb) fun σ H Q ⟨m, S, g, s, rg, kn, q⟩ => ⟨m, S, g, s, rg, kn, poSeq s q fun m1 S1 H1 d v a r q1 => by
    cases d with
    | bl k =>
      refine ⟨k, rd_bl r, ?_⟩
      cases k with
      | true => exact ⟨m1, S1, g, a.sim, a.relG rg, q1⟩
      | false => exact q1 m1 H1 _ (Nxt.refl a.sim) mk_bl
    | _ => exact (show False from q1).elim⟩
theorem qe_cmpK {op : CmpOp} {r : R2} {f : D → D → SM D} {a b : Expr} {ma mb : ME} {pos : Pos} (ho : OpR X (compareOp op) r) (hs : Snd2 c r f) (ha : PE X a (rdEK c E Kn ma)) (hb : PE X b (rdE c E mb)) (hm : behindInMarks op b = false) : PE X (.Compare a [op] [b] pos) (rdEK c E Kn (mB f ma mb)) :=
  PE.imp (pe_cmpR ho ha hb hm) fun σ H Q ⟨m, S, g, s, rg, kn, q⟩ => ⟨m, S, g, s, rg, kn, poSeq s q fun m1 S1 H1 x v a rx q1 => seqE a.sim (a.relG rg) q1 fun m2 S2 H2 y w b ry q2 => hs E m2 S2 H2 Q x y v w b.sim (b.relD rx) ry q2⟩
theorem qt_cmpK {op : CmpOp} {r : R2} {f : D → D → SM D} {a b : Expr} {ma mb : ME} {pos : Pos} (ho : OpR X (compareOp op) r) (hs : Snd2 c r f) (ha : PE X a (rdEK c E Kn ma)) (hb : PE X b (rdE c E mb)) (hm : behindInMarks op b = false) :
    PT X (.Compare a [op] [b] pos) (fun σ H Q => ∃ m S g, Sim c m S H ∧ RelG c m S.n H g σ ∧ Kn m S σ H ∧ PoT c E m S H Q (mTB (mB f ma mb) g S)) :=
  PT.imp (pt_cmpR ho ha hb hm) fun σ H Q ⟨m, S, g, s, rg, kn, q⟩ => by
    refine ⟨m, S, g, s, rg, kn, poSeq (Q := fun v H => ∃ k, v = .bl k ∧ Q k H) (x := ma g) (k := fun x => SM.bind (mb g) fun y => f x y) s ?_ fun m1 S1 H1 x v a rx q1 => seqE a.sim (a.relG rg) q1 fun m2 S2 H2 y w b ry q2 => hs E m2 S2 H2 _ x y v w b.sim (b.relD rx) ry q2⟩
    unfold mTB SM.bind at q
    show PoE c E m S H _ (mB f ma mb g S)
    cases e : mB f ma mb g S with
    | ok d S1 =>
      rw [e] at q
      intro m1 H1 v a r
      cases d <;> first | exact (show False from q).elim | skip
      exact ⟨_, rd_bl r, q m1 H1 a⟩
    | exc p S1 => rw [e] at q; exact q
    | bad => rw [e] at q; exact q.elim
theorem qs_ifK {t : Expr} {a b : List Stmt} {mt : MT} {ma mb : MS} {pos : Pos} (ht : PT X t (fun σ H Q => ∃ m S g, Sim c m S H ∧ RelG c m S.n H g σ ∧ Kn m S σ H ∧ PoT c E m S H Q (mt g S))) (ha : PSs X a (rdS c E ma)) (hb : PSs X b (rdS c E mb)) : PS X (.If t a b pos) (rdSK c E Kn (mIfS mt ma mb)) :=
  PS.imp (ps_if ht ha hb) fun Z σ H ⟨m, S, g, s, rg, kn, q⟩ => by
    refine ⟨m, S, g, s, rg, kn, ?_⟩
    unfold mIfS at q
    cases e : mt g S with
    | ok k S1 =>
      rw [e] at q
      intro m1 H1 a
      have q1 := PoS.go s a q
      cases k with
      | true => exact ⟨m1, S1, g, a.sim, a.relG rg, q1⟩
      | false => exact ⟨m1, S1, g, a.sim, a.relG rg, q1⟩
    | exc p S1 => rw [e] at q; exact q
    | bad => rw [e] at q; exact q.elim
theorem qss_consK {st : Stmt} {rest : List Stmt} {a b : MS} (h1 : PS X st (rdSK c E Kn a)) (h2 : PSs X rest (rdS c E b)) : PSs X (st :: rest) (rdSK c E Kn (mSeq a b)) :=
  PSs.imp (pss_cons h1 h2) fun Z σ H ⟨m, S, g, s, rg, kn, q⟩ => ⟨m, S, g, s, rg, kn, PoS.seq s q⟩
theorem qss_oneK {st : Stmt} {a : MS} (h1 : PS X st (rdSK c E Kn a)) : PSs X [st] (rdSK c E Kn a) := pss_one h1
end
theorem fa_nil {α : Type} {p : α → Prop} : ∀ x ∈ ([] : List α), p x := fun x h => nomatch h
theorem fa_cons {α : Type} {p : α → Prop} {a : α} {l : List α} (h : p a) (t : ∀ x ∈ l, p x) : ∀ x ∈ a :: l, p x := fun x hx => (List.mem_cons.mp hx).elim (fun e => e ▸ h) (t x)
section
variable {P : Program} {w : World} {K : PySem.W.Frag} {mg : Str → Option Value} {base : Heap} {N : List Str} {qual : Str} {scope : Scope} {f : Addr} {cdv : Value} {A : Around} {outer : List Env} {s : Shared} {H : Hp} {E : XK} {pn : List (Addr × Obj)}
abbrev cxTr (P : Program) (w : World) (K : PySem.W.Frag) (mg : Str → Option Value) (base : Heap) (N : List Str) (qual : Str) (scope : Scope) (f : Addr) (cdv : Value) (A : Around) (outer : List Env) (s : Shared) (H : Hp) (E : XK) (pn : List (Addr × Obj)) : Cx := (cxOf (L2.CX P w) P w K mg base N qual scope f cdv A outer s H E).tr pn (cxOf (L2.CX P w) P w K mg base N qual scope f cdv A outer s H E).xe
theorem takesTr : Takes (cxTr P w K mg base N qual scope f cdv A outer s H E pn) (fun cls d _ H => E cls d H) := takes_of rfl rfl rfl rfl
theorem passesTr : Passes (L2.CX P w) (cxTr P w K mg base N qual scope f cdv A outer s H E pn) E := passesT takesTr
theorem pOwnTr : PassesOwn (model P w) (cxTr P w K mg base N qual scope f cdv A outer s H E pn).A (cxTr P w K mg base N qual scope f cdv A outer s H E pn).env (cxTr P w K mg base N qual scope f cdv A outer s H E pn).xe := passes_of rfl
end
end
end Y

set_option Elab.async false
set_option linter.all false
set_option maxRecDepth 100000
set_option maxHeartbeats 1000000
/-! Y15: how the mirror is reckoned out. -/
namespace Y
open PySem PySem.Spec PyProof.Rows L2
theorem sb {a b : Str} : (a == b) = decide (a = b) := by by_cases h : a = b <;> simp [h]
theorem put_f {S : Sr} {i j : Nat} {x : MO} : (S.put i x).f j = if j = i then some x else S.f j := rfl
theorem put_n {S : Sr} {i : Nat} {x : MO} : (S.put i x).n = S.n := rfl
theorem alloc_f {S : Sr} {j : Nat} {x : MO} : (S.alloc x).f j = if j = S.n then some x else S.f j := rfl
theorem alloc_n {S : Sr} {x : MO} : (S.alloc x).n = S.n + 1 := rfl
theorem put_put {S : Sr} {i : Nat} {x y : MO} : (S.put i x).put i y = S.put i y := by
  unfold Sr.put
  congr 1
  funext j
  by_cases h : j = i
  · rw [if_pos h, if_pos h]
  · simp only [if_neg h]
theorem alloc_put {S : Sr} {x y : MO} : (S.alloc x).put S.n y = S.alloc y := by
  unfold Sr.put Sr.alloc
  congr 1
  funext j
  by_cases h : j = S.n
  · rw [if_pos h, if_pos h]
  · simp only [if_neg h]
theorem ixN_nat {n : Nat} {i : Int} (h : 0 ≤ i) (h2 : i < n) : ixN n i = some i.toNat := by
  unfold ixN
  rw [if_pos h, if_pos h2]
theorem atI_nat {l : List D} {i : Int} {d : D} (h : 0 ≤ i) (e : l[i.toNat]? = some d) : atI l i = some d := by
  have hl := (List.getElem?_eq_some_iff.mp e).1
  unfold atI
  rw [ixN_nat h (by omega)]
  exact e
/-! ### equal -/
theorem ev_eqI {a b : Int} {S : Sr} : dEq (.int a) (.int b) S = .ok (.bl (decide (a = b))) S := by
  have e : PyData.eqv (.int a) (.int b) = decide (a = b) := by
    rw [PyData.eqv.eq_def]
    by_cases h : a = b <;> simp [h]
  show (if SeqAt.shaped (.int a) = true ∧ SeqAt.shaped (.int b) = true then R.ok (D.bl (PyData.eqv (.int a) (.int b))) S else .bad) = .ok (D.bl (decide (a = b))) S
  rw [if_pos ⟨rfl, rfl⟩, e]
theorem ev_neI {a b : Int} {S : Sr} : dNe (.int a) (.int b) S = .ok (.bl (!decide (a = b))) S := by
  have e : PyData.eqv (.int a) (.int b) = decide (a = b) := by
    rw [PyData.eqv.eq_def]
    by_cases h : a = b <;> simp [h]
  show (if SeqAt.shaped (.int a) = true ∧ SeqAt.shaped (.int b) = true then R.ok (D.bl (!PyData.eqv (.int a) (.int b))) S else .bad) = .ok (D.bl (!decide (a = b))) S
  rw [if_pos ⟨rfl, rfl⟩, e]
theorem eqv_str {a b : Str} : PyData.eqv (.str a) (.str b) = decide (a = b) := by
  rw [PyData.eqv.eq_def]
  by_cases h : a = b <;> simp [h]
theorem shaped_str {a : Str} (h : PyData.strOk a = true) : SeqAt.shaped (.str a) = true := by
  simp [SeqAt.shaped, PyData.canLay0, PyData.depth, h]
theorem ev_eqS {a b : Str} {S : Sr} (ha : PyData.strOk a = true) (hb : PyData.strOk b = true) : dEq (.str a) (.str b) S = .ok (.bl (decide (a = b))) S := by
  show (if SeqAt.shaped (.str a) = true ∧ SeqAt.shaped (.str b) = true then R.ok (D.bl (PyData.eqv (.str a) (.str b))) S else .bad) = .ok (D.bl (decide (a = b))) S
  rw [if_pos ⟨shaped_str ha, shaped_str hb⟩, eqv_str]
theorem ev_neS {a b : Str} {S : Sr} (ha : PyData.strOk a = true) (hb : PyData.strOk b = true) : dNe (.str a) (.str b) S = .ok (.bl (!decide (a = b))) S := by
  show (if SeqAt.shaped (.str a) = true ∧ SeqAt.shaped (.str b) = true then R.ok (D.bl (!PyData.eqv (.str a) (.str b))) S else .bad) = .ok (D.bl (!decide (a = b))) S
  rw [if_pos ⟨shaped_str ha, shaped_str hb⟩, eqv_str]
/-- what is plain: no dict within, no deeper than so -/
theorem ev_eqP {x y : D} {a b : PyData} {S : Sr} (ha : toPy S 9 x = some a) (hb : toPy S 9 y = some b) (h1 : SeqAt.shaped a = true) (h2 : SeqAt.shaped b = true) : dEq x y S = .ok (.bl (PyData.eqv a b)) S := by
  show (match toPy S 9 x, toPy S 9 y with
    | some a, some b => if SeqAt.shaped a = true ∧ SeqAt.shaped b = true then R.ok (D.bl (if false = true then !PyData.eqv a b else PyData.eqv a b)) S else .bad
    | _, _ => .bad) = _
  rw [ha, hb]
  show (if SeqAt.shaped a = true ∧ SeqAt.shaped b = true then R.ok (D.bl (if false = true then !PyData.eqv a b else PyData.eqv a b)) S else .bad) = _
  rw [if_pos ⟨h1, h2⟩]
  rfl
theorem ev_neP {x y : D} {a b : PyData} {S : Sr} (ha : toPy S 9 x = some a) (hb : toPy S 9 y = some b) (h1 : SeqAt.shaped a = true) (h2 : SeqAt.shaped b = true) : dNe x y S = .ok (.bl (!PyData.eqv a b)) S := by
  show (match toPy S 9 x, toPy S 9 y with
    | some a, some b => if SeqAt.shaped a = true ∧ SeqAt.shaped b = true then R.ok (D.bl (if true = true then !PyData.eqv a b else PyData.eqv a b)) S else .bad
    | _, _ => .bad) = _
  rw [ha, hb]
  show (if SeqAt.shaped a = true ∧ SeqAt.shaped b = true then R.ok (D.bl (if true = true then !PyData.eqv a b else PyData.eqv a b)) S else .bad) = _
  rw [if_pos ⟨h1, h2⟩]
  rfl
/-- it answers, and then so -/
def Tells (r : R D) (P : D → Sr → Prop) : Prop := match r with
  | .ok d S => P d S
  | _ => False
theorem Tells.get {r : R D} {P : D → Sr → Prop} (h : Tells r P) : ∃ d S, r = .ok d S ∧ P d S := by
  cases r with
  | ok d S => exact ⟨d, S, rfl, h⟩
  | exc q S => exact h.elim
  | bad => exact h.elim
theorem at_int {l : List Int} {n : Int} (h : 0 ≤ n) (h2 : n < l.length) : atI (l.map D.int) n = some (.int (l.getD n.toNat 0)) := by
  refine atI_nat h ?_
  have hl : n.toNat < l.length := by omega
  rw [List.getElem?_map, List.getElem?_eq_getElem hl, List.getD_eq_getElem?_getD, List.getElem?_eq_getElem hl]
  rfl
theorem ixN_map {α : Type} {f : Int → α} {l : List Int} {n : Int} (h : 0 ≤ n) (h2 : n < l.length) : ixN (l.map f).length n = some n.toNat := ixN_nat h (by rw [List.length_map]; exact h2)
theorem ixN_len {l : List Int} {n : Int} (h : 0 ≤ n) (h2 : n < l.length) : ixN l.length n = some n.toNat := ixN_nat h h2
theorem set_int {l : List Int} {k : Nat} {v : Int} : (l.map D.int).set k (.int v) = (l.set k v).map D.int := by rw [List.map_set]
/-! ### loops -/
/-- so far a turn: on to the next, or out -/
def tnM (I : Gm → Sr → Prop) (P : RS → Prop) (r : RS) : Prop := match r with
  | .nx g S => I g S
  | .ct g S => I g S
  | .bk g S => P (.nx g S)
  | r => P r
structure Tn (I : Gm → Sr → Prop) (P : RS → Prop) (r : RS) : Prop where
  out : tnM I P r
section
variable {I : Gm → Sr → Prop} {P : RS → Prop} {g : Gm} {S : Sr}
theorem tn_nx : Tn I P (.nx g S) ↔ I g S := ⟨fun h => h.out, fun h => ⟨h⟩⟩
theorem tn_ct : Tn I P (.ct g S) ↔ I g S := ⟨fun h => h.out, fun h => ⟨h⟩⟩
theorem tn_bk : Tn I P (.bk g S) ↔ P (.nx g S) := ⟨fun h => h.out, fun h => ⟨h⟩⟩
theorem tn_rt {d : D} : Tn I P (.rt d S) ↔ P (.rt d S) := ⟨fun h => h.out, fun h => ⟨h⟩⟩
end
theorem for_loop {sr : Src} {step : D → MS} {n : Nat} (I : Nat → Gm → Sr → Prop) (P : RS → Prop)
    (hs : ∀ i g S, i < n → I i g S → ∃ d, sr.nxt i S = some (some d) ∧ Tn (I (i + 1)) P (step d g S))
    (he : ∀ g S, I n g S → sr.nxt n S = some none ∧ P (.nx g S)) : ∀ (r i : Nat) (g : Gm) (S : Sr), i + r = n → I i g S → P (forG sr step r i g S)
  | 0, i, g, S, h, hi => by
    have e : i = n := by omega
    subst e
    obtain ⟨h1, h2⟩ := he g S hi
    unfold forG
    rw [h1]
    exact h2
  | r + 1, i, g, S, h, hi => by
    obtain ⟨d, h1, ⟨h2⟩⟩ := hs i g S (by omega) hi
    unfold forG
    rw [h1]
    dsimp only
    cases e : step d g S with
    | nx g' S' => rw [e] at h2; exact for_loop I P hs he r (i + 1) g' S' (by omega) h2
    | ct g' S' => rw [e] at h2; exact for_loop I P hs he r (i + 1) g' S' (by omega) h2
    | bk g' S' => rw [e] at h2; exact h2
    | rt v S' => rw [e] at h2; exact h2
    | ex q S' => rw [e] at h2; exact h2
    | bad => rw [e] at h2; exact h2
theorem lc_loop {sr : Src} {t : Tg} {mt : MT} {me : ME} {g0 : Gm} {D0 n : Nat} (I : Nat → List D → Sr → Prop)
    (hs : ∀ i acc S, i < n → I i acc S → S.f D0 = some (.lst acc) → ∃ d g, sr.nxt i S = some (some d) ∧ t.put d g0 = some g ∧ (mt g S = .ok false S ∧ I (i + 1) acc S ∨ (mt g S = .ok true S ∧ ∃ y S', me g S = .ok y S' ∧ S'.f D0 = some (.lst acc) ∧ acc.length < sizeLine ∧ I (i + 1) (acc ++ [y]) (S'.put D0 (.lst (acc ++ [y]))))))
    (he : ∀ acc S, I n acc S → sr.nxt n S = some none) : ∀ (r i : Nat) (acc : List D) (S : Sr), i + r = n → I i acc S → S.f D0 = some (.lst acc) → ∃ acc' S', lcG sr t mt me g0 D0 r i S = .ok () S' ∧ I n acc' S' ∧ S'.f D0 = some (.lst acc')
  | 0, i, acc, S, h, hi, hd => by
    have e : i = n := by omega
    subst e
    refine ⟨acc, S, ?_, hi, hd⟩
    unfold lcG
    rw [he acc S hi]
  | r + 1, i, acc, S, h, hi, hd => by
    obtain ⟨d, g, h1, h2, h3⟩ := hs i acc S (by omega) hi hd
    unfold lcG
    rw [h1]
    dsimp only
    rw [h2]
    dsimp only
    rcases h3 with ⟨h3, h4⟩ | ⟨h3, y, S', h4, h5, h6, h7⟩
    · rw [h3]
      exact lc_loop I hs he r (i + 1) acc S (by omega) h4 hd
    · rw [h3]
      dsimp only
      rw [h4]
      dsimp only
      rw [h5]
      dsimp only
      rw [if_pos h6]
      exact lc_loop I hs he r (i + 1) _ _ (by omega) h7 (if_pos rfl)
theorem items_adr {S : Sr} {i : Nat} {l : List D} (h : S.f i = some (.lst l)) : itemsD S (.adr i) = some l := by
  show (match S.f i with
    | some (.lst l) => some l
    | _ => none) = some l
  rw [h]
/-! ### lists of numbers compared -/
theorem mapO_ints {f : D → Option PyData} (h : ∀ i : Int, f (.int i) = some (.int i)) : ∀ l : List Int, mapO f (l.map D.int) = some (l.map PyData.int)
  | [] => rfl
  | i :: l => by
    have ih := mapO_ints h l
    rw [List.map_cons, mapO, h, ih]
    rfl
theorem py_int {S : Sr} {k : Nat} {i : Int} : toPy S k (.int i) = some (.int i) := by cases k <;> rfl
theorem py_str {S : Sr} {k : Nat} {i : Str} : toPy S k (.str i) = some (.str i) := by cases k <;> rfl
theorem py_bl {S : Sr} {k : Nat} {i : Bool} : toPy S k (.bl i) = some (.bool i) := by cases k <;> rfl
theorem py_ints {S : Sr} {k i : Nat} {l : List Int} (h : S.f i = some (.lst (l.map D.int))) : toPy S (k + 1) (.adr i) = some (.list (l.map PyData.int)) := by
  show (match S.f i with
    | some (.lst l) => (mapO (toPy S k) l).map PyData.list
    | _ => none) = _
  rw [h]
  show (mapO (toPy S k) (l.map D.int)).map PyData.list = _
  rw [mapO_ints fun i => py_int]
  rfl
theorem py_tints {S : Sr} {k : Nat} {l : List Int} : toPy S (k + 1) (.tup (l.map D.int)) = some (.tuple (l.map PyData.int)) := by
  show (mapO (toPy S k) (l.map D.int)).map PyData.tuple = _
  rw [mapO_ints fun i => py_int]
  rfl
theorem lay_ints : ∀ l : List Int, PyData.canLayAll0 (l.map PyData.int) = true ∧ PyData.depthAll (l.map PyData.int) = 0
  | [] => ⟨rfl, rfl⟩
  | i :: l => by
    obtain ⟨h1, h2⟩ := lay_ints l
    refine ⟨?_, ?_⟩
    · show (true && PyData.canLayAll0 (l.map PyData.int)) = true
      rw [h1]
      rfl
    · show max 0 (PyData.depthAll (l.map PyData.int)) = 0
      rw [h2]
      rfl
theorem shaped_list {l : List Int} : SeqAt.shaped (.list (l.map PyData.int)) = true := by
  obtain ⟨h1, h2⟩ := lay_ints l
  unfold SeqAt.shaped
  have e1 : PyData.canLay0 (.list (l.map PyData.int)) = true := h1
  have e2 : PyData.depth (.list (l.map PyData.int)) = 1 := by
    show PyData.depthAll (l.map PyData.int) + 1 = 1
    rw [h2]
  rw [e1, e2]
  rfl
theorem ne_empty {S : Sr} {i j : Nat} {l : List Int} (h : S.f i = some (.lst (l.map D.int))) (h2 : S.f j = some (.lst [])) : dNe (.adr i) (.adr j) S = .ok (.bl (!l.isEmpty)) S := by
  rw [ev_neP (py_ints h) (py_ints (l := []) h2) shaped_list shaped_list]
  cases l with
  | nil => rfl
  | cons a l =>
    have e : PyData.eqv (.list ((a :: l).map PyData.int)) (.list (([] : List Int).map PyData.int)) = false := by
      rw [PyData.eqv.eq_def]
      rfl
    rw [e]
    rfl
theorem eq_empty {S : Sr} {i j : Nat} {l : List Int} (h : S.f i = some (.lst (l.map D.int))) (h2 : S.f j = some (.lst [])) : dEq (.adr i) (.adr j) S = .ok (.bl l.isEmpty) S := by
  rw [ev_eqP (py_ints h) (py_ints (l := []) h2) shaped_list shaped_list]
  cases l with
  | nil => rfl
  | cons a l =>
    have e : PyData.eqv (.list ((a :: l).map PyData.int)) (.list (([] : List Int).map PyData.int)) = false := by
      rw [PyData.eqv.eq_def]
      rfl
    rw [e]
    rfl
theorem look_nil {κ : Type} [DecidableEq κ] {k : κ} : lookD [] k = none := rfl
theorem look_cons {κ : Type} [DecidableEq κ] {k k1 : κ} {v : D} {l : List (κ × D)} : lookD ((k1, v) :: l) k = if k1 = k then some v else lookD l k := by
  unfold lookD
  by_cases h : k1 = k
  · rw [if_pos h, List.find?_cons_of_pos (by simp [h])]
    rfl
  · rw [if_neg h, List.find?_cons_of_neg (by simp [h])]
/-! ### step by step -/
structure Does (r : R D) (P : D → Sr → Prop) : Prop where
  out : Tells r P
theorem Does.get {r : R D} {P : D → Sr → Prop} (h : Does r P) : ∃ d S, r = .ok d S ∧ P d S := h.out.get
def rpM (P : D → Sr → Prop) (r : RS) : Prop := match r with
  | .nx _ S => P .non S
  | .rt d S => P d S
  | _ => False
/-- a def's body ends, and then so -/
structure RP (P : D → Sr → Prop) (r : RS) : Prop where
  out : rpM P r
def nxM (b : MS) (Q : RS → Prop) (r : RS) : Prop := match r with
  | .nx g S => Q (b g S)
  | r => Q r
/-- behind a statement -/
structure Nx (b : MS) (Q : RS → Prop) (r : RS) : Prop where
  out : nxM b Q r
section
variable {P : D → Sr → Prop} {Q : RS → Prop} {b c : MS} {g g' : Gm} {S S' : Sr} {d : D}
theorem rp_nx : RP P (.nx g S) ↔ P .non S := ⟨fun h => h.out, fun h => ⟨h⟩⟩
theorem rp_rt : RP P (.rt d S) ↔ P d S := ⟨fun h => h.out, fun h => ⟨h⟩⟩
theorem nx_nx : Nx b Q (.nx g S) ↔ Q (b g S) := ⟨fun h => h.out, fun h => ⟨h⟩⟩
theorem nx_rt : Nx b Q (.rt d S) ↔ Q (.rt d S) := ⟨fun h => h.out, fun h => ⟨h⟩⟩
theorem nx_bk : Nx b Q (.bk g S) ↔ Q (.bk g S) := ⟨fun h => h.out, fun h => ⟨h⟩⟩
theorem fun_post {N : Nat} {b : MS} {l : List D} (h : RP P (b (l.map some ++ List.replicate (N - l.length) none) S)) : Does (mFun N b l S) P := by
  obtain ⟨h⟩ := h
  refine ⟨?_⟩
  unfold mFun
  cases e : b (l.map some ++ List.replicate (N - l.length) none) S with
  | nx g S' => rw [e] at h; exact h
  | rt d S' => rw [e] at h; exact h
  | bk g S' => rw [e] at h; exact h.elim
  | ct g S' => rw [e] at h; exact h.elim
  | ex q S' => rw [e] at h; exact h.elim
  | bad => rw [e] at h; exact h.elim
theorem seq_post {a b : MS} (h : Nx b Q (a g S)) : Q (mSeq a b g S) := by
  obtain ⟨h⟩ := h
  unfold mSeq
  cases e : a g S <;> rw [e] at h <;> exact h
theorem for_post {src : MI} {t : MG} {b : MS} {S1 : Sr} {sr : Src} (h : src g S = .ok sr S1) (hq : Q (forG sr (mStep t b) sr.n 0 g S1)) : Q (mFor src t b g S) := by
  unfold mFor
  rw [h]
  exact hq
theorem seq_rp {a b : MS} (h : Nx b (RP P) (a g S)) : RP P (mSeq a b g S) := seq_post (Q := RP P) h
theorem seq_tn {a b : MS} {I : Gm → Sr → Prop} {P : RS → Prop} (h : Nx b (Tn I P) (a g S)) : Tn I P (mSeq a b g S) := seq_post (Q := Tn I P) h
theorem for_nx {src : MI} {t : MG} {b c : MS} {S1 : Sr} {sr : Src} (h : src g S = .ok sr S1) (hq : Nx c Q (forG sr (mStep t b) sr.n 0 g S1)) : Nx c Q (mFor src t b g S) := for_post (Q := Nx c Q) h hq
theorem nx_of {a b : MS} (h : a g S = .nx g' S') (hq : Q (b g' S')) : Nx b Q (a g S) := by rw [h]; exact ⟨hq⟩
theorem tn_of {a : MS} {I : Gm → Sr → Prop} {P : RS → Prop} (h : a g S = .nx g' S') (hq : I g' S') : Tn I P (a g S) := by rw [h]; exact ⟨hq⟩
end
theorem mLc_ok {src : MI} {t : Tg} {mt : MT} {me : ME} {vs : List Nat} {g : Gm} {S S1 S2 : Sr} {sr : Src} (h : src g S = .ok sr S1) (hl : lcG sr t mt me (wipeD g vs) S1.n sr.n 0 (S1.alloc (.lst [])) = .ok () S2) : mLc src t mt me vs g S = .ok (.adr S1.n) S2 := by
  unfold mLc SM.bind
  rw [h]
  dsimp only
  rw [hl]
end Y

set_option Elab.async false
set_option linter.all false
set_option maxRecDepth 100000
namespace K10
open PySem PySem.Spec PyProof.Rows L2 Y
def subT : Str → Str → Bool := fun a b => decide (a = b)
def qsT : List Str := ["CodeError", "RunError"]
def clT : Tcl := [("CodeError", "CodeError"), ("RunError", "RunError")]
def dd_Machine___init___1 : List D := [.ktp []]
def K_INSTRUCTIONS : D := .ktp [.str "halt", .str "set", .str "load", .str "store", .str "add", .str "sub", .str "and", .str "xor", .str "jump", .str "zero", .str "less", .str "out", .str "in", .str "half", .str "from", .str "to"]
def K_JUMPS : D := .ktp [.str "jump", .str "zero", .str "less"]
def K_PLAIN : D := .ktp [.str "halt", .str "out", .str "in", .str "half"]
def N_Size___init__ : List Str := ["self", "data", "code"]
def b_Size___init__ : MS := (mSeq (mIfS (mOr (mNot (mTB (mChain dLe dLe (mC (.int 2)) (mVar 1) (mC (.int 8))))) (mNot (mTB (mChain dLe dLe (mC (.int 2)) (mVar 2) (mC (.int 8)))))) (mRaise "CodeError") mPass)
  (mSeq (mFld ["Size"] "data" (mVar 0) (mVar 1))
  (mFld ["Size", "Machine"] "code" (mVar 0) (mVar 2))))
def f_Size___init__ : List D → SM D := mFun 3 b_Size___init__
def N_Size_argument : List Str := ["self"]
def b_Size_argument : MS := (mRet (mCB fMax2 (mCons (mAttr ["Size"] "data" (mVar 0)) (mCons (mAttr ["Size", "Machine"] "code" (mVar 0)) mNil))))
def f_Size_argument : List D → SM D := mFun 1 b_Size_argument
def N_Size_width : List Str := ["self"]
def b_Size_width : MS := (mRet (mB dAdd (mC (.int 4)) (mMeth "Size" "argument" f_Size_argument 1 [] (mVar 0) mNil)))
def f_Size_width : List D → SM D := mFun 1 b_Size_width
def N_check_instruction : List Str := ["row", "size", "bits"]
def b_check_instruction : MS := (mSeq (mIfS (mOr (mTB (mB dNe (mCB fLen (mCons (mVar 0) mNil)) (mC (.int 2)))) (mOr (mTB (mB (dIn true) (mB dIx (mVar 0) (mC (.int 0))) (mC K_INSTRUCTIONS))) (mNot (mTB (mU (fIsi "int") (mB dIx (mVar 0) (mC (.int 1)))))))) (mRaise "CodeError") mPass)
  (mSeq (mSet 2 (mIf (mTB (mB (dIn false) (mB dIx (mVar 0) (mC (.int 0))) (mC K_PLAIN))) (mC (.int 0)) (mIf (mTB (mB (dIn false) (mB dIx (mVar 0) (mC (.int 0))) (mC K_JUMPS))) (mAttr ["Size", "Machine"] "code" (mVar 1)) (mAttr ["Size"] "data" (mVar 1)))))
  (mIfS (mNot (mTB (mChain dLe dLt (mC (.int 0)) (mB dIx (mVar 0) (mC (.int 1))) (mB dShl (mC (.int 1)) (mVar 2))))) (mRaise "CodeError") mPass)))
def f_check_instruction : List D → SM D := mFun 3 b_check_instruction
def N_encoded : List Str := ["row", "size"]
def b_encoded : MS := (mSeq (mDrop (mCall f_check_instruction 2 [] (mCons (mVar 0) (mCons (mVar 1) mNil))))
  (mRet (mB dAdd (mB dShl (mBM "tuple" fTix (mC K_INSTRUCTIONS) (mCons (mB dIx (mVar 0) (mC (.int 0))) mNil)) (mMeth "Size" "argument" f_Size_argument 1 [] (mVar 1) mNil)) (mB dIx (mVar 0) (mC (.int 1))))))
def f_encoded : List D → SM D := mFun 2 b_encoded
def N_decoded : List Str := ["code", "size", "row"]
def b_decoded : MS := (mSeq (mIfS (mNot (mTB (mChain dLe dLt (mC (.int 0)) (mVar 0) (mB dShl (mC (.int 1)) (mMeth "Size" "width" f_Size_width 1 [] (mVar 1) mNil))))) (mRaise "CodeError") mPass)
  (mSeq (mSet 2 (mTup (mCons (mB dIx (mC K_INSTRUCTIONS) (mB dShr (mVar 0) (mMeth "Size" "argument" f_Size_argument 1 [] (mVar 1) mNil))) (mCons (mB dMod (mVar 0) (mB dShl (mC (.int 1)) (mMeth "Size" "argument" f_Size_argument 1 [] (mVar 1) mNil))) mNil))))
  (mSeq (mDrop (mCall f_check_instruction 2 [] (mCons (mVar 2) (mCons (mVar 1) mNil))))
  (mRet (mVar 2)))))
def f_decoded : List D → SM D := mFun 3 b_decoded
def N_Machine___init__ : List Str := ["self", "size", "code", "coming", "row"]
def b_Machine___init___L45 : MS := (mDrop (mCall f_check_instruction 2 [] (mCons (mVar 4) (mCons (mVar 1) mNil))))
def b_Machine___init__ : MS := (mSeq (mIfS (mTB (mB dGt (mCB fLen (mCons (mVar 2) mNil)) (mB dShl (mC (.int 1)) (mAttr ["Size", "Machine"] "code" (mVar 1))))) (mRaise "CodeError") mPass)
  (mSeq (mFor (mSrc (mVar 2)) (gNm 4) b_Machine___init___L45)
  (mSeq (mFld ["Machine"] "size" (mVar 0) (mVar 1))
  (mSeq (mFld ["Size", "Machine"] "code" (mVar 0) (mCB fTuple (mCons (mVar 2) mNil)))
  (mSeq (mFld ["Machine"] "coming" (mVar 0) (mCB fList (mCons (mVar 3) mNil)))
  (mSeq (mFld ["Machine"] "acc" (mVar 0) (mC (.int 0)))
  (mSeq (mFld ["Machine"] "carry" (mVar 0) (mC (.int 0)))
  (mSeq (mFld ["Machine"] "place" (mVar 0) (mC (.int 0)))
  (mSeq (mFld ["Machine"] "memory" (mVar 0) (mB dMul (mLst (mCons (mC (.int 0)) mNil)) (mB dShl (mC (.int 1)) (mAttr ["Size"] "data" (mVar 1)))))
  (mSeq (mFld ["Machine"] "sent" (mVar 0) (mLst mNil))
  (mFld ["Machine"] "halted" (mVar 0) (mC (.bl false)))))))))))))
def f_Machine___init__ : List D → SM D := mFun 5 b_Machine___init__
def N_Machine_instruction : List Str := ["self"]
def b_Machine_instruction : MS := (mRet (mIf (mTB (mB dLt (mAttr ["Machine"] "place" (mVar 0)) (mCB fLen (mCons (mAttr ["Size", "Machine"] "code" (mVar 0)) mNil)))) (mB dIx (mAttr ["Size", "Machine"] "code" (mVar 0)) (mAttr ["Machine"] "place" (mVar 0))) (mTup (mCons (mC (.str "halt")) (mCons (mC (.int 0)) mNil)))))
def f_Machine_instruction : List D → SM D := mFun 1 b_Machine_instruction
def N_Machine_reckon : List Str := ["self", "word", "number", "most", "found"]
def b_Machine_reckon : MS := (mSeq (mSet 3 (mB dShl (mC (.int 1)) (mAttr ["Size"] "data" (mAttr ["Machine"] "size" (mVar 0)))))
  (mIfS (mTB (mB dEq (mVar 1) (mC (.str "set")))) (mFld ["Machine"] "acc" (mVar 0) (mVar 2)) (mIfS (mTB (mB dEq (mVar 1) (mC (.str "in")))) (mFld ["Machine"] "acc" (mVar 0) (mIf (mTB (mB dNe (mAttr ["Machine"] "coming" (mVar 0)) (mLst mNil))) (mB dMod (mBM "list" fPopAt (mAttr ["Machine"] "coming" (mVar 0)) (mCons (mC (.int 0)) mNil)) (mVar 3)) (mC (.int 0)))) (mIfS (mTB (mB dEq (mVar 1) (mC (.str "half")))) (mAsg (mTup (mCons (mB dMod (mAttr ["Machine"] "acc" (mVar 0)) (mC (.int 2))) (mCons (mB dFdiv (mAttr ["Machine"] "acc" (mVar 0)) (mC (.int 2))) mNil))) (gTp 2 (gCn (gFld ["Machine"] "carry" (mVar 0)) (gCn (gFld ["Machine"] "acc" (mVar 0)) gNl)))) (mIfS (mTB (mB dEq (mVar 1) (mC (.str "load")))) (mFld ["Machine"] "acc" (mVar 0) (mB dIx (mAttr ["Machine"] "memory" (mVar 0)) (mVar 2))) (mIfS (mTB (mB dEq (mVar 1) (mC (.str "from")))) (mFld ["Machine"] "acc" (mVar 0) (mB dIx (mAttr ["Machine"] "memory" (mVar 0)) (mB dIx (mAttr ["Machine"] "memory" (mVar 0)) (mVar 2)))) (mIfS (mTB (mB dEq (mVar 1) (mC (.str "and")))) (mFldAug ["Machine"] "acc" dAnd (mVar 0) (mB dIx (mAttr ["Machine"] "memory" (mVar 0)) (mVar 2))) (mIfS (mTB (mB dEq (mVar 1) (mC (.str "xor")))) (mFldAug ["Machine"] "acc" dXor (mVar 0) (mB dIx (mAttr ["Machine"] "memory" (mVar 0)) (mVar 2))) (mSeq (mSet 4 (mIf (mTB (mB dEq (mVar 1) (mC (.str "add")))) (mB dAdd (mAttr ["Machine"] "acc" (mVar 0)) (mB dIx (mAttr ["Machine"] "memory" (mVar 0)) (mVar 2))) (mB dSub (mAttr ["Machine"] "acc" (mVar 0)) (mB dIx (mAttr ["Machine"] "memory" (mVar 0)) (mVar 2)))))
  (mSeq (mFld ["Machine"] "carry" (mVar 0) (mIf (mNot (mTB (mChain dLe dLt (mC (.int 0)) (mVar 4) (mVar 3)))) (mC (.int 1)) (mC (.int 0))))
  (mFld ["Machine"] "acc" (mVar 0) (mB dMod (mVar 4) (mVar 3)))))))))))))
def f_Machine_reckon : List D → SM D := mFun 5 b_Machine_reckon
def N_Machine_step : List Str := ["self", "word", "number", "following"]
def b_Machine_step : MS := (mSeq (mIfS (mTB (mAttr ["Machine"] "halted" (mVar 0))) (mRaise "RunError") mPass)
  (mSeq (mAsg (mMeth "Machine" "instruction" f_Machine_instruction 1 [] (mVar 0) mNil) (gTp 2 (gCn (gNm 1) (gCn (gNm 2) gNl))))
  (mSeq (mSet 3 (mB dMod (mB dAdd (mAttr ["Machine"] "place" (mVar 0)) (mC (.int 1))) (mB dShl (mC (.int 1)) (mAttr ["Size", "Machine"] "code" (mAttr ["Machine"] "size" (mVar 0))))))
  (mSeq (mIfS (mTB (mB dEq (mVar 1) (mC (.str "halt")))) (mSeq (mFld ["Machine"] "halted" (mVar 0) (mC (.bl true)))
  (mSet 3 (mAttr ["Machine"] "place" (mVar 0)))) (mIfS (mTB (mB (dIn false) (mVar 1) (mC K_JUMPS))) (mIfS (mOr (mTB (mB dEq (mVar 1) (mC (.str "jump")))) (mOr (mAnd (mTB (mB dEq (mVar 1) (mC (.str "zero")))) (mTB (mB dEq (mAttr ["Machine"] "acc" (mVar 0)) (mC (.int 0))))) (mAnd (mTB (mB dEq (mVar 1) (mC (.str "less")))) (mTB (mB dEq (mAttr ["Machine"] "carry" (mVar 0)) (mC (.int 1))))))) (mSet 3 (mVar 2)) mPass) (mIfS (mTB (mB dEq (mVar 1) (mC (.str "out")))) (mDrop (mBM "list" fApp (mAttr ["Machine"] "sent" (mVar 0)) (mCons (mAttr ["Machine"] "acc" (mVar 0)) mNil))) (mIfS (mTB (mB dEq (mVar 1) (mC (.str "to")))) (mAsg (mAttr ["Machine"] "acc" (mVar 0)) (gSub' (mAttr ["Machine"] "memory" (mVar 0)) (mB dIx (mAttr ["Machine"] "memory" (mVar 0)) (mVar 2)))) (mIfS (mTB (mB dEq (mVar 1) (mC (.str "store")))) (mAsg (mAttr ["Machine"] "acc" (mVar 0)) (gSub' (mAttr ["Machine"] "memory" (mVar 0)) (mVar 2))) (mDrop (mMeth "Machine" "reckon" f_Machine_reckon 3 [] (mVar 0) (mCons (mVar 1) (mCons (mVar 2) mNil)))))))))
  (mFld ["Machine"] "place" (mVar 0) (mVar 3))))))
def f_Machine_step : List D → SM D := mFun 4 b_Machine_step
def N_Machine_run : List Str := ["self", "most", "turn"]
def b_Machine_run_L103 : MS := (mSeq (mIfS (mTB (mAttr ["Machine"] "halted" (mVar 0))) mBrk mPass)
  (mDrop (mMeth "Machine" "step" f_Machine_step 1 [] (mVar 0) mNil)))
def b_Machine_run : MS := (mSeq (mFor (mRng1 (mCons (mVar 1) mNil)) (gNm 2) b_Machine_run_L103)
  (mRet (mAttr ["Machine"] "halted" (mVar 0))))
def f_Machine_run : List D → SM D := mFun 3 b_Machine_run
def N_Machine_shown : List Str := ["self"]
def b_Machine_shown : MS := (mRet (mTup (mCons (mAttr ["Machine"] "acc" (mVar 0)) (mCons (mAttr ["Machine"] "carry" (mVar 0)) (mCons (mAttr ["Machine"] "place" (mVar 0)) (mCons (mCB fTuple (mCons (mAttr ["Machine"] "memory" (mVar 0)) mNil)) (mCons (mCB fTuple (mCons (mAttr ["Machine"] "sent" (mVar 0)) mNil)) (mCons (mAttr ["Machine"] "halted" (mVar 0)) mNil))))))))
def f_Machine_shown : List D → SM D := mFun 1 b_Machine_shown
def N__law_dice : List Str := ["cell"]
def b__law_dice : MS := (mSeq (mIfS (mTB (mChain dLt dLt (mB dSub (mC (.int 0)) (mC (.int 10))) (mVar 0) (mC (.int 10)))) (mRet (mLst (mCons (mCB fAbs (mCons (mVar 0) mNil)) (mCons (mC (.int 0)) (mCons (mC (.int 2)) mNil))))) mPass)
  (mRet (mLst (mCons (mVar 0) (mCons (mB dAdd (mC (.int 1)) (mB dMod (mCB fInt (mCons (mVar 0) mNil)) (mC (.int 1009)))) (mCons (mCB fInt (mCons (mB dGe (mVar 0) (mB dPow (mC (.int 10)) (mC (.int 18)))) mNil)) mNil))))))
def f__law_dice : List D → SM D := mFun 1 b__law_dice
def N__law_roll : List Str := ["dice", "many", "found"]
def b__law_roll : MS := (mSeq (mIfS (mOr (mTB (mB dEq (mB dIx (mVar 0) (mC (.int 2))) (mC (.int 2)))) (mAnd (mTB (mB dEq (mB dIx (mVar 0) (mC (.int 2))) (mC (.int 1)))) (mTB (mB dGt (mB dIx (mVar 0) (mC (.int 0))) (mC (.int 0)))))) (mSeq (mSet 2 (mB dMod (mCB fInt (mCons (mB dIx (mVar 0) (mC (.int 0))) mNil)) (mVar 1)))
  (mSeq (mAsg (mB dFdiv (mB dIx (mVar 0) (mC (.int 0))) (mVar 1)) (gSub' (mVar 0) (mC (.int 0))))
  (mRet (mVar 2)))) mPass)
  (mSeq (mAsg (mC (.int 0)) (gSub' (mVar 0) (mC (.int 2))))
  (mSeq (mIfS (mTB (mB dGt (mVar 1) (mC (.int 100000000)))) (mRet (mB dMod (mCB fInt (mCons (mB dAdd (mB dMul mBad (mC (.int 100000000))) mBad) mNil)) (mVar 1))) mPass)
  (mSeq (mAsg (mB dMod (mCB fInt (mCons (mB dAdd (mB dAdd (mB dMul (mB dIx (mVar 0) (mC (.int 0))) (mC (.int 48271))) (mB dMul (mB dIx (mVar 0) (mC (.int 1))) (mC (.int 69621)))) (mC (.int 11))) mNil)) (mC (.int 2147483647))) (gSub' (mVar 0) (mC (.int 0))))
  (mSeq (mAsg (mB dAdd (mB dIx (mVar 0) (mC (.int 1))) (mC (.int 1))) (gSub' (mVar 0) (mC (.int 1))))
  (mRet (mB dMod (mCB fInt (mCons (mB dFdiv (mB dIx (mVar 0) (mC (.int 0))) (mC (.int 7))) mNil)) (mVar 1))))))))
def f__law_roll : List D → SM D := mFun 3 b__law_roll
def N__law_rounds : List Str := ["script", "most", "cells", "cell"]
def b__law_rounds : MS := (mSeq (mSet 2 (mSl slD (mVar 0) oNo (oE (mVar 1))))
  (mSeq (mIfS (mTB (mB dEq (mVar 2) (mLst mNil))) (mSet 2 (mLst (mCons (mC (.int 0)) mNil))) mPass)
  (mRet (mLc (mSrc (mVar 2)) (.nm 3) mYes (mCall f__law_dice 1 [] (mCons (mVar 3) mNil)) [3]))))
def f__law_rounds : List D → SM D := mFun 4 b__law_rounds
def N__law_row : List Str := ["dice", "data", "code", "many", "word"]
def b__law_row : MS := (mSeq (mSet 4 (mB dIx (mC K_INSTRUCTIONS) (mCall f__law_roll 2 [] (mCons (mVar 0) (mCons (mC (.int 16)) mNil)))))
  (mSeq (mIfS (mTB (mB (dIn false) (mVar 4) (mLst (mCons (mC (.str "halt")) (mCons (mC (.str "out")) (mCons (mC (.str "in")) (mCons (mC (.str "half")) mNil))))))) (mRet (mTup (mCons (mIf (mOr (mTB (mB dNe (mVar 4) (mC (.str "halt")))) (mTB (mB dEq (mCall f__law_roll 2 [] (mCons (mVar 0) (mCons (mC (.int 3)) mNil))) (mC (.int 0))))) (mVar 4) (mC (.str "out"))) (mCons (mC (.int 0)) mNil)))) mPass)
  (mRet (mTup (mCons (mVar 4) (mCons (mCall f__law_roll 2 [] (mCons (mVar 0) (mCons (mIf (mTB (mB (dIn false) (mVar 4) (mLst (mCons (mC (.str "jump")) (mCons (mC (.str "zero")) (mCons (mC (.str "less")) mNil)))))) (mCB fMin2 (mCons (mB dAdd (mVar 3) (mC (.int 1))) (mCons (mB dShl (mC (.int 1)) (mVar 2)) mNil))) (mB dShl (mC (.int 1)) (mVar 1))) mNil))) mNil))))))
def f__law_row : List D → SM D := mFun 5 b__law_row
def N__law_step : List Str := ["own", "row", "most", "places", "word", "number", "memory", "following", "total"]
def b__law_step : MS := (mSeq (mPar3 4 5 6 (mCons (mB dIx (mVar 1) (mC (.int 0))) (mCons (mB dIx (mVar 1) (mC (.int 1))) (mCons (mB dIx (mVar 0) (mC (.str "memory"))) mNil))))
  (mSeq (mSet 7 (mB dMod (mB dAdd (mB dIx (mVar 0) (mC (.str "place"))) (mC (.int 1))) (mVar 3)))
  (mSeq (mIfS (mTB (mB dEq (mVar 4) (mC (.str "halt")))) (mAsg (mTup (mCons (mC (.bl true)) (mCons (mB dIx (mVar 0) (mC (.str "place"))) mNil))) (gTp 2 (gCn (gSub' (mVar 0) (mC (.str "halted"))) (gCn (gNm 7) gNl)))) (mIfS (mTB (mB (dIn false) (mVar 4) (mLst (mCons (mC (.str "jump")) (mCons (mC (.str "zero")) (mCons (mC (.str "less")) mNil)))))) (mSet 7 (mIf (mTB (mB dIx (mDisp (((mC (.str "jump")), (mC (.bl true))) :: ((mC (.str "zero")), (mB dEq (mB dIx (mVar 0) (mC (.str "acc"))) (mC (.int 0)))) :: ((mC (.str "less")), (mB dEq (mB dIx (mVar 0) (mC (.str "carry"))) (mC (.int 1)))) :: [])) (mVar 4))) (mVar 5) (mVar 7))) (mIfS (mTB (mB dEq (mVar 4) (mC (.str "set")))) (mAsg (mVar 5) (gSub' (mVar 0) (mC (.str "acc")))) (mIfS (mTB (mB dEq (mVar 4) (mC (.str "out")))) (mAsg (mB dAdd (mB dIx (mVar 0) (mC (.str "sent"))) (mLst (mCons (mB dIx (mVar 0) (mC (.str "acc"))) mNil))) (gSub' (mVar 0) (mC (.str "sent")))) (mIfS (mTB (mB dEq (mVar 4) (mC (.str "in")))) (mAsg (mTup (mCons (mIf (mTB (mB dNe (mB dIx (mVar 0) (mC (.str "ins"))) (mLst mNil))) (mB dMod (mB dIx (mB dIx (mVar 0) (mC (.str "ins"))) (mC (.int 0))) (mVar 2)) (mC (.int 0))) (mCons (mSl slD (mB dIx (mVar 0) (mC (.str "ins"))) (oE (mC (.int 1))) oNo) mNil))) (gTp 2 (gCn (gSub' (mVar 0) (mC (.str "acc"))) (gCn (gSub' (mVar 0) (mC (.str "ins"))) gNl)))) (mIfS (mTB (mB dEq (mVar 4) (mC (.str "half")))) (mAsg (mTup (mCons (mB dMod (mB dIx (mVar 0) (mC (.str "acc"))) (mC (.int 2))) (mCons (mB dFdiv (mB dIx (mVar 0) (mC (.str "acc"))) (mC (.int 2))) mNil))) (gTp 2 (gCn (gSub' (mVar 0) (mC (.str "carry"))) (gCn (gSub' (mVar 0) (mC (.str "acc"))) gNl)))) (mIfS (mTB (mB (dIn false) (mVar 4) (mLst (mCons (mC (.str "store")) (mCons (mC (.str "to")) mNil))))) (mAsg (mB dIx (mVar 0) (mC (.str "acc"))) (gSub' (mVar 6) (mIf (mTB (mB dEq (mVar 4) (mC (.str "store")))) (mVar 5) (mB dIx (mVar 6) (mVar 5))))) (mIfS (mTB (mB (dIn false) (mVar 4) (mLst (mCons (mC (.str "load")) (mCons (mC (.str "from")) mNil))))) (mAsg (mIf (mTB (mB dEq (mVar 4) (mC (.str "load")))) (mB dIx (mVar 6) (mVar 5)) (mB dIx (mVar 6) (mB dIx (mVar 6) (mVar 5)))) (gSub' (mVar 0) (mC (.str "acc")))) (mIfS (mTB (mB (dIn false) (mVar 4) (mLst (mCons (mC (.str "and")) (mCons (mC (.str "xor")) mNil))))) (mAsg (mIf (mTB (mB dEq (mVar 4) (mC (.str "and")))) (mB dAnd (mB dIx (mVar 0) (mC (.str "acc"))) (mB dIx (mVar 6) (mVar 5))) (mB dXor (mB dIx (mVar 0) (mC (.str "acc"))) (mB dIx (mVar 6) (mVar 5)))) (gSub' (mVar 0) (mC (.str "acc")))) (mSeq (mSet 8 (mB dAdd (mB dIx (mVar 0) (mC (.str "acc"))) (mIf (mTB (mB dEq (mVar 4) (mC (.str "add")))) (mB dIx (mVar 6) (mVar 5)) (mU dNeg (mB dIx (mVar 6) (mVar 5))))))
  (mAsg (mTup (mCons (mCB fInt (mCons (mNotV (mChain dLe dLt (mC (.int 0)) (mVar 8) (mVar 2))) mNil)) (mCons (mB dMod (mVar 8) (mVar 2)) mNil))) (gTp 2 (gCn (gSub' (mVar 0) (mC (.str "carry"))) (gCn (gSub' (mVar 0) (mC (.str "acc"))) gNl))))))))))))))
  (mAsg (mVar 7) (gSub' (mVar 0) (mC (.str "place")))))))
def f__law_step : List D → SM D := mFun 9 b__law_step
def N_law : List Str := ["script", "dice", "data", "code", "size", "many", "rows", "come", "machine", "own", "step", "row", "again", "halted", "number", "word", "bits", "small", "bad", "k", "f"]
def b_law_s171 : MS := (mAsg (mTup (mCons (mB dAdd (mC (.int 2)) (mCall f__law_roll 2 [] (mCons (mVar 1) (mCons (mC (.int 7)) mNil)))) (mCons (mB dAdd (mC (.int 2)) (mCall f__law_roll 2 [] (mCons (mVar 1) (mCons (mC (.int 7)) mNil)))) mNil))) (gTp 2 (gCn (gNm 2) (gCn (gNm 3) gNl))))
def b_law_s172 : MS := (mAsg (mTup (mCons (mMake "Size" f_Size___init__ 3 [] (mCons (mVar 2) (mCons (mVar 3) mNil))) (mCons (mB dAdd (mC (.int 1)) (mCall f__law_roll 2 [] (mCons (mVar 1) (mCons (mCB fMin2 (mCons (mC (.int 30)) (mCons (mB dShl (mC (.int 1)) (mVar 3)) mNil))) mNil)))) mNil))) (gTp 2 (gCn (gNm 4) (gCn (gNm 5) gNl))))
def b_law_s173 : MS := (mSet 6 (mLc (mRng1 (mCons (mVar 5) mNil)) (.nm 19) mYes (mCall f__law_row 4 [] (mCons (mVar 1) (mCons (mVar 2) (mCons (mVar 3) (mCons (mVar 5) mNil))))) [19]))
def b_law_s174 : MS := (mSet 7 (mLc (mRng1 (mCons (mCall f__law_roll 2 [] (mCons (mVar 1) (mCons (mC (.int 5)) mNil))) mNil)) (.nm 19) mYes (mCall f__law_roll 2 [] (mCons (mVar 1) (mCons (mC (.int 300)) mNil))) [19]))
def b_law_s175 : MS := (mSet 8 (mMake "Machine" f_Machine___init__ 4 [] (mCons (mVar 4) (mCons (mVar 6) (mCons (mVar 7) mNil)))))
def b_law_s176 : MS := (mSet 9 (mDisp (((mC (.str "acc")), (mC (.int 0))) :: ((mC (.str "carry")), (mC (.int 0))) :: ((mC (.str "place")), (mC (.int 0))) :: ((mC (.str "memory")), (mB dMul (mLst (mCons (mC (.int 0)) mNil)) (mB dShl (mC (.int 1)) (mVar 2)))) :: ((mC (.str "sent")), (mLst mNil)) :: ((mC (.str "halted")), (mC (.bl false))) :: ((mC (.str "ins")), (mVar 7)) :: [])))
def b_law_s178 : MS := (mRet (mC (.bl false)))
def b_law_s177 : MS := (mIfS (mOr (mTB (mB dNe (mMeth "Size" "argument" f_Size_argument 1 [] (mVar 4) mNil) (mCB fMax2 (mCons (mVar 2) (mCons (mVar 3) mNil))))) (mTB (mB dNe (mMeth "Size" "width" f_Size_width 1 [] (mVar 4) mNil) (mB dAdd (mC (.int 4)) (mCB fMax2 (mCons (mVar 2) (mCons (mVar 3) mNil))))))) b_law_s178 mPass)
def b_law_s183 : MS := (mRet (mC (.bl false)))
def b_law_s181 : MS := (mIfS (mTB (mB dNe (mTold subT qsT clT (mMeth "Machine" "step" f_Machine_step 1 [] (mVar 8) mNil)) (mC (.str "RunError")))) b_law_s183 mPass)
def b_law_s184 : MS := mBrk
def b_law_s180 : MS := (mIfS (mTB (mB dIx (mVar 9) (mC (.str "halted")))) (mSeq b_law_s181
  b_law_s184) mPass)
def b_law_s185 : MS := (mSet 11 (mIf (mTB (mB dLt (mB dIx (mVar 9) (mC (.str "place"))) (mVar 5))) (mB dIx (mVar 6) (mB dIx (mVar 9) (mC (.str "place")))) (mTup (mCons (mC (.str "halt")) (mCons (mC (.int 0)) mNil)))))
def b_law_s187 : MS := (mRet (mC (.bl false)))
def b_law_s186 : MS := (mIfS (mTB (mB dNe (mMeth "Machine" "instruction" f_Machine_instruction 1 [] (mVar 8) mNil) (mVar 11))) b_law_s187 mPass)
def b_law_s188 : MS := (mDrop (mMeth "Machine" "step" f_Machine_step 1 [] (mVar 8) mNil))
def b_law_s189 : MS := (mDrop (mCall f__law_step 4 [] (mCons (mVar 9) (mCons (mVar 11) (mCons (mB dShl (mC (.int 1)) (mVar 2)) (mCons (mB dShl (mC (.int 1)) (mVar 3)) mNil))))))
def b_law_s191 : MS := (mRet (mC (.bl false)))
def b_law_s190 : MS := (mIfS (mTB (mB dNe (mMeth "Machine" "shown" f_Machine_shown 1 [] (mVar 8) mNil) (mTup (mCons (mB dIx (mVar 9) (mC (.str "acc"))) (mCons (mB dIx (mVar 9) (mC (.str "carry"))) (mCons (mB dIx (mVar 9) (mC (.str "place"))) (mCons (mCB fTuple (mCons (mB dIx (mVar 9) (mC (.str "memory"))) mNil)) (mCons (mCB fTuple (mCons (mB dIx (mVar 9) (mC (.str "sent"))) mNil)) (mCons (mB dIx (mVar 9) (mC (.str "halted"))) mNil))))))))) b_law_s191 mPass)
def b_law_L179 : MS := (mSeq b_law_s180
  (mSeq b_law_s185
  (mSeq b_law_s186
  (mSeq b_law_s188
  (mSeq b_law_s189
  b_law_s190)))))
def b_law_s179 : MS := (mFor (mRng1 (mCons (mCall f__law_roll 2 [] (mCons (mVar 1) (mCons (mC (.int 101)) mNil))) mNil)) (gNm 10) b_law_L179)
def b_law_s192 : MS := (mSet 12 (mMake "Machine" f_Machine___init__ 4 [] (mCons (mVar 4) (mCons (mVar 6) (mCons (mVar 7) mNil)))))
def b_law_s193 : MS := (mSet 13 (mMeth "Machine" "run" f_Machine_run 2 [] (mVar 12) (mCons (mC (.int 2000)) mNil)))
def b_law_s195 : MS := (mRet (mC (.bl false)))
def b_law_s194 : MS := (mIfS (mOr (mTB (mB dNe (mVar 13) (mAttr ["Machine"] "halted" (mVar 12)))) (mAnd (mTB (mVar 13)) (mTB (mB (dIs true) (mMeth "Machine" "run" f_Machine_run 2 [] (mVar 12) (mCons (mC (.int 5)) mNil)) (mC (.bl true)))))) b_law_s195 mPass)
def b_law_s197 : MS := (mSet 14 (mCall f_encoded 2 [] (mCons (mVar 11) (mCons (mVar 4) mNil))))
def b_law_s199 : MS := (mRet (mC (.bl false)))
def b_law_s198 : MS := (mIfS (mOr (mTB (mB dNe (mVar 14) (mB dAdd (mB dMul (mBM "tuple" fTix (mC K_INSTRUCTIONS) (mCons (mB dIx (mVar 11) (mC (.int 0))) mNil)) (mB dShl (mC (.int 1)) (mCB fMax2 (mCons (mVar 2) (mCons (mVar 3) mNil))))) (mB dIx (mVar 11) (mC (.int 1)))))) (mOr (mTB (mB dNe (mCall f_decoded 2 [] (mCons (mVar 14) (mCons (mVar 4) mNil))) (mVar 11))) (mTB (mB (dIs true) (mCall f_check_instruction 2 [] (mCons (mVar 11) (mCons (mVar 4) mNil))) (mC .non))))) b_law_s199 mPass)
def b_law_L196 : MS := (mSeq b_law_s197
  b_law_s198)
def b_law_s196 : MS := (mFor (mSrc (mVar 6)) (gNm 11) b_law_L196)
def b_law_s200 : MS := (mAsg (mTup (mCons (mB dIx (mC K_INSTRUCTIONS) (mCall f__law_roll 2 [] (mCons (mVar 1) (mCons (mC (.int 16)) mNil)))) (mCons (mCall f__law_roll 2 [] (mCons (mVar 1) (mCons (mC (.int 600)) mNil))) mNil))) (gTp 2 (gCn (gNm 15) (gCn (gNm 14) gNl))))
def b_law_s201 : MS := (mSet 16 (mIf (mTB (mB (dIn false) (mVar 15) (mLst (mCons (mC (.str "halt")) (mCons (mC (.str "out")) (mCons (mC (.str "in")) (mCons (mC (.str "half")) mNil))))))) (mC (.int 0)) (mIf (mTB (mB (dIn false) (mVar 15) (mLst (mCons (mC (.str "jump")) (mCons (mC (.str "zero")) (mCons (mC (.str "less")) mNil)))))) (mVar 3) (mVar 2))))
def b_law_s204 : MS := (mRet (mC (.bl false)))
def b_law_s202 : MS := (mIfS (mTB (mB dNe (mB dEq (mTold subT qsT clT (mCall f_check_instruction 2 [] (mCons (mTup (mCons (mVar 15) (mCons (mVar 14) mNil))) (mCons (mVar 4) mNil)))) (mC (.str "CodeError"))) (mB dGe (mVar 14) (mB dShl (mC (.int 1)) (mVar 16))))) b_law_s204 mPass)
def b_law_L170 : MS := (mSeq b_law_s171
  (mSeq b_law_s172
  (mSeq b_law_s173
  (mSeq b_law_s174
  (mSeq b_law_s175
  (mSeq b_law_s176
  (mSeq b_law_s177
  (mSeq b_law_s179
  (mSeq b_law_s192
  (mSeq b_law_s193
  (mSeq b_law_s194
  (mSeq b_law_s196
  (mSeq b_law_s200
  (mSeq b_law_s201
  b_law_s202))))))))))))))
def b_law_s170 : MS := (mFor (mSrc (mCall f__law_rounds 2 [] (mCons (mVar 0) (mCons (mC (.int 1)) mNil)))) (gNm 1) b_law_L170)
def b_law_s205 : MS := (mSet 17 (mMake "Size" f_Size___init__ 3 [] (mCons (mC (.int 2)) (mCons (mC (.int 2)) mNil))))
def b_law : MS := (mSeq b_law_s170
  (mSeq b_law_s205
  (mForget 18 (mRet (mAndV (mB dEq (mLamComp subT qsT clT "CodeError" [20] [(mMake "Size" f_Size___init__ 3 [] (mCons (mC (.int 1)) (mCons (mC (.int 4)) mNil))), (mMake "Size" f_Size___init__ 3 [] (mCons (mC (.int 9)) (mCons (mC (.int 4)) mNil))), (mMake "Size" f_Size___init__ 3 [] (mCons (mC (.int 4)) (mCons (mC (.int 1)) mNil))), (mMake "Size" f_Size___init__ 3 [] (mCons (mC (.int 4)) (mCons (mC (.int 9)) mNil))), (mMake "Machine" f_Machine___init__ 4 dd_Machine___init___1 (mCons (mVar 17) (mCons (mB dMul (mLst (mCons (mTup (mCons (mC (.str "out")) (mCons (mC (.int 0)) mNil))) mNil)) (mC (.int 5))) mNil))), (mCall f_encoded 2 [] (mCons (mTup (mCons (mC (.str "fly")) (mCons (mC (.int 0)) mNil))) (mCons (mVar 17) mNil))), (mCall f_decoded 2 [] (mCons (mC (.int 64)) (mCons (mVar 17) mNil))), (mCall f_decoded 2 [] (mCons (mU dNeg (mC (.int 1))) (mCons (mVar 17) mNil))), (mCall f_check_instruction 2 [] (mCons (mTup (mCons (mC (.str "set")) (mCons (mU dNeg (mC (.int 1))) mNil))) (mCons (mVar 17) mNil))), (mCall f_check_instruction 2 [] (mCons (mTup (mCons (mC (.str "set")) mNil)) (mCons (mVar 17) mNil))), (mMake "Machine" f_Machine___init__ 4 dd_Machine___init___1 (mCons (mVar 17) (mCons (mLst (mCons (mTup (mCons (mC (.str "set")) (mCons (mC (.int 4)) mNil))) mNil)) mNil)))]) (mLst mNil)) (mAndV (mB (dIs false) (mMeth "Machine" "run" f_Machine_run 2 [] (mMake "Machine" f_Machine___init__ 4 dd_Machine___init___1 (mCons (mVar 17) (mCons (mLst mNil) mNil))) (mCons (mC (.int 5)) mNil)) (mC (.bl true))) (mB dEq (mCall f_decoded 2 [] (mCons (mB dSub (mB dMul (mC (.int 16)) (mC (.int 4))) (mC (.int 4))) (mCons (mVar 17) mNil))) (mTup (mCons (mC (.str "to")) (mCons (mC (.int 0)) mNil))))))))))
def f_law : List D → SM D := mFun 21 b_law
end K10

set_option Elab.async false
set_option linter.all false
set_option maxRecDepth 100000
set_option maxHeartbeats 1000000
namespace K10
open PySem PySem.Spec PyProof.Rows L2 Y
def top (i : Nat) : Stmt := PySem.Challenge.pw_chipstack_k10_machines_step_by_step.main.body.getD i (.Pass ⟨0, 0, 0, 0⟩)
structure Fx (K : PySem.W.Frag) (mg : Str → Option Value) (c : Ct) : Prop where
  triv : True
  a_acc : Att c K ["Machine"] "acc"
  a_carry : Att c K ["Machine"] "carry"
  a_code : Att c K ["Size", "Machine"] "code"
  a_coming : Att c K ["Machine"] "coming"
  a_data : Att c K ["Size"] "data"
  a_halted : Att c K ["Machine"] "halted"
  a_memory : Att c K ["Machine"] "memory"
  a_place : Att c K ["Machine"] "place"
  a_sent : Att c K ["Machine"] "sent"
  a_size : Att c K ["Machine"] "size"
  b_abs : mg "abs" = none
  b_int : mg "int" = none
  b_isinstance : mg "isinstance" = none
  b_len : mg "len" = none
  b_list : mg "list" = none
  b_max : mg "max" = none
  b_min : mg "min" = none
  b_range : mg "range" = none
  b_tuple : mg "tuple" = none
  g_INSTRUCTIONS : GK mg c "INSTRUCTIONS" K_INSTRUCTIONS
  g_JUMPS : GK mg c "JUMPS" K_JUMPS
  g_PLAIN : GK mg c "PLAIN" K_PLAIN
  x_CodeError : Exo K mg c "CodeError"
  x_RunError : Exo K mg c "RunError"
theorem k_Size___init__ {P : Program} {w : World} {K : PySem.W.Frag} {mg : Str → Option Value} {base : Heap} {cls : Str → Addr} {T : List (Addr × Str)} (F : Fx K mg (Ct.mk K cls T))  {f : Addr} {cdv : Value} {A : Around} {outer : List Env} {s : Shared} {H : Hp} {E : XK}
    (hr : Room 0 (A.deeper (envOfC "Size.__init__" (defScope (inClass (top 8) 0)) s.heap.objs.size f cdv))) :
    PSs (cxOf (L2.CX P w) P w K mg base N_Size___init__ "Size.__init__" (defScope (inClass (top 8) 0)) f cdv A outer s H E) (defBody (inClass (top 8) 0)) (rdS (Ct.mk K cls T) E b_Size___init__) := by
  have nd : (N_Size___init__).Nodup := by decide +kernel
  have tk : Takes (cxOf (L2.CX P w) P w K mg base N_Size___init__ "Size.__init__" (defScope (inClass (top 8) 0)) f cdv A outer s H E) (fun cls d _ H => E cls d H) := takes_of rfl rfl rfl rfl
  have hx := passesT tk
  have hp : PassesOwn _ _ _ (cxOf (L2.CX P w) P w K mg base N_Size___init__ "Size.__init__" (defScope (inClass (top 8) 0)) f cdv A outer s H E).xe := passes_of rfl
  have hu : (A.deeper (envOfC "Size.__init__" (defScope (inClass (top 8) 0)) s.heap.objs.size f cdv)).units + 1 < cLine := Nat.lt_of_le_of_lt (Nat.add_le_add_left (show 1 ≤ 64 by decide) _) hr.units
  exact (qss_cons (qs_if (qt_pw (qw_or (qt_not (qt_chain op_le snd_le op_le snd_le pure_okB qe_int (qe_var (pv 1)) qe_int)) (qw_or1 (qt_not (qt_chain op_le snd_le op_le snd_le pure_okB qe_int (qe_var (pv 2)) qe_int))))) (qss_one (qs_raise F.x_CodeError rfl tk rfl)) qss_nil)
    (qss_cons (qs_fld F.a_data (qe_var (pv 0)) (qe_var (pv 1)) rfl)
    (qss_one (qs_fld F.a_code (qe_var (pv 0)) (qe_var (pv 2)) rfl))))
theorem s_Size___init__ : FnScope N_Size___init__ ["self", "data", "code"] (defScope (inClass (top 8) 0)) := ⟨rfl, rfl, rfl, by decide +kernel, rfl, by decide +kernel, by decide +kernel⟩
theorem k_Size_argument {P : Program} {w : World} {K : PySem.W.Frag} {mg : Str → Option Value} {base : Heap} {cls : Str → Addr} {T : List (Addr × Str)} (F : Fx K mg (Ct.mk K cls T))  {f : Addr} {cdv : Value} {A : Around} {outer : List Env} {s : Shared} {H : Hp} {E : XK}
    (hr : Room 0 (A.deeper (envOfC "Size.argument" (defScope (inClass (top 8) 1)) s.heap.objs.size f cdv))) :
    PSs (cxOf (L2.CX P w) P w K mg base N_Size_argument "Size.argument" (defScope (inClass (top 8) 1)) f cdv A outer s H E) (defBody (inClass (top 8) 1)) (rdS (Ct.mk K cls T) E b_Size_argument) := by
  have nd : (N_Size_argument).Nodup := by decide +kernel
  have tk : Takes (cxOf (L2.CX P w) P w K mg base N_Size_argument "Size.argument" (defScope (inClass (top 8) 1)) f cdv A outer s H E) (fun cls d _ H => E cls d H) := takes_of rfl rfl rfl rfl
  have hx := passesT tk
  have hp : PassesOwn _ _ _ (cxOf (L2.CX P w) P w K mg base N_Size_argument "Size.argument" (defScope (inClass (top 8) 1)) f cdv A outer s H E).xe := passes_of rfl
  have hu : (A.deeper (envOfC "Size.argument" (defScope (inClass (top 8) 1)) s.heap.objs.size f cdv)).units + 1 < cLine := Nat.lt_of_le_of_lt (Nat.add_le_add_left (show 1 ≤ 64 by decide) _) hr.units
  exact (qss_one (qs_ret (qe_cb (pe_callB (call_max2 rfl) rfl F.b_max boot_max (qa_cons (qe_attr F.a_data (qe_var (pv 0)) rfl) (qa_cons (qe_attr F.a_code (qe_var (pv 0)) rfl) qa_nil))) snd_max2)))
theorem s_Size_argument : FnScope N_Size_argument ["self"] (defScope (inClass (top 8) 1)) := ⟨rfl, rfl, rfl, by decide +kernel, rfl, by decide +kernel, by decide +kernel⟩
theorem k_Size_width {P : Program} {w : World} {K : PySem.W.Frag} {mg : Str → Option Value} {base : Heap} {cls : Str → Addr} {T : List (Addr × Str)} (F : Fx K mg (Ct.mk K cls T)) (G_Size_argument : Gm' P w K mg base (Ct.mk K cls T) 1 "Size" "argument" 1 [] f_Size_argument) {f : Addr} {cdv : Value} {A : Around} {outer : List Env} {s : Shared} {H : Hp} {E : XK}
    (hr : Room 1 (A.deeper (envOfC "Size.width" (defScope (inClass (top 8) 2)) s.heap.objs.size f cdv))) :
    PSs (cxOf (L2.CX P w) P w K mg base N_Size_width "Size.width" (defScope (inClass (top 8) 2)) f cdv A outer s H E) (defBody (inClass (top 8) 2)) (rdS (Ct.mk K cls T) E b_Size_width) := by
  have nd : (N_Size_width).Nodup := by decide +kernel
  have tk : Takes (cxOf (L2.CX P w) P w K mg base N_Size_width "Size.width" (defScope (inClass (top 8) 2)) f cdv A outer s H E) (fun cls d _ H => E cls d H) := takes_of rfl rfl rfl rfl
  have hx := passesT tk
  have hp : PassesOwn _ _ _ (cxOf (L2.CX P w) P w K mg base N_Size_width "Size.width" (defScope (inClass (top 8) 2)) f cdv A outer s H E).xe := passes_of rfl
  have hu : (A.deeper (envOfC "Size.width" (defScope (inClass (top 8) 2)) s.heap.objs.size f cdv)).units + 1 < cLine := Nat.lt_of_le_of_lt (Nat.add_le_add_left (show 1 ≤ 64 by decide) _) hr.units
  exact (qss_one (qs_ret (qe_bin op_addA snd_add qe_int (qe_meth0 G_Size_argument (hr.mono (by omega)) hx (qe_var (pv 0))))))
theorem s_Size_width : FnScope N_Size_width ["self"] (defScope (inClass (top 8) 2)) := ⟨rfl, rfl, rfl, by decide +kernel, rfl, by decide +kernel, by decide +kernel⟩
theorem k_check_instruction {P : Program} {w : World} {K : PySem.W.Frag} {mg : Str → Option Value} {base : Heap} {cls : Str → Addr} {T : List (Addr × Str)} (F : Fx K mg (Ct.mk K cls T))  {f : Addr} {cdv : Value} {A : Around} {outer : List Env} {s : Shared} {H : Hp} {E : XK}
    (hr : Room 0 (A.deeper (envOfC "check_instruction" (defScope (top 9)) s.heap.objs.size f cdv))) :
    PSs (cxOf (L2.CX P w) P w K mg base N_check_instruction "check_instruction" (defScope (top 9)) f cdv A outer s H E) (defBody (top 9)) (rdS (Ct.mk K cls T) E b_check_instruction) := by
  have nd : (N_check_instruction).Nodup := by decide +kernel
  have tk : Takes (cxOf (L2.CX P w) P w K mg base N_check_instruction "check_instruction" (defScope (top 9)) f cdv A outer s H E) (fun cls d _ H => E cls d H) := takes_of rfl rfl rfl rfl
  have hx := passesT tk
  have hp : PassesOwn _ _ _ (cxOf (L2.CX P w) P w K mg base N_check_instruction "check_instruction" (defScope (top 9)) f cdv A outer s H E).xe := passes_of rfl
  have hu : (A.deeper (envOfC "check_instruction" (defScope (top 9)) s.heap.objs.size f cdv)).units + 1 < cLine := Nat.lt_of_le_of_lt (Nat.add_le_add_left (show 1 ≤ 64 by decide) _) hr.units
  exact (qss_cons (qs_if (qt_pw (qw_or (qt_cmp (op_neD hr.units) snd_ne (qe_cb (pe_callB call_lenA rfl F.b_len boot_len (qa_cons (qe_var (pv 0)) qa_nil)) snd_len) qe_int rfl) (qw_or (qt_cmp (op_notinA hu) snd_in (qe_ix (ix_A hu) snd_ix (qe_var (pv 0)) qe_int (fun _ _ => rfl)) (qe_gk F.g_INSTRUCTIONS rfl) rfl) (qw_or1 (qt_not (qt_val (qe_isi rfl rfl F.b_isinstance boot_isinstance (qe_ix (ix_A hu) snd_ix (qe_var (pv 0)) qe_int (fun _ _ => rfl)) (pe_bltn rfl F.b_int boot_int rfl)))))))) (qss_one (qs_raise F.x_CodeError rfl tk rfl)) qss_nil)
    (qss_cons (qs_set (i := 2) nd rfl (.inl rfl) (qe_if (qt_cmp (op_inA hu) snd_in (qe_ix (ix_A hu) snd_ix (qe_var (pv 0)) qe_int (fun _ _ => rfl)) (qe_gk F.g_PLAIN rfl) rfl) qe_int (qe_if (qt_cmp (op_inA hu) snd_in (qe_ix (ix_A hu) snd_ix (qe_var (pv 0)) qe_int (fun _ _ => rfl)) (qe_gk F.g_JUMPS rfl) rfl) (qe_attr F.a_code (qe_var (pv 1)) rfl) (qe_attr F.a_data (qe_var (pv 1)) rfl))))
    (qss_one (qs_if (qt_not (qt_chain op_le snd_le op_lt snd_lt pure_okB qe_int (qe_ix (ix_A hu) snd_ix (qe_var (pv 0)) qe_int (fun _ _ => rfl)) (qe_bin op_shl snd_shl qe_int (qe_var (pv 2))))) (qss_one (qs_raise F.x_CodeError rfl tk rfl)) qss_nil))))
theorem s_check_instruction : FnScope N_check_instruction ["row", "size"] (defScope (top 9)) := ⟨rfl, rfl, rfl, by decide +kernel, rfl, by decide +kernel, by decide +kernel⟩
theorem k_encoded {P : Program} {w : World} {K : PySem.W.Frag} {mg : Str → Option Value} {base : Heap} {cls : Str → Addr} {T : List (Addr × Str)} (F : Fx K mg (Ct.mk K cls T)) (G_check_instruction : Gfn P w K mg base (Ct.mk K cls T) 1 "check_instruction" 2 [] f_check_instruction) (G_Size_argument : Gm' P w K mg base (Ct.mk K cls T) 1 "Size" "argument" 1 [] f_Size_argument) {f : Addr} {cdv : Value} {A : Around} {outer : List Env} {s : Shared} {H : Hp} {E : XK}
    (hr : Room 1 (A.deeper (envOfC "encoded" (defScope (top 10)) s.heap.objs.size f cdv))) :
    PSs (cxOf (L2.CX P w) P w K mg base N_encoded "encoded" (defScope (top 10)) f cdv A outer s H E) (defBody (top 10)) (rdS (Ct.mk K cls T) E b_encoded) := by
  have nd : (N_encoded).Nodup := by decide +kernel
  have tk : Takes (cxOf (L2.CX P w) P w K mg base N_encoded "encoded" (defScope (top 10)) f cdv A outer s H E) (fun cls d _ H => E cls d H) := takes_of rfl rfl rfl rfl
  have hx := passesT tk
  have hp : PassesOwn _ _ _ (cxOf (L2.CX P w) P w K mg base N_encoded "encoded" (defScope (top 10)) f cdv A outer s H E).xe := passes_of rfl
  have hu : (A.deeper (envOfC "encoded" (defScope (top 10)) s.heap.objs.size f cdv)).units + 1 < cLine := Nat.lt_of_le_of_lt (Nat.add_le_add_left (show 1 ≤ 64 by decide) _) hr.units
  exact (qss_cons (qs_expr (qe_call G_check_instruction (hr.mono (by omega)) rfl hx (qa_cons (qe_var (pv 0)) (qa_cons (qe_var (pv 1)) qa_nil))))
    (qss_one (qs_ret (qe_bin op_addA snd_add (qe_bin op_shl snd_shl (qe_bm rfl PySem.F.plainAttrs_tuple PySem.F.slot_tuple_index PySem.F.type_tuple_index mt_tup_index snd_tix (qe_gk F.g_INSTRUCTIONS rfl) (qa_cons (qe_ix (ix_A hu) snd_ix (qe_var (pv 0)) qe_int (fun _ _ => rfl)) qa_nil)) (qe_meth0 G_Size_argument (hr.mono (by omega)) hx (qe_var (pv 1)))) (qe_ix (ix_A hu) snd_ix (qe_var (pv 0)) qe_int (fun _ _ => rfl))))))
theorem s_encoded : FnScope N_encoded ["row", "size"] (defScope (top 10)) := ⟨rfl, rfl, rfl, by decide +kernel, rfl, by decide +kernel, by decide +kernel⟩
theorem k_decoded {P : Program} {w : World} {K : PySem.W.Frag} {mg : Str → Option Value} {base : Heap} {cls : Str → Addr} {T : List (Addr × Str)} (F : Fx K mg (Ct.mk K cls T)) (G_Size_width : Gm' P w K mg base (Ct.mk K cls T) 2 "Size" "width" 1 [] f_Size_width) (G_Size_argument : Gm' P w K mg base (Ct.mk K cls T) 1 "Size" "argument" 1 [] f_Size_argument) (G_check_instruction : Gfn P w K mg base (Ct.mk K cls T) 1 "check_instruction" 2 [] f_check_instruction) {f : Addr} {cdv : Value} {A : Around} {outer : List Env} {s : Shared} {H : Hp} {E : XK}
    (hr : Room 2 (A.deeper (envOfC "decoded" (defScope (top 11)) s.heap.objs.size f cdv))) :
    PSs (cxOf (L2.CX P w) P w K mg base N_decoded "decoded" (defScope (top 11)) f cdv A outer s H E) (defBody (top 11)) (rdS (Ct.mk K cls T) E b_decoded) := by
  have nd : (N_decoded).Nodup := by decide +kernel
  have tk : Takes (cxOf (L2.CX P w) P w K mg base N_decoded "decoded" (defScope (top 11)) f cdv A outer s H E) (fun cls d _ H => E cls d H) := takes_of rfl rfl rfl rfl
  have hx := passesT tk
  have hp : PassesOwn _ _ _ (cxOf (L2.CX P w) P w K mg base N_decoded "decoded" (defScope (top 11)) f cdv A outer s H E).xe := passes_of rfl
  have hu : (A.deeper (envOfC "decoded" (defScope (top 11)) s.heap.objs.size f cdv)).units + 1 < cLine := Nat.lt_of_le_of_lt (Nat.add_le_add_left (show 1 ≤ 64 by decide) _) hr.units
  exact (qss_cons (qs_if (qt_not (qt_chain op_le snd_le op_lt snd_lt pure_okB qe_int (qe_var (pv 0)) (qe_bin op_shl snd_shl qe_int (qe_meth0 G_Size_width (hr.mono (by omega)) hx (qe_var (pv 1)))))) (qss_one (qs_raise F.x_CodeError rfl tk rfl)) qss_nil)
    (qss_cons (qs_set (i := 2) nd rfl (.inl rfl) (qe_tup (qa_cons (qe_ix (ix_A hu) snd_ix (qe_gk F.g_INSTRUCTIONS rfl) (qe_bin op_shr snd_shr (qe_var (pv 0)) (qe_meth0 G_Size_argument (hr.mono (by omega)) hx (qe_var (pv 1)))) (fun _ _ => rfl)) (qa_cons (qe_bin op_mod snd_mod (qe_var (pv 0)) (qe_bin op_shl snd_shl qe_int (qe_meth0 G_Size_argument (hr.mono (by omega)) hx (qe_var (pv 1))))) qa_nil))))
    (qss_cons (qs_expr (qe_call G_check_instruction (hr.mono (by omega)) rfl hx (qa_cons (qe_var (pv 2)) (qa_cons (qe_var (pv 1)) qa_nil))))
    (qss_one (qs_ret (qe_var (pv 2)))))))
theorem s_decoded : FnScope N_decoded ["code", "size"] (defScope (top 11)) := ⟨rfl, rfl, rfl, by decide +kernel, rfl, by decide +kernel, by decide +kernel⟩
theorem k_Machine___init__ {P : Program} {w : World} {K : PySem.W.Frag} {mg : Str → Option Value} {base : Heap} {cls : Str → Addr} {T : List (Addr × Str)} (F : Fx K mg (Ct.mk K cls T)) (G_check_instruction : Gfn P w K mg base (Ct.mk K cls T) 1 "check_instruction" 2 [] f_check_instruction) {f : Addr} {cdv : Value} {A : Around} {outer : List Env} {s : Shared} {H : Hp} {E : XK}
    (hr : Room 1 (A.deeper (envOfC "Machine.__init__" (defScope (inClass (top 12) 0)) s.heap.objs.size f cdv))) :
    PSs (cxOf (L2.CX P w) P w K mg base N_Machine___init__ "Machine.__init__" (defScope (inClass (top 12) 0)) f cdv A outer s H E) (defBody (inClass (top 12) 0)) (rdS (Ct.mk K cls T) E b_Machine___init__) := by
  have nd : (N_Machine___init__).Nodup := by decide +kernel
  have tk : Takes (cxOf (L2.CX P w) P w K mg base N_Machine___init__ "Machine.__init__" (defScope (inClass (top 12) 0)) f cdv A outer s H E) (fun cls d _ H => E cls d H) := takes_of rfl rfl rfl rfl
  have hx := passesT tk
  have hp : PassesOwn _ _ _ (cxOf (L2.CX P w) P w K mg base N_Machine___init__ "Machine.__init__" (defScope (inClass (top 12) 0)) f cdv A outer s H E).xe := passes_of rfl
  have hu : (A.deeper (envOfC "Machine.__init__" (defScope (inClass (top 12) 0)) s.heap.objs.size f cdv)).units + 1 < cLine := Nat.lt_of_le_of_lt (Nat.add_le_add_left (show 1 ≤ 64 by decide) _) hr.units
  exact (qss_cons (qs_if (qt_cmp op_gt snd_gt (qe_cb (pe_callB call_lenA rfl F.b_len boot_len (qa_cons (qe_var (pv 2)) qa_nil)) snd_len) (qe_bin op_shl snd_shl qe_int (qe_attr F.a_code (qe_var (pv 1)) rfl)) rfl) (qss_one (qs_raise F.x_CodeError rfl tk rfl)) qss_nil)
    (qss_cons (qs_for hp rfl (qi_seq rfl (qe_var (pv 2))) (qg_name nd rfl (.inl rfl)) (qss_one (qs_expr (qe_call G_check_instruction (hr.mono (by omega)) rfl hx (qa_cons (qe_var (pv 4)) (qa_cons (qe_var (pv 1)) qa_nil))))))
    (qss_cons (qs_fld F.a_size (qe_var (pv 0)) (qe_var (pv 1)) rfl)
    (qss_cons (qs_fld F.a_code (qe_var (pv 0)) (qe_cb (pe_callTy call_tuple_of rfl F.b_tuple boot_tuple (qa_cons (qe_var (pv 2)) qa_nil)) snd_tuple) rfl)
    (qss_cons (qs_fld F.a_coming (qe_var (pv 0)) (qe_cb (pe_callTy call_list_of rfl F.b_list boot_list (qa_cons (qe_var (pv 3)) qa_nil)) snd_list) rfl)
    (qss_cons (qs_fld F.a_acc (qe_var (pv 0)) qe_int rfl)
    (qss_cons (qs_fld F.a_carry (qe_var (pv 0)) qe_int rfl)
    (qss_cons (qs_fld F.a_place (qe_var (pv 0)) qe_int rfl)
    (qss_cons (qs_fld F.a_memory (qe_var (pv 0)) (qe_bin op_mulA snd_mul (qe_lst (qa_cons qe_int qa_nil)) (qe_bin op_shl snd_shl qe_int (qe_attr F.a_data (qe_var (pv 1)) rfl))) rfl)
    (qss_cons (qs_fld F.a_sent (qe_var (pv 0)) (qe_lst qa_nil) rfl)
    (qss_one (qs_fld F.a_halted (qe_var (pv 0)) qe_bl rfl))))))))))))
theorem s_Machine___init__ : FnScope N_Machine___init__ ["self", "size", "code", "coming"] (defScope (inClass (top 12) 0)) := ⟨rfl, rfl, rfl, by decide +kernel, rfl, by decide +kernel, by decide +kernel⟩
theorem k_Machine_instruction {P : Program} {w : World} {K : PySem.W.Frag} {mg : Str → Option Value} {base : Heap} {cls : Str → Addr} {T : List (Addr × Str)} (F : Fx K mg (Ct.mk K cls T))  {f : Addr} {cdv : Value} {A : Around} {outer : List Env} {s : Shared} {H : Hp} {E : XK}
    (hr : Room 0 (A.deeper (envOfC "Machine.instruction" (defScope (inClass (top 12) 1)) s.heap.objs.size f cdv))) :
    PSs (cxOf (L2.CX P w) P w K mg base N_Machine_instruction "Machine.instruction" (defScope (inClass (top 12) 1)) f cdv A outer s H E) (defBody (inClass (top 12) 1)) (rdS (Ct.mk K cls T) E b_Machine_instruction) := by
  have nd : (N_Machine_instruction).Nodup := by decide +kernel
  have tk : Takes (cxOf (L2.CX P w) P w K mg base N_Machine_instruction "Machine.instruction" (defScope (inClass (top 12) 1)) f cdv A outer s H E) (fun cls d _ H => E cls d H) := takes_of rfl rfl rfl rfl
  have hx := passesT tk
  have hp : PassesOwn _ _ _ (cxOf (L2.CX P w) P w K mg base N_Machine_instruction "Machine.instruction" (defScope (inClass (top 12) 1)) f cdv A outer s H E).xe := passes_of rfl
  have hu : (A.deeper (envOfC "Machine.instruction" (defScope (inClass (top 12) 1)) s.heap.objs.size f cdv)).units + 1 < cLine := Nat.lt_of_le_of_lt (Nat.add_le_add_left (show 1 ≤ 64 by decide) _) hr.units
  exact (qss_one (qs_ret (qe_if (qt_cmp op_lt snd_lt (qe_attr F.a_place (qe_var (pv 0)) rfl) (qe_cb (pe_callB call_lenA rfl F.b_len boot_len (qa_cons (qe_attr F.a_code (qe_var (pv 0)) rfl) qa_nil)) snd_len) rfl) (qe_ix (ix_A hu) snd_ix (qe_attr F.a_code (qe_var (pv 0)) rfl) (qe_attr F.a_place (qe_var (pv 0)) rfl) (fun _ _ => rfl)) (qe_tup (qa_cons qe_str (qa_cons qe_int qa_nil))))))
theorem s_Machine_instruction : FnScope N_Machine_instruction ["self"] (defScope (inClass (top 12) 1)) := ⟨rfl, rfl, rfl, by decide +kernel, rfl, by decide +kernel, by decide +kernel⟩
theorem k_Machine_reckon {P : Program} {w : World} {K : PySem.W.Frag} {mg : Str → Option Value} {base : Heap} {cls : Str → Addr} {T : List (Addr × Str)} (F : Fx K mg (Ct.mk K cls T))  {f : Addr} {cdv : Value} {A : Around} {outer : List Env} {s : Shared} {H : Hp} {E : XK}
    (hr : Room 0 (A.deeper (envOfC "Machine.reckon" (defScope (inClass (top 12) 3)) s.heap.objs.size f cdv))) :
    PSs (cxOf (L2.CX P w) P w K mg base N_Machine_reckon "Machine.reckon" (defScope (inClass (top 12) 3)) f cdv A outer s H E) (defBody (inClass (top 12) 3)) (rdS (Ct.mk K cls T) E b_Machine_reckon) := by
  have nd : (N_Machine_reckon).Nodup := by decide +kernel
  have tk : Takes (cxOf (L2.CX P w) P w K mg base N_Machine_reckon "Machine.reckon" (defScope (inClass (top 12) 3)) f cdv A outer s H E) (fun cls d _ H => E cls d H) := takes_of rfl rfl rfl rfl
  have hx := passesT tk
  have hp : PassesOwn _ _ _ (cxOf (L2.CX P w) P w K mg base N_Machine_reckon "Machine.reckon" (defScope (inClass (top 12) 3)) f cdv A outer s H E).xe := passes_of rfl
  have hu : (A.deeper (envOfC "Machine.reckon" (defScope (inClass (top 12) 3)) s.heap.objs.size f cdv)).units + 1 < cLine := Nat.lt_of_le_of_lt (Nat.add_le_add_left (show 1 ≤ 64 by decide) _) hr.units
  exact (qss_cons (qs_set (i := 3) nd rfl (.inl rfl) (qe_bin op_shl snd_shl qe_int (qe_attr F.a_data (qe_attr F.a_size (qe_var (pv 0)) rfl) rfl)))
    (qss_one (qs_if (qt_cmp (op_eqD hr.units) snd_eq (qe_var (pv 1)) qe_str rfl) (qss_one (qs_fld F.a_acc (qe_var (pv 0)) (qe_var (pv 2)) rfl)) (qss_one (qs_if (qt_cmp (op_eqD hr.units) snd_eq (qe_var (pv 1)) qe_str rfl) (qss_one (qs_fld F.a_acc (qe_var (pv 0)) (qe_if (qt_cmp (op_neD hr.units) snd_ne (qe_attr F.a_coming (qe_var (pv 0)) rfl) (qe_lst qa_nil) rfl) (qe_bin op_mod snd_mod (qe_bm rfl PySem.F.plainAttrs_list PySem.F.slot_list_pop PySem.F.type_list_pop mt_popAt snd_popAt (qe_attr F.a_coming (qe_var (pv 0)) rfl) (qa_cons qe_int qa_nil)) (qe_var (pv 3))) qe_int) rfl)) (qss_one (qs_if (qt_cmp (op_eqD hr.units) snd_eq (qe_var (pv 1)) qe_str rfl) (qss_one (qs_asg (qe_tup (qa_cons (qe_bin op_mod snd_mod (qe_attr F.a_acc (qe_var (pv 0)) rfl) qe_int) (qa_cons (qe_bin op_fdiv snd_fdiv (qe_attr F.a_acc (qe_var (pv 0)) rfl) qe_int) qa_nil))) (qg_tup rfl rfl (qgs_cons (qg_attr F.a_carry (qe_var (pv 0))) (qgs_cons (qg_attr F.a_acc (qe_var (pv 0))) qgs_nil))))) (qss_one (qs_if (qt_cmp (op_eqD hr.units) snd_eq (qe_var (pv 1)) qe_str rfl) (qss_one (qs_fld F.a_acc (qe_var (pv 0)) (qe_ix (ix_A hu) snd_ix (qe_attr F.a_memory (qe_var (pv 0)) rfl) (qe_var (pv 2)) (fun _ _ => rfl)) rfl)) (qss_one (qs_if (qt_cmp (op_eqD hr.units) snd_eq (qe_var (pv 1)) qe_str rfl) (qss_one (qs_fld F.a_acc (qe_var (pv 0)) (qe_ix (ix_A hu) snd_ix (qe_attr F.a_memory (qe_var (pv 0)) rfl) (qe_ix (ix_A hu) snd_ix (qe_attr F.a_memory (qe_var (pv 0)) rfl) (qe_var (pv 2)) (fun _ _ => rfl)) (fun _ _ => rfl)) rfl)) (qss_one (qs_if (qt_cmp (op_eqD hr.units) snd_eq (qe_var (pv 1)) qe_str rfl) (qss_one (qs_fldaug F.a_acc (qe_var (pv 0)) (qe_ix (ix_A hu) snd_ix (qe_attr F.a_memory (qe_var (pv 0)) rfl) (qe_var (pv 2)) (fun _ _ => rfl)) iop_and snd_and)) (qss_one (qs_if (qt_cmp (op_eqD hr.units) snd_eq (qe_var (pv 1)) qe_str rfl) (qss_one (qs_fldaug F.a_acc (qe_var (pv 0)) (qe_ix (ix_A hu) snd_ix (qe_attr F.a_memory (qe_var (pv 0)) rfl) (qe_var (pv 2)) (fun _ _ => rfl)) iop_xor snd_xor)) (qss_cons (qs_set (i := 4) nd rfl (.inl rfl) (qe_if (qt_cmp (op_eqD hr.units) snd_eq (qe_var (pv 1)) qe_str rfl) (qe_bin op_addA snd_add (qe_attr F.a_acc (qe_var (pv 0)) rfl) (qe_ix (ix_A hu) snd_ix (qe_attr F.a_memory (qe_var (pv 0)) rfl) (qe_var (pv 2)) (fun _ _ => rfl))) (qe_bin op_sub snd_sub (qe_attr F.a_acc (qe_var (pv 0)) rfl) (qe_ix (ix_A hu) snd_ix (qe_attr F.a_memory (qe_var (pv 0)) rfl) (qe_var (pv 2)) (fun _ _ => rfl)))))
    (qss_cons (qs_fld F.a_carry (qe_var (pv 0)) (qe_if (qt_not (qt_chain op_le snd_le op_lt snd_lt pure_okB qe_int (qe_var (pv 4)) (qe_var (pv 3)))) qe_int qe_int) rfl)
    (qss_one (qs_fld F.a_acc (qe_var (pv 0)) (qe_bin op_mod snd_mod (qe_var (pv 4)) (qe_var (pv 3))) rfl)))))))))))))))))))
theorem s_Machine_reckon : FnScope N_Machine_reckon ["self", "word", "number"] (defScope (inClass (top 12) 3)) := ⟨rfl, rfl, rfl, by decide +kernel, rfl, by decide +kernel, by decide +kernel⟩
theorem k_Machine_step {P : Program} {w : World} {K : PySem.W.Frag} {mg : Str → Option Value} {base : Heap} {cls : Str → Addr} {T : List (Addr × Str)} (F : Fx K mg (Ct.mk K cls T)) (G_Machine_instruction : Gm' P w K mg base (Ct.mk K cls T) 1 "Machine" "instruction" 1 [] f_Machine_instruction) (G_Machine_reckon : Gm' P w K mg base (Ct.mk K cls T) 1 "Machine" "reckon" 3 [] f_Machine_reckon) {f : Addr} {cdv : Value} {A : Around} {outer : List Env} {s : Shared} {H : Hp} {E : XK}
    (hr : Room 1 (A.deeper (envOfC "Machine.step" (defScope (inClass (top 12) 2)) s.heap.objs.size f cdv))) :
    PSs (cxOf (L2.CX P w) P w K mg base N_Machine_step "Machine.step" (defScope (inClass (top 12) 2)) f cdv A outer s H E) (defBody (inClass (top 12) 2)) (rdS (Ct.mk K cls T) E b_Machine_step) := by
  have nd : (N_Machine_step).Nodup := by decide +kernel
  have tk : Takes (cxOf (L2.CX P w) P w K mg base N_Machine_step "Machine.step" (defScope (inClass (top 12) 2)) f cdv A outer s H E) (fun cls d _ H => E cls d H) := takes_of rfl rfl rfl rfl
  have hx := passesT tk
  have hp : PassesOwn _ _ _ (cxOf (L2.CX P w) P w K mg base N_Machine_step "Machine.step" (defScope (inClass (top 12) 2)) f cdv A outer s H E).xe := passes_of rfl
  have hu : (A.deeper (envOfC "Machine.step" (defScope (inClass (top 12) 2)) s.heap.objs.size f cdv)).units + 1 < cLine := Nat.lt_of_le_of_lt (Nat.add_le_add_left (show 1 ≤ 64 by decide) _) hr.units
  exact (qss_cons (qs_if (qt_val (qe_attr F.a_halted (qe_var (pv 0)) rfl)) (qss_one (qs_raise F.x_RunError rfl tk rfl)) qss_nil)
    (qss_cons (qs_asg (qe_meth0 G_Machine_instruction (hr.mono (by omega)) hx (qe_var (pv 0))) (qg_tup rfl rfl (qgs_cons (qg_name nd rfl (.inl rfl)) (qgs_cons (qg_name nd rfl (.inl rfl)) qgs_nil))))
    (qss_cons (qs_set (i := 3) nd rfl (.inl rfl) (qe_bin op_mod snd_mod (qe_bin op_addA snd_add (qe_attr F.a_place (qe_var (pv 0)) rfl) qe_int) (qe_bin op_shl snd_shl qe_int (qe_attr F.a_code (qe_attr F.a_size (qe_var (pv 0)) rfl) rfl))))
    (qss_cons (qs_if (qt_cmp (op_eqD hr.units) snd_eq (qe_var (pv 1)) qe_str rfl) (qss_cons (qs_fld F.a_halted (qe_var (pv 0)) qe_bl rfl)
    (qss_one (qs_set (i := 3) nd rfl (.inl rfl) (qe_attr F.a_place (qe_var (pv 0)) rfl)))) (qss_one (qs_if (qt_cmp (op_inA hu) snd_in (qe_var (pv 1)) (qe_gk F.g_JUMPS rfl) rfl) (qss_one (qs_if (qt_pw (qw_or (qt_cmp (op_eqD hr.units) snd_eq (qe_var (pv 1)) qe_str rfl) (qw_or (qt_pw (qw_and (qt_cmp (op_eqD hr.units) snd_eq (qe_var (pv 1)) qe_str rfl) (qw_and1 (qt_cmp (op_eqD hr.units) snd_eq (qe_attr F.a_acc (qe_var (pv 0)) rfl) qe_int rfl)))) (qw_or1 (qt_pw (qw_and (qt_cmp (op_eqD hr.units) snd_eq (qe_var (pv 1)) qe_str rfl) (qw_and1 (qt_cmp (op_eqD hr.units) snd_eq (qe_attr F.a_carry (qe_var (pv 0)) rfl) qe_int rfl)))))))) (qss_one (qs_set (i := 3) nd rfl (.inl rfl) (qe_var (pv 2)))) qss_nil)) (qss_one (qs_if (qt_cmp (op_eqD hr.units) snd_eq (qe_var (pv 1)) qe_str rfl) (qss_one (qs_expr (qe_bm rfl PySem.F.plainAttrs_list PySem.F.slot_list_append PySem.F.type_list_append mt_append snd_append (qe_attr F.a_sent (qe_var (pv 0)) rfl) (qa_cons (qe_attr F.a_acc (qe_var (pv 0)) rfl) qa_nil)))) (qss_one (qs_if (qt_cmp (op_eqD hr.units) snd_eq (qe_var (pv 1)) qe_str rfl) (qss_one (qs_asg (qe_attr F.a_acc (qe_var (pv 0)) rfl) (qg_sub hu (qe_attr F.a_memory (qe_var (pv 0)) rfl) (qe_ix (ix_A hu) snd_ix (qe_attr F.a_memory (qe_var (pv 0)) rfl) (qe_var (pv 2)) (fun _ _ => rfl)) (fun _ => rfl)))) (qss_one (qs_if (qt_cmp (op_eqD hr.units) snd_eq (qe_var (pv 1)) qe_str rfl) (qss_one (qs_asg (qe_attr F.a_acc (qe_var (pv 0)) rfl) (qg_sub hu (qe_attr F.a_memory (qe_var (pv 0)) rfl) (qe_var (pv 2)) (fun _ => rfl)))) (qss_one (qs_expr (qe_meth G_Machine_reckon (hr.mono (by omega)) hx (qe_var (pv 0)) (qa_cons (qe_var (pv 1)) (qa_cons (qe_var (pv 2)) qa_nil))))))))))))))
    (qss_one (qs_fld F.a_place (qe_var (pv 0)) (qe_var (pv 3)) rfl))))))
theorem s_Machine_step : FnScope N_Machine_step ["self"] (defScope (inClass (top 12) 2)) := ⟨rfl, rfl, rfl, by decide +kernel, rfl, by decide +kernel, by decide +kernel⟩
theorem k_Machine_run {P : Program} {w : World} {K : PySem.W.Frag} {mg : Str → Option Value} {base : Heap} {cls : Str → Addr} {T : List (Addr × Str)} (F : Fx K mg (Ct.mk K cls T)) (G_Machine_step : Gm' P w K mg base (Ct.mk K cls T) 2 "Machine" "step" 1 [] f_Machine_step) {f : Addr} {cdv : Value} {A : Around} {outer : List Env} {s : Shared} {H : Hp} {E : XK}
    (hr : Room 2 (A.deeper (envOfC "Machine.run" (defScope (inClass (top 12) 4)) s.heap.objs.size f cdv))) :
    PSs (cxOf (L2.CX P w) P w K mg base N_Machine_run "Machine.run" (defScope (inClass (top 12) 4)) f cdv A outer s H E) (defBody (inClass (top 12) 4)) (rdS (Ct.mk K cls T) E b_Machine_run) := by
  have nd : (N_Machine_run).Nodup := by decide +kernel
  have tk : Takes (cxOf (L2.CX P w) P w K mg base N_Machine_run "Machine.run" (defScope (inClass (top 12) 4)) f cdv A outer s H E) (fun cls d _ H => E cls d H) := takes_of rfl rfl rfl rfl
  have hx := passesT tk
  have hp : PassesOwn _ _ _ (cxOf (L2.CX P w) P w K mg base N_Machine_run "Machine.run" (defScope (inClass (top 12) 4)) f cdv A outer s H E).xe := passes_of rfl
  have hu : (A.deeper (envOfC "Machine.run" (defScope (inClass (top 12) 4)) s.heap.objs.size f cdv)).units + 1 < cLine := Nat.lt_of_le_of_lt (Nat.add_le_add_left (show 1 ≤ 64 by decide) _) hr.units
  exact (qss_cons (qs_for hp rfl (qi_rng1 rfl F.b_range (qa_cons (qe_var (pv 1)) qa_nil)) (qg_name nd rfl (.inl rfl)) (qss_cons (qs_if (qt_val (qe_attr F.a_halted (qe_var (pv 0)) rfl)) (qss_one qs_brk) qss_nil)
    (qss_one (qs_expr (qe_meth0 G_Machine_step (hr.mono (by omega)) hx (qe_var (pv 0)))))))
    (qss_one (qs_ret (qe_attr F.a_halted (qe_var (pv 0)) rfl))))
theorem s_Machine_run : FnScope N_Machine_run ["self", "most"] (defScope (inClass (top 12) 4)) := ⟨rfl, rfl, rfl, by decide +kernel, rfl, by decide +kernel, by decide +kernel⟩
theorem k_Machine_shown {P : Program} {w : World} {K : PySem.W.Frag} {mg : Str → Option Value} {base : Heap} {cls : Str → Addr} {T : List (Addr × Str)} (F : Fx K mg (Ct.mk K cls T))  {f : Addr} {cdv : Value} {A : Around} {outer : List Env} {s : Shared} {H : Hp} {E : XK}
    (hr : Room 0 (A.deeper (envOfC "Machine.shown" (defScope (inClass (top 12) 5)) s.heap.objs.size f cdv))) :
    PSs (cxOf (L2.CX P w) P w K mg base N_Machine_shown "Machine.shown" (defScope (inClass (top 12) 5)) f cdv A outer s H E) (defBody (inClass (top 12) 5)) (rdS (Ct.mk K cls T) E b_Machine_shown) := by
  have nd : (N_Machine_shown).Nodup := by decide +kernel
  have tk : Takes (cxOf (L2.CX P w) P w K mg base N_Machine_shown "Machine.shown" (defScope (inClass (top 12) 5)) f cdv A outer s H E) (fun cls d _ H => E cls d H) := takes_of rfl rfl rfl rfl
  have hx := passesT tk
  have hp : PassesOwn _ _ _ (cxOf (L2.CX P w) P w K mg base N_Machine_shown "Machine.shown" (defScope (inClass (top 12) 5)) f cdv A outer s H E).xe := passes_of rfl
  have hu : (A.deeper (envOfC "Machine.shown" (defScope (inClass (top 12) 5)) s.heap.objs.size f cdv)).units + 1 < cLine := Nat.lt_of_le_of_lt (Nat.add_le_add_left (show 1 ≤ 64 by decide) _) hr.units
  exact (qss_one (qs_ret (qe_tup (qa_cons (qe_attr F.a_acc (qe_var (pv 0)) rfl) (qa_cons (qe_attr F.a_carry (qe_var (pv 0)) rfl) (qa_cons (qe_attr F.a_place (qe_var (pv 0)) rfl) (qa_cons (qe_cb (pe_callTy call_tuple_of rfl F.b_tuple boot_tuple (qa_cons (qe_attr F.a_memory (qe_var (pv 0)) rfl) qa_nil)) snd_tuple) (qa_cons (qe_cb (pe_callTy call_tuple_of rfl F.b_tuple boot_tuple (qa_cons (qe_attr F.a_sent (qe_var (pv 0)) rfl) qa_nil)) snd_tuple) (qa_cons (qe_attr F.a_halted (qe_var (pv 0)) rfl) qa_nil)))))))))
theorem s_Machine_shown : FnScope N_Machine_shown ["self"] (defScope (inClass (top 12) 5)) := ⟨rfl, rfl, rfl, by decide +kernel, rfl, by decide +kernel, by decide +kernel⟩
theorem k__law_dice {P : Program} {w : World} {K : PySem.W.Frag} {mg : Str → Option Value} {base : Heap} {cls : Str → Addr} {T : List (Addr × Str)} (F : Fx K mg (Ct.mk K cls T))  {f : Addr} {cdv : Value} {A : Around} {outer : List Env} {s : Shared} {H : Hp} {E : XK}
    (hr : Room 0 (A.deeper (envOfC "_law_dice" (defScope (top 14)) s.heap.objs.size f cdv))) :
    PSs (cxOf (L2.CX P w) P w K mg base N__law_dice "_law_dice" (defScope (top 14)) f cdv A outer s H E) (defBody (top 14)) (rdS (Ct.mk K cls T) E b__law_dice) := by
  have nd : (N__law_dice).Nodup := by decide +kernel
  have tk : Takes (cxOf (L2.CX P w) P w K mg base N__law_dice "_law_dice" (defScope (top 14)) f cdv A outer s H E) (fun cls d _ H => E cls d H) := takes_of rfl rfl rfl rfl
  have hx := passesT tk
  have hp : PassesOwn _ _ _ (cxOf (L2.CX P w) P w K mg base N__law_dice "_law_dice" (defScope (top 14)) f cdv A outer s H E).xe := passes_of rfl
  have hu : (A.deeper (envOfC "_law_dice" (defScope (top 14)) s.heap.objs.size f cdv)).units + 1 < cLine := Nat.lt_of_le_of_lt (Nat.add_le_add_left (show 1 ≤ 64 by decide) _) hr.units
  exact (qss_cons (qs_if (qt_chain op_lt snd_lt op_lt snd_lt pure_okB (qe_bin op_sub snd_sub qe_int qe_int) (qe_var (pv 0)) qe_int) (qss_one (qs_ret (qe_lst (qa_cons (qe_cb (pe_callB call_abs rfl F.b_abs boot_abs (qa_cons (qe_var (pv 0)) qa_nil)) snd_abs) (qa_cons qe_int (qa_cons qe_int qa_nil)))))) qss_nil)
    (qss_one (qs_ret (qe_lst (qa_cons (qe_var (pv 0)) (qa_cons (qe_bin op_addA snd_add qe_int (qe_bin op_mod snd_mod (qe_cb (pe_callTy call_intA rfl F.b_int boot_int (qa_cons (qe_var (pv 0)) qa_nil)) snd_int) qe_int)) (qa_cons (qe_cb (pe_callTy call_intA rfl F.b_int boot_int (qa_cons (qe_cmp op_ge snd_ge (qe_var (pv 0)) (qe_bin op_pow snd_pow qe_int qe_int) rfl) qa_nil)) snd_int) qa_nil)))))))
theorem s__law_dice : FnScope N__law_dice ["cell"] (defScope (top 14)) := ⟨rfl, rfl, rfl, by decide +kernel, rfl, by decide +kernel, by decide +kernel⟩
theorem k__law_roll {P : Program} {w : World} {K : PySem.W.Frag} {mg : Str → Option Value} {base : Heap} {cls : Str → Addr} {T : List (Addr × Str)} (F : Fx K mg (Ct.mk K cls T))  {f : Addr} {cdv : Value} {A : Around} {outer : List Env} {s : Shared} {H : Hp} {E : XK}
    (hr : Room 0 (A.deeper (envOfC "_law_roll" (defScope (top 15)) s.heap.objs.size f cdv))) :
    PSs (cxOf (L2.CX P w) P w K mg base N__law_roll "_law_roll" (defScope (top 15)) f cdv A outer s H E) (defBody (top 15)) (rdS (Ct.mk K cls T) E b__law_roll) := by
  have nd : (N__law_roll).Nodup := by decide +kernel
  have tk : Takes (cxOf (L2.CX P w) P w K mg base N__law_roll "_law_roll" (defScope (top 15)) f cdv A outer s H E) (fun cls d _ H => E cls d H) := takes_of rfl rfl rfl rfl
  have hx := passesT tk
  have hp : PassesOwn _ _ _ (cxOf (L2.CX P w) P w K mg base N__law_roll "_law_roll" (defScope (top 15)) f cdv A outer s H E).xe := passes_of rfl
  have hu : (A.deeper (envOfC "_law_roll" (defScope (top 15)) s.heap.objs.size f cdv)).units + 1 < cLine := Nat.lt_of_le_of_lt (Nat.add_le_add_left (show 1 ≤ 64 by decide) _) hr.units
  exact (qss_cons (qs_if (qt_pw (qw_or (qt_cmp (op_eqD hr.units) snd_eq (qe_ix (ix_A hu) snd_ix (qe_var (pv 0)) qe_int (fun _ _ => rfl)) qe_int rfl) (qw_or1 (qt_pw (qw_and (qt_cmp (op_eqD hr.units) snd_eq (qe_ix (ix_A hu) snd_ix (qe_var (pv 0)) qe_int (fun _ _ => rfl)) qe_int rfl) (qw_and1 (qt_cmp op_gt snd_gt (qe_ix (ix_A hu) snd_ix (qe_var (pv 0)) qe_int (fun _ _ => rfl)) qe_int rfl))))))) (qss_cons (qs_set (i := 2) nd rfl (.inl rfl) (qe_bin op_mod snd_mod (qe_cb (pe_callTy call_intA rfl F.b_int boot_int (qa_cons (qe_ix (ix_A hu) snd_ix (qe_var (pv 0)) qe_int (fun _ _ => rfl)) qa_nil)) snd_int) (qe_var (pv 1))))
    (qss_cons (qs_asg (qe_bin op_fdiv snd_fdiv (qe_ix (ix_A hu) snd_ix (qe_var (pv 0)) qe_int (fun _ _ => rfl)) (qe_var (pv 1))) (qg_sub hu (qe_var (pv 0)) qe_int (fun _ => rfl)))
    (qss_one (qs_ret (qe_var (pv 2)))))) qss_nil)
    (qss_cons (qs_asg qe_int (qg_sub hu (qe_var (pv 0)) qe_int (fun _ => rfl)))
    (qss_cons (qs_if (qt_cmp op_gt snd_gt (qe_var (pv 1)) qe_int rfl) (qss_one (qs_ret (qe_bin op_mod snd_mod (qe_cb (pe_callTy call_intA rfl F.b_int boot_int (qa_cons (qe_bin op_addA snd_add (qe_bin op_mulA snd_mul qe_bad qe_int) qe_bad) qa_nil)) snd_int) (qe_var (pv 1))))) qss_nil)
    (qss_cons (qs_asg (qe_bin op_mod snd_mod (qe_cb (pe_callTy call_intA rfl F.b_int boot_int (qa_cons (qe_bin op_addA snd_add (qe_bin op_addA snd_add (qe_bin op_mulA snd_mul (qe_ix (ix_A hu) snd_ix (qe_var (pv 0)) qe_int (fun _ _ => rfl)) qe_int) (qe_bin op_mulA snd_mul (qe_ix (ix_A hu) snd_ix (qe_var (pv 0)) qe_int (fun _ _ => rfl)) qe_int)) qe_int) qa_nil)) snd_int) qe_int) (qg_sub hu (qe_var (pv 0)) qe_int (fun _ => rfl)))
    (qss_cons (qs_asg (qe_bin op_addA snd_add (qe_ix (ix_A hu) snd_ix (qe_var (pv 0)) qe_int (fun _ _ => rfl)) qe_int) (qg_sub hu (qe_var (pv 0)) qe_int (fun _ => rfl)))
    (qss_one (qs_ret (qe_bin op_mod snd_mod (qe_cb (pe_callTy call_intA rfl F.b_int boot_int (qa_cons (qe_bin op_fdiv snd_fdiv (qe_ix (ix_A hu) snd_ix (qe_var (pv 0)) qe_int (fun _ _ => rfl)) qe_int) qa_nil)) snd_int) (qe_var (pv 1))))))))))
theorem s__law_roll : FnScope N__law_roll ["dice", "many"] (defScope (top 15)) := ⟨rfl, rfl, rfl, by decide +kernel, rfl, by decide +kernel, by decide +kernel⟩
theorem k__law_rounds {P : Program} {w : World} {K : PySem.W.Frag} {mg : Str → Option Value} {base : Heap} {cls : Str → Addr} {T : List (Addr × Str)} (F : Fx K mg (Ct.mk K cls T)) (G__law_dice : Gfn P w K mg base (Ct.mk K cls T) 1 "_law_dice" 1 [] f__law_dice) {f : Addr} {cdv : Value} {A : Around} {outer : List Env} {s : Shared} {H : Hp} {E : XK}
    (hr : Room 1 (A.deeper (envOfC "_law_rounds" (defScope (top 16)) s.heap.objs.size f cdv))) :
    PSs (cxOf (L2.CX P w) P w K mg base N__law_rounds "_law_rounds" (defScope (top 16)) f cdv A outer s H E) (defBody (top 16)) (rdS (Ct.mk K cls T) E b__law_rounds) := by
  have nd : (N__law_rounds).Nodup := by decide +kernel
  have tk : Takes (cxOf (L2.CX P w) P w K mg base N__law_rounds "_law_rounds" (defScope (top 16)) f cdv A outer s H E) (fun cls d _ H => E cls d H) := takes_of rfl rfl rfl rfl
  have hx := passesT tk
  have hp : PassesOwn _ _ _ (cxOf (L2.CX P w) P w K mg base N__law_rounds "_law_rounds" (defScope (top 16)) f cdv A outer s H E).xe := passes_of rfl
  have hu : (A.deeper (envOfC "_law_rounds" (defScope (top 16)) s.heap.objs.size f cdv)).units + 1 < cLine := Nat.lt_of_le_of_lt (Nat.add_le_add_left (show 1 ≤ 64 by decide) _) hr.units
  exact (qss_cons (qs_set (i := 2) nd rfl (.inl rfl) (qe_sl rfl (qe_var (pv 0)) qo_no (qo_e (qe_var (pv 1)))))
    (qss_cons (qs_if (qt_cmp (op_eqD hr.units) snd_eq (qe_var (pv 2)) (qe_lst qa_nil) rfl) (qss_one (qs_set (i := 2) nd rfl (.inl rfl) (qe_lst (qa_cons qe_int qa_nil)))) qss_nil)
    (qss_one (qs_ret (qe_lc (own := [("cell", 3)]) rfl rfl nd (qi_seq rfl (qe_var (pv 2))) (blkOk_by (show blkC N__law_rounds (defScope (top 16)) _ _ = true from by decide +kernel)) (fun s1 H1 C1 cl1 fp1 => (qt_name nd rfl (by first | exact .inl rfl | exact .inr rfl))) (fun s1 H1 C1 cl1 fp1 => qy_nil) (fun s1 H1 C1 cl1 fp1 => (qe_call G__law_dice (hr.mono (by omega)) rfl passesN (qa_cons (qe_var (pv 3)) qa_nil))))))))
theorem s__law_rounds : FnScope N__law_rounds ["script", "most"] (defScope (top 16)) := ⟨rfl, rfl, rfl, by decide +kernel, rfl, by decide +kernel, by decide +kernel⟩
theorem k__law_row {P : Program} {w : World} {K : PySem.W.Frag} {mg : Str → Option Value} {base : Heap} {cls : Str → Addr} {T : List (Addr × Str)} (F : Fx K mg (Ct.mk K cls T)) (G__law_roll : Gfn P w K mg base (Ct.mk K cls T) 1 "_law_roll" 2 [] f__law_roll) {f : Addr} {cdv : Value} {A : Around} {outer : List Env} {s : Shared} {H : Hp} {E : XK}
    (hr : Room 1 (A.deeper (envOfC "_law_row" (defScope (top 18)) s.heap.objs.size f cdv))) :
    PSs (cxOf (L2.CX P w) P w K mg base N__law_row "_law_row" (defScope (top 18)) f cdv A outer s H E) (defBody (top 18)) (rdS (Ct.mk K cls T) E b__law_row) := by
  have nd : (N__law_row).Nodup := by decide +kernel
  have tk : Takes (cxOf (L2.CX P w) P w K mg base N__law_row "_law_row" (defScope (top 18)) f cdv A outer s H E) (fun cls d _ H => E cls d H) := takes_of rfl rfl rfl rfl
  have hx := passesT tk
  have hp : PassesOwn _ _ _ (cxOf (L2.CX P w) P w K mg base N__law_row "_law_row" (defScope (top 18)) f cdv A outer s H E).xe := passes_of rfl
  have hu : (A.deeper (envOfC "_law_row" (defScope (top 18)) s.heap.objs.size f cdv)).units + 1 < cLine := Nat.lt_of_le_of_lt (Nat.add_le_add_left (show 1 ≤ 64 by decide) _) hr.units
  exact (qss_cons (qs_set (i := 4) nd rfl (.inl rfl) (qe_ix (ix_A hu) snd_ix (qe_gk F.g_INSTRUCTIONS rfl) (qe_call G__law_roll (hr.mono (by omega)) rfl hx (qa_cons (qe_var (pv 0)) (qa_cons qe_int qa_nil))) (fun _ _ => rfl)))
    (qss_cons (qs_if (qt_cmp (op_inA hu) snd_in (qe_var (pv 4)) (qe_lst (qa_cons qe_str (qa_cons qe_str (qa_cons qe_str (qa_cons qe_str qa_nil))))) rfl) (qss_one (qs_ret (qe_tup (qa_cons (qe_if (qt_pw (qw_or (qt_cmp (op_neD hr.units) snd_ne (qe_var (pv 4)) qe_str rfl) (qw_or1 (qt_cmp (op_eqD hr.units) snd_eq (qe_call G__law_roll (hr.mono (by omega)) rfl hx (qa_cons (qe_var (pv 0)) (qa_cons qe_int qa_nil))) qe_int rfl)))) (qe_var (pv 4)) qe_str) (qa_cons qe_int qa_nil))))) qss_nil)
    (qss_one (qs_ret (qe_tup (qa_cons (qe_var (pv 4)) (qa_cons (qe_call G__law_roll (hr.mono (by omega)) rfl hx (qa_cons (qe_var (pv 0)) (qa_cons (qe_if (qt_cmp (op_inA hu) snd_in (qe_var (pv 4)) (qe_lst (qa_cons qe_str (qa_cons qe_str (qa_cons qe_str qa_nil)))) rfl) (qe_cb (pe_callB (call_min2 rfl) rfl F.b_min boot_min (qa_cons (qe_bin op_addA snd_add (qe_var (pv 3)) qe_int) (qa_cons (qe_bin op_shl snd_shl qe_int (qe_var (pv 2))) qa_nil))) snd_min2) (qe_bin op_shl snd_shl qe_int (qe_var (pv 1)))) qa_nil))) qa_nil)))))))
theorem s__law_row : FnScope N__law_row ["dice", "data", "code", "many"] (defScope (top 18)) := ⟨rfl, rfl, rfl, by decide +kernel, rfl, by decide +kernel, by decide +kernel⟩
theorem k__law_step {P : Program} {w : World} {K : PySem.W.Frag} {mg : Str → Option Value} {base : Heap} {cls : Str → Addr} {T : List (Addr × Str)} (F : Fx K mg (Ct.mk K cls T))  {f : Addr} {cdv : Value} {A : Around} {outer : List Env} {s : Shared} {H : Hp} {E : XK}
    (hr : Room 0 (A.deeper (envOfC "_law_step" (defScope (top 19)) s.heap.objs.size f cdv))) :
    PSs (cxOf (L2.CX P w) P w K mg base N__law_step "_law_step" (defScope (top 19)) f cdv A outer s H E) (defBody (top 19)) (rdS (Ct.mk K cls T) E b__law_step) := by
  have nd : (N__law_step).Nodup := by decide +kernel
  have tk : Takes (cxOf (L2.CX P w) P w K mg base N__law_step "_law_step" (defScope (top 19)) f cdv A outer s H E) (fun cls d _ H => E cls d H) := takes_of rfl rfl rfl rfl
  have hx := passesT tk
  have hp : PassesOwn _ _ _ (cxOf (L2.CX P w) P w K mg base N__law_step "_law_step" (defScope (top 19)) f cdv A outer s H E).xe := passes_of rfl
  have hu : (A.deeper (envOfC "_law_step" (defScope (top 19)) s.heap.objs.size f cdv)).units + 1 < cLine := Nat.lt_of_le_of_lt (Nat.add_le_add_left (show 1 ≤ 64 by decide) _) hr.units
  exact (qss_cons (qs_par3 rfl nd rfl rfl rfl (by decide) (by decide) (by decide) rfl rfl rfl (qa_cons (qe_ix (ix_A hu) snd_ix (qe_var (pv 1)) qe_int (fun _ _ => rfl)) (qa_cons (qe_ix (ix_A hu) snd_ix (qe_var (pv 1)) qe_int (fun _ _ => rfl)) (qa_cons (qe_ix (ix_A hu) snd_ix (qe_var (pv 0)) qe_str (fun _ _ => rfl)) qa_nil))) rfl)
    (qss_cons (qs_set (i := 7) nd rfl (.inl rfl) (qe_bin op_mod snd_mod (qe_bin op_addA snd_add (qe_ix (ix_A hu) snd_ix (qe_var (pv 0)) qe_str (fun _ _ => rfl)) qe_int) (qe_var (pv 3))))
    (qss_cons (qs_if (qt_cmp (op_eqD hr.units) snd_eq (qe_var (pv 4)) qe_str rfl) (qss_one (qs_asg (qe_tup (qa_cons qe_bl (qa_cons (qe_ix (ix_A hu) snd_ix (qe_var (pv 0)) qe_str (fun _ _ => rfl)) qa_nil))) (qg_tup rfl rfl (qgs_cons (qg_sub hu (qe_var (pv 0)) qe_str (fun _ => rfl)) (qgs_cons (qg_name nd rfl (.inl rfl)) qgs_nil))))) (qss_one (qs_if (qt_cmp (op_inA hu) snd_in (qe_var (pv 4)) (qe_lst (qa_cons qe_str (qa_cons qe_str (qa_cons qe_str qa_nil)))) rfl) (qss_one (qs_set (i := 7) nd rfl (.inl rfl) (qe_if (qt_val (qe_ix (ix_A hu) snd_ix (qe_disp (qp_cons qe_str qe_bl (qp_cons qe_str (qe_cmp (op_eqD hr.units) snd_eq (qe_ix (ix_A hu) snd_ix (qe_var (pv 0)) qe_str (fun _ _ => rfl)) qe_int rfl) (qp_cons qe_str (qe_cmp (op_eqD hr.units) snd_eq (qe_ix (ix_A hu) snd_ix (qe_var (pv 0)) qe_str (fun _ _ => rfl)) qe_int rfl) qp_nil))) rfl rfl (by intro z; cases z) (by decide)) (qe_var (pv 4)) (fun _ _ => rfl))) (qe_var (pv 5)) (qe_var (pv 7))))) (qss_one (qs_if (qt_cmp (op_eqD hr.units) snd_eq (qe_var (pv 4)) qe_str rfl) (qss_one (qs_asg (qe_var (pv 5)) (qg_sub hu (qe_var (pv 0)) qe_str (fun _ => rfl)))) (qss_one (qs_if (qt_cmp (op_eqD hr.units) snd_eq (qe_var (pv 4)) qe_str rfl) (qss_one (qs_asg (qe_bin op_addA snd_add (qe_ix (ix_A hu) snd_ix (qe_var (pv 0)) qe_str (fun _ _ => rfl)) (qe_lst (qa_cons (qe_ix (ix_A hu) snd_ix (qe_var (pv 0)) qe_str (fun _ _ => rfl)) qa_nil))) (qg_sub hu (qe_var (pv 0)) qe_str (fun _ => rfl)))) (qss_one (qs_if (qt_cmp (op_eqD hr.units) snd_eq (qe_var (pv 4)) qe_str rfl) (qss_one (qs_asg (qe_tup (qa_cons (qe_if (qt_cmp (op_neD hr.units) snd_ne (qe_ix (ix_A hu) snd_ix (qe_var (pv 0)) qe_str (fun _ _ => rfl)) (qe_lst qa_nil) rfl) (qe_bin op_mod snd_mod (qe_ix (ix_A hu) snd_ix (qe_ix (ix_A hu) snd_ix (qe_var (pv 0)) qe_str (fun _ _ => rfl)) qe_int (fun _ _ => rfl)) (qe_var (pv 2))) qe_int) (qa_cons (qe_sl rfl (qe_ix (ix_A hu) snd_ix (qe_var (pv 0)) qe_str (fun _ _ => rfl)) (qo_e qe_int) qo_no) qa_nil))) (qg_tup rfl rfl (qgs_cons (qg_sub hu (qe_var (pv 0)) qe_str (fun _ => rfl)) (qgs_cons (qg_sub hu (qe_var (pv 0)) qe_str (fun _ => rfl)) qgs_nil))))) (qss_one (qs_if (qt_cmp (op_eqD hr.units) snd_eq (qe_var (pv 4)) qe_str rfl) (qss_one (qs_asg (qe_tup (qa_cons (qe_bin op_mod snd_mod (qe_ix (ix_A hu) snd_ix (qe_var (pv 0)) qe_str (fun _ _ => rfl)) qe_int) (qa_cons (qe_bin op_fdiv snd_fdiv (qe_ix (ix_A hu) snd_ix (qe_var (pv 0)) qe_str (fun _ _ => rfl)) qe_int) qa_nil))) (qg_tup rfl rfl (qgs_cons (qg_sub hu (qe_var (pv 0)) qe_str (fun _ => rfl)) (qgs_cons (qg_sub hu (qe_var (pv 0)) qe_str (fun _ => rfl)) qgs_nil))))) (qss_one (qs_if (qt_cmp (op_inA hu) snd_in (qe_var (pv 4)) (qe_lst (qa_cons qe_str (qa_cons qe_str qa_nil))) rfl) (qss_one (qs_asg (qe_ix (ix_A hu) snd_ix (qe_var (pv 0)) qe_str (fun _ _ => rfl)) (qg_sub hu (qe_var (pv 6)) (qe_if (qt_cmp (op_eqD hr.units) snd_eq (qe_var (pv 4)) qe_str rfl) (qe_var (pv 5)) (qe_ix (ix_A hu) snd_ix (qe_var (pv 6)) (qe_var (pv 5)) (fun _ _ => rfl))) (fun _ => rfl)))) (qss_one (qs_if (qt_cmp (op_inA hu) snd_in (qe_var (pv 4)) (qe_lst (qa_cons qe_str (qa_cons qe_str qa_nil))) rfl) (qss_one (qs_asg (qe_if (qt_cmp (op_eqD hr.units) snd_eq (qe_var (pv 4)) qe_str rfl) (qe_ix (ix_A hu) snd_ix (qe_var (pv 6)) (qe_var (pv 5)) (fun _ _ => rfl)) (qe_ix (ix_A hu) snd_ix (qe_var (pv 6)) (qe_ix (ix_A hu) snd_ix (qe_var (pv 6)) (qe_var (pv 5)) (fun _ _ => rfl)) (fun _ _ => rfl))) (qg_sub hu (qe_var (pv 0)) qe_str (fun _ => rfl)))) (qss_one (qs_if (qt_cmp (op_inA hu) snd_in (qe_var (pv 4)) (qe_lst (qa_cons qe_str (qa_cons qe_str qa_nil))) rfl) (qss_one (qs_asg (qe_if (qt_cmp (op_eqD hr.units) snd_eq (qe_var (pv 4)) qe_str rfl) (qe_bin op_and snd_and (qe_ix (ix_A hu) snd_ix (qe_var (pv 0)) qe_str (fun _ _ => rfl)) (qe_ix (ix_A hu) snd_ix (qe_var (pv 6)) (qe_var (pv 5)) (fun _ _ => rfl))) (qe_bin op_xor snd_xor (qe_ix (ix_A hu) snd_ix (qe_var (pv 0)) qe_str (fun _ _ => rfl)) (qe_ix (ix_A hu) snd_ix (qe_var (pv 6)) (qe_var (pv 5)) (fun _ _ => rfl)))) (qg_sub hu (qe_var (pv 0)) qe_str (fun _ => rfl)))) (qss_cons (qs_set (i := 8) nd rfl (.inl rfl) (qe_bin op_addA snd_add (qe_ix (ix_A hu) snd_ix (qe_var (pv 0)) qe_str (fun _ _ => rfl)) (qe_if (qt_cmp (op_eqD hr.units) snd_eq (qe_var (pv 4)) qe_str rfl) (qe_ix (ix_A hu) snd_ix (qe_var (pv 6)) (qe_var (pv 5)) (fun _ _ => rfl)) (qe_un un_neg snd_neg (qe_ix (ix_A hu) snd_ix (qe_var (pv 6)) (qe_var (pv 5)) (fun _ _ => rfl))))))
    (qss_one (qs_asg (qe_tup (qa_cons (qe_cb (pe_callTy call_intA rfl F.b_int boot_int (qa_cons (qe_not (qe_chain op_le snd_le op_lt snd_lt pure_okB qe_int (qe_var (pv 8)) (qe_var (pv 2)))) qa_nil)) snd_int) (qa_cons (qe_bin op_mod snd_mod (qe_var (pv 8)) (qe_var (pv 2))) qa_nil))) (qg_tup rfl rfl (qgs_cons (qg_sub hu (qe_var (pv 0)) qe_str (fun _ => rfl)) (qgs_cons (qg_sub hu (qe_var (pv 0)) qe_str (fun _ => rfl)) qgs_nil)))))))))))))))))))))))
    (qss_one (qs_asg (qe_var (pv 7)) (qg_sub hu (qe_var (pv 0)) qe_str (fun _ => rfl)))))))
theorem s__law_step : FnScope N__law_step ["own", "row", "most", "places"] (defScope (top 19)) := ⟨rfl, rfl, rfl, by decide +kernel, rfl, by decide +kernel, by decide +kernel⟩
theorem k_law {P : Program} {w : World} {K : PySem.W.Frag} {mg : Str → Option Value} {base : Heap} {cls : Str → Addr} {T : List (Addr × Str)} (F : Fx K mg (Ct.mk K cls T)) (G_Size___init__ : Gk P w K mg base (Ct.mk K cls T) 1 "Size" 3 [] f_Size___init__) (G_Machine___init__ : Gk P w K mg base (Ct.mk K cls T) 2 "Machine" 4 [] f_Machine___init__) (G_Machine___init___1 : Gk P w K mg base (Ct.mk K cls T) 2 "Machine" 4 dd_Machine___init___1 f_Machine___init__) (G_encoded : Gfn P w K mg base (Ct.mk K cls T) 2 "encoded" 2 [] f_encoded) (G_decoded : Gfn P w K mg base (Ct.mk K cls T) 3 "decoded" 2 [] f_decoded) (G_check_instruction : Gfn P w K mg base (Ct.mk K cls T) 1 "check_instruction" 2 [] f_check_instruction) (G_Machine_run : Gm' P w K mg base (Ct.mk K cls T) 3 "Machine" "run" 2 [] f_Machine_run) (G__law_rounds : Gfn P w K mg base (Ct.mk K cls T) 2 "_law_rounds" 2 [] f__law_rounds) (G__law_roll : Gfn P w K mg base (Ct.mk K cls T) 1 "_law_roll" 2 [] f__law_roll) (G__law_row : Gfn P w K mg base (Ct.mk K cls T) 2 "_law_row" 4 [] f__law_row) (G_Size_argument : Gm' P w K mg base (Ct.mk K cls T) 1 "Size" "argument" 1 [] f_Size_argument) (G_Size_width : Gm' P w K mg base (Ct.mk K cls T) 2 "Size" "width" 1 [] f_Size_width) (G_Machine_step : Gm' P w K mg base (Ct.mk K cls T) 2 "Machine" "step" 1 [] f_Machine_step) (G_Machine_instruction : Gm' P w K mg base (Ct.mk K cls T) 1 "Machine" "instruction" 1 [] f_Machine_instruction) (G__law_step : Gfn P w K mg base (Ct.mk K cls T) 1 "_law_step" 4 [] f__law_step) (G_Machine_shown : Gm' P w K mg base (Ct.mk K cls T) 1 "Machine" "shown" 1 [] f_Machine_shown) {f : Addr} {cdv : Value} {A : Around} {outer : List Env} {s : Shared} {H : Hp} {E : XK} (hT : Told P w K mg base (Ct.mk K cls T) "_law_told" subT qsT clT) {cc Pt : Addr} (TB : LamX.TabB base mg cc Pt) (hcd : cdv = .ref cc) (hmT : (Pt, (("law.<locals>." : Str) ++ ("<lambda>" : Str))) ∈ T) (huT : ∀ p ∈ T, p.1 = Pt → p.2 = (("law.<locals>." : Str) ++ ("<lambda>" : Str)))
    (hr : Room 5 (A.deeper (envOfC "law" (defScope (top 20)) s.heap.objs.size f cdv))) :
    PSs (cxOf (L2.CX P w) P w K mg base N_law "law" (defScope (top 20)) f cdv A outer s H E) (defBody (top 20)) (rdS (Ct.mk K cls T) E b_law) := by
  have nd : (N_law).Nodup := by decide +kernel
  have tk : Takes (cxOf (L2.CX P w) P w K mg base N_law "law" (defScope (top 20)) f cdv A outer s H E) (fun cls d _ H => E cls d H) := takes_of rfl rfl rfl rfl
  have hx := passesT tk
  have hp : PassesOwn _ _ _ (cxOf (L2.CX P w) P w K mg base N_law "law" (defScope (top 20)) f cdv A outer s H E).xe := passes_of rfl
  have hu : (A.deeper (envOfC "law" (defScope (top 20)) s.heap.objs.size f cdv)).units + 1 < cLine := Nat.lt_of_le_of_lt (Nat.add_le_add_left (show 1 ≤ 64 by decide) _) hr.units
  exact (qss_cons (qs_for hp rfl (qi_seq rfl (qe_call G__law_rounds (hr.mono (by omega)) rfl hx (qa_cons (qe_var (pv 0)) (qa_cons qe_int qa_nil)))) (qg_name nd rfl (.inr rfl)) (qss_cons (qs_asg (qe_tup (qa_cons (qe_bin op_addA snd_add qe_int (qe_call G__law_roll (hr.mono (by omega)) rfl hx (qa_cons (qe_var (pv 1)) (qa_cons qe_int qa_nil)))) (qa_cons (qe_bin op_addA snd_add qe_int (qe_call G__law_roll (hr.mono (by omega)) rfl hx (qa_cons (qe_var (pv 1)) (qa_cons qe_int qa_nil)))) qa_nil))) (qg_tup rfl rfl (qgs_cons (qg_name nd rfl (.inr rfl)) (qgs_cons (qg_name nd rfl (.inr rfl)) qgs_nil))))
    (qss_cons (qs_asg (qe_tup (qa_cons (qe_make G_Size___init__ (hr.mono (by omega)) rfl hx (qa_cons (qe_var (pv 2)) (qa_cons (qe_var (pv 3)) qa_nil))) (qa_cons (qe_bin op_addA snd_add qe_int (qe_call G__law_roll (hr.mono (by omega)) rfl hx (qa_cons (qe_var (pv 1)) (qa_cons (qe_cb (pe_callB (call_min2 rfl) rfl F.b_min boot_min (qa_cons qe_int (qa_cons (qe_bin op_shl snd_shl qe_int (qe_var (pv 3))) qa_nil))) snd_min2) qa_nil)))) qa_nil))) (qg_tup rfl rfl (qgs_cons (qg_name nd rfl (.inr rfl)) (qgs_cons (qg_name nd rfl (.inr rfl)) qgs_nil))))
    (qss_cons (qs_setLc (i := 6) (own := [("k", 19)]) rfl rfl nd rfl rfl (sw_true rfl rfl rfl rfl) (qi_rng1 rfl F.b_range (qa_cons (qe_var (pv 5)) qa_nil)) (blkOk_by (show blkC N_law (defScope (top 20)) _ _ = true from by decide +kernel)) (fun s1 H1 C1 cl1 fp1 => (qt_name nd rfl (by first | exact .inl rfl | exact .inr rfl))) (fun s1 H1 C1 cl1 fp1 => qy_nil) (fun s1 H1 C1 cl1 fp1 => (qe_call G__law_row (hr.mono (by omega)) rfl passesN (qa_cons (qe_var (pv 1)) (qa_cons (qe_var (pv 2)) (qa_cons (qe_var (pv 3)) (qa_cons (qe_var (pv 5)) qa_nil)))))))
    (qss_cons (qs_setLc (i := 7) (own := [("k", 19)]) rfl rfl nd rfl rfl (sw_true rfl rfl rfl rfl) (qi_rng1 rfl F.b_range (qa_cons (qe_call G__law_roll (hr.mono (by omega)) rfl hx (qa_cons (qe_var (pv 1)) (qa_cons qe_int qa_nil))) qa_nil)) (blkOk_by (show blkC N_law (defScope (top 20)) _ _ = true from by decide +kernel)) (fun s1 H1 C1 cl1 fp1 => (qt_name nd rfl (by first | exact .inl rfl | exact .inr rfl))) (fun s1 H1 C1 cl1 fp1 => qy_nil) (fun s1 H1 C1 cl1 fp1 => (qe_call G__law_roll (hr.mono (by omega)) rfl passesN (qa_cons (qe_var (pv 1)) (qa_cons qe_int qa_nil)))))
    (qss_cons (qs_set (i := 8) nd rfl (.inr rfl) (qe_make G_Machine___init__ (hr.mono (by omega)) rfl hx (qa_cons (qe_var (pv 4)) (qa_cons (qe_var (pv 6)) (qa_cons (qe_var (pv 7)) qa_nil)))))
    (qss_cons (qs_set (i := 9) nd rfl (.inl rfl) (qe_disp (qp_cons qe_str qe_int (qp_cons qe_str qe_int (qp_cons qe_str qe_int (qp_cons qe_str (qe_bin op_mulA snd_mul (qe_lst (qa_cons qe_int qa_nil)) (qe_bin op_shl snd_shl qe_int (qe_var (pv 2)))) (qp_cons qe_str (qe_lst qa_nil) (qp_cons qe_str qe_bl (qp_cons qe_str (qe_var (pv 7)) qp_nil))))))) rfl rfl (by intro z; cases z) (by decide)))
    (qss_cons (qs_if (qt_pw (qw_or (qt_cmp (op_neD hr.units) snd_ne (qe_meth0 G_Size_argument (hr.mono (by omega)) hx (qe_var (pv 4))) (qe_cb (pe_callB (call_max2 rfl) rfl F.b_max boot_max (qa_cons (qe_var (pv 2)) (qa_cons (qe_var (pv 3)) qa_nil))) snd_max2) rfl) (qw_or1 (qt_cmp (op_neD hr.units) snd_ne (qe_meth0 G_Size_width (hr.mono (by omega)) hx (qe_var (pv 4))) (qe_bin op_addA snd_add qe_int (qe_cb (pe_callB (call_max2 rfl) rfl F.b_max boot_max (qa_cons (qe_var (pv 2)) (qa_cons (qe_var (pv 3)) qa_nil))) snd_max2)) rfl)))) (qss_one (qs_ret qe_bl)) qss_nil)
    (qss_cons (qs_for hp rfl (qi_rng1 rfl F.b_range (qa_cons (qe_call G__law_roll (hr.mono (by omega)) rfl hx (qa_cons (qe_var (pv 1)) (qa_cons qe_int qa_nil))) qa_nil)) (qg_name nd rfl (.inl rfl)) (qss_cons (qs_if (qt_val (qe_ix (ix_A hu) snd_ix (qe_var (pv 9)) qe_str (fun _ _ => rfl))) (qss_cons (qs_if (qt_cmp (op_neD hr.units) snd_ne (qe_told (k := 2) hT rfl TB hcd hmT huT (hr.mono (by omega)) (LamX.lamS_by (show LamX.lamSB (defScope (top 20)) _ = true from by decide +kernel)) (fun A2 outer2 s2 H2 E2 f2 c2 hr => by
      have hu := (show _ < cLine from hr.units)
      have hu : _ + 1 < cLine := Nat.lt_of_le_of_lt (Nat.add_le_add_left (show 1 ≤ 64 by decide) _) hu
      exact (qe_meth0 G_Machine_step (hr.mono (by omega)) passesL (qe_var (pv 8))))) qe_str rfl) (qss_one (qs_ret qe_bl)) qss_nil)
    (qss_one qs_brk)) qss_nil)
    (qss_cons (qs_set (i := 11) nd rfl (.inl rfl) (qe_if (qt_cmp op_lt snd_lt (qe_ix (ix_A hu) snd_ix (qe_var (pv 9)) qe_str (fun _ _ => rfl)) (qe_var (pv 5)) rfl) (qe_ix (ix_A hu) snd_ix (qe_var (pv 6)) (qe_ix (ix_A hu) snd_ix (qe_var (pv 9)) qe_str (fun _ _ => rfl)) (fun _ _ => rfl)) (qe_tup (qa_cons qe_str (qa_cons qe_int qa_nil)))))
    (qss_cons (qs_if (qt_cmp (op_neD hr.units) snd_ne (qe_meth0 G_Machine_instruction (hr.mono (by omega)) hx (qe_var (pv 8))) (qe_var (pv 11)) rfl) (qss_one (qs_ret qe_bl)) qss_nil)
    (qss_cons (qs_expr (qe_meth0 G_Machine_step (hr.mono (by omega)) hx (qe_var (pv 8))))
    (qss_cons (qs_expr (qe_call G__law_step (hr.mono (by omega)) rfl hx (qa_cons (qe_var (pv 9)) (qa_cons (qe_var (pv 11)) (qa_cons (qe_bin op_shl snd_shl qe_int (qe_var (pv 2))) (qa_cons (qe_bin op_shl snd_shl qe_int (qe_var (pv 3))) qa_nil))))))
    (qss_one (qs_if (qt_cmp (op_neD hr.units) snd_ne (qe_meth0 G_Machine_shown (hr.mono (by omega)) hx (qe_var (pv 8))) (qe_tup (qa_cons (qe_ix (ix_A hu) snd_ix (qe_var (pv 9)) qe_str (fun _ _ => rfl)) (qa_cons (qe_ix (ix_A hu) snd_ix (qe_var (pv 9)) qe_str (fun _ _ => rfl)) (qa_cons (qe_ix (ix_A hu) snd_ix (qe_var (pv 9)) qe_str (fun _ _ => rfl)) (qa_cons (qe_cb (pe_callTy call_tuple_of rfl F.b_tuple boot_tuple (qa_cons (qe_ix (ix_A hu) snd_ix (qe_var (pv 9)) qe_str (fun _ _ => rfl)) qa_nil)) snd_tuple) (qa_cons (qe_cb (pe_callTy call_tuple_of rfl F.b_tuple boot_tuple (qa_cons (qe_ix (ix_A hu) snd_ix (qe_var (pv 9)) qe_str (fun _ _ => rfl)) qa_nil)) snd_tuple) (qa_cons (qe_ix (ix_A hu) snd_ix (qe_var (pv 9)) qe_str (fun _ _ => rfl)) qa_nil))))))) rfl) (qss_one (qs_ret qe_bl)) qss_nil))))))))
    (qss_cons (qs_set (i := 12) nd rfl (.inl rfl) (qe_make G_Machine___init__ (hr.mono (by omega)) rfl hx (qa_cons (qe_var (pv 4)) (qa_cons (qe_var (pv 6)) (qa_cons (qe_var (pv 7)) qa_nil)))))
    (qss_cons (qs_set (i := 13) nd rfl (.inl rfl) (qe_meth G_Machine_run (hr.mono (by omega)) hx (qe_var (pv 12)) (qa_cons qe_int qa_nil)))
    (qss_cons (qs_if (qt_pw (qw_or (qt_cmp (op_neD hr.units) snd_ne (qe_var (pv 13)) (qe_attr F.a_halted (qe_var (pv 12)) rfl) rfl) (qw_or1 (qt_pw (qw_and (qt_val (qe_var (pv 13))) (qw_and1 (qt_cmp op_notA snd_isnot (qe_meth G_Machine_run (hr.mono (by omega)) hx (qe_var (pv 12)) (qa_cons qe_int qa_nil)) qe_bl rfl))))))) (qss_one (qs_ret qe_bl)) qss_nil)
    (qss_cons (qs_for hp rfl (qi_seq rfl (qe_var (pv 6))) (qg_name nd rfl (.inl rfl)) (qss_cons (qs_set (i := 14) nd rfl (.inr rfl) (qe_call G_encoded (hr.mono (by omega)) rfl hx (qa_cons (qe_var (pv 11)) (qa_cons (qe_var (pv 4)) qa_nil))))
    (qss_one (qs_if (qt_pw (qw_or (qt_cmp (op_neD hr.units) snd_ne (qe_var (pv 14)) (qe_bin op_addA snd_add (qe_bin op_mulA snd_mul (qe_bm rfl PySem.F.plainAttrs_tuple PySem.F.slot_tuple_index PySem.F.type_tuple_index mt_tup_index snd_tix (qe_gk F.g_INSTRUCTIONS rfl) (qa_cons (qe_ix (ix_A hu) snd_ix (qe_var (pv 11)) qe_int (fun _ _ => rfl)) qa_nil)) (qe_bin op_shl snd_shl qe_int (qe_cb (pe_callB (call_max2 rfl) rfl F.b_max boot_max (qa_cons (qe_var (pv 2)) (qa_cons (qe_var (pv 3)) qa_nil))) snd_max2))) (qe_ix (ix_A hu) snd_ix (qe_var (pv 11)) qe_int (fun _ _ => rfl))) rfl) (qw_or (qt_cmp (op_neD hr.units) snd_ne (qe_call G_decoded (hr.mono (by omega)) rfl hx (qa_cons (qe_var (pv 14)) (qa_cons (qe_var (pv 4)) qa_nil))) (qe_var (pv 11)) rfl) (qw_or1 (qt_cmp op_notA snd_isnot (qe_call G_check_instruction (hr.mono (by omega)) rfl hx (qa_cons (qe_var (pv 11)) (qa_cons (qe_var (pv 4)) qa_nil))) qe_non rfl))))) (qss_one (qs_ret qe_bl)) qss_nil))))
    (qss_cons (qs_asg (qe_tup (qa_cons (qe_ix (ix_A hu) snd_ix (qe_gk F.g_INSTRUCTIONS rfl) (qe_call G__law_roll (hr.mono (by omega)) rfl hx (qa_cons (qe_var (pv 1)) (qa_cons qe_int qa_nil))) (fun _ _ => rfl)) (qa_cons (qe_call G__law_roll (hr.mono (by omega)) rfl hx (qa_cons (qe_var (pv 1)) (qa_cons qe_int qa_nil))) qa_nil))) (qg_tup rfl rfl (qgs_cons (qg_name nd rfl (.inr rfl)) (qgs_cons (qg_name nd rfl (.inr rfl)) qgs_nil))))
    (qss_cons (qs_set (i := 16) nd rfl (.inl rfl) (qe_if (qt_cmp (op_inA hu) snd_in (qe_var (pv 15)) (qe_lst (qa_cons qe_str (qa_cons qe_str (qa_cons qe_str (qa_cons qe_str qa_nil))))) rfl) qe_int (qe_if (qt_cmp (op_inA hu) snd_in (qe_var (pv 15)) (qe_lst (qa_cons qe_str (qa_cons qe_str (qa_cons qe_str qa_nil)))) rfl) (qe_var (pv 3)) (qe_var (pv 2)))))
    (qss_one (qs_if (qt_cmp (op_neD hr.units) snd_ne (qe_cmp (op_eqD hr.units) snd_eq (qe_told (k := 1) hT rfl TB hcd hmT huT (hr.mono (by omega)) (LamX.lamS_by (show LamX.lamSB (defScope (top 20)) _ = true from by decide +kernel)) (fun A2 outer2 s2 H2 E2 f2 c2 hr => by
      have hu := (show _ < cLine from hr.units)
      have hu : _ + 1 < cLine := Nat.lt_of_le_of_lt (Nat.add_le_add_left (show 1 ≤ 64 by decide) _) hu
      exact (qe_call G_check_instruction (hr.mono (by omega)) rfl passesL (qa_cons (qe_tup (qa_cons (qe_var (pv 15)) (qa_cons (qe_var (pv 14)) qa_nil))) (qa_cons (qe_var (pv 4)) qa_nil))))) qe_str rfl) (qe_cmp op_ge snd_ge (qe_var (pv 14)) (qe_bin op_shl snd_shl qe_int (qe_var (pv 16))) rfl) rfl) (qss_one (qs_ret qe_bl)) qss_nil)))))))))))))))))
    (qss_cons (qs_set (i := 17) nd rfl (.inr rfl) (qe_make G_Size___init__ (hr.mono (by omega)) rfl hx (qa_cons qe_int (qa_cons qe_int qa_nil))))
    (qss_lams (i := 18) (ls := [⟨_, _, _, _⟩, ⟨_, _, _, _⟩, ⟨_, _, _, _⟩, ⟨_, _, _, _⟩, ⟨_, _, _, _⟩, ⟨_, _, _, _⟩, ⟨_, _, _, _⟩, ⟨_, _, _, _⟩, ⟨_, _, _, _⟩, ⟨_, _, _, _⟩, ⟨_, _, _, _⟩]) rfl TB hcd hmT huT nd rfl rfl (fa_cons ⟨LamX.lamS_by (show LamX.lamSB (defScope (top 20)) _ = true from by decide +kernel), rfl⟩ (fa_cons ⟨LamX.lamS_by (show LamX.lamSB (defScope (top 20)) _ = true from by decide +kernel), rfl⟩ (fa_cons ⟨LamX.lamS_by (show LamX.lamSB (defScope (top 20)) _ = true from by decide +kernel), rfl⟩ (fa_cons ⟨LamX.lamS_by (show LamX.lamSB (defScope (top 20)) _ = true from by decide +kernel), rfl⟩ (fa_cons ⟨LamX.lamS_by (show LamX.lamSB (defScope (top 20)) _ = true from by decide +kernel), rfl⟩ (fa_cons ⟨LamX.lamS_by (show LamX.lamSB (defScope (top 20)) _ = true from by decide +kernel), rfl⟩ (fa_cons ⟨LamX.lamS_by (show LamX.lamSB (defScope (top 20)) _ = true from by decide +kernel), rfl⟩ (fa_cons ⟨LamX.lamS_by (show LamX.lamSB (defScope (top 20)) _ = true from by decide +kernel), rfl⟩ (fa_cons ⟨LamX.lamS_by (show LamX.lamSB (defScope (top 20)) _ = true from by decide +kernel), rfl⟩ (fa_cons ⟨LamX.lamS_by (show LamX.lamSB (defScope (top 20)) _ = true from by decide +kernel), rfl⟩ (fa_cons ⟨LamX.lamS_by (show LamX.lamSB (defScope (top 20)) _ = true from by decide +kernel), rfl⟩ fa_nil))))))))))) (by decide) rfl (fun pl pn sub2 => (qss_oneK (qs_retK (qe_andK (qe_cmpK (op_eqD hr.units) snd_eq (qe_lamcomp2 (k := 3) (i := 20) rfl hT sub2 rfl nd rfl (.inl rfl) rfl (blkOk_by (show blkC N_law (defScope (top 20)) _ _ = true from by decide +kernel)) (fun _ _ _ _ _ => rfl) (fun _ _ => .inl rfl) (fun _ _ _ _ _ => pg_name nd rfl (.inl rfl)) (hr.mono (by omega)) (by decide +kernel) (.cons (LamX.lamS_by (show LamX.lamSB (defScope (top 20)) _ = true from by decide +kernel)) (fun _ _ _ _ _ => rfl) (fun A2 outer2 s2 H2 E2 f2 c2 hr => by
        have hu := (show _ < cLine from hr.units)
        have hu : _ + 1 < cLine := Nat.lt_of_le_of_lt (Nat.add_le_add_left (show 1 ≤ 64 by decide) _) hu
        exact (qe_make G_Size___init__ (hr.mono (by omega)) rfl passesL (qa_cons qe_int (qa_cons qe_int qa_nil)))) (.cons (LamX.lamS_by (show LamX.lamSB (defScope (top 20)) _ = true from by decide +kernel)) (fun _ _ _ _ _ => rfl) (fun A2 outer2 s2 H2 E2 f2 c2 hr => by
        have hu := (show _ < cLine from hr.units)
        have hu : _ + 1 < cLine := Nat.lt_of_le_of_lt (Nat.add_le_add_left (show 1 ≤ 64 by decide) _) hu
        exact (qe_make G_Size___init__ (hr.mono (by omega)) rfl passesL (qa_cons qe_int (qa_cons qe_int qa_nil)))) (.cons (LamX.lamS_by (show LamX.lamSB (defScope (top 20)) _ = true from by decide +kernel)) (fun _ _ _ _ _ => rfl) (fun A2 outer2 s2 H2 E2 f2 c2 hr => by
        have hu := (show _ < cLine from hr.units)
        have hu : _ + 1 < cLine := Nat.lt_of_le_of_lt (Nat.add_le_add_left (show 1 ≤ 64 by decide) _) hu
        exact (qe_make G_Size___init__ (hr.mono (by omega)) rfl passesL (qa_cons qe_int (qa_cons qe_int qa_nil)))) (.cons (LamX.lamS_by (show LamX.lamSB (defScope (top 20)) _ = true from by decide +kernel)) (fun _ _ _ _ _ => rfl) (fun A2 outer2 s2 H2 E2 f2 c2 hr => by
        have hu := (show _ < cLine from hr.units)
        have hu : _ + 1 < cLine := Nat.lt_of_le_of_lt (Nat.add_le_add_left (show 1 ≤ 64 by decide) _) hu
        exact (qe_make G_Size___init__ (hr.mono (by omega)) rfl passesL (qa_cons qe_int (qa_cons qe_int qa_nil)))) (.cons (LamX.lamS_by (show LamX.lamSB (defScope (top 20)) _ = true from by decide +kernel)) (fun _ _ _ _ _ => rfl) (fun A2 outer2 s2 H2 E2 f2 c2 hr => by
        have hu := (show _ < cLine from hr.units)
        have hu : _ + 1 < cLine := Nat.lt_of_le_of_lt (Nat.add_le_add_left (show 1 ≤ 64 by decide) _) hu
        exact (qe_make (G_Machine___init___1) (hr.mono (by omega)) rfl passesL (qa_cons (qe_var (pv 17)) (qa_cons (qe_bin op_mulA snd_mul (qe_lst (qa_cons (qe_tup (qa_cons qe_str (qa_cons qe_int qa_nil))) qa_nil)) qe_int) qa_nil)))) (.cons (LamX.lamS_by (show LamX.lamSB (defScope (top 20)) _ = true from by decide +kernel)) (fun _ _ _ _ _ => rfl) (fun A2 outer2 s2 H2 E2 f2 c2 hr => by
        have hu := (show _ < cLine from hr.units)
        have hu : _ + 1 < cLine := Nat.lt_of_le_of_lt (Nat.add_le_add_left (show 1 ≤ 64 by decide) _) hu
        exact (qe_call G_encoded (hr.mono (by omega)) rfl passesL (qa_cons (qe_tup (qa_cons qe_str (qa_cons qe_int qa_nil))) (qa_cons (qe_var (pv 17)) qa_nil)))) (.cons (LamX.lamS_by (show LamX.lamSB (defScope (top 20)) _ = true from by decide +kernel)) (fun _ _ _ _ _ => rfl) (fun A2 outer2 s2 H2 E2 f2 c2 hr => by
        have hu := (show _ < cLine from hr.units)
        have hu : _ + 1 < cLine := Nat.lt_of_le_of_lt (Nat.add_le_add_left (show 1 ≤ 64 by decide) _) hu
        exact (qe_call G_decoded (hr.mono (by omega)) rfl passesL (qa_cons qe_int (qa_cons (qe_var (pv 17)) qa_nil)))) (.cons (LamX.lamS_by (show LamX.lamSB (defScope (top 20)) _ = true from by decide +kernel)) (fun _ _ _ _ _ => rfl) (fun A2 outer2 s2 H2 E2 f2 c2 hr => by
        have hu := (show _ < cLine from hr.units)
        have hu : _ + 1 < cLine := Nat.lt_of_le_of_lt (Nat.add_le_add_left (show 1 ≤ 64 by decide) _) hu
        exact (qe_call G_decoded (hr.mono (by omega)) rfl passesL (qa_cons (qe_un un_neg snd_neg qe_int) (qa_cons (qe_var (pv 17)) qa_nil)))) (.cons (LamX.lamS_by (show LamX.lamSB (defScope (top 20)) _ = true from by decide +kernel)) (fun _ _ _ _ _ => rfl) (fun A2 outer2 s2 H2 E2 f2 c2 hr => by
        have hu := (show _ < cLine from hr.units)
        have hu : _ + 1 < cLine := Nat.lt_of_le_of_lt (Nat.add_le_add_left (show 1 ≤ 64 by decide) _) hu
        exact (qe_call G_check_instruction (hr.mono (by omega)) rfl passesL (qa_cons (qe_tup (qa_cons qe_str (qa_cons (qe_un un_neg snd_neg qe_int) qa_nil))) (qa_cons (qe_var (pv 17)) qa_nil)))) (.cons (LamX.lamS_by (show LamX.lamSB (defScope (top 20)) _ = true from by decide +kernel)) (fun _ _ _ _ _ => rfl) (fun A2 outer2 s2 H2 E2 f2 c2 hr => by
        have hu := (show _ < cLine from hr.units)
        have hu : _ + 1 < cLine := Nat.lt_of_le_of_lt (Nat.add_le_add_left (show 1 ≤ 64 by decide) _) hu
        exact (qe_call G_check_instruction (hr.mono (by omega)) rfl passesL (qa_cons (qe_tup (qa_cons qe_str qa_nil)) (qa_cons (qe_var (pv 17)) qa_nil)))) (.cons (LamX.lamS_by (show LamX.lamSB (defScope (top 20)) _ = true from by decide +kernel)) (fun _ _ _ _ _ => rfl) (fun A2 outer2 s2 H2 E2 f2 c2 hr => by
        have hu := (show _ < cLine from hr.units)
        have hu : _ + 1 < cLine := Nat.lt_of_le_of_lt (Nat.add_le_add_left (show 1 ≤ 64 by decide) _) hu
        exact (qe_make (G_Machine___init___1) (hr.mono (by omega)) rfl passesL (qa_cons (qe_var (pv 17)) (qa_cons (qe_lst (qa_cons (qe_tup (qa_cons qe_str (qa_cons qe_int qa_nil))) qa_nil)) qa_nil)))) .nil)))))))))))) (qe_lst qa_nil) rfl) (qe_and (qe_cmp op_isA snd_is (qe_meth G_Machine_run (hr.mono (by omega)) passesTr (qe_make (G_Machine___init___1) (hr.mono (by omega)) rfl passesTr (qa_cons (qe_var (pv 17)) (qa_cons (qe_lst qa_nil) qa_nil))) (qa_cons qe_int qa_nil)) qe_bl rfl) (qe_one (qe_cmp (op_eqD hr.units) snd_eq (qe_call G_decoded (hr.mono (by omega)) rfl passesTr (qa_cons (qe_bin op_sub snd_sub (qe_bin op_mulA snd_mul qe_int qe_int) qe_int) (qa_cons (qe_var (pv 17)) qa_nil))) (qe_tup (qa_cons qe_str (qa_cons qe_int qa_nil))) rfl))))))))))
theorem s_law : FnScope N_law ["script"] (defScope (top 20)) := ⟨rfl, rfl, rfl, by decide +kernel, rfl, by decide +kernel, by decide +kernel⟩
end K10

set_option Elab.async false
set_option linter.all false
set_option maxRecDepth 100000
set_option maxHeartbeats 1000000
namespace K10
open PySem PySem.Spec PyProof.Rows L2 Y
def dG (x : Str) (i : Nat) (dfl : List He.Dv := []) : He.DefD := ⟨(x, none), x, x, defArgs (top i), defBody (top i), defScope (top i), dfl, []⟩
def dM (c x q : Str) (i j : Nat) (dfl : List He.Dv := []) : He.DefD := ⟨(c, some x), x, q, defArgs (inClass (top i) j), defBody (inClass (top i) j), defScope (inClass (top i) j), dfl, []⟩
def fn : List He.DefD := [dM "Size" "__init__" "Size.__init__" 8 0,
  dM "Size" "argument" "Size.argument" 8 1,
  dM "Size" "width" "Size.width" 8 2,
  dG "check_instruction" 9,
  dG "encoded" 10,
  dG "decoded" 11,
  dM "Machine" "__init__" "Machine.__init__" 12 0 [.adr (He.dflAt ("Machine", some "__init__") 0)],
  dM "Machine" "instruction" "Machine.instruction" 12 1,
  dM "Machine" "reckon" "Machine.reckon" 12 3,
  dM "Machine" "step" "Machine.step" 12 2,
  dM "Machine" "run" "Machine.run" 12 4,
  dM "Machine" "shown" "Machine.shown" 12 5,
  dG "_law_dice" 14,
  dG "_law_roll" 15,
  dG "_law_rounds" 16,
  dG "_law_row" 18,
  dG "_law_step" 19,
  dG "_law_told" 17,
  dG "law" 20]
def fa : List He.Fa := [.glo "check_instruction", .glo "encoded", .glo "decoded", .glo "_law_dice", .glo "_law_roll", .glo "_law_rounds", .glo "_law_row", .glo "_law_step", .glo "_law_told", .glo "law", .glo "Machine", .cls "Machine", .glo "Size", .cls "Size", .mkr "Size", .meth "Size" "argument", .meth "Size" "width", .mkr "Machine", .meth "Machine" "instruction", .meth "Machine" "reckon", .meth "Machine" "step", .meth "Machine" "run", .meth "Machine" "shown", .noat "Machine" "acc", .noat "Machine" "carry", .noat "Size" "code", .noat "Machine" "code", .noat "Machine" "coming", .noat "Size" "data", .noat "Machine" "halted", .noat "Machine" "memory", .noat "Machine" "place", .noat "Machine" "sent", .noat "Machine" "size", .free "abs", .free "int", .free "isinstance", .free "len", .free "list", .free "max", .free "min", .free "range", .free "tuple", .glo "CodeError", .exc "CodeError", .glo "RunError", .exc "RunError", .exm "CodeError" "CodeError" true, .exm "CodeError" "RunError" false, .exm "RunError" "CodeError" false, .exm "RunError" "RunError" true, .keep "_law_told"]
def exl (K : PySem.W.Frag) : List Bool := [glB K "INSTRUCTIONS" K_INSTRUCTIONS, glB K "JUMPS" K_JUMPS, glB K "PLAIN" K_PLAIN, vsB K dd_Machine___init___1 [.ref (He.dflAt ("Machine", some "__init__") 0 K)]]
def ex (K : PySem.W.Frag) : Bool := (exl K).all id
abbrev RR : PySem.W.OpenRow := PySem.W.OpenLaw.row PySem.Challenge.rw_chipstack_k10_machines_step_by_step
abbrev hk : PySem.W.Hook := He.hookX 6 fa fn [] [("law", none)] ex
def ob (s : PySem.W.SharedT) : He.AlX := He.obsX 6 fa fn [] [("law", none)] ex (HandSHeadRun.getT s)
theorem ob_eq (s : PySem.W.SharedT) : ob s = hk.obs s.abs := He.obsX_eq (HandSHeadRun.getT_eq s)
def names : List PySem.Str := ["ChipError", "CodeError", "RunError", "INSTRUCTIONS", "PLAIN", "JUMPS", "Size", "check_instruction", "encoded", "decoded", "Machine", "_law_dice", "_law_roll", "_law_rounds", "_law_told", "_law_row", "_law_step"]
set_option maxHeartbeats 0 in
theorem run (w : World) : HandSHeadRun.RunEq RR (PySem.W.view RR.prog [20]) hk ob 3000 names w := by
  intro os
  kernel_rfl
theorem facts {w : World} {K : PySem.W.Frag} {h : Heap} {mg : Str → Option Value} {f : Addr} (X : K.In h) (G : h.Ns mainGlobals mg) (hfa : mg ("law" : Str) = some (.ref f)) (cc : He.SaysX fa fn [] [("law", none)] ex w h K)
    (p1 : ∀ ns : List Int, ns.length ≤ 63 → (∀ z ∈ ns, Builtin.Int.intBits z ≤ 1048576) → ∃ S', f_law [.fro (ns.map .int)] S0 = .ok (.bl true) S')
    (p2 : ∀ ns : List Int, ns.length ≤ 63 → (∀ z ∈ ns, Builtin.Int.intBits z ≤ 1048576) → ∃ S', f_law [.adr 0] (S1 (ns.map .int)) = .ok (.bl true) S') :
    LamX.LawAtS PySem.Challenge.rw_chipstack_k10_machines_step_by_step w K (L2.CX PySem.Challenge.rw_chipstack_k10_machines_step_by_step.prog w) 6 63 "script" mg f h := by
  have D := cc.t.d
  obtain ⟨fd_0, F_0⟩ := D.def_ 0 rfl
  obtain ⟨fd_1, F_1⟩ := D.def_ 1 rfl
  obtain ⟨fd_2, F_2⟩ := D.def_ 2 rfl
  obtain ⟨fd_3, F_3⟩ := D.def_ 3 rfl
  obtain ⟨fd_4, F_4⟩ := D.def_ 4 rfl
  obtain ⟨fd_5, F_5⟩ := D.def_ 5 rfl
  obtain ⟨fd_6, F_6⟩ := D.def_ 6 rfl
  obtain ⟨fd_7, F_7⟩ := D.def_ 7 rfl
  obtain ⟨fd_8, F_8⟩ := D.def_ 8 rfl
  obtain ⟨fd_9, F_9⟩ := D.def_ 9 rfl
  obtain ⟨fd_10, F_10⟩ := D.def_ 10 rfl
  obtain ⟨fd_11, F_11⟩ := D.def_ 11 rfl
  obtain ⟨fd_12, F_12⟩ := D.def_ 12 rfl
  obtain ⟨fd_13, F_13⟩ := D.def_ 13 rfl
  obtain ⟨fd_14, F_14⟩ := D.def_ 14 rfl
  obtain ⟨fd_15, F_15⟩ := D.def_ 15 rfl
  obtain ⟨fd_16, F_16⟩ := D.def_ 16 rfl
  obtain ⟨fd_17, F_17⟩ := D.def_ 17 rfl
  obtain ⟨fd_18, F_18⟩ := D.def_ 18 rfl
  have e := hfa.symm.trans (He.glo_ok X G (D.fact 9 rfl))
  cases e
  have base_facts : ∀ T : List (Addr × Str), Fx K mg (Ct.mk K (fun q => He.ga K q) T) := fun T => ⟨trivial,
    ⟨(fun q hq => by
      simp only [List.mem_cons, List.not_mem_nil, or_false] at hq
      rcases hq with rfl
      · exact (He.cls_ok (D.fact 11 rfl))
      ), (fun q hq => by
      simp only [List.mem_cons, List.not_mem_nil, or_false] at hq
      rcases hq with rfl
      · exact (He.noat_ok (D.fact 23 rfl))
      )⟩,
    ⟨(fun q hq => by
      simp only [List.mem_cons, List.not_mem_nil, or_false] at hq
      rcases hq with rfl
      · exact (He.cls_ok (D.fact 11 rfl))
      ), (fun q hq => by
      simp only [List.mem_cons, List.not_mem_nil, or_false] at hq
      rcases hq with rfl
      · exact (He.noat_ok (D.fact 24 rfl))
      )⟩,
    ⟨(fun q hq => by
      simp only [List.mem_cons, List.not_mem_nil, or_false] at hq
      rcases hq with rfl | rfl
      · exact (He.cls_ok (D.fact 13 rfl))
      · exact (He.cls_ok (D.fact 11 rfl))
      ), (fun q hq => by
      simp only [List.mem_cons, List.not_mem_nil, or_false] at hq
      rcases hq with rfl | rfl
      · exact (He.noat_ok (D.fact 25 rfl))
      · exact (He.noat_ok (D.fact 26 rfl))
      )⟩,
    ⟨(fun q hq => by
      simp only [List.mem_cons, List.not_mem_nil, or_false] at hq
      rcases hq with rfl
      · exact (He.cls_ok (D.fact 11 rfl))
      ), (fun q hq => by
      simp only [List.mem_cons, List.not_mem_nil, or_false] at hq
      rcases hq with rfl
      · exact (He.noat_ok (D.fact 27 rfl))
      )⟩,
    ⟨(fun q hq => by
      simp only [List.mem_cons, List.not_mem_nil, or_false] at hq
      rcases hq with rfl
      · exact (He.cls_ok (D.fact 13 rfl))
      ), (fun q hq => by
      simp only [List.mem_cons, List.not_mem_nil, or_false] at hq
      rcases hq with rfl
      · exact (He.noat_ok (D.fact 28 rfl))
      )⟩,
    ⟨(fun q hq => by
      simp only [List.mem_cons, List.not_mem_nil, or_false] at hq
      rcases hq with rfl
      · exact (He.cls_ok (D.fact 11 rfl))
      ), (fun q hq => by
      simp only [List.mem_cons, List.not_mem_nil, or_false] at hq
      rcases hq with rfl
      · exact (He.noat_ok (D.fact 29 rfl))
      )⟩,
    ⟨(fun q hq => by
      simp only [List.mem_cons, List.not_mem_nil, or_false] at hq
      rcases hq with rfl
      · exact (He.cls_ok (D.fact 11 rfl))
      ), (fun q hq => by
      simp only [List.mem_cons, List.not_mem_nil, or_false] at hq
      rcases hq with rfl
      · exact (He.noat_ok (D.fact 30 rfl))
      )⟩,
    ⟨(fun q hq => by
      simp only [List.mem_cons, List.not_mem_nil, or_false] at hq
      rcases hq with rfl
      · exact (He.cls_ok (D.fact 11 rfl))
      ), (fun q hq => by
      simp only [List.mem_cons, List.not_mem_nil, or_false] at hq
      rcases hq with rfl
      · exact (He.noat_ok (D.fact 31 rfl))
      )⟩,
    ⟨(fun q hq => by
      simp only [List.mem_cons, List.not_mem_nil, or_false] at hq
      rcases hq with rfl
      · exact (He.cls_ok (D.fact 11 rfl))
      ), (fun q hq => by
      simp only [List.mem_cons, List.not_mem_nil, or_false] at hq
      rcases hq with rfl
      · exact (He.noat_ok (D.fact 32 rfl))
      )⟩,
    ⟨(fun q hq => by
      simp only [List.mem_cons, List.not_mem_nil, or_false] at hq
      rcases hq with rfl
      · exact (He.cls_ok (D.fact 11 rfl))
      ), (fun q hq => by
      simp only [List.mem_cons, List.not_mem_nil, or_false] at hq
      rcases hq with rfl
      · exact (He.noat_ok (D.fact 33 rfl))
      )⟩,
    He.free_ok X G (D.fact 34 rfl),
    He.free_ok X G (D.fact 35 rfl),
    He.free_ok X G (D.fact 36 rfl),
    He.free_ok X G (D.fact 37 rfl),
    He.free_ok X G (D.fact 38 rfl),
    He.free_ok X G (D.fact 39 rfl),
    He.free_ok X G (D.fact 40 rfl),
    He.free_ok X G (D.fact 41 rfl),
    He.free_ok X G (D.fact 42 rfl),
    glB_ok (c := Ct.mk K (fun q => He.ga K q) T) X G (all_at cc.more 0 rfl),
    glB_ok (c := Ct.mk K (fun q => He.ga K q) T) X G (all_at cc.more 1 rfl),
    glB_ok (c := Ct.mk K (fun q => He.ga K q) T) X G (all_at cc.more 2 rfl),
    exo_of (c := Ct.mk K (fun q => He.ga K q) T) X G rfl (D.fact 43 rfl) (D.fact 44 rfl),
    exo_of (c := Ct.mk K (fun q => He.ga K q) T) X G rfl (D.fact 45 rfl) (D.fact 46 rfl)⟩
  refine ⟨fd_18, [He.cT K ("law", none)], spOf (Ct.mk K (fun q => He.ga K q) [((He.cT K ("law", none)).2, (("law.<locals>." : Str) ++ ("<lambda>" : Str)))]) 1 f_law, fun p hp => ?_, fun p hp => ?_, fun p hp => ?_, ?_, ?_, fun base KB GB TB => ?_⟩
  · obtain rfl : p = He.cT K ("law", none) := by simpa using hp
    exact cc.empty _ (by simp)
  · obtain rfl : p = He.cT K ("law", none) := by simpa using hp
    exact cc.out _ (by simp)
  · obtain rfl : p = He.cT K ("law", none) := by simpa using hp
    exact PySem.W.codeHd_of_K X (cc.hd _ (by simp))
  · exact fun s u => FunD.bindsA (ps := ["script"]) F_18 (fun _ _ _ _ _ _ us hl => match us, hl with | [_], _ => rfl) s [u] rfl
  · intro H a ns hl hb hT hS
    exact law_start (tabs_start (hT _ (by simp))) hS (p1 ns hl hb) (p2 ns hl hb)
  · have FX := base_facts [((He.cT K ("law", none)).2, (("law.<locals>." : Str) ++ ("<lambda>" : Str)))]
    have G_Size___init__ : Gk PySem.Challenge.rw_chipstack_k10_machines_step_by_step.prog w K mg base (Ct.mk K (fun q => He.ga K q) [((He.cT K ("law", none)).2, (("law.<locals>." : Str) ++ ("<lambda>" : Str)))]) 1 "Size" 3 [] f_Size___init__ := gk_of F_0 rfl (fn_run F_0 s_Size___init__ (fun cdv A outer s H E hr => k_Size___init__ FX  hr)) (He.glo_ok X G (D.fact 12 rfl)) (He.mkr_ok (D.fact 14 rfl)) (F_0.bindsN fun _ _ _ _ _ _ us hl => match us, hl with | [_, _, _], _ => rfl)
    have G_Size_argument : Gm' PySem.Challenge.rw_chipstack_k10_machines_step_by_step.prog w K mg base (Ct.mk K (fun q => He.ga K q) [((He.cT K ("law", none)).2, (("law.<locals>." : Str) ++ ("<lambda>" : Str)))]) 1 "Size" "argument" 1 [] f_Size_argument := gm_of F_1 rfl (fn_run F_1 s_Size_argument (fun cdv A outer s H E hr => k_Size_argument FX  hr)) (He.cls_ok (D.fact 13 rfl)) (He.meth_ok (D.fact 15 rfl)) (F_1.bindsN fun _ _ _ _ _ _ us hl => match us, hl with | [_], _ => rfl)
    have G_Size_width : Gm' PySem.Challenge.rw_chipstack_k10_machines_step_by_step.prog w K mg base (Ct.mk K (fun q => He.ga K q) [((He.cT K ("law", none)).2, (("law.<locals>." : Str) ++ ("<lambda>" : Str)))]) 2 "Size" "width" 1 [] f_Size_width := gm_of F_2 rfl (fn_run F_2 s_Size_width (fun cdv A outer s H E hr => k_Size_width FX G_Size_argument hr)) (He.cls_ok (D.fact 13 rfl)) (He.meth_ok (D.fact 16 rfl)) (F_2.bindsN fun _ _ _ _ _ _ us hl => match us, hl with | [_], _ => rfl)
    have G_check_instruction : Gfn PySem.Challenge.rw_chipstack_k10_machines_step_by_step.prog w K mg base (Ct.mk K (fun q => He.ga K q) [((He.cT K ("law", none)).2, (("law.<locals>." : Str) ++ ("<lambda>" : Str)))]) 1 "check_instruction" 2 [] f_check_instruction := gfn_of F_3 rfl (fn_run F_3 s_check_instruction (fun cdv A outer s H E hr => k_check_instruction FX  hr)) (He.glo_ok X G (D.fact 0 rfl)) (F_3.bindsN fun _ _ _ _ _ _ us hl => match us, hl with | [_, _], _ => rfl)
    have G_encoded : Gfn PySem.Challenge.rw_chipstack_k10_machines_step_by_step.prog w K mg base (Ct.mk K (fun q => He.ga K q) [((He.cT K ("law", none)).2, (("law.<locals>." : Str) ++ ("<lambda>" : Str)))]) 2 "encoded" 2 [] f_encoded := gfn_of F_4 rfl (fn_run F_4 s_encoded (fun cdv A outer s H E hr => k_encoded FX G_check_instruction G_Size_argument hr)) (He.glo_ok X G (D.fact 1 rfl)) (F_4.bindsN fun _ _ _ _ _ _ us hl => match us, hl with | [_, _], _ => rfl)
    have G_decoded : Gfn PySem.Challenge.rw_chipstack_k10_machines_step_by_step.prog w K mg base (Ct.mk K (fun q => He.ga K q) [((He.cT K ("law", none)).2, (("law.<locals>." : Str) ++ ("<lambda>" : Str)))]) 3 "decoded" 2 [] f_decoded := gfn_of F_5 rfl (fn_run F_5 s_decoded (fun cdv A outer s H E hr => k_decoded FX G_Size_width G_Size_argument G_check_instruction hr)) (He.glo_ok X G (D.fact 2 rfl)) (F_5.bindsN fun _ _ _ _ _ _ us hl => match us, hl with | [_, _], _ => rfl)
    have G_Machine___init__ : Gk PySem.Challenge.rw_chipstack_k10_machines_step_by_step.prog w K mg base (Ct.mk K (fun q => He.ga K q) [((He.cT K ("law", none)).2, (("law.<locals>." : Str) ++ ("<lambda>" : Str)))]) 2 "Machine" 4 [] f_Machine___init__ := gk_ofD F_6 rfl (fn_run F_6 s_Machine___init__ (fun cdv A outer s H E hr => k_Machine___init__ FX G_check_instruction hr)) (He.glo_ok X G (D.fact 10 rfl)) (He.mkr_ok (D.fact 17 rfl)) 1
      (F_6.binds1 (ps := ["self", "size", "code", "coming"]) 4 1 (by intro z; cases z) (by rfl) fun _ _ _ _ _ _ _ us its hl hl2 => match us, its, hl, hl2 with | [_, _, _, _], [_], _, _ => ⟨_, rfl, rfl⟩)
      (by exact fun _ _ _ => mk_nil)
    have G_Machine___init___1 : Gk PySem.Challenge.rw_chipstack_k10_machines_step_by_step.prog w K mg base (Ct.mk K (fun q => He.ga K q) [((He.cT K ("law", none)).2, (("law.<locals>." : Str) ++ ("<lambda>" : Str)))]) 2 "Machine" 4 dd_Machine___init___1 f_Machine___init__ := gk_ofD F_6 rfl (fn_run F_6 s_Machine___init__ (fun cdv A outer s H E hr => k_Machine___init__ FX G_check_instruction hr)) (He.glo_ok X G (D.fact 10 rfl)) (He.mkr_ok (D.fact 17 rfl)) 0
      (F_6.binds1 (ps := ["self", "size", "code", "coming"]) 3 0 (by intro z; cases z) (by rfl) fun _ _ _ _ _ _ _ us its hl hl2 => match us, its, hl, hl2 with | [_, _, _], [_], _, _ => ⟨_, rfl, rfl⟩)
      (by obtain ⟨vs, r, k⟩ := vsB_ok (c := (Ct.mk K (fun q => He.ga K q) [((He.cT K ("law", none)).2, (("law.<locals>." : Str) ++ ("<lambda>" : Str)))])) (all_at cc.more 3 rfl)
          exact vals_refs [_] r k)
    have G_Machine_instruction : Gm' PySem.Challenge.rw_chipstack_k10_machines_step_by_step.prog w K mg base (Ct.mk K (fun q => He.ga K q) [((He.cT K ("law", none)).2, (("law.<locals>." : Str) ++ ("<lambda>" : Str)))]) 1 "Machine" "instruction" 1 [] f_Machine_instruction := gm_of F_7 rfl (fn_run F_7 s_Machine_instruction (fun cdv A outer s H E hr => k_Machine_instruction FX  hr)) (He.cls_ok (D.fact 11 rfl)) (He.meth_ok (D.fact 18 rfl)) (F_7.bindsN fun _ _ _ _ _ _ us hl => match us, hl with | [_], _ => rfl)
    have G_Machine_reckon : Gm' PySem.Challenge.rw_chipstack_k10_machines_step_by_step.prog w K mg base (Ct.mk K (fun q => He.ga K q) [((He.cT K ("law", none)).2, (("law.<locals>." : Str) ++ ("<lambda>" : Str)))]) 1 "Machine" "reckon" 3 [] f_Machine_reckon := gm_of F_8 rfl (fn_run F_8 s_Machine_reckon (fun cdv A outer s H E hr => k_Machine_reckon FX  hr)) (He.cls_ok (D.fact 11 rfl)) (He.meth_ok (D.fact 19 rfl)) (F_8.bindsN fun _ _ _ _ _ _ us hl => match us, hl with | [_, _, _], _ => rfl)
    have G_Machine_step : Gm' PySem.Challenge.rw_chipstack_k10_machines_step_by_step.prog w K mg base (Ct.mk K (fun q => He.ga K q) [((He.cT K ("law", none)).2, (("law.<locals>." : Str) ++ ("<lambda>" : Str)))]) 2 "Machine" "step" 1 [] f_Machine_step := gm_of F_9 rfl (fn_run F_9 s_Machine_step (fun cdv A outer s H E hr => k_Machine_step FX G_Machine_instruction G_Machine_reckon hr)) (He.cls_ok (D.fact 11 rfl)) (He.meth_ok (D.fact 20 rfl)) (F_9.bindsN fun _ _ _ _ _ _ us hl => match us, hl with | [_], _ => rfl)
    have G_Machine_run : Gm' PySem.Challenge.rw_chipstack_k10_machines_step_by_step.prog w K mg base (Ct.mk K (fun q => He.ga K q) [((He.cT K ("law", none)).2, (("law.<locals>." : Str) ++ ("<lambda>" : Str)))]) 3 "Machine" "run" 2 [] f_Machine_run := gm_of F_10 rfl (fn_run F_10 s_Machine_run (fun cdv A outer s H E hr => k_Machine_run FX G_Machine_step hr)) (He.cls_ok (D.fact 11 rfl)) (He.meth_ok (D.fact 21 rfl)) (F_10.bindsN fun _ _ _ _ _ _ us hl => match us, hl with | [_, _], _ => rfl)
    have G_Machine_shown : Gm' PySem.Challenge.rw_chipstack_k10_machines_step_by_step.prog w K mg base (Ct.mk K (fun q => He.ga K q) [((He.cT K ("law", none)).2, (("law.<locals>." : Str) ++ ("<lambda>" : Str)))]) 1 "Machine" "shown" 1 [] f_Machine_shown := gm_of F_11 rfl (fn_run F_11 s_Machine_shown (fun cdv A outer s H E hr => k_Machine_shown FX  hr)) (He.cls_ok (D.fact 11 rfl)) (He.meth_ok (D.fact 22 rfl)) (F_11.bindsN fun _ _ _ _ _ _ us hl => match us, hl with | [_], _ => rfl)
    have G__law_dice : Gfn PySem.Challenge.rw_chipstack_k10_machines_step_by_step.prog w K mg base (Ct.mk K (fun q => He.ga K q) [((He.cT K ("law", none)).2, (("law.<locals>." : Str) ++ ("<lambda>" : Str)))]) 1 "_law_dice" 1 [] f__law_dice := gfn_of F_12 rfl (fn_run F_12 s__law_dice (fun cdv A outer s H E hr => k__law_dice FX  hr)) (He.glo_ok X G (D.fact 3 rfl)) (F_12.bindsN fun _ _ _ _ _ _ us hl => match us, hl with | [_], _ => rfl)
    have G__law_roll : Gfn PySem.Challenge.rw_chipstack_k10_machines_step_by_step.prog w K mg base (Ct.mk K (fun q => He.ga K q) [((He.cT K ("law", none)).2, (("law.<locals>." : Str) ++ ("<lambda>" : Str)))]) 1 "_law_roll" 2 [] f__law_roll := gfn_of F_13 rfl (fn_run F_13 s__law_roll (fun cdv A outer s H E hr => k__law_roll FX  hr)) (He.glo_ok X G (D.fact 4 rfl)) (F_13.bindsN fun _ _ _ _ _ _ us hl => match us, hl with | [_, _], _ => rfl)
    have G__law_rounds : Gfn PySem.Challenge.rw_chipstack_k10_machines_step_by_step.prog w K mg base (Ct.mk K (fun q => He.ga K q) [((He.cT K ("law", none)).2, (("law.<locals>." : Str) ++ ("<lambda>" : Str)))]) 2 "_law_rounds" 2 [] f__law_rounds := gfn_of F_14 rfl (fn_run F_14 s__law_rounds (fun cdv A outer s H E hr => k__law_rounds FX G__law_dice hr)) (He.glo_ok X G (D.fact 5 rfl)) (F_14.bindsN fun _ _ _ _ _ _ us hl => match us, hl with | [_, _], _ => rfl)
    have G__law_row : Gfn PySem.Challenge.rw_chipstack_k10_machines_step_by_step.prog w K mg base (Ct.mk K (fun q => He.ga K q) [((He.cT K ("law", none)).2, (("law.<locals>." : Str) ++ ("<lambda>" : Str)))]) 2 "_law_row" 4 [] f__law_row := gfn_of F_15 rfl (fn_run F_15 s__law_row (fun cdv A outer s H E hr => k__law_row FX G__law_roll hr)) (He.glo_ok X G (D.fact 6 rfl)) (F_15.bindsN fun _ _ _ _ _ _ us hl => match us, hl with | [_, _, _, _], _ => rfl)
    have G__law_step : Gfn PySem.Challenge.rw_chipstack_k10_machines_step_by_step.prog w K mg base (Ct.mk K (fun q => He.ga K q) [((He.cT K ("law", none)).2, (("law.<locals>." : Str) ++ ("<lambda>" : Str)))]) 1 "_law_step" 4 [] f__law_step := gfn_of F_16 rfl (fn_run F_16 s__law_step (fun cdv A outer s H E hr => k__law_step FX  hr)) (He.glo_ok X G (D.fact 7 rfl)) (F_16.bindsN fun _ _ _ _ _ _ us hl => match us, hl with | [_, _, _, _], _ => rfl)
    have hT : Told PySem.Challenge.rw_chipstack_k10_machines_step_by_step.prog w K mg base (Ct.mk K (fun q => He.ga K q) [((He.cT K ("law", none)).2, (("law.<locals>." : Str) ++ ("<lambda>" : Str)))]) "_law_told" subT qsT clT := told2_of (Ng := ["what"]) (a := "what") F_17 (He.glo_ok X G (D.fact 8 rfl)) (F_17.bindsN fun _ _ _ _ _ _ us hl => match us, hl with | [_], _ => rfl) ⟨rfl, rfl, rfl, by decide +kernel, rfl, by decide +kernel, by decide +kernel⟩ rfl (.inl rfl) (by decide) (by decide) rfl (He.glo_ok X G (D.fact 43 rfl)) (by decide) rfl (He.glo_ok X G (D.fact 45 rfl)) (by decide) (fun _ => rfl) (fun q hq p hp => by
      simp only [qsT, clT, List.mem_cons, List.not_mem_nil, or_false] at hq hp
      rcases hq with rfl | rfl <;> rcases hp with rfl | rfl
      · exact He.exm_ok (D.fact 47 rfl)
      · exact He.exm_ok (D.fact 48 rfl)
      · exact He.exm_ok (D.fact 49 rfl)
      · exact He.exm_ok (D.fact 50 rfl))
    have TB1 := TB (He.cT K ("law", none)) (by simp)
    exact fn_runL F_18 s_law (fun A outer s H E cdv hcd hr => k_law FX G_Size___init__ G_Machine___init__ G_Machine___init___1 G_encoded G_decoded G_check_instruction G_Machine_run G__law_rounds G__law_roll G__law_row G_Size_argument G_Size_width G_Machine_step G_Machine_instruction G__law_step G_Machine_shown hT TB1 hcd (by simp) (fun p hp _ => by
      obtain rfl : p = ((He.cT K ("law", none)).2, (("law.<locals>." : Str) ++ ("<lambda>" : Str))) := by simpa using hp
      rfl) hr)
open PySem PySem.W PySem.Calls PyProof.Rows in
theorem done (p1 : ∀ ns : List Int, ns.length ≤ 63 → (∀ z ∈ ns, Builtin.Int.intBits z ≤ 1048576) → ∃ S', f_law [.fro (ns.map .int)] S0 = .ok (.bl true) S')
    (p2 : ∀ ns : List Int, ns.length ≤ 63 → (∀ z ∈ ns, Builtin.Int.intBits z ≤ 1048576) → ∃ S', f_law [.adr 0] (S1 (ns.map .int)) = .ok (.bl true) S') : PySem.Challenge.rw_chipstack_k10_machines_step_by_step.Holds := by
  w_on; o_law
  refine HandSHeadRun.head_any (r := OpenLaw.row PySem.Challenge.rw_chipstack_k10_machines_step_by_step) (q := view (OpenLaw.row PySem.Challenge.rw_chipstack_k10_machines_step_by_step).prog [20]) (H := hk) (ob := ob) (M := 3000) (loose := names) (d := HandSHeadRun.topDef (OpenLaw.row PySem.Challenge.rw_chipstack_k10_machines_step_by_step).prog 20) (kwd := []) ob_eq
    (by kernel_rfl) (fun s => by kernel_rfl) run (by kernel_rfl) (by kernel_rfl) (by kernel_rfl) (by rfl) (by first | assumption | decide +kernel) (by decide +kernel) ⟨rfl, rfl, rfl, rfl, rfl, by decide +kernel⟩ ?hw ?hc
  case hw => w_witness2
  case hc =>
    refine LamX.walk_ofTsE (l := PySem.Challenge.rw_chipstack_k10_machines_step_by_step) (n := 63) (k := 6) (x := "script") (CX := fun w => L2.CX PySem.Challenge.rw_chipstack_k10_machines_step_by_step.prog w) rfl (by decide) (by kernel_rfl) ⟨rfl, by decide, by decide⟩ ?F (fun _ _ _ _ _ z => by
      obtain ⟨_, _, _, _, _, _, _, _, _, _, _, _, y⟩ := z
      exact y.elim)
    intro w mg fa h Y G hmg0
    obtain ⟨K, KX, c⟩ := Y
    have hmg : mg ("law" : PySem.Str) = some (.ref fa) := by
      have e : (HandSHeadRun.topDef (OpenLaw.row PySem.Challenge.rw_chipstack_k10_machines_step_by_step).prog 20).name = ("law" : PySem.Str) := by kernel_rfl
      rw [← e]
      exact hmg0
    exact ⟨K, KX, facts KX G hmg c p1 p2⟩
end K10

set_option Elab.async false
set_option linter.all false
set_option maxRecDepth 100000
set_option maxHeartbeats 4000000
namespace K10
open PySem L2 Y
theorem ok_halt : PyData.strOk "halt" = true := by decide +kernel
theorem ok_set : PyData.strOk "set" = true := by decide +kernel
theorem ok_load : PyData.strOk "load" = true := by decide +kernel
theorem ok_store : PyData.strOk "store" = true := by decide +kernel
theorem ok_add : PyData.strOk "add" = true := by decide +kernel
theorem ok_sub : PyData.strOk "sub" = true := by decide +kernel
theorem ok_and : PyData.strOk "and" = true := by decide +kernel
theorem ok_xor : PyData.strOk "xor" = true := by decide +kernel
theorem ok_jump : PyData.strOk "jump" = true := by decide +kernel
theorem ok_zero : PyData.strOk "zero" = true := by decide +kernel
theorem ok_less : PyData.strOk "less" = true := by decide +kernel
theorem ok_out : PyData.strOk "out" = true := by decide +kernel
theorem ok_in : PyData.strOk "in" = true := by decide +kernel
theorem ok_half : PyData.strOk "half" = true := by decide +kernel
theorem ok_from : PyData.strOk "from" = true := by decide +kernel
theorem ok_to : PyData.strOk "to" = true := by decide +kernel
theorem ok_CodeError : PyData.strOk "CodeError" = true := by decide +kernel
theorem ok_RunError : PyData.strOk "RunError" = true := by decide +kernel
theorem ok_fly : PyData.strOk "fly" = true := by decide +kernel
theorem in_J_halt {S : Sr} : dIn false (.str "halt") K_JUMPS S = .ok (.bl false) S := by
  show R.ok (D.bl (inV (V.str "halt") [V.str "jump", V.str "zero", V.str "less"])) S = _
  rw [show inV (V.str "halt") [V.str "jump", V.str "zero", V.str "less"] = false from by decide +kernel]
theorem in_J_set {S : Sr} : dIn false (.str "set") K_JUMPS S = .ok (.bl false) S := by
  show R.ok (D.bl (inV (V.str "set") [V.str "jump", V.str "zero", V.str "less"])) S = _
  rw [show inV (V.str "set") [V.str "jump", V.str "zero", V.str "less"] = false from by decide +kernel]
theorem in_J_load {S : Sr} : dIn false (.str "load") K_JUMPS S = .ok (.bl false) S := by
  show R.ok (D.bl (inV (V.str "load") [V.str "jump", V.str "zero", V.str "less"])) S = _
  rw [show inV (V.str "load") [V.str "jump", V.str "zero", V.str "less"] = false from by decide +kernel]
theorem in_J_store {S : Sr} : dIn false (.str "store") K_JUMPS S = .ok (.bl false) S := by
  show R.ok (D.bl (inV (V.str "store") [V.str "jump", V.str "zero", V.str "less"])) S = _
  rw [show inV (V.str "store") [V.str "jump", V.str "zero", V.str "less"] = false from by decide +kernel]
theorem in_J_add {S : Sr} : dIn false (.str "add") K_JUMPS S = .ok (.bl false) S := by
  show R.ok (D.bl (inV (V.str "add") [V.str "jump", V.str "zero", V.str "less"])) S = _
  rw [show inV (V.str "add") [V.str "jump", V.str "zero", V.str "less"] = false from by decide +kernel]
theorem in_J_sub {S : Sr} : dIn false (.str "sub") K_JUMPS S = .ok (.bl false) S := by
  show R.ok (D.bl (inV (V.str "sub") [V.str "jump", V.str "zero", V.str "less"])) S = _
  rw [show inV (V.str "sub") [V.str "jump", V.str "zero", V.str "less"] = false from by decide +kernel]
theorem in_J_and {S : Sr} : dIn false (.str "and") K_JUMPS S = .ok (.bl false) S := by
  show R.ok (D.bl (inV (V.str "and") [V.str "jump", V.str "zero", V.str "less"])) S = _
  rw [show inV (V.str "and") [V.str "jump", V.str "zero", V.str "less"] = false from by decide +kernel]
theorem in_J_xor {S : Sr} : dIn false (.str "xor") K_JUMPS S = .ok (.bl false) S := by
  show R.ok (D.bl (inV (V.str "xor") [V.str "jump", V.str "zero", V.str "less"])) S = _
  rw [show inV (V.str "xor") [V.str "jump", V.str "zero", V.str "less"] = false from by decide +kernel]
theorem in_J_jump {S : Sr} : dIn false (.str "jump") K_JUMPS S = .ok (.bl true) S := by
  show R.ok (D.bl (inV (V.str "jump") [V.str "jump", V.str "zero", V.str "less"])) S = _
  rw [show inV (V.str "jump") [V.str "jump", V.str "zero", V.str "less"] = true from by decide +kernel]
theorem in_J_zero {S : Sr} : dIn false (.str "zero") K_JUMPS S = .ok (.bl true) S := by
  show R.ok (D.bl (inV (V.str "zero") [V.str "jump", V.str "zero", V.str "less"])) S = _
  rw [show inV (V.str "zero") [V.str "jump", V.str "zero", V.str "less"] = true from by decide +kernel]
theorem in_J_less {S : Sr} : dIn false (.str "less") K_JUMPS S = .ok (.bl true) S := by
  show R.ok (D.bl (inV (V.str "less") [V.str "jump", V.str "zero", V.str "less"])) S = _
  rw [show inV (V.str "less") [V.str "jump", V.str "zero", V.str "less"] = true from by decide +kernel]
theorem in_J_out {S : Sr} : dIn false (.str "out") K_JUMPS S = .ok (.bl false) S := by
  show R.ok (D.bl (inV (V.str "out") [V.str "jump", V.str "zero", V.str "less"])) S = _
  rw [show inV (V.str "out") [V.str "jump", V.str "zero", V.str "less"] = false from by decide +kernel]
theorem in_J_in {S : Sr} : dIn false (.str "in") K_JUMPS S = .ok (.bl false) S := by
  show R.ok (D.bl (inV (V.str "in") [V.str "jump", V.str "zero", V.str "less"])) S = _
  rw [show inV (V.str "in") [V.str "jump", V.str "zero", V.str "less"] = false from by decide +kernel]
theorem in_J_half {S : Sr} : dIn false (.str "half") K_JUMPS S = .ok (.bl false) S := by
  show R.ok (D.bl (inV (V.str "half") [V.str "jump", V.str "zero", V.str "less"])) S = _
  rw [show inV (V.str "half") [V.str "jump", V.str "zero", V.str "less"] = false from by decide +kernel]
theorem in_J_from {S : Sr} : dIn false (.str "from") K_JUMPS S = .ok (.bl false) S := by
  show R.ok (D.bl (inV (V.str "from") [V.str "jump", V.str "zero", V.str "less"])) S = _
  rw [show inV (V.str "from") [V.str "jump", V.str "zero", V.str "less"] = false from by decide +kernel]
theorem in_J_to {S : Sr} : dIn false (.str "to") K_JUMPS S = .ok (.bl false) S := by
  show R.ok (D.bl (inV (V.str "to") [V.str "jump", V.str "zero", V.str "less"])) S = _
  rw [show inV (V.str "to") [V.str "jump", V.str "zero", V.str "less"] = false from by decide +kernel]
theorem in_J_fly {S : Sr} : dIn false (.str "fly") K_JUMPS S = .ok (.bl false) S := by
  show R.ok (D.bl (inV (V.str "fly") [V.str "jump", V.str "zero", V.str "less"])) S = _
  rw [show inV (V.str "fly") [V.str "jump", V.str "zero", V.str "less"] = false from by decide +kernel]
theorem in_P_halt {S : Sr} : dIn false (.str "halt") K_PLAIN S = .ok (.bl true) S := by
  show R.ok (D.bl (inV (V.str "halt") [V.str "halt", V.str "out", V.str "in", V.str "half"])) S = _
  rw [show inV (V.str "halt") [V.str "halt", V.str "out", V.str "in", V.str "half"] = true from by decide +kernel]
theorem in_P_set {S : Sr} : dIn false (.str "set") K_PLAIN S = .ok (.bl false) S := by
  show R.ok (D.bl (inV (V.str "set") [V.str "halt", V.str "out", V.str "in", V.str "half"])) S = _
  rw [show inV (V.str "set") [V.str "halt", V.str "out", V.str "in", V.str "half"] = false from by decide +kernel]
theorem in_P_load {S : Sr} : dIn false (.str "load") K_PLAIN S = .ok (.bl false) S := by
  show R.ok (D.bl (inV (V.str "load") [V.str "halt", V.str "out", V.str "in", V.str "half"])) S = _
  rw [show inV (V.str "load") [V.str "halt", V.str "out", V.str "in", V.str "half"] = false from by decide +kernel]
theorem in_P_store {S : Sr} : dIn false (.str "store") K_PLAIN S = .ok (.bl false) S := by
  show R.ok (D.bl (inV (V.str "store") [V.str "halt", V.str "out", V.str "in", V.str "half"])) S = _
  rw [show inV (V.str "store") [V.str "halt", V.str "out", V.str "in", V.str "half"] = false from by decide +kernel]
theorem in_P_add {S : Sr} : dIn false (.str "add") K_PLAIN S = .ok (.bl false) S := by
  show R.ok (D.bl (inV (V.str "add") [V.str "halt", V.str "out", V.str "in", V.str "half"])) S = _
  rw [show inV (V.str "add") [V.str "halt", V.str "out", V.str "in", V.str "half"] = false from by decide +kernel]
theorem in_P_sub {S : Sr} : dIn false (.str "sub") K_PLAIN S = .ok (.bl false) S := by
  show R.ok (D.bl (inV (V.str "sub") [V.str "halt", V.str "out", V.str "in", V.str "half"])) S = _
  rw [show inV (V.str "sub") [V.str "halt", V.str "out", V.str "in", V.str "half"] = false from by decide +kernel]
theorem in_P_and {S : Sr} : dIn false (.str "and") K_PLAIN S = .ok (.bl false) S := by
  show R.ok (D.bl (inV (V.str "and") [V.str "halt", V.str "out", V.str "in", V.str "half"])) S = _
  rw [show inV (V.str "and") [V.str "halt", V.str "out", V.str "in", V.str "half"] = false from by decide +kernel]
theorem in_P_xor {S : Sr} : dIn false (.str "xor") K_PLAIN S = .ok (.bl false) S := by
  show R.ok (D.bl (inV (V.str "xor") [V.str "halt", V.str "out", V.str "in", V.str "half"])) S = _
  rw [show inV (V.str "xor") [V.str "halt", V.str "out", V.str "in", V.str "half"] = false from by decide +kernel]
theorem in_P_jump {S : Sr} : dIn false (.str "jump") K_PLAIN S = .ok (.bl false) S := by
  show R.ok (D.bl (inV (V.str "jump") [V.str "halt", V.str "out", V.str "in", V.str "half"])) S = _
  rw [show inV (V.str "jump") [V.str "halt", V.str "out", V.str "in", V.str "half"] = false from by decide +kernel]
theorem in_P_zero {S : Sr} : dIn false (.str "zero") K_PLAIN S = .ok (.bl false) S := by
  show R.ok (D.bl (inV (V.str "zero") [V.str "halt", V.str "out", V.str "in", V.str "half"])) S = _
  rw [show inV (V.str "zero") [V.str "halt", V.str "out", V.str "in", V.str "half"] = false from by decide +kernel]
theorem in_P_less {S : Sr} : dIn false (.str "less") K_PLAIN S = .ok (.bl false) S := by
  show R.ok (D.bl (inV (V.str "less") [V.str "halt", V.str "out", V.str "in", V.str "half"])) S = _
  rw [show inV (V.str "less") [V.str "halt", V.str "out", V.str "in", V.str "half"] = false from by decide +kernel]
theorem in_P_out {S : Sr} : dIn false (.str "out") K_PLAIN S = .ok (.bl true) S := by
  show R.ok (D.bl (inV (V.str "out") [V.str "halt", V.str "out", V.str "in", V.str "half"])) S = _
  rw [show inV (V.str "out") [V.str "halt", V.str "out", V.str "in", V.str "half"] = true from by decide +kernel]
theorem in_P_in {S : Sr} : dIn false (.str "in") K_PLAIN S = .ok (.bl true) S := by
  show R.ok (D.bl (inV (V.str "in") [V.str "halt", V.str "out", V.str "in", V.str "half"])) S = _
  rw [show inV (V.str "in") [V.str "halt", V.str "out", V.str "in", V.str "half"] = true from by decide +kernel]
theorem in_P_half {S : Sr} : dIn false (.str "half") K_PLAIN S = .ok (.bl true) S := by
  show R.ok (D.bl (inV (V.str "half") [V.str "halt", V.str "out", V.str "in", V.str "half"])) S = _
  rw [show inV (V.str "half") [V.str "halt", V.str "out", V.str "in", V.str "half"] = true from by decide +kernel]
theorem in_P_from {S : Sr} : dIn false (.str "from") K_PLAIN S = .ok (.bl false) S := by
  show R.ok (D.bl (inV (V.str "from") [V.str "halt", V.str "out", V.str "in", V.str "half"])) S = _
  rw [show inV (V.str "from") [V.str "halt", V.str "out", V.str "in", V.str "half"] = false from by decide +kernel]
theorem in_P_to {S : Sr} : dIn false (.str "to") K_PLAIN S = .ok (.bl false) S := by
  show R.ok (D.bl (inV (V.str "to") [V.str "halt", V.str "out", V.str "in", V.str "half"])) S = _
  rw [show inV (V.str "to") [V.str "halt", V.str "out", V.str "in", V.str "half"] = false from by decide +kernel]
theorem in_P_fly {S : Sr} : dIn false (.str "fly") K_PLAIN S = .ok (.bl false) S := by
  show R.ok (D.bl (inV (V.str "fly") [V.str "halt", V.str "out", V.str "in", V.str "half"])) S = _
  rw [show inV (V.str "fly") [V.str "halt", V.str "out", V.str "in", V.str "half"] = false from by decide +kernel]
theorem nin_I_halt {S : Sr} : dIn true (.str "halt") K_INSTRUCTIONS S = .ok (.bl false) S := by
  show R.ok (D.bl (!inV (V.str "halt") [V.str "halt", V.str "set", V.str "load", V.str "store", V.str "add", V.str "sub", V.str "and", V.str "xor", V.str "jump", V.str "zero", V.str "less", V.str "out", V.str "in", V.str "half", V.str "from", V.str "to"])) S = _
  rw [show inV (V.str "halt") [V.str "halt", V.str "set", V.str "load", V.str "store", V.str "add", V.str "sub", V.str "and", V.str "xor", V.str "jump", V.str "zero", V.str "less", V.str "out", V.str "in", V.str "half", V.str "from", V.str "to"] = true from by decide +kernel]
  rfl
theorem nin_I_set {S : Sr} : dIn true (.str "set") K_INSTRUCTIONS S = .ok (.bl false) S := by
  show R.ok (D.bl (!inV (V.str "set") [V.str "halt", V.str "set", V.str "load", V.str "store", V.str "add", V.str "sub", V.str "and", V.str "xor", V.str "jump", V.str "zero", V.str "less", V.str "out", V.str "in", V.str "half", V.str "from", V.str "to"])) S = _
  rw [show inV (V.str "set") [V.str "halt", V.str "set", V.str "load", V.str "store", V.str "add", V.str "sub", V.str "and", V.str "xor", V.str "jump", V.str "zero", V.str "less", V.str "out", V.str "in", V.str "half", V.str "from", V.str "to"] = true from by decide +kernel]
  rfl
theorem nin_I_load {S : Sr} : dIn true (.str "load") K_INSTRUCTIONS S = .ok (.bl false) S := by
  show R.ok (D.bl (!inV (V.str "load") [V.str "halt", V.str "set", V.str "load", V.str "store", V.str "add", V.str "sub", V.str "and", V.str "xor", V.str "jump", V.str "zero", V.str "less", V.str "out", V.str "in", V.str "half", V.str "from", V.str "to"])) S = _
  rw [show inV (V.str "load") [V.str "halt", V.str "set", V.str "load", V.str "store", V.str "add", V.str "sub", V.str "and", V.str "xor", V.str "jump", V.str "zero", V.str "less", V.str "out", V.str "in", V.str "half", V.str "from", V.str "to"] = true from by decide +kernel]
  rfl
theorem nin_I_store {S : Sr} : dIn true (.str "store") K_INSTRUCTIONS S = .ok (.bl false) S := by
  show R.ok (D.bl (!inV (V.str "store") [V.str "halt", V.str "set", V.str "load", V.str "store", V.str "add", V.str "sub", V.str "and", V.str "xor", V.str "jump", V.str "zero", V.str "less", V.str "out", V.str "in", V.str "half", V.str "from", V.str "to"])) S = _
  rw [show inV (V.str "store") [V.str "halt", V.str "set", V.str "load", V.str "store", V.str "add", V.str "sub", V.str "and", V.str "xor", V.str "jump", V.str "zero", V.str "less", V.str "out", V.str "in", V.str "half", V.str "from", V.str "to"] = true from by decide +kernel]
  rfl
theorem nin_I_add {S : Sr} : dIn true (.str "add") K_INSTRUCTIONS S = .ok (.bl false) S := by
  show R.ok (D.bl (!inV (V.str "add") [V.str "halt", V.str "set", V.str "load", V.str "store", V.str "add", V.str "sub", V.str "and", V.str "xor", V.str "jump", V.str "zero", V.str "less", V.str "out", V.str "in", V.str "half", V.str "from", V.str "to"])) S = _
  rw [show inV (V.str "add") [V.str "halt", V.str "set", V.str "load", V.str "store", V.str "add", V.str "sub", V.str "and", V.str "xor", V.str "jump", V.str "zero", V.str "less", V.str "out", V.str "in", V.str "half", V.str "from", V.str "to"] = true from by decide +kernel]
  rfl
theorem nin_I_sub {S : Sr} : dIn true (.str "sub") K_INSTRUCTIONS S = .ok (.bl false) S := by
  show R.ok (D.bl (!inV (V.str "sub") [V.str "halt", V.str "set", V.str "load", V.str "store", V.str "add", V.str "sub", V.str "and", V.str "xor", V.str "jump", V.str "zero", V.str "less", V.str "out", V.str "in", V.str "half", V.str "from", V.str "to"])) S = _
  rw [show inV (V.str "sub") [V.str "halt", V.str "set", V.str "load", V.str "store", V.str "add", V.str "sub", V.str "and", V.str "xor", V.str "jump", V.str "zero", V.str "less", V.str "out", V.str "in", V.str "half", V.str "from", V.str "to"] = true from by decide +kernel]
  rfl
theorem nin_I_and {S : Sr} : dIn true (.str "and") K_INSTRUCTIONS S = .ok (.bl false) S := by
  show R.ok (D.bl (!inV (V.str "and") [V.str "halt", V.str "set", V.str "load", V.str "store", V.str "add", V.str "sub", V.str "and", V.str "xor", V.str "jump", V.str "zero", V.str "less", V.str "out", V.str "in", V.str "half", V.str "from", V.str "to"])) S = _
  rw [show inV (V.str "and") [V.str "halt", V.str "set", V.str "load", V.str "store", V.str "add", V.str "sub", V.str "and", V.str "xor", V.str "jump", V.str "zero", V.str "less", V.str "out", V.str "in", V.str "half", V.str "from", V.str "to"] = true from by decide +kernel]
  rfl
theorem nin_I_xor {S : Sr} : dIn true (.str "xor") K_INSTRUCTIONS S = .ok (.bl false) S := by
  show R.ok (D.bl (!inV (V.str "xor") [V.str "halt", V.str "set", V.str "load", V.str "store", V.str "add", V.str "sub", V.str "and", V.str "xor", V.str "jump", V.str "zero", V.str "less", V.str "out", V.str "in", V.str "half", V.str "from", V.str "to"])) S = _
  rw [show inV (V.str "xor") [V.str "halt", V.str "set", V.str "load", V.str "store", V.str "add", V.str "sub", V.str "and", V.str "xor", V.str "jump", V.str "zero", V.str "less", V.str "out", V.str "in", V.str "half", V.str "from", V.str "to"] = true from by decide +kernel]
  rfl
theorem nin_I_jump {S : Sr} : dIn true (.str "jump") K_INSTRUCTIONS S = .ok (.bl false) S := by
  show R.ok (D.bl (!inV (V.str "jump") [V.str "halt", V.str "set", V.str "load", V.str "store", V.str "add", V.str "sub", V.str "and", V.str "xor", V.str "jump", V.str "zero", V.str "less", V.str "out", V.str "in", V.str "half", V.str "from", V.str "to"])) S = _
  rw [show inV (V.str "jump") [V.str "halt", V.str "set", V.str "load", V.str "store", V.str "add", V.str "sub", V.str "and", V.str "xor", V.str "jump", V.str "zero", V.str "less", V.str "out", V.str "in", V.str "half", V.str "from", V.str "to"] = true from by decide +kernel]
  rfl
theorem nin_I_zero {S : Sr} : dIn true (.str "zero") K_INSTRUCTIONS S = .ok (.bl false) S := by
  show R.ok (D.bl (!inV (V.str "zero") [V.str "halt", V.str "set", V.str "load", V.str "store", V.str "add", V.str "sub", V.str "and", V.str "xor", V.str "jump", V.str "zero", V.str "less", V.str "out", V.str "in", V.str "half", V.str "from", V.str "to"])) S = _
  rw [show inV (V.str "zero") [V.str "halt", V.str "set", V.str "load", V.str "store", V.str "add", V.str "sub", V.str "and", V.str "xor", V.str "jump", V.str "zero", V.str "less", V.str "out", V.str "in", V.str "half", V.str "from", V.str "to"] = true from by decide +kernel]
  rfl
theorem nin_I_less {S : Sr} : dIn true (.str "less") K_INSTRUCTIONS S = .ok (.bl false) S := by
  show R.ok (D.bl (!inV (V.str "less") [V.str "halt", V.str "set", V.str "load", V.str "store", V.str "add", V.str "sub", V.str "and", V.str "xor", V.str "jump", V.str "zero", V.str "less", V.str "out", V.str "in", V.str "half", V.str "from", V.str "to"])) S = _
  rw [show inV (V.str "less") [V.str "halt", V.str "set", V.str "load", V.str "store", V.str "add", V.str "sub", V.str "and", V.str "xor", V.str "jump", V.str "zero", V.str "less", V.str "out", V.str "in", V.str "half", V.str "from", V.str "to"] = true from by decide +kernel]
  rfl
theorem nin_I_out {S : Sr} : dIn true (.str "out") K_INSTRUCTIONS S = .ok (.bl false) S := by
  show R.ok (D.bl (!inV (V.str "out") [V.str "halt", V.str "set", V.str "load", V.str "store", V.str "add", V.str "sub", V.str "and", V.str "xor", V.str "jump", V.str "zero", V.str "less", V.str "out", V.str "in", V.str "half", V.str "from", V.str "to"])) S = _
  rw [show inV (V.str "out") [V.str "halt", V.str "set", V.str "load", V.str "store", V.str "add", V.str "sub", V.str "and", V.str "xor", V.str "jump", V.str "zero", V.str "less", V.str "out", V.str "in", V.str "half", V.str "from", V.str "to"] = true from by decide +kernel]
  rfl
theorem nin_I_in {S : Sr} : dIn true (.str "in") K_INSTRUCTIONS S = .ok (.bl false) S := by
  show R.ok (D.bl (!inV (V.str "in") [V.str "halt", V.str "set", V.str "load", V.str "store", V.str "add", V.str "sub", V.str "and", V.str "xor", V.str "jump", V.str "zero", V.str "less", V.str "out", V.str "in", V.str "half", V.str "from", V.str "to"])) S = _
  rw [show inV (V.str "in") [V.str "halt", V.str "set", V.str "load", V.str "store", V.str "add", V.str "sub", V.str "and", V.str "xor", V.str "jump", V.str "zero", V.str "less", V.str "out", V.str "in", V.str "half", V.str "from", V.str "to"] = true from by decide +kernel]
  rfl
theorem nin_I_half {S : Sr} : dIn true (.str "half") K_INSTRUCTIONS S = .ok (.bl false) S := by
  show R.ok (D.bl (!inV (V.str "half") [V.str "halt", V.str "set", V.str "load", V.str "store", V.str "add", V.str "sub", V.str "and", V.str "xor", V.str "jump", V.str "zero", V.str "less", V.str "out", V.str "in", V.str "half", V.str "from", V.str "to"])) S = _
  rw [show inV (V.str "half") [V.str "halt", V.str "set", V.str "load", V.str "store", V.str "add", V.str "sub", V.str "and", V.str "xor", V.str "jump", V.str "zero", V.str "less", V.str "out", V.str "in", V.str "half", V.str "from", V.str "to"] = true from by decide +kernel]
  rfl
theorem nin_I_from {S : Sr} : dIn true (.str "from") K_INSTRUCTIONS S = .ok (.bl false) S := by
  show R.ok (D.bl (!inV (V.str "from") [V.str "halt", V.str "set", V.str "load", V.str "store", V.str "add", V.str "sub", V.str "and", V.str "xor", V.str "jump", V.str "zero", V.str "less", V.str "out", V.str "in", V.str "half", V.str "from", V.str "to"])) S = _
  rw [show inV (V.str "from") [V.str "halt", V.str "set", V.str "load", V.str "store", V.str "add", V.str "sub", V.str "and", V.str "xor", V.str "jump", V.str "zero", V.str "less", V.str "out", V.str "in", V.str "half", V.str "from", V.str "to"] = true from by decide +kernel]
  rfl
theorem nin_I_to {S : Sr} : dIn true (.str "to") K_INSTRUCTIONS S = .ok (.bl false) S := by
  show R.ok (D.bl (!inV (V.str "to") [V.str "halt", V.str "set", V.str "load", V.str "store", V.str "add", V.str "sub", V.str "and", V.str "xor", V.str "jump", V.str "zero", V.str "less", V.str "out", V.str "in", V.str "half", V.str "from", V.str "to"])) S = _
  rw [show inV (V.str "to") [V.str "halt", V.str "set", V.str "load", V.str "store", V.str "add", V.str "sub", V.str "and", V.str "xor", V.str "jump", V.str "zero", V.str "less", V.str "out", V.str "in", V.str "half", V.str "from", V.str "to"] = true from by decide +kernel]
  rfl
theorem nin_I_fly {S : Sr} : dIn true (.str "fly") K_INSTRUCTIONS S = .ok (.bl true) S := by
  show R.ok (D.bl (!inV (V.str "fly") [V.str "halt", V.str "set", V.str "load", V.str "store", V.str "add", V.str "sub", V.str "and", V.str "xor", V.str "jump", V.str "zero", V.str "less", V.str "out", V.str "in", V.str "half", V.str "from", V.str "to"])) S = _
  rw [show inV (V.str "fly") [V.str "halt", V.str "set", V.str "load", V.str "store", V.str "add", V.str "sub", V.str "and", V.str "xor", V.str "jump", V.str "zero", V.str "less", V.str "out", V.str "in", V.str "half", V.str "from", V.str "to"] = false from by decide +kernel]
  rfl
theorem lin_P_halt {S : Sr} {i : Nat} (h : S.f i = some (.lst [.str "halt", .str "out", .str "in", .str "half"])) : dIn false (.str "halt") (.adr i) S = .ok (.bl true) S := by
  have e := items_adr h
  show (match (match itemsD S (.adr i) with
    | some l => (match flatD (.str "halt"), mapO flatD l with
      | some v, some vs => R.ok (D.bl (if false = true then !inV v vs else inV v vs)) S
      | _, _ => .bad)
    | none => .bad) with
    | .bad => orF (inTxt false) (inDic false) (.str "halt") (.adr i) S
    | r => r) = _
  rw [e]
  show R.ok (D.bl (inV (V.str "halt") [V.str "halt", V.str "out", V.str "in", V.str "half"])) S = _
  rw [show inV (V.str "halt") [V.str "halt", V.str "out", V.str "in", V.str "half"] = true from by decide +kernel]
theorem lin_P_set {S : Sr} {i : Nat} (h : S.f i = some (.lst [.str "halt", .str "out", .str "in", .str "half"])) : dIn false (.str "set") (.adr i) S = .ok (.bl false) S := by
  have e := items_adr h
  show (match (match itemsD S (.adr i) with
    | some l => (match flatD (.str "set"), mapO flatD l with
      | some v, some vs => R.ok (D.bl (if false = true then !inV v vs else inV v vs)) S
      | _, _ => .bad)
    | none => .bad) with
    | .bad => orF (inTxt false) (inDic false) (.str "set") (.adr i) S
    | r => r) = _
  rw [e]
  show R.ok (D.bl (inV (V.str "set") [V.str "halt", V.str "out", V.str "in", V.str "half"])) S = _
  rw [show inV (V.str "set") [V.str "halt", V.str "out", V.str "in", V.str "half"] = false from by decide +kernel]
theorem lin_P_load {S : Sr} {i : Nat} (h : S.f i = some (.lst [.str "halt", .str "out", .str "in", .str "half"])) : dIn false (.str "load") (.adr i) S = .ok (.bl false) S := by
  have e := items_adr h
  show (match (match itemsD S (.adr i) with
    | some l => (match flatD (.str "load"), mapO flatD l with
      | some v, some vs => R.ok (D.bl (if false = true then !inV v vs else inV v vs)) S
      | _, _ => .bad)
    | none => .bad) with
    | .bad => orF (inTxt false) (inDic false) (.str "load") (.adr i) S
    | r => r) = _
  rw [e]
  show R.ok (D.bl (inV (V.str "load") [V.str "halt", V.str "out", V.str "in", V.str "half"])) S = _
  rw [show inV (V.str "load") [V.str "halt", V.str "out", V.str "in", V.str "half"] = false from by decide +kernel]
theorem lin_P_store {S : Sr} {i : Nat} (h : S.f i = some (.lst [.str "halt", .str "out", .str "in", .str "half"])) : dIn false (.str "store") (.adr i) S = .ok (.bl false) S := by
  have e := items_adr h
  show (match (match itemsD S (.adr i) with
    | some l => (match flatD (.str "store"), mapO flatD l with
      | some v, some vs => R.ok (D.bl (if false = true then !inV v vs else inV v vs)) S
      | _, _ => .bad)
    | none => .bad) with
    | .bad => orF (inTxt false) (inDic false) (.str "store") (.adr i) S
    | r => r) = _
  rw [e]
  show R.ok (D.bl (inV (V.str "store") [V.str "halt", V.str "out", V.str "in", V.str "half"])) S = _
  rw [show inV (V.str "store") [V.str "halt", V.str "out", V.str "in", V.str "half"] = false from by decide +kernel]
theorem lin_P_add {S : Sr} {i : Nat} (h : S.f i = some (.lst [.str "halt", .str "out", .str "in", .str "half"])) : dIn false (.str "add") (.adr i) S = .ok (.bl false) S := by
  have e := items_adr h
  show (match (match itemsD S (.adr i) with
    | some l => (match flatD (.str "add"), mapO flatD l with
      | some v, some vs => R.ok (D.bl (if false = true then !inV v vs else inV v vs)) S
      | _, _ => .bad)
    | none => .bad) with
    | .bad => orF (inTxt false) (inDic false) (.str "add") (.adr i) S
    | r => r) = _
  rw [e]
  show R.ok (D.bl (inV (V.str "add") [V.str "halt", V.str "out", V.str "in", V.str "half"])) S = _
  rw [show inV (V.str "add") [V.str "halt", V.str "out", V.str "in", V.str "half"] = false from by decide +kernel]
theorem lin_P_sub {S : Sr} {i : Nat} (h : S.f i = some (.lst [.str "halt", .str "out", .str "in", .str "half"])) : dIn false (.str "sub") (.adr i) S = .ok (.bl false) S := by
  have e := items_adr h
  show (match (match itemsD S (.adr i) with
    | some l => (match flatD (.str "sub"), mapO flatD l with
      | some v, some vs => R.ok (D.bl (if false = true then !inV v vs else inV v vs)) S
      | _, _ => .bad)
    | none => .bad) with
    | .bad => orF (inTxt false) (inDic false) (.str "sub") (.adr i) S
    | r => r) = _
  rw [e]
  show R.ok (D.bl (inV (V.str "sub") [V.str "halt", V.str "out", V.str "in", V.str "half"])) S = _
  rw [show inV (V.str "sub") [V.str "halt", V.str "out", V.str "in", V.str "half"] = false from by decide +kernel]
theorem lin_P_and {S : Sr} {i : Nat} (h : S.f i = some (.lst [.str "halt", .str "out", .str "in", .str "half"])) : dIn false (.str "and") (.adr i) S = .ok (.bl false) S := by
  have e := items_adr h
  show (match (match itemsD S (.adr i) with
    | some l => (match flatD (.str "and"), mapO flatD l with
      | some v, some vs => R.ok (D.bl (if false = true then !inV v vs else inV v vs)) S
      | _, _ => .bad)
    | none => .bad) with
    | .bad => orF (inTxt false) (inDic false) (.str "and") (.adr i) S
    | r => r) = _
  rw [e]
  show R.ok (D.bl (inV (V.str "and") [V.str "halt", V.str "out", V.str "in", V.str "half"])) S = _
  rw [show inV (V.str "and") [V.str "halt", V.str "out", V.str "in", V.str "half"] = false from by decide +kernel]
theorem lin_P_xor {S : Sr} {i : Nat} (h : S.f i = some (.lst [.str "halt", .str "out", .str "in", .str "half"])) : dIn false (.str "xor") (.adr i) S = .ok (.bl false) S := by
  have e := items_adr h
  show (match (match itemsD S (.adr i) with
    | some l => (match flatD (.str "xor"), mapO flatD l with
      | some v, some vs => R.ok (D.bl (if false = true then !inV v vs else inV v vs)) S
      | _, _ => .bad)
    | none => .bad) with
    | .bad => orF (inTxt false) (inDic false) (.str "xor") (.adr i) S
    | r => r) = _
  rw [e]
  show R.ok (D.bl (inV (V.str "xor") [V.str "halt", V.str "out", V.str "in", V.str "half"])) S = _
  rw [show inV (V.str "xor") [V.str "halt", V.str "out", V.str "in", V.str "half"] = false from by decide +kernel]
theorem lin_P_jump {S : Sr} {i : Nat} (h : S.f i = some (.lst [.str "halt", .str "out", .str "in", .str "half"])) : dIn false (.str "jump") (.adr i) S = .ok (.bl false) S := by
  have e := items_adr h
  show (match (match itemsD S (.adr i) with
    | some l => (match flatD (.str "jump"), mapO flatD l with
      | some v, some vs => R.ok (D.bl (if false = true then !inV v vs else inV v vs)) S
      | _, _ => .bad)
    | none => .bad) with
    | .bad => orF (inTxt false) (inDic false) (.str "jump") (.adr i) S
    | r => r) = _
  rw [e]
  show R.ok (D.bl (inV (V.str "jump") [V.str "halt", V.str "out", V.str "in", V.str "half"])) S = _
  rw [show inV (V.str "jump") [V.str "halt", V.str "out", V.str "in", V.str "half"] = false from by decide +kernel]
theorem lin_P_zero {S : Sr} {i : Nat} (h : S.f i = some (.lst [.str "halt", .str "out", .str "in", .str "half"])) : dIn false (.str "zero") (.adr i) S = .ok (.bl false) S := by
  have e := items_adr h
  show (match (match itemsD S (.adr i) with
    | some l => (match flatD (.str "zero"), mapO flatD l with
      | some v, some vs => R.ok (D.bl (if false = true then !inV v vs else inV v vs)) S
      | _, _ => .bad)
    | none => .bad) with
    | .bad => orF (inTxt false) (inDic false) (.str "zero") (.adr i) S
    | r => r) = _
  rw [e]
  show R.ok (D.bl (inV (V.str "zero") [V.str "halt", V.str "out", V.str "in", V.str "half"])) S = _
  rw [show inV (V.str "zero") [V.str "halt", V.str "out", V.str "in", V.str "half"] = false from by decide +kernel]
theorem lin_P_less {S : Sr} {i : Nat} (h : S.f i = some (.lst [.str "halt", .str "out", .str "in", .str "half"])) : dIn false (.str "less") (.adr i) S = .ok (.bl false) S := by
  have e := items_adr h
  show (match (match itemsD S (.adr i) with
    | some l => (match flatD (.str "less"), mapO flatD l with
      | some v, some vs => R.ok (D.bl (if false = true then !inV v vs else inV v vs)) S
      | _, _ => .bad)
    | none => .bad) with
    | .bad => orF (inTxt false) (inDic false) (.str "less") (.adr i) S
    | r => r) = _
  rw [e]
  show R.ok (D.bl (inV (V.str "less") [V.str "halt", V.str "out", V.str "in", V.str "half"])) S = _
  rw [show inV (V.str "less") [V.str "halt", V.str "out", V.str "in", V.str "half"] = false from by decide +kernel]
theorem lin_P_out {S : Sr} {i : Nat} (h : S.f i = some (.lst [.str "halt", .str "out", .str "in", .str "half"])) : dIn false (.str "out") (.adr i) S = .ok (.bl true) S := by
  have e := items_adr h
  show (match (match itemsD S (.adr i) with
    | some l => (match flatD (.str "out"), mapO flatD l with
      | some v, some vs => R.ok (D.bl (if false = true then !inV v vs else inV v vs)) S
      | _, _ => .bad)
    | none => .bad) with
    | .bad => orF (inTxt false) (inDic false) (.str "out") (.adr i) S
    | r => r) = _
  rw [e]
  show R.ok (D.bl (inV (V.str "out") [V.str "halt", V.str "out", V.str "in", V.str "half"])) S = _
  rw [show inV (V.str "out") [V.str "halt", V.str "out", V.str "in", V.str "half"] = true from by decide +kernel]
theorem lin_P_in {S : Sr} {i : Nat} (h : S.f i = some (.lst [.str "halt", .str "out", .str "in", .str "half"])) : dIn false (.str "in") (.adr i) S = .ok (.bl true) S := by
  have e := items_adr h
  show (match (match itemsD S (.adr i) with
    | some l => (match flatD (.str "in"), mapO flatD l with
      | some v, some vs => R.ok (D.bl (if false = true then !inV v vs else inV v vs)) S
      | _, _ => .bad)
    | none => .bad) with
    | .bad => orF (inTxt false) (inDic false) (.str "in") (.adr i) S
    | r => r) = _
  rw [e]
  show R.ok (D.bl (inV (V.str "in") [V.str "halt", V.str "out", V.str "in", V.str "half"])) S = _
  rw [show inV (V.str "in") [V.str "halt", V.str "out", V.str "in", V.str "half"] = true from by decide +kernel]
theorem lin_P_half {S : Sr} {i : Nat} (h : S.f i = some (.lst [.str "halt", .str "out", .str "in", .str "half"])) : dIn false (.str "half") (.adr i) S = .ok (.bl true) S := by
  have e := items_adr h
  show (match (match itemsD S (.adr i) with
    | some l => (match flatD (.str "half"), mapO flatD l with
      | some v, some vs => R.ok (D.bl (if false = true then !inV v vs else inV v vs)) S
      | _, _ => .bad)
    | none => .bad) with
    | .bad => orF (inTxt false) (inDic false) (.str "half") (.adr i) S
    | r => r) = _
  rw [e]
  show R.ok (D.bl (inV (V.str "half") [V.str "halt", V.str "out", V.str "in", V.str "half"])) S = _
  rw [show inV (V.str "half") [V.str "halt", V.str "out", V.str "in", V.str "half"] = true from by decide +kernel]
theorem lin_P_from {S : Sr} {i : Nat} (h : S.f i = some (.lst [.str "halt", .str "out", .str "in", .str "half"])) : dIn false (.str "from") (.adr i) S = .ok (.bl false) S := by
  have e := items_adr h
  show (match (match itemsD S (.adr i) with
    | some l => (match flatD (.str "from"), mapO flatD l with
      | some v, some vs => R.ok (D.bl (if false = true then !inV v vs else inV v vs)) S
      | _, _ => .bad)
    | none => .bad) with
    | .bad => orF (inTxt false) (inDic false) (.str "from") (.adr i) S
    | r => r) = _
  rw [e]
  show R.ok (D.bl (inV (V.str "from") [V.str "halt", V.str "out", V.str "in", V.str "half"])) S = _
  rw [show inV (V.str "from") [V.str "halt", V.str "out", V.str "in", V.str "half"] = false from by decide +kernel]
theorem lin_P_to {S : Sr} {i : Nat} (h : S.f i = some (.lst [.str "halt", .str "out", .str "in", .str "half"])) : dIn false (.str "to") (.adr i) S = .ok (.bl false) S := by
  have e := items_adr h
  show (match (match itemsD S (.adr i) with
    | some l => (match flatD (.str "to"), mapO flatD l with
      | some v, some vs => R.ok (D.bl (if false = true then !inV v vs else inV v vs)) S
      | _, _ => .bad)
    | none => .bad) with
    | .bad => orF (inTxt false) (inDic false) (.str "to") (.adr i) S
    | r => r) = _
  rw [e]
  show R.ok (D.bl (inV (V.str "to") [V.str "halt", V.str "out", V.str "in", V.str "half"])) S = _
  rw [show inV (V.str "to") [V.str "halt", V.str "out", V.str "in", V.str "half"] = false from by decide +kernel]
theorem lin_J_halt {S : Sr} {i : Nat} (h : S.f i = some (.lst [.str "jump", .str "zero", .str "less"])) : dIn false (.str "halt") (.adr i) S = .ok (.bl false) S := by
  have e := items_adr h
  show (match (match itemsD S (.adr i) with
    | some l => (match flatD (.str "halt"), mapO flatD l with
      | some v, some vs => R.ok (D.bl (if false = true then !inV v vs else inV v vs)) S
      | _, _ => .bad)
    | none => .bad) with
    | .bad => orF (inTxt false) (inDic false) (.str "halt") (.adr i) S
    | r => r) = _
  rw [e]
  show R.ok (D.bl (inV (V.str "halt") [V.str "jump", V.str "zero", V.str "less"])) S = _
  rw [show inV (V.str "halt") [V.str "jump", V.str "zero", V.str "less"] = false from by decide +kernel]
theorem lin_J_set {S : Sr} {i : Nat} (h : S.f i = some (.lst [.str "jump", .str "zero", .str "less"])) : dIn false (.str "set") (.adr i) S = .ok (.bl false) S := by
  have e := items_adr h
  show (match (match itemsD S (.adr i) with
    | some l => (match flatD (.str "set"), mapO flatD l with
      | some v, some vs => R.ok (D.bl (if false = true then !inV v vs else inV v vs)) S
      | _, _ => .bad)
    | none => .bad) with
    | .bad => orF (inTxt false) (inDic false) (.str "set") (.adr i) S
    | r => r) = _
  rw [e]
  show R.ok (D.bl (inV (V.str "set") [V.str "jump", V.str "zero", V.str "less"])) S = _
  rw [show inV (V.str "set") [V.str "jump", V.str "zero", V.str "less"] = false from by decide +kernel]
theorem lin_J_load {S : Sr} {i : Nat} (h : S.f i = some (.lst [.str "jump", .str "zero", .str "less"])) : dIn false (.str "load") (.adr i) S = .ok (.bl false) S := by
  have e := items_adr h
  show (match (match itemsD S (.adr i) with
    | some l => (match flatD (.str "load"), mapO flatD l with
      | some v, some vs => R.ok (D.bl (if false = true then !inV v vs else inV v vs)) S
      | _, _ => .bad)
    | none => .bad) with
    | .bad => orF (inTxt false) (inDic false) (.str "load") (.adr i) S
    | r => r) = _
  rw [e]
  show R.ok (D.bl (inV (V.str "load") [V.str "jump", V.str "zero", V.str "less"])) S = _
  rw [show inV (V.str "load") [V.str "jump", V.str "zero", V.str "less"] = false from by decide +kernel]
theorem lin_J_store {S : Sr} {i : Nat} (h : S.f i = some (.lst [.str "jump", .str "zero", .str "less"])) : dIn false (.str "store") (.adr i) S = .ok (.bl false) S := by
  have e := items_adr h
  show (match (match itemsD S (.adr i) with
    | some l => (match flatD (.str "store"), mapO flatD l with
      | some v, some vs => R.ok (D.bl (if false = true then !inV v vs else inV v vs)) S
      | _, _ => .bad)
    | none => .bad) with
    | .bad => orF (inTxt false) (inDic false) (.str "store") (.adr i) S
    | r => r) = _
  rw [e]
  show R.ok (D.bl (inV (V.str "store") [V.str "jump", V.str "zero", V.str "less"])) S = _
  rw [show inV (V.str "store") [V.str "jump", V.str "zero", V.str "less"] = false from by decide +kernel]
theorem lin_J_add {S : Sr} {i : Nat} (h : S.f i = some (.lst [.str "jump", .str "zero", .str "less"])) : dIn false (.str "add") (.adr i) S = .ok (.bl false) S := by
  have e := items_adr h
  show (match (match itemsD S (.adr i) with
    | some l => (match flatD (.str "add"), mapO flatD l with
      | some v, some vs => R.ok (D.bl (if false = true then !inV v vs else inV v vs)) S
      | _, _ => .bad)
    | none => .bad) with
    | .bad => orF (inTxt false) (inDic false) (.str "add") (.adr i) S
    | r => r) = _
  rw [e]
  show R.ok (D.bl (inV (V.str "add") [V.str "jump", V.str "zero", V.str "less"])) S = _
  rw [show inV (V.str "add") [V.str "jump", V.str "zero", V.str "less"] = false from by decide +kernel]
theorem lin_J_sub {S : Sr} {i : Nat} (h : S.f i = some (.lst [.str "jump", .str "zero", .str "less"])) : dIn false (.str "sub") (.adr i) S = .ok (.bl false) S := by
  have e := items_adr h
  show (match (match itemsD S (.adr i) with
    | some l => (match flatD (.str "sub"), mapO flatD l with
      | some v, some vs => R.ok (D.bl (if false = true then !inV v vs else inV v vs)) S
      | _, _ => .bad)
    | none => .bad) with
    | .bad => orF (inTxt false) (inDic false) (.str "sub") (.adr i) S
    | r => r) = _
  rw [e]
  show R.ok (D.bl (inV (V.str "sub") [V.str "jump", V.str "zero", V.str "less"])) S = _
  rw [show inV (V.str "sub") [V.str "jump", V.str "zero", V.str "less"] = false from by decide +kernel]
theorem lin_J_and {S : Sr} {i : Nat} (h : S.f i = some (.lst [.str "jump", .str "zero", .str "less"])) : dIn false (.str "and") (.adr i) S = .ok (.bl false) S := by
  have e := items_adr h
  show (match (match itemsD S (.adr i) with
    | some l => (match flatD (.str "and"), mapO flatD l with
      | some v, some vs => R.ok (D.bl (if false = true then !inV v vs else inV v vs)) S
      | _, _ => .bad)
    | none => .bad) with
    | .bad => orF (inTxt false) (inDic false) (.str "and") (.adr i) S
    | r => r) = _
  rw [e]
  show R.ok (D.bl (inV (V.str "and") [V.str "jump", V.str "zero", V.str "less"])) S = _
  rw [show inV (V.str "and") [V.str "jump", V.str "zero", V.str "less"] = false from by decide +kernel]
theorem lin_J_xor {S : Sr} {i : Nat} (h : S.f i = some (.lst [.str "jump", .str "zero", .str "less"])) : dIn false (.str "xor") (.adr i) S = .ok (.bl false) S := by
  have e := items_adr h
  show (match (match itemsD S (.adr i) with
    | some l => (match flatD (.str "xor"), mapO flatD l with
      | some v, some vs => R.ok (D.bl (if false = true then !inV v vs else inV v vs)) S
      | _, _ => .bad)
    | none => .bad) with
    | .bad => orF (inTxt false) (inDic false) (.str "xor") (.adr i) S
    | r => r) = _
  rw [e]
  show R.ok (D.bl (inV (V.str "xor") [V.str "jump", V.str "zero", V.str "less"])) S = _
  rw [show inV (V.str "xor") [V.str "jump", V.str "zero", V.str "less"] = false from by decide +kernel]
theorem lin_J_jump {S : Sr} {i : Nat} (h : S.f i = some (.lst [.str "jump", .str "zero", .str "less"])) : dIn false (.str "jump") (.adr i) S = .ok (.bl true) S := by
  have e := items_adr h
  show (match (match itemsD S (.adr i) with
    | some l => (match flatD (.str "jump"), mapO flatD l with
      | some v, some vs => R.ok (D.bl (if false = true then !inV v vs else inV v vs)) S
      | _, _ => .bad)
    | none => .bad) with
    | .bad => orF (inTxt false) (inDic false) (.str "jump") (.adr i) S
    | r => r) = _
  rw [e]
  show R.ok (D.bl (inV (V.str "jump") [V.str "jump", V.str "zero", V.str "less"])) S = _
  rw [show inV (V.str "jump") [V.str "jump", V.str "zero", V.str "less"] = true from by decide +kernel]
theorem lin_J_zero {S : Sr} {i : Nat} (h : S.f i = some (.lst [.str "jump", .str "zero", .str "less"])) : dIn false (.str "zero") (.adr i) S = .ok (.bl true) S := by
  have e := items_adr h
  show (match (match itemsD S (.adr i) with
    | some l => (match flatD (.str "zero"), mapO flatD l with
      | some v, some vs => R.ok (D.bl (if false = true then !inV v vs else inV v vs)) S
      | _, _ => .bad)
    | none => .bad) with
    | .bad => orF (inTxt false) (inDic false) (.str "zero") (.adr i) S
    | r => r) = _
  rw [e]
  show R.ok (D.bl (inV (V.str "zero") [V.str "jump", V.str "zero", V.str "less"])) S = _
  rw [show inV (V.str "zero") [V.str "jump", V.str "zero", V.str "less"] = true from by decide +kernel]
theorem lin_J_less {S : Sr} {i : Nat} (h : S.f i = some (.lst [.str "jump", .str "zero", .str "less"])) : dIn false (.str "less") (.adr i) S = .ok (.bl true) S := by
  have e := items_adr h
  show (match (match itemsD S (.adr i) with
    | some l => (match flatD (.str "less"), mapO flatD l with
      | some v, some vs => R.ok (D.bl (if false = true then !inV v vs else inV v vs)) S
      | _, _ => .bad)
    | none => .bad) with
    | .bad => orF (inTxt false) (inDic false) (.str "less") (.adr i) S
    | r => r) = _
  rw [e]
  show R.ok (D.bl (inV (V.str "less") [V.str "jump", V.str "zero", V.str "less"])) S = _
  rw [show inV (V.str "less") [V.str "jump", V.str "zero", V.str "less"] = true from by decide +kernel]
theorem lin_J_out {S : Sr} {i : Nat} (h : S.f i = some (.lst [.str "jump", .str "zero", .str "less"])) : dIn false (.str "out") (.adr i) S = .ok (.bl false) S := by
  have e := items_adr h
  show (match (match itemsD S (.adr i) with
    | some l => (match flatD (.str "out"), mapO flatD l with
      | some v, some vs => R.ok (D.bl (if false = true then !inV v vs else inV v vs)) S
      | _, _ => .bad)
    | none => .bad) with
    | .bad => orF (inTxt false) (inDic false) (.str "out") (.adr i) S
    | r => r) = _
  rw [e]
  show R.ok (D.bl (inV (V.str "out") [V.str "jump", V.str "zero", V.str "less"])) S = _
  rw [show inV (V.str "out") [V.str "jump", V.str "zero", V.str "less"] = false from by decide +kernel]
theorem lin_J_in {S : Sr} {i : Nat} (h : S.f i = some (.lst [.str "jump", .str "zero", .str "less"])) : dIn false (.str "in") (.adr i) S = .ok (.bl false) S := by
  have e := items_adr h
  show (match (match itemsD S (.adr i) with
    | some l => (match flatD (.str "in"), mapO flatD l with
      | some v, some vs => R.ok (D.bl (if false = true then !inV v vs else inV v vs)) S
      | _, _ => .bad)
    | none => .bad) with
    | .bad => orF (inTxt false) (inDic false) (.str "in") (.adr i) S
    | r => r) = _
  rw [e]
  show R.ok (D.bl (inV (V.str "in") [V.str "jump", V.str "zero", V.str "less"])) S = _
  rw [show inV (V.str "in") [V.str "jump", V.str "zero", V.str "less"] = false from by decide +kernel]
theorem lin_J_half {S : Sr} {i : Nat} (h : S.f i = some (.lst [.str "jump", .str "zero", .str "less"])) : dIn false (.str "half") (.adr i) S = .ok (.bl false) S := by
  have e := items_adr h
  show (match (match itemsD S (.adr i) with
    | some l => (match flatD (.str "half"), mapO flatD l with
      | some v, some vs => R.ok (D.bl (if false = true then !inV v vs else inV v vs)) S
      | _, _ => .bad)
    | none => .bad) with
    | .bad => orF (inTxt false) (inDic false) (.str "half") (.adr i) S
    | r => r) = _
  rw [e]
  show R.ok (D.bl (inV (V.str "half") [V.str "jump", V.str "zero", V.str "less"])) S = _
  rw [show inV (V.str "half") [V.str "jump", V.str "zero", V.str "less"] = false from by decide +kernel]
theorem lin_J_from {S : Sr} {i : Nat} (h : S.f i = some (.lst [.str "jump", .str "zero", .str "less"])) : dIn false (.str "from") (.adr i) S = .ok (.bl false) S := by
  have e := items_adr h
  show (match (match itemsD S (.adr i) with
    | some l => (match flatD (.str "from"), mapO flatD l with
      | some v, some vs => R.ok (D.bl (if false = true then !inV v vs else inV v vs)) S
      | _, _ => .bad)
    | none => .bad) with
    | .bad => orF (inTxt false) (inDic false) (.str "from") (.adr i) S
    | r => r) = _
  rw [e]
  show R.ok (D.bl (inV (V.str "from") [V.str "jump", V.str "zero", V.str "less"])) S = _
  rw [show inV (V.str "from") [V.str "jump", V.str "zero", V.str "less"] = false from by decide +kernel]
theorem lin_J_to {S : Sr} {i : Nat} (h : S.f i = some (.lst [.str "jump", .str "zero", .str "less"])) : dIn false (.str "to") (.adr i) S = .ok (.bl false) S := by
  have e := items_adr h
  show (match (match itemsD S (.adr i) with
    | some l => (match flatD (.str "to"), mapO flatD l with
      | some v, some vs => R.ok (D.bl (if false = true then !inV v vs else inV v vs)) S
      | _, _ => .bad)
    | none => .bad) with
    | .bad => orF (inTxt false) (inDic false) (.str "to") (.adr i) S
    | r => r) = _
  rw [e]
  show R.ok (D.bl (inV (V.str "to") [V.str "jump", V.str "zero", V.str "less"])) S = _
  rw [show inV (V.str "to") [V.str "jump", V.str "zero", V.str "less"] = false from by decide +kernel]
theorem lin_S_halt {S : Sr} {i : Nat} (h : S.f i = some (.lst [.str "store", .str "to"])) : dIn false (.str "halt") (.adr i) S = .ok (.bl false) S := by
  have e := items_adr h
  show (match (match itemsD S (.adr i) with
    | some l => (match flatD (.str "halt"), mapO flatD l with
      | some v, some vs => R.ok (D.bl (if false = true then !inV v vs else inV v vs)) S
      | _, _ => .bad)
    | none => .bad) with
    | .bad => orF (inTxt false) (inDic false) (.str "halt") (.adr i) S
    | r => r) = _
  rw [e]
  show R.ok (D.bl (inV (V.str "halt") [V.str "store", V.str "to"])) S = _
  rw [show inV (V.str "halt") [V.str "store", V.str "to"] = false from by decide +kernel]
theorem lin_S_set {S : Sr} {i : Nat} (h : S.f i = some (.lst [.str "store", .str "to"])) : dIn false (.str "set") (.adr i) S = .ok (.bl false) S := by
  have e := items_adr h
  show (match (match itemsD S (.adr i) with
    | some l => (match flatD (.str "set"), mapO flatD l with
      | some v, some vs => R.ok (D.bl (if false = true then !inV v vs else inV v vs)) S
      | _, _ => .bad)
    | none => .bad) with
    | .bad => orF (inTxt false) (inDic false) (.str "set") (.adr i) S
    | r => r) = _
  rw [e]
  show R.ok (D.bl (inV (V.str "set") [V.str "store", V.str "to"])) S = _
  rw [show inV (V.str "set") [V.str "store", V.str "to"] = false from by decide +kernel]
theorem lin_S_load {S : Sr} {i : Nat} (h : S.f i = some (.lst [.str "store", .str "to"])) : dIn false (.str "load") (.adr i) S = .ok (.bl false) S := by
  have e := items_adr h
  show (match (match itemsD S (.adr i) with
    | some l => (match flatD (.str "load"), mapO flatD l with
      | some v, some vs => R.ok (D.bl (if false = true then !inV v vs else inV v vs)) S
      | _, _ => .bad)
    | none => .bad) with
    | .bad => orF (inTxt false) (inDic false) (.str "load") (.adr i) S
    | r => r) = _
  rw [e]
  show R.ok (D.bl (inV (V.str "load") [V.str "store", V.str "to"])) S = _
  rw [show inV (V.str "load") [V.str "store", V.str "to"] = false from by decide +kernel]
theorem lin_S_store {S : Sr} {i : Nat} (h : S.f i = some (.lst [.str "store", .str "to"])) : dIn false (.str "store") (.adr i) S = .ok (.bl true) S := by
  have e := items_adr h
  show (match (match itemsD S (.adr i) with
    | some l => (match flatD (.str "store"), mapO flatD l with
      | some v, some vs => R.ok (D.bl (if false = true then !inV v vs else inV v vs)) S
      | _, _ => .bad)
    | none => .bad) with
    | .bad => orF (inTxt false) (inDic false) (.str "store") (.adr i) S
    | r => r) = _
  rw [e]
  show R.ok (D.bl (inV (V.str "store") [V.str "store", V.str "to"])) S = _
  rw [show inV (V.str "store") [V.str "store", V.str "to"] = true from by decide +kernel]
theorem lin_S_add {S : Sr} {i : Nat} (h : S.f i = some (.lst [.str "store", .str "to"])) : dIn false (.str "add") (.adr i) S = .ok (.bl false) S := by
  have e := items_adr h
  show (match (match itemsD S (.adr i) with
    | some l => (match flatD (.str "add"), mapO flatD l with
      | some v, some vs => R.ok (D.bl (if false = true then !inV v vs else inV v vs)) S
      | _, _ => .bad)
    | none => .bad) with
    | .bad => orF (inTxt false) (inDic false) (.str "add") (.adr i) S
    | r => r) = _
  rw [e]
  show R.ok (D.bl (inV (V.str "add") [V.str "store", V.str "to"])) S = _
  rw [show inV (V.str "add") [V.str "store", V.str "to"] = false from by decide +kernel]
theorem lin_S_sub {S : Sr} {i : Nat} (h : S.f i = some (.lst [.str "store", .str "to"])) : dIn false (.str "sub") (.adr i) S = .ok (.bl false) S := by
  have e := items_adr h
  show (match (match itemsD S (.adr i) with
    | some l => (match flatD (.str "sub"), mapO flatD l with
      | some v, some vs => R.ok (D.bl (if false = true then !inV v vs else inV v vs)) S
      | _, _ => .bad)
    | none => .bad) with
    | .bad => orF (inTxt false) (inDic false) (.str "sub") (.adr i) S
    | r => r) = _
  rw [e]
  show R.ok (D.bl (inV (V.str "sub") [V.str "store", V.str "to"])) S = _
  rw [show inV (V.str "sub") [V.str "store", V.str "to"] = false from by decide +kernel]
theorem lin_S_and {S : Sr} {i : Nat} (h : S.f i = some (.lst [.str "store", .str "to"])) : dIn false (.str "and") (.adr i) S = .ok (.bl false) S := by
  have e := items_adr h
  show (match (match itemsD S (.adr i) with
    | some l => (match flatD (.str "and"), mapO flatD l with
      | some v, some vs => R.ok (D.bl (if false = true then !inV v vs else inV v vs)) S
      | _, _ => .bad)
    | none => .bad) with
    | .bad => orF (inTxt false) (inDic false) (.str "and") (.adr i) S
    | r => r) = _
  rw [e]
  show R.ok (D.bl (inV (V.str "and") [V.str "store", V.str "to"])) S = _
  rw [show inV (V.str "and") [V.str "store", V.str "to"] = false from by decide +kernel]
theorem lin_S_xor {S : Sr} {i : Nat} (h : S.f i = some (.lst [.str "store", .str "to"])) : dIn false (.str "xor") (.adr i) S = .ok (.bl false) S := by
  have e := items_adr h
  show (match (match itemsD S (.adr i) with
    | some l => (match flatD (.str "xor"), mapO flatD l with
      | some v, some vs => R.ok (D.bl (if false = true then !inV v vs else inV v vs)) S
      | _, _ => .bad)
    | none => .bad) with
    | .bad => orF (inTxt false) (inDic false) (.str "xor") (.adr i) S
    | r => r) = _
  rw [e]
  show R.ok (D.bl (inV (V.str "xor") [V.str "store", V.str "to"])) S = _
  rw [show inV (V.str "xor") [V.str "store", V.str "to"] = false from by decide +kernel]
theorem lin_S_jump {S : Sr} {i : Nat} (h : S.f i = some (.lst [.str "store", .str "to"])) : dIn false (.str "jump") (.adr i) S = .ok (.bl false) S := by
  have e := items_adr h
  show (match (match itemsD S (.adr i) with
    | some l => (match flatD (.str "jump"), mapO flatD l with
      | some v, some vs => R.ok (D.bl (if false = true then !inV v vs else inV v vs)) S
      | _, _ => .bad)
    | none => .bad) with
    | .bad => orF (inTxt false) (inDic false) (.str "jump") (.adr i) S
    | r => r) = _
  rw [e]
  show R.ok (D.bl (inV (V.str "jump") [V.str "store", V.str "to"])) S = _
  rw [show inV (V.str "jump") [V.str "store", V.str "to"] = false from by decide +kernel]
theorem lin_S_zero {S : Sr} {i : Nat} (h : S.f i = some (.lst [.str "store", .str "to"])) : dIn false (.str "zero") (.adr i) S = .ok (.bl false) S := by
  have e := items_adr h
  show (match (match itemsD S (.adr i) with
    | some l => (match flatD (.str "zero"), mapO flatD l with
      | some v, some vs => R.ok (D.bl (if false = true then !inV v vs else inV v vs)) S
      | _, _ => .bad)
    | none => .bad) with
    | .bad => orF (inTxt false) (inDic false) (.str "zero") (.adr i) S
    | r => r) = _
  rw [e]
  show R.ok (D.bl (inV (V.str "zero") [V.str "store", V.str "to"])) S = _
  rw [show inV (V.str "zero") [V.str "store", V.str "to"] = false from by decide +kernel]
theorem lin_S_less {S : Sr} {i : Nat} (h : S.f i = some (.lst [.str "store", .str "to"])) : dIn false (.str "less") (.adr i) S = .ok (.bl false) S := by
  have e := items_adr h
  show (match (match itemsD S (.adr i) with
    | some l => (match flatD (.str "less"), mapO flatD l with
      | some v, some vs => R.ok (D.bl (if false = true then !inV v vs else inV v vs)) S
      | _, _ => .bad)
    | none => .bad) with
    | .bad => orF (inTxt false) (inDic false) (.str "less") (.adr i) S
    | r => r) = _
  rw [e]
  show R.ok (D.bl (inV (V.str "less") [V.str "store", V.str "to"])) S = _
  rw [show inV (V.str "less") [V.str "store", V.str "to"] = false from by decide +kernel]
theorem lin_S_out {S : Sr} {i : Nat} (h : S.f i = some (.lst [.str "store", .str "to"])) : dIn false (.str "out") (.adr i) S = .ok (.bl false) S := by
  have e := items_adr h
  show (match (match itemsD S (.adr i) with
    | some l => (match flatD (.str "out"), mapO flatD l with
      | some v, some vs => R.ok (D.bl (if false = true then !inV v vs else inV v vs)) S
      | _, _ => .bad)
    | none => .bad) with
    | .bad => orF (inTxt false) (inDic false) (.str "out") (.adr i) S
    | r => r) = _
  rw [e]
  show R.ok (D.bl (inV (V.str "out") [V.str "store", V.str "to"])) S = _
  rw [show inV (V.str "out") [V.str "store", V.str "to"] = false from by decide +kernel]
theorem lin_S_in {S : Sr} {i : Nat} (h : S.f i = some (.lst [.str "store", .str "to"])) : dIn false (.str "in") (.adr i) S = .ok (.bl false) S := by
  have e := items_adr h
  show (match (match itemsD S (.adr i) with
    | some l => (match flatD (.str "in"), mapO flatD l with
      | some v, some vs => R.ok (D.bl (if false = true then !inV v vs else inV v vs)) S
      | _, _ => .bad)
    | none => .bad) with
    | .bad => orF (inTxt false) (inDic false) (.str "in") (.adr i) S
    | r => r) = _
  rw [e]
  show R.ok (D.bl (inV (V.str "in") [V.str "store", V.str "to"])) S = _
  rw [show inV (V.str "in") [V.str "store", V.str "to"] = false from by decide +kernel]
theorem lin_S_half {S : Sr} {i : Nat} (h : S.f i = some (.lst [.str "store", .str "to"])) : dIn false (.str "half") (.adr i) S = .ok (.bl false) S := by
  have e := items_adr h
  show (match (match itemsD S (.adr i) with
    | some l => (match flatD (.str "half"), mapO flatD l with
      | some v, some vs => R.ok (D.bl (if false = true then !inV v vs else inV v vs)) S
      | _, _ => .bad)
    | none => .bad) with
    | .bad => orF (inTxt false) (inDic false) (.str "half") (.adr i) S
    | r => r) = _
  rw [e]
  show R.ok (D.bl (inV (V.str "half") [V.str "store", V.str "to"])) S = _
  rw [show inV (V.str "half") [V.str "store", V.str "to"] = false from by decide +kernel]
theorem lin_S_from {S : Sr} {i : Nat} (h : S.f i = some (.lst [.str "store", .str "to"])) : dIn false (.str "from") (.adr i) S = .ok (.bl false) S := by
  have e := items_adr h
  show (match (match itemsD S (.adr i) with
    | some l => (match flatD (.str "from"), mapO flatD l with
      | some v, some vs => R.ok (D.bl (if false = true then !inV v vs else inV v vs)) S
      | _, _ => .bad)
    | none => .bad) with
    | .bad => orF (inTxt false) (inDic false) (.str "from") (.adr i) S
    | r => r) = _
  rw [e]
  show R.ok (D.bl (inV (V.str "from") [V.str "store", V.str "to"])) S = _
  rw [show inV (V.str "from") [V.str "store", V.str "to"] = false from by decide +kernel]
theorem lin_S_to {S : Sr} {i : Nat} (h : S.f i = some (.lst [.str "store", .str "to"])) : dIn false (.str "to") (.adr i) S = .ok (.bl true) S := by
  have e := items_adr h
  show (match (match itemsD S (.adr i) with
    | some l => (match flatD (.str "to"), mapO flatD l with
      | some v, some vs => R.ok (D.bl (if false = true then !inV v vs else inV v vs)) S
      | _, _ => .bad)
    | none => .bad) with
    | .bad => orF (inTxt false) (inDic false) (.str "to") (.adr i) S
    | r => r) = _
  rw [e]
  show R.ok (D.bl (inV (V.str "to") [V.str "store", V.str "to"])) S = _
  rw [show inV (V.str "to") [V.str "store", V.str "to"] = true from by decide +kernel]
theorem lin_L_halt {S : Sr} {i : Nat} (h : S.f i = some (.lst [.str "load", .str "from"])) : dIn false (.str "halt") (.adr i) S = .ok (.bl false) S := by
  have e := items_adr h
  show (match (match itemsD S (.adr i) with
    | some l => (match flatD (.str "halt"), mapO flatD l with
      | some v, some vs => R.ok (D.bl (if false = true then !inV v vs else inV v vs)) S
      | _, _ => .bad)
    | none => .bad) with
    | .bad => orF (inTxt false) (inDic false) (.str "halt") (.adr i) S
    | r => r) = _
  rw [e]
  show R.ok (D.bl (inV (V.str "halt") [V.str "load", V.str "from"])) S = _
  rw [show inV (V.str "halt") [V.str "load", V.str "from"] = false from by decide +kernel]
theorem lin_L_set {S : Sr} {i : Nat} (h : S.f i = some (.lst [.str "load", .str "from"])) : dIn false (.str "set") (.adr i) S = .ok (.bl false) S := by
  have e := items_adr h
  show (match (match itemsD S (.adr i) with
    | some l => (match flatD (.str "set"), mapO flatD l with
      | some v, some vs => R.ok (D.bl (if false = true then !inV v vs else inV v vs)) S
      | _, _ => .bad)
    | none => .bad) with
    | .bad => orF (inTxt false) (inDic false) (.str "set") (.adr i) S
    | r => r) = _
  rw [e]
  show R.ok (D.bl (inV (V.str "set") [V.str "load", V.str "from"])) S = _
  rw [show inV (V.str "set") [V.str "load", V.str "from"] = false from by decide +kernel]
theorem lin_L_load {S : Sr} {i : Nat} (h : S.f i = some (.lst [.str "load", .str "from"])) : dIn false (.str "load") (.adr i) S = .ok (.bl true) S := by
  have e := items_adr h
  show (match (match itemsD S (.adr i) with
    | some l => (match flatD (.str "load"), mapO flatD l with
      | some v, some vs => R.ok (D.bl (if false = true then !inV v vs else inV v vs)) S
      | _, _ => .bad)
    | none => .bad) with
    | .bad => orF (inTxt false) (inDic false) (.str "load") (.adr i) S
    | r => r) = _
  rw [e]
  show R.ok (D.bl (inV (V.str "load") [V.str "load", V.str "from"])) S = _
  rw [show inV (V.str "load") [V.str "load", V.str "from"] = true from by decide +kernel]
theorem lin_L_store {S : Sr} {i : Nat} (h : S.f i = some (.lst [.str "load", .str "from"])) : dIn false (.str "store") (.adr i) S = .ok (.bl false) S := by
  have e := items_adr h
  show (match (match itemsD S (.adr i) with
    | some l => (match flatD (.str "store"), mapO flatD l with
      | some v, some vs => R.ok (D.bl (if false = true then !inV v vs else inV v vs)) S
      | _, _ => .bad)
    | none => .bad) with
    | .bad => orF (inTxt false) (inDic false) (.str "store") (.adr i) S
    | r => r) = _
  rw [e]
  show R.ok (D.bl (inV (V.str "store") [V.str "load", V.str "from"])) S = _
  rw [show inV (V.str "store") [V.str "load", V.str "from"] = false from by decide +kernel]
theorem lin_L_add {S : Sr} {i : Nat} (h : S.f i = some (.lst [.str "load", .str "from"])) : dIn false (.str "add") (.adr i) S = .ok (.bl false) S := by
  have e := items_adr h
  show (match (match itemsD S (.adr i) with
    | some l => (match flatD (.str "add"), mapO flatD l with
      | some v, some vs => R.ok (D.bl (if false = true then !inV v vs else inV v vs)) S
      | _, _ => .bad)
    | none => .bad) with
    | .bad => orF (inTxt false) (inDic false) (.str "add") (.adr i) S
    | r => r) = _
  rw [e]
  show R.ok (D.bl (inV (V.str "add") [V.str "load", V.str "from"])) S = _
  rw [show inV (V.str "add") [V.str "load", V.str "from"] = false from by decide +kernel]
theorem lin_L_sub {S : Sr} {i : Nat} (h : S.f i = some (.lst [.str "load", .str "from"])) : dIn false (.str "sub") (.adr i) S = .ok (.bl false) S := by
  have e := items_adr h
  show (match (match itemsD S (.adr i) with
    | some l => (match flatD (.str "sub"), mapO flatD l with
      | some v, some vs => R.ok (D.bl (if false = true then !inV v vs else inV v vs)) S
      | _, _ => .bad)
    | none => .bad) with
    | .bad => orF (inTxt false) (inDic false) (.str "sub") (.adr i) S
    | r => r) = _
  rw [e]
  show R.ok (D.bl (inV (V.str "sub") [V.str "load", V.str "from"])) S = _
  rw [show inV (V.str "sub") [V.str "load", V.str "from"] = false from by decide +kernel]
theorem lin_L_and {S : Sr} {i : Nat} (h : S.f i = some (.lst [.str "load", .str "from"])) : dIn false (.str "and") (.adr i) S = .ok (.bl false) S := by
  have e := items_adr h
  show (match (match itemsD S (.adr i) with
    | some l => (match flatD (.str "and"), mapO flatD l with
      | some v, some vs => R.ok (D.bl (if false = true then !inV v vs else inV v vs)) S
      | _, _ => .bad)
    | none => .bad) with
    | .bad => orF (inTxt false) (inDic false) (.str "and") (.adr i) S
    | r => r) = _
  rw [e]
  show R.ok (D.bl (inV (V.str "and") [V.str "load", V.str "from"])) S = _
  rw [show inV (V.str "and") [V.str "load", V.str "from"] = false from by decide +kernel]
theorem lin_L_xor {S : Sr} {i : Nat} (h : S.f i = some (.lst [.str "load", .str "from"])) : dIn false (.str "xor") (.adr i) S = .ok (.bl false) S := by
  have e := items_adr h
  show (match (match itemsD S (.adr i) with
    | some l => (match flatD (.str "xor"), mapO flatD l with
      | some v, some vs => R.ok (D.bl (if false = true then !inV v vs else inV v vs)) S
      | _, _ => .bad)
    | none => .bad) with
    | .bad => orF (inTxt false) (inDic false) (.str "xor") (.adr i) S
    | r => r) = _
  rw [e]
  show R.ok (D.bl (inV (V.str "xor") [V.str "load", V.str "from"])) S = _
  rw [show inV (V.str "xor") [V.str "load", V.str "from"] = false from by decide +kernel]
theorem lin_L_jump {S : Sr} {i : Nat} (h : S.f i = some (.lst [.str "load", .str "from"])) : dIn false (.str "jump") (.adr i) S = .ok (.bl false) S := by
  have e := items_adr h
  show (match (match itemsD S (.adr i) with
    | some l => (match flatD (.str "jump"), mapO flatD l with
      | some v, some vs => R.ok (D.bl (if false = true then !inV v vs else inV v vs)) S
      | _, _ => .bad)
    | none => .bad) with
    | .bad => orF (inTxt false) (inDic false) (.str "jump") (.adr i) S
    | r => r) = _
  rw [e]
  show R.ok (D.bl (inV (V.str "jump") [V.str "load", V.str "from"])) S = _
  rw [show inV (V.str "jump") [V.str "load", V.str "from"] = false from by decide +kernel]
theorem lin_L_zero {S : Sr} {i : Nat} (h : S.f i = some (.lst [.str "load", .str "from"])) : dIn false (.str "zero") (.adr i) S = .ok (.bl false) S := by
  have e := items_adr h
  show (match (match itemsD S (.adr i) with
    | some l => (match flatD (.str "zero"), mapO flatD l with
      | some v, some vs => R.ok (D.bl (if false = true then !inV v vs else inV v vs)) S
      | _, _ => .bad)
    | none => .bad) with
    | .bad => orF (inTxt false) (inDic false) (.str "zero") (.adr i) S
    | r => r) = _
  rw [e]
  show R.ok (D.bl (inV (V.str "zero") [V.str "load", V.str "from"])) S = _
  rw [show inV (V.str "zero") [V.str "load", V.str "from"] = false from by decide +kernel]
theorem lin_L_less {S : Sr} {i : Nat} (h : S.f i = some (.lst [.str "load", .str "from"])) : dIn false (.str "less") (.adr i) S = .ok (.bl false) S := by
  have e := items_adr h
  show (match (match itemsD S (.adr i) with
    | some l => (match flatD (.str "less"), mapO flatD l with
      | some v, some vs => R.ok (D.bl (if false = true then !inV v vs else inV v vs)) S
      | _, _ => .bad)
    | none => .bad) with
    | .bad => orF (inTxt false) (inDic false) (.str "less") (.adr i) S
    | r => r) = _
  rw [e]
  show R.ok (D.bl (inV (V.str "less") [V.str "load", V.str "from"])) S = _
  rw [show inV (V.str "less") [V.str "load", V.str "from"] = false from by decide +kernel]
theorem lin_L_out {S : Sr} {i : Nat} (h : S.f i = some (.lst [.str "load", .str "from"])) : dIn false (.str "out") (.adr i) S = .ok (.bl false) S := by
  have e := items_adr h
  show (match (match itemsD S (.adr i) with
    | some l => (match flatD (.str "out"), mapO flatD l with
      | some v, some vs => R.ok (D.bl (if false = true then !inV v vs else inV v vs)) S
      | _, _ => .bad)
    | none => .bad) with
    | .bad => orF (inTxt false) (inDic false) (.str "out") (.adr i) S
    | r => r) = _
  rw [e]
  show R.ok (D.bl (inV (V.str "out") [V.str "load", V.str "from"])) S = _
  rw [show inV (V.str "out") [V.str "load", V.str "from"] = false from by decide +kernel]
theorem lin_L_in {S : Sr} {i : Nat} (h : S.f i = some (.lst [.str "load", .str "from"])) : dIn false (.str "in") (.adr i) S = .ok (.bl false) S := by
  have e := items_adr h
  show (match (match itemsD S (.adr i) with
    | some l => (match flatD (.str "in"), mapO flatD l with
      | some v, some vs => R.ok (D.bl (if false = true then !inV v vs else inV v vs)) S
      | _, _ => .bad)
    | none => .bad) with
    | .bad => orF (inTxt false) (inDic false) (.str "in") (.adr i) S
    | r => r) = _
  rw [e]
  show R.ok (D.bl (inV (V.str "in") [V.str "load", V.str "from"])) S = _
  rw [show inV (V.str "in") [V.str "load", V.str "from"] = false from by decide +kernel]
theorem lin_L_half {S : Sr} {i : Nat} (h : S.f i = some (.lst [.str "load", .str "from"])) : dIn false (.str "half") (.adr i) S = .ok (.bl false) S := by
  have e := items_adr h
  show (match (match itemsD S (.adr i) with
    | some l => (match flatD (.str "half"), mapO flatD l with
      | some v, some vs => R.ok (D.bl (if false = true then !inV v vs else inV v vs)) S
      | _, _ => .bad)
    | none => .bad) with
    | .bad => orF (inTxt false) (inDic false) (.str "half") (.adr i) S
    | r => r) = _
  rw [e]
  show R.ok (D.bl (inV (V.str "half") [V.str "load", V.str "from"])) S = _
  rw [show inV (V.str "half") [V.str "load", V.str "from"] = false from by decide +kernel]
theorem lin_L_from {S : Sr} {i : Nat} (h : S.f i = some (.lst [.str "load", .str "from"])) : dIn false (.str "from") (.adr i) S = .ok (.bl true) S := by
  have e := items_adr h
  show (match (match itemsD S (.adr i) with
    | some l => (match flatD (.str "from"), mapO flatD l with
      | some v, some vs => R.ok (D.bl (if false = true then !inV v vs else inV v vs)) S
      | _, _ => .bad)
    | none => .bad) with
    | .bad => orF (inTxt false) (inDic false) (.str "from") (.adr i) S
    | r => r) = _
  rw [e]
  show R.ok (D.bl (inV (V.str "from") [V.str "load", V.str "from"])) S = _
  rw [show inV (V.str "from") [V.str "load", V.str "from"] = true from by decide +kernel]
theorem lin_L_to {S : Sr} {i : Nat} (h : S.f i = some (.lst [.str "load", .str "from"])) : dIn false (.str "to") (.adr i) S = .ok (.bl false) S := by
  have e := items_adr h
  show (match (match itemsD S (.adr i) with
    | some l => (match flatD (.str "to"), mapO flatD l with
      | some v, some vs => R.ok (D.bl (if false = true then !inV v vs else inV v vs)) S
      | _, _ => .bad)
    | none => .bad) with
    | .bad => orF (inTxt false) (inDic false) (.str "to") (.adr i) S
    | r => r) = _
  rw [e]
  show R.ok (D.bl (inV (V.str "to") [V.str "load", V.str "from"])) S = _
  rw [show inV (V.str "to") [V.str "load", V.str "from"] = false from by decide +kernel]
theorem lin_A_halt {S : Sr} {i : Nat} (h : S.f i = some (.lst [.str "and", .str "xor"])) : dIn false (.str "halt") (.adr i) S = .ok (.bl false) S := by
  have e := items_adr h
  show (match (match itemsD S (.adr i) with
    | some l => (match flatD (.str "halt"), mapO flatD l with
      | some v, some vs => R.ok (D.bl (if false = true then !inV v vs else inV v vs)) S
      | _, _ => .bad)
    | none => .bad) with
    | .bad => orF (inTxt false) (inDic false) (.str "halt") (.adr i) S
    | r => r) = _
  rw [e]
  show R.ok (D.bl (inV (V.str "halt") [V.str "and", V.str "xor"])) S = _
  rw [show inV (V.str "halt") [V.str "and", V.str "xor"] = false from by decide +kernel]
theorem lin_A_set {S : Sr} {i : Nat} (h : S.f i = some (.lst [.str "and", .str "xor"])) : dIn false (.str "set") (.adr i) S = .ok (.bl false) S := by
  have e := items_adr h
  show (match (match itemsD S (.adr i) with
    | some l => (match flatD (.str "set"), mapO flatD l with
      | some v, some vs => R.ok (D.bl (if false = true then !inV v vs else inV v vs)) S
      | _, _ => .bad)
    | none => .bad) with
    | .bad => orF (inTxt false) (inDic false) (.str "set") (.adr i) S
    | r => r) = _
  rw [e]
  show R.ok (D.bl (inV (V.str "set") [V.str "and", V.str "xor"])) S = _
  rw [show inV (V.str "set") [V.str "and", V.str "xor"] = false from by decide +kernel]
theorem lin_A_load {S : Sr} {i : Nat} (h : S.f i = some (.lst [.str "and", .str "xor"])) : dIn false (.str "load") (.adr i) S = .ok (.bl false) S := by
  have e := items_adr h
  show (match (match itemsD S (.adr i) with
    | some l => (match flatD (.str "load"), mapO flatD l with
      | some v, some vs => R.ok (D.bl (if false = true then !inV v vs else inV v vs)) S
      | _, _ => .bad)
    | none => .bad) with
    | .bad => orF (inTxt false) (inDic false) (.str "load") (.adr i) S
    | r => r) = _
  rw [e]
  show R.ok (D.bl (inV (V.str "load") [V.str "and", V.str "xor"])) S = _
  rw [show inV (V.str "load") [V.str "and", V.str "xor"] = false from by decide +kernel]
theorem lin_A_store {S : Sr} {i : Nat} (h : S.f i = some (.lst [.str "and", .str "xor"])) : dIn false (.str "store") (.adr i) S = .ok (.bl false) S := by
  have e := items_adr h
  show (match (match itemsD S (.adr i) with
    | some l => (match flatD (.str "store"), mapO flatD l with
      | some v, some vs => R.ok (D.bl (if false = true then !inV v vs else inV v vs)) S
      | _, _ => .bad)
    | none => .bad) with
    | .bad => orF (inTxt false) (inDic false) (.str "store") (.adr i) S
    | r => r) = _
  rw [e]
  show R.ok (D.bl (inV (V.str "store") [V.str "and", V.str "xor"])) S = _
  rw [show inV (V.str "store") [V.str "and", V.str "xor"] = false from by decide +kernel]
theorem lin_A_add {S : Sr} {i : Nat} (h : S.f i = some (.lst [.str "and", .str "xor"])) : dIn false (.str "add") (.adr i) S = .ok (.bl false) S := by
  have e := items_adr h
  show (match (match itemsD S (.adr i) with
    | some l => (match flatD (.str "add"), mapO flatD l with
      | some v, some vs => R.ok (D.bl (if false = true then !inV v vs else inV v vs)) S
      | _, _ => .bad)
    | none => .bad) with
    | .bad => orF (inTxt false) (inDic false) (.str "add") (.adr i) S
    | r => r) = _
  rw [e]
  show R.ok (D.bl (inV (V.str "add") [V.str "and", V.str "xor"])) S = _
  rw [show inV (V.str "add") [V.str "and", V.str "xor"] = false from by decide +kernel]
theorem lin_A_sub {S : Sr} {i : Nat} (h : S.f i = some (.lst [.str "and", .str "xor"])) : dIn false (.str "sub") (.adr i) S = .ok (.bl false) S := by
  have e := items_adr h
  show (match (match itemsD S (.adr i) with
    | some l => (match flatD (.str "sub"), mapO flatD l with
      | some v, some vs => R.ok (D.bl (if false = true then !inV v vs else inV v vs)) S
      | _, _ => .bad)
    | none => .bad) with
    | .bad => orF (inTxt false) (inDic false) (.str "sub") (.adr i) S
    | r => r) = _
  rw [e]
  show R.ok (D.bl (inV (V.str "sub") [V.str "and", V.str "xor"])) S = _
  rw [show inV (V.str "sub") [V.str "and", V.str "xor"] = false from by decide +kernel]
theorem lin_A_and {S : Sr} {i : Nat} (h : S.f i = some (.lst [.str "and", .str "xor"])) : dIn false (.str "and") (.adr i) S = .ok (.bl true) S := by
  have e := items_adr h
  show (match (match itemsD S (.adr i) with
    | some l => (match flatD (.str "and"), mapO flatD l with
      | some v, some vs => R.ok (D.bl (if false = true then !inV v vs else inV v vs)) S
      | _, _ => .bad)
    | none => .bad) with
    | .bad => orF (inTxt false) (inDic false) (.str "and") (.adr i) S
    | r => r) = _
  rw [e]
  show R.ok (D.bl (inV (V.str "and") [V.str "and", V.str "xor"])) S = _
  rw [show inV (V.str "and") [V.str "and", V.str "xor"] = true from by decide +kernel]
theorem lin_A_xor {S : Sr} {i : Nat} (h : S.f i = some (.lst [.str "and", .str "xor"])) : dIn false (.str "xor") (.adr i) S = .ok (.bl true) S := by
  have e := items_adr h
  show (match (match itemsD S (.adr i) with
    | some l => (match flatD (.str "xor"), mapO flatD l with
      | some v, some vs => R.ok (D.bl (if false = true then !inV v vs else inV v vs)) S
      | _, _ => .bad)
    | none => .bad) with
    | .bad => orF (inTxt false) (inDic false) (.str "xor") (.adr i) S
    | r => r) = _
  rw [e]
  show R.ok (D.bl (inV (V.str "xor") [V.str "and", V.str "xor"])) S = _
  rw [show inV (V.str "xor") [V.str "and", V.str "xor"] = true from by decide +kernel]
theorem lin_A_jump {S : Sr} {i : Nat} (h : S.f i = some (.lst [.str "and", .str "xor"])) : dIn false (.str "jump") (.adr i) S = .ok (.bl false) S := by
  have e := items_adr h
  show (match (match itemsD S (.adr i) with
    | some l => (match flatD (.str "jump"), mapO flatD l with
      | some v, some vs => R.ok (D.bl (if false = true then !inV v vs else inV v vs)) S
      | _, _ => .bad)
    | none => .bad) with
    | .bad => orF (inTxt false) (inDic false) (.str "jump") (.adr i) S
    | r => r) = _
  rw [e]
  show R.ok (D.bl (inV (V.str "jump") [V.str "and", V.str "xor"])) S = _
  rw [show inV (V.str "jump") [V.str "and", V.str "xor"] = false from by decide +kernel]
theorem lin_A_zero {S : Sr} {i : Nat} (h : S.f i = some (.lst [.str "and", .str "xor"])) : dIn false (.str "zero") (.adr i) S = .ok (.bl false) S := by
  have e := items_adr h
  show (match (match itemsD S (.adr i) with
    | some l => (match flatD (.str "zero"), mapO flatD l with
      | some v, some vs => R.ok (D.bl (if false = true then !inV v vs else inV v vs)) S
      | _, _ => .bad)
    | none => .bad) with
    | .bad => orF (inTxt false) (inDic false) (.str "zero") (.adr i) S
    | r => r) = _
  rw [e]
  show R.ok (D.bl (inV (V.str "zero") [V.str "and", V.str "xor"])) S = _
  rw [show inV (V.str "zero") [V.str "and", V.str "xor"] = false from by decide +kernel]
theorem lin_A_less {S : Sr} {i : Nat} (h : S.f i = some (.lst [.str "and", .str "xor"])) : dIn false (.str "less") (.adr i) S = .ok (.bl false) S := by
  have e := items_adr h
  show (match (match itemsD S (.adr i) with
    | some l => (match flatD (.str "less"), mapO flatD l with
      | some v, some vs => R.ok (D.bl (if false = true then !inV v vs else inV v vs)) S
      | _, _ => .bad)
    | none => .bad) with
    | .bad => orF (inTxt false) (inDic false) (.str "less") (.adr i) S
    | r => r) = _
  rw [e]
  show R.ok (D.bl (inV (V.str "less") [V.str "and", V.str "xor"])) S = _
  rw [show inV (V.str "less") [V.str "and", V.str "xor"] = false from by decide +kernel]
theorem lin_A_out {S : Sr} {i : Nat} (h : S.f i = some (.lst [.str "and", .str "xor"])) : dIn false (.str "out") (.adr i) S = .ok (.bl false) S := by
  have e := items_adr h
  show (match (match itemsD S (.adr i) with
    | some l => (match flatD (.str "out"), mapO flatD l with
      | some v, some vs => R.ok (D.bl (if false = true then !inV v vs else inV v vs)) S
      | _, _ => .bad)
    | none => .bad) with
    | .bad => orF (inTxt false) (inDic false) (.str "out") (.adr i) S
    | r => r) = _
  rw [e]
  show R.ok (D.bl (inV (V.str "out") [V.str "and", V.str "xor"])) S = _
  rw [show inV (V.str "out") [V.str "and", V.str "xor"] = false from by decide +kernel]
theorem lin_A_in {S : Sr} {i : Nat} (h : S.f i = some (.lst [.str "and", .str "xor"])) : dIn false (.str "in") (.adr i) S = .ok (.bl false) S := by
  have e := items_adr h
  show (match (match itemsD S (.adr i) with
    | some l => (match flatD (.str "in"), mapO flatD l with
      | some v, some vs => R.ok (D.bl (if false = true then !inV v vs else inV v vs)) S
      | _, _ => .bad)
    | none => .bad) with
    | .bad => orF (inTxt false) (inDic false) (.str "in") (.adr i) S
    | r => r) = _
  rw [e]
  show R.ok (D.bl (inV (V.str "in") [V.str "and", V.str "xor"])) S = _
  rw [show inV (V.str "in") [V.str "and", V.str "xor"] = false from by decide +kernel]
theorem lin_A_half {S : Sr} {i : Nat} (h : S.f i = some (.lst [.str "and", .str "xor"])) : dIn false (.str "half") (.adr i) S = .ok (.bl false) S := by
  have e := items_adr h
  show (match (match itemsD S (.adr i) with
    | some l => (match flatD (.str "half"), mapO flatD l with
      | some v, some vs => R.ok (D.bl (if false = true then !inV v vs else inV v vs)) S
      | _, _ => .bad)
    | none => .bad) with
    | .bad => orF (inTxt false) (inDic false) (.str "half") (.adr i) S
    | r => r) = _
  rw [e]
  show R.ok (D.bl (inV (V.str "half") [V.str "and", V.str "xor"])) S = _
  rw [show inV (V.str "half") [V.str "and", V.str "xor"] = false from by decide +kernel]
theorem lin_A_from {S : Sr} {i : Nat} (h : S.f i = some (.lst [.str "and", .str "xor"])) : dIn false (.str "from") (.adr i) S = .ok (.bl false) S := by
  have e := items_adr h
  show (match (match itemsD S (.adr i) with
    | some l => (match flatD (.str "from"), mapO flatD l with
      | some v, some vs => R.ok (D.bl (if false = true then !inV v vs else inV v vs)) S
      | _, _ => .bad)
    | none => .bad) with
    | .bad => orF (inTxt false) (inDic false) (.str "from") (.adr i) S
    | r => r) = _
  rw [e]
  show R.ok (D.bl (inV (V.str "from") [V.str "and", V.str "xor"])) S = _
  rw [show inV (V.str "from") [V.str "and", V.str "xor"] = false from by decide +kernel]
theorem lin_A_to {S : Sr} {i : Nat} (h : S.f i = some (.lst [.str "and", .str "xor"])) : dIn false (.str "to") (.adr i) S = .ok (.bl false) S := by
  have e := items_adr h
  show (match (match itemsD S (.adr i) with
    | some l => (match flatD (.str "to"), mapO flatD l with
      | some v, some vs => R.ok (D.bl (if false = true then !inV v vs else inV v vs)) S
      | _, _ => .bad)
    | none => .bad) with
    | .bad => orF (inTxt false) (inDic false) (.str "to") (.adr i) S
    | r => r) = _
  rw [e]
  show R.ok (D.bl (inV (V.str "to") [V.str "and", V.str "xor"])) S = _
  rw [show inV (V.str "to") [V.str "and", V.str "xor"] = false from by decide +kernel]
theorem ix_halt {S : Sr} : fTix K_INSTRUCTIONS [.str "halt"] S = .ok (.int 0) S := by
  show (match ixS ["halt", "set", "load", "store", "add", "sub", "and", "xor", "jump", "zero", "less", "out", "in", "half", "from", "to"] "halt" with
    | some j => R.ok (D.int (j : Nat)) S
    | none => .bad) = _
  rw [show ixS ["halt", "set", "load", "store", "add", "sub", "and", "xor", "jump", "zero", "less", "out", "in", "half", "from", "to"] "halt" = some 0 from by decide +kernel]
  rfl
theorem ix_set {S : Sr} : fTix K_INSTRUCTIONS [.str "set"] S = .ok (.int 1) S := by
  show (match ixS ["halt", "set", "load", "store", "add", "sub", "and", "xor", "jump", "zero", "less", "out", "in", "half", "from", "to"] "set" with
    | some j => R.ok (D.int (j : Nat)) S
    | none => .bad) = _
  rw [show ixS ["halt", "set", "load", "store", "add", "sub", "and", "xor", "jump", "zero", "less", "out", "in", "half", "from", "to"] "set" = some 1 from by decide +kernel]
  rfl
theorem ix_load {S : Sr} : fTix K_INSTRUCTIONS [.str "load"] S = .ok (.int 2) S := by
  show (match ixS ["halt", "set", "load", "store", "add", "sub", "and", "xor", "jump", "zero", "less", "out", "in", "half", "from", "to"] "load" with
    | some j => R.ok (D.int (j : Nat)) S
    | none => .bad) = _
  rw [show ixS ["halt", "set", "load", "store", "add", "sub", "and", "xor", "jump", "zero", "less", "out", "in", "half", "from", "to"] "load" = some 2 from by decide +kernel]
  rfl
theorem ix_store {S : Sr} : fTix K_INSTRUCTIONS [.str "store"] S = .ok (.int 3) S := by
  show (match ixS ["halt", "set", "load", "store", "add", "sub", "and", "xor", "jump", "zero", "less", "out", "in", "half", "from", "to"] "store" with
    | some j => R.ok (D.int (j : Nat)) S
    | none => .bad) = _
  rw [show ixS ["halt", "set", "load", "store", "add", "sub", "and", "xor", "jump", "zero", "less", "out", "in", "half", "from", "to"] "store" = some 3 from by decide +kernel]
  rfl
theorem ix_add {S : Sr} : fTix K_INSTRUCTIONS [.str "add"] S = .ok (.int 4) S := by
  show (match ixS ["halt", "set", "load", "store", "add", "sub", "and", "xor", "jump", "zero", "less", "out", "in", "half", "from", "to"] "add" with
    | some j => R.ok (D.int (j : Nat)) S
    | none => .bad) = _
  rw [show ixS ["halt", "set", "load", "store", "add", "sub", "and", "xor", "jump", "zero", "less", "out", "in", "half", "from", "to"] "add" = some 4 from by decide +kernel]
  rfl
theorem ix_sub {S : Sr} : fTix K_INSTRUCTIONS [.str "sub"] S = .ok (.int 5) S := by
  show (match ixS ["halt", "set", "load", "store", "add", "sub", "and", "xor", "jump", "zero", "less", "out", "in", "half", "from", "to"] "sub" with
    | some j => R.ok (D.int (j : Nat)) S
    | none => .bad) = _
  rw [show ixS ["halt", "set", "load", "store", "add", "sub", "and", "xor", "jump", "zero", "less", "out", "in", "half", "from", "to"] "sub" = some 5 from by decide +kernel]
  rfl
theorem ix_and {S : Sr} : fTix K_INSTRUCTIONS [.str "and"] S = .ok (.int 6) S := by
  show (match ixS ["halt", "set", "load", "store", "add", "sub", "and", "xor", "jump", "zero", "less", "out", "in", "half", "from", "to"] "and" with
    | some j => R.ok (D.int (j : Nat)) S
    | none => .bad) = _
  rw [show ixS ["halt", "set", "load", "store", "add", "sub", "and", "xor", "jump", "zero", "less", "out", "in", "half", "from", "to"] "and" = some 6 from by decide +kernel]
  rfl
theorem ix_xor {S : Sr} : fTix K_INSTRUCTIONS [.str "xor"] S = .ok (.int 7) S := by
  show (match ixS ["halt", "set", "load", "store", "add", "sub", "and", "xor", "jump", "zero", "less", "out", "in", "half", "from", "to"] "xor" with
    | some j => R.ok (D.int (j : Nat)) S
    | none => .bad) = _
  rw [show ixS ["halt", "set", "load", "store", "add", "sub", "and", "xor", "jump", "zero", "less", "out", "in", "half", "from", "to"] "xor" = some 7 from by decide +kernel]
  rfl
theorem ix_jump {S : Sr} : fTix K_INSTRUCTIONS [.str "jump"] S = .ok (.int 8) S := by
  show (match ixS ["halt", "set", "load", "store", "add", "sub", "and", "xor", "jump", "zero", "less", "out", "in", "half", "from", "to"] "jump" with
    | some j => R.ok (D.int (j : Nat)) S
    | none => .bad) = _
  rw [show ixS ["halt", "set", "load", "store", "add", "sub", "and", "xor", "jump", "zero", "less", "out", "in", "half", "from", "to"] "jump" = some 8 from by decide +kernel]
  rfl
theorem ix_zero {S : Sr} : fTix K_INSTRUCTIONS [.str "zero"] S = .ok (.int 9) S := by
  show (match ixS ["halt", "set", "load", "store", "add", "sub", "and", "xor", "jump", "zero", "less", "out", "in", "half", "from", "to"] "zero" with
    | some j => R.ok (D.int (j : Nat)) S
    | none => .bad) = _
  rw [show ixS ["halt", "set", "load", "store", "add", "sub", "and", "xor", "jump", "zero", "less", "out", "in", "half", "from", "to"] "zero" = some 9 from by decide +kernel]
  rfl
theorem ix_less {S : Sr} : fTix K_INSTRUCTIONS [.str "less"] S = .ok (.int 10) S := by
  show (match ixS ["halt", "set", "load", "store", "add", "sub", "and", "xor", "jump", "zero", "less", "out", "in", "half", "from", "to"] "less" with
    | some j => R.ok (D.int (j : Nat)) S
    | none => .bad) = _
  rw [show ixS ["halt", "set", "load", "store", "add", "sub", "and", "xor", "jump", "zero", "less", "out", "in", "half", "from", "to"] "less" = some 10 from by decide +kernel]
  rfl
theorem ix_out {S : Sr} : fTix K_INSTRUCTIONS [.str "out"] S = .ok (.int 11) S := by
  show (match ixS ["halt", "set", "load", "store", "add", "sub", "and", "xor", "jump", "zero", "less", "out", "in", "half", "from", "to"] "out" with
    | some j => R.ok (D.int (j : Nat)) S
    | none => .bad) = _
  rw [show ixS ["halt", "set", "load", "store", "add", "sub", "and", "xor", "jump", "zero", "less", "out", "in", "half", "from", "to"] "out" = some 11 from by decide +kernel]
  rfl
theorem ix_in {S : Sr} : fTix K_INSTRUCTIONS [.str "in"] S = .ok (.int 12) S := by
  show (match ixS ["halt", "set", "load", "store", "add", "sub", "and", "xor", "jump", "zero", "less", "out", "in", "half", "from", "to"] "in" with
    | some j => R.ok (D.int (j : Nat)) S
    | none => .bad) = _
  rw [show ixS ["halt", "set", "load", "store", "add", "sub", "and", "xor", "jump", "zero", "less", "out", "in", "half", "from", "to"] "in" = some 12 from by decide +kernel]
  rfl
theorem ix_half {S : Sr} : fTix K_INSTRUCTIONS [.str "half"] S = .ok (.int 13) S := by
  show (match ixS ["halt", "set", "load", "store", "add", "sub", "and", "xor", "jump", "zero", "less", "out", "in", "half", "from", "to"] "half" with
    | some j => R.ok (D.int (j : Nat)) S
    | none => .bad) = _
  rw [show ixS ["halt", "set", "load", "store", "add", "sub", "and", "xor", "jump", "zero", "less", "out", "in", "half", "from", "to"] "half" = some 13 from by decide +kernel]
  rfl
theorem ix_from {S : Sr} : fTix K_INSTRUCTIONS [.str "from"] S = .ok (.int 14) S := by
  show (match ixS ["halt", "set", "load", "store", "add", "sub", "and", "xor", "jump", "zero", "less", "out", "in", "half", "from", "to"] "from" with
    | some j => R.ok (D.int (j : Nat)) S
    | none => .bad) = _
  rw [show ixS ["halt", "set", "load", "store", "add", "sub", "and", "xor", "jump", "zero", "less", "out", "in", "half", "from", "to"] "from" = some 14 from by decide +kernel]
  rfl
theorem ix_to {S : Sr} : fTix K_INSTRUCTIONS [.str "to"] S = .ok (.int 15) S := by
  show (match ixS ["halt", "set", "load", "store", "add", "sub", "and", "xor", "jump", "zero", "less", "out", "in", "half", "from", "to"] "to" with
    | some j => R.ok (D.int (j : Nat)) S
    | none => .bad) = _
  rw [show ixS ["halt", "set", "load", "store", "add", "sub", "and", "xor", "jump", "zero", "less", "out", "in", "half", "from", "to"] "to" = some 15 from by decide +kernel]
  rfl
end K10

set_option Elab.async false
set_option linter.all false
set_option maxRecDepth 100000
set_option maxHeartbeats 4000000
namespace K10
open PySem PySem.Spec PyProof.Rows L2 Y
theorem mulB_lit {a b : Int} (h : -(2 ^ 64) < b ∧ b < 2 ^ 64) : mulB a b = true := by
  unfold mulB
  rw [Bool.or_eq_true]
  exact .inr (decide_eq_true h)
theorem at3 {a b c : D} : atI [a, b, c] 0 = some a ∧ atI [a, b, c] 1 = some b ∧ atI [a, b, c] 2 = some c := ⟨rfl, rfl, rfl⟩
theorem ixN3 : ixN 3 0 = some 0 ∧ ixN 3 1 = some 1 ∧ ixN 3 2 = some 2 := ⟨rfl, rfl, rfl⟩
theorem e_roll {S : Sr} {i : Nat} {a b c many : Int} (h : S.f i = some (.lst [.int a, .int b, .int c])) (h1 : 0 < many) (h2 : many ≤ 100000000) :
    ∃ r a' b' c', 0 ≤ r ∧ r < many ∧ f__law_roll [.adr i, .int many] S = .ok (.int r) (S.put i (.lst [.int a', .int b', .int c'])) := by
  have g1 : many < 1073741824 := by omega
  have g2 : ¬ 100000000 < many := by omega
  by_cases p1 : c = 2
  · refine ⟨a % many, a / many, b, c, Int.emod_nonneg _ (by omega), Int.emod_lt_of_pos _ h1, ?_⟩
    simp (decide := true) [f__law_roll, mFun, b__law_roll, mSeq, mPass, mBrk, mCnt, mDrop, mRet, mRetN, mIfS, mRaise, mSet, mAsg, mPar, mPar3, mAug, mFld, mFldAug, gNm, gSub', gFld, gNl, gCn, gTp, setA, putFD, mVar, mC, mB, mU, mTB, mAnd, mOr, mNot, mIf, mAndV, mOrV, mNotV, mChain, mNil, mCons, mTup, mLst, mSl, oNo, oE, mCB, fAbs, fMax2, fMin2, fInt, lenD, fLen, fTuple, fList, itemsD, fIsi, tyD, mAttr, mCall, mMeth, mMake, mBM, tyF, SM.bind, SM.pure, toRS, toRSA, toRST, Y.sb, List.lookup, put_f, put_n, alloc_f, alloc_n, put_put, alloc_put, okI, okB, orF, dSub, dFdiv, dMod, dPow, dShl, dShr, dAnd, dOr, dXor, dNeg, dLt, dLe, dGt, dGe, dIs, dIx, ixSeq, Y.putAt, putSeq, h, at3, ixN3, ev_eqI, p1, h1, g1]
  · by_cases p2 : c = 1 ∧ 0 < a
    · refine ⟨a % many, a / many, b, c, Int.emod_nonneg _ (by omega), Int.emod_lt_of_pos _ h1, ?_⟩
      simp (decide := true) [f__law_roll, mFun, b__law_roll, mSeq, mPass, mBrk, mCnt, mDrop, mRet, mRetN, mIfS, mRaise, mSet, mAsg, mPar, mPar3, mAug, mFld, mFldAug, gNm, gSub', gFld, gNl, gCn, gTp, setA, putFD, mVar, mC, mB, mU, mTB, mAnd, mOr, mNot, mIf, mAndV, mOrV, mNotV, mChain, mNil, mCons, mTup, mLst, mSl, oNo, oE, mCB, fAbs, fMax2, fMin2, fInt, lenD, fLen, fTuple, fList, itemsD, fIsi, tyD, mAttr, mCall, mMeth, mMake, mBM, tyF, SM.bind, SM.pure, toRS, toRSA, toRST, Y.sb, List.lookup, put_f, put_n, alloc_f, alloc_n, put_put, alloc_put, okI, okB, orF, dSub, dFdiv, dMod, dPow, dShl, dShr, dAnd, dOr, dXor, dNeg, dLt, dLe, dGt, dGe, dIs, dIx, ixSeq, Y.putAt, putSeq, h, at3, ixN3, ev_eqI, p1, p2.1, p2.2, h1, g1]
    · refine ⟨(a * 48271 + b * 69621 + 11) % 2147483647 / 7 % many, (a * 48271 + b * 69621 + 11) % 2147483647, b + 1, 0, Int.emod_nonneg _ (by omega), Int.emod_lt_of_pos _ h1, ?_⟩
      by_cases p3 : c = 1
      · have p4 : ¬ 0 < a := fun z => p2 ⟨p3, z⟩
        simp (decide := true) [f__law_roll, mFun, b__law_roll, mSeq, mPass, mBrk, mCnt, mDrop, mRet, mRetN, mIfS, mRaise, mSet, mAsg, mPar, mPar3, mAug, mFld, mFldAug, gNm, gSub', gFld, gNl, gCn, gTp, setA, putFD, mVar, mC, mB, mU, mTB, mAnd, mOr, mNot, mIf, mAndV, mOrV, mNotV, mChain, mNil, mCons, mTup, mLst, mSl, oNo, oE, mCB, fAbs, fMax2, fMin2, fInt, lenD, fLen, fTuple, fList, itemsD, fIsi, tyD, mAttr, mCall, mMeth, mMake, mBM, tyF, SM.bind, SM.pure, toRS, toRSA, toRST, Y.sb, List.lookup, put_f, put_n, alloc_f, alloc_n, put_put, alloc_put, okI, okB, orF, dSub, dFdiv, dMod, dPow, dShl, dShr, dAnd, dOr, dXor, dNeg, dLt, dLe, dGt, dGe, dIs, dIx, ixSeq, Y.putAt, putSeq, h, at3, ixN3, ev_eqI, p1, p3, p4, h1, g1, g2, dMul, dAdd, mulB_lit]
      · simp (decide := true) [f__law_roll, mFun, b__law_roll, mSeq, mPass, mBrk, mCnt, mDrop, mRet, mRetN, mIfS, mRaise, mSet, mAsg, mPar, mPar3, mAug, mFld, mFldAug, gNm, gSub', gFld, gNl, gCn, gTp, setA, putFD, mVar, mC, mB, mU, mTB, mAnd, mOr, mNot, mIf, mAndV, mOrV, mNotV, mChain, mNil, mCons, mTup, mLst, mSl, oNo, oE, mCB, fAbs, fMax2, fMin2, fInt, lenD, fLen, fTuple, fList, itemsD, fIsi, tyD, mAttr, mCall, mMeth, mMake, mBM, tyF, SM.bind, SM.pure, toRS, toRSA, toRST, Y.sb, List.lookup, put_f, put_n, alloc_f, alloc_n, put_put, alloc_put, okI, okB, orF, dSub, dFdiv, dMod, dPow, dShl, dShr, dAnd, dOr, dXor, dNeg, dLt, dLe, dGt, dGe, dIs, dIx, ixSeq, Y.putAt, putSeq, h, at3, ixN3, ev_eqI, p1, p3, h1, g1, g2, dMul, dAdd, mulB_lit]
end K10

set_option Elab.async false
set_option linter.all false
set_option maxRecDepth 100000
set_option maxHeartbeats 4000000
namespace K10
open PySem L2 Y
/-- what a machine comes to -/
structure Ms where
  acc : Int
  carry : Int
  place : Int
  mem : List Int
  sent : List Int
  ins : List Int
  halted : Bool
def memAt (st : Ms) (n : Int) : Int := st.mem.getD n.toNat 0
def stepP (d k : Nat) (w : Str) (n : Int) (st : Ms) : Ms :=
  let fol := (st.place + 1) % 2 ^ k
  if w = "halt" then { st with halted := true }
  else if w = "jump" then { st with place := n }
  else if w = "zero" then { st with place := if st.acc = 0 then n else fol }
  else if w = "less" then { st with place := if st.carry = 1 then n else fol }
  else if w = "out" then { st with sent := st.sent ++ [st.acc], place := fol }
  else if w = "to" then { st with mem := st.mem.set (memAt st n).toNat st.acc, place := fol }
  else if w = "store" then { st with mem := st.mem.set n.toNat st.acc, place := fol }
  else if w = "set" then { st with acc := n, place := fol }
  else if w = "in" then { st with acc := st.ins.headD 0 % 2 ^ d, ins := st.ins.tail, place := fol }
  else if w = "half" then { st with carry := st.acc % 2, acc := st.acc / 2, place := fol }
  else if w = "load" then { st with acc := memAt st n, place := fol }
  else if w = "from" then { st with acc := memAt st (memAt st n), place := fol }
  else if w = "and" then { st with acc := Builtin.bitAnd st.acc (memAt st n), place := fol }
  else if w = "xor" then { st with acc := Builtin.bitXor st.acc (memAt st n), place := fol }
  else
    let t := if w = "add" then st.acc + memAt st n else st.acc - memAt st n
    { st with carry := if 0 ≤ t ∧ t < 2 ^ d then 0 else 1, acc := t % 2 ^ d, place := fol }
/-- all numbers fit -/
structure MsOk (d k : Nat) (st : Ms) : Prop where
  len : st.mem.length = 2 ^ d
  mem : ∀ x ∈ st.mem, 0 ≤ x ∧ x < 2 ^ d
  a0 : 0 ≤ st.acc
  a1 : st.acc < 2 ^ d
  p0 : 0 ≤ st.place
  p1 : st.place < 2 ^ k
/-- an instruction that fits -/
def Valid (d k : Nat) (w : Str) (n : Int) : Prop :=
  ((w = "halt" ∨ w = "out" ∨ w = "in" ∨ w = "half") ∧ n = 0) ∨ ((w = "jump" ∨ w = "zero" ∨ w = "less") ∧ 0 ≤ n ∧ n < 2 ^ k) ∨
    ((w = "set" ∨ w = "load" ∨ w = "store" ∨ w = "add" ∨ w = "sub" ∨ w = "and" ∨ w = "xor" ∨ w = "from" ∨ w = "to") ∧ 0 ≤ n ∧ n < 2 ^ d)
structure Mp where
  im : Nat
  iz : Nat
  ie : Nat
  ic : Nat
  is : Nat
structure Mp.Ok (p : Mp) (b : Nat) : Prop where
  em : p.ie ≠ p.im
  cm : p.ic ≠ p.im
  sm : p.is ≠ p.im
  zm : p.iz ≠ p.im
  ce : p.ic ≠ p.ie
  se : p.is ≠ p.ie
  ze : p.iz ≠ p.ie
  sc : p.is ≠ p.ic
  zc : p.iz ≠ p.ic
  zs : p.iz ≠ p.is
  m : p.im < b
  e : p.ie < b
  c : p.ic < b
  s : p.is < b
  z : p.iz < b
def sF (d k : Nat) : List (Str × D) := [("data", .int (d : Nat)), ("code", .int (k : Nat))]
def mF (p : Mp) (rows : List D) (st : Ms) : List (Str × D) := [("size", .adr p.iz), ("code", .tup rows), ("coming", .adr p.ic), ("acc", .int st.acc), ("carry", .int st.carry), ("place", .int st.place), ("memory", .adr p.ie), ("sent", .adr p.is), ("halted", .bl st.halted)]
structure MacAt (S : Sr) (p : Mp) (d k : Nat) (rows : List D) (st : Ms) : Prop where
  m : S.f p.im = some (.ins "Machine" (mF p rows st))
  z : S.f p.iz = some (.ins "Size" (sF d k))
  e : S.f p.ie = some (.lst (st.mem.map D.int))
  c : S.f p.ic = some (.lst (st.ins.map D.int))
  s : S.f p.is = some (.lst (st.sent.map D.int))
theorem macAt_iff {S : Sr} {p : Mp} {d k : Nat} {rows : List D} {st : Ms} : MacAt S p d k rows st ↔ S.f p.im = some (.ins "Machine" (mF p rows st)) ∧ S.f p.iz = some (.ins "Size" (sF d k)) ∧ S.f p.ie = some (.lst (st.mem.map D.int)) ∧ S.f p.ic = some (.lst (st.ins.map D.int)) ∧ S.f p.is = some (.lst (st.sent.map D.int)) :=
  ⟨fun ⟨a, b, c, d, e⟩ => ⟨a, b, c, d, e⟩, fun ⟨a, b, c, d, e⟩ => ⟨a, b, c, d, e⟩⟩
/-- the other objects stay -/
def Away (p : Mp) (S S' : Sr) : Prop := S.n ≤ S'.n ∧ ∀ j, j < S.n → j ≠ p.im → j ≠ p.ie → j ≠ p.ic → j ≠ p.is → S'.f j = S.f j
theorem away_iff {p : Mp} {S S' : Sr} : Away p S S' ↔ S.n ≤ S'.n ∧ ∀ j, j < S.n → j ≠ p.im → j ≠ p.ie → j ≠ p.ic → j ≠ p.is → S'.f j = S.f j := Iff.rfl
section
variable {S : Sr} {p : Mp} {d k : Nat} {rows : List D} {st : Ms} {w : Str} {n : Int}
/-- the instruction at the place -/
def InsAt (rows : List D) (pl : Int) (w : Str) (n : Int) : Prop := (pl < rows.length ∧ rows[pl.toNat]? = some (.tup [.str w, .int n])) ∨ (¬ pl < rows.length ∧ w = "halt" ∧ n = 0)
theorem e_instr (a : MacAt S p d k rows st) (h0 : 0 ≤ st.place) (hi : InsAt rows st.place w n) : f_Machine_instruction [.adr p.im] S = .ok (.tup [.str w, .int n]) S := by
  obtain ⟨am, az, ae, ac, as⟩ := a
  rcases hi with ⟨h1, h2⟩ | ⟨h1, rfl, rfl⟩
  · have e := atI_nat h0 h2
    simp (decide := true) [f_Machine_instruction, mFun, b_Machine_instruction, mSeq, mPass, mBrk, mCnt, mDrop, mRet, mRetN, mIfS, mRaise, mSet, mAsg, mPar, mPar3, mAug, mFld, mFldAug, gNm, gSub', gFld, gNl, gCn, gTp, setA, putFD, mVar, mC, mB, mU, mTB, mAnd, mOr, mNot, mIf, mAndV, mOrV, mNotV, mChain, mNil, mCons, mTup, mLst, mSl, oNo, oE, mCB, fAbs, fMax2, fMin2, fInt, lenD, fLen, fTuple, fList, itemsD, fIsi, tyD, mAttr, mCall, mMeth, mMake, mBM, tyF, SM.bind, SM.pure, toRS, toRSA, toRST, Y.sb, List.lookup, put_f, put_n, alloc_f, alloc_n, put_put, alloc_put, okI, okB, orF, dSub, dFdiv, dMod, dPow, dShl, dShr, dAnd, dOr, dXor, dNeg, dLt, dLe, dGt, dGe, dIs, am, mF, h1, dIx, ixSeq, e]
  · simp (decide := true) [f_Machine_instruction, mFun, b_Machine_instruction, mSeq, mPass, mBrk, mCnt, mDrop, mRet, mRetN, mIfS, mRaise, mSet, mAsg, mPar, mPar3, mAug, mFld, mFldAug, gNm, gSub', gFld, gNl, gCn, gTp, setA, putFD, mVar, mC, mB, mU, mTB, mAnd, mOr, mNot, mIf, mAndV, mOrV, mNotV, mChain, mNil, mCons, mTup, mLst, mSl, oNo, oE, mCB, fAbs, fMax2, fMin2, fInt, lenD, fLen, fTuple, fList, itemsD, fIsi, tyD, mAttr, mCall, mMeth, mMake, mBM, tyF, SM.bind, SM.pure, toRS, toRSA, toRST, Y.sb, List.lookup, put_f, put_n, alloc_f, alloc_n, put_put, alloc_put, okI, okB, orF, dSub, dFdiv, dMod, dPow, dShl, dShr, dAnd, dOr, dXor, dNeg, dLt, dLe, dGt, dGe, dIs, am, mF, h1, dIx, ixSeq]
theorem pw1 (h : d ≤ 8) : powB 1 (d : Int) = true := by
  unfold powB
  exact decide_eq_true ⟨by omega, by omega, by decide⟩
theorem pos2 : (0 : Int) < 2 ^ d := Int.pow_pos (by decide)
theorem mem_at (ok : MsOk d k st) (h0 : 0 ≤ n) (h1 : n < 2 ^ d) : atI (st.mem.map D.int) n = some (.int (memAt st n)) ∧ 0 ≤ memAt st n ∧ memAt st n < 2 ^ d ∧ ixN st.mem.length n = some n.toNat := by
  have hl : n < (st.mem.length : Int) := by
    rw [ok.len]
    push_cast
    exact h1
  have hm : memAt st n ∈ st.mem := by
    unfold memAt
    have : n.toNat < st.mem.length := by omega
    rw [List.getD_eq_getElem?_getD, List.getElem?_eq_getElem this]
    exact List.getElem_mem _
  exact ⟨at_int h0 hl, (ok.mem _ hm).1, (ok.mem _ hm).2, ixN_nat h0 hl⟩
theorem e_step (a : MacAt S p d k rows st) (po : p.Ok S.n) (hd : d ≤ 8) (hk : k ≤ 8) (ok : MsOk d k st) (hh : st.halted = false) (hi : InsAt rows st.place w n) (hv : Valid d k w n) (hs : st.sent.length < 4000) :
    Tells (f_Machine_step [.adr p.im] S) fun r S' => r = .non ∧ MacAt S' p d k rows (stepP d k w n st) ∧ Away p S S' := by
  have ei := e_instr a ok.p0 hi
  obtain ⟨am, az, ae, ac, as⟩ := a
  obtain ⟨q1, q2, q3, q4, q5, q6, q7, q8, q9, q10, q11, q12, q13, q14, q15⟩ := po
  have z1 := pw1 hd
  have z2 := pw1 hk
  have z3 := pos2 (d := d)
  have z4 := pos2 (d := k)
  have r1 := Ne.symm q1
  have r2 := Ne.symm q2
  have r3 := Ne.symm q3
  have r4 := Ne.symm q4
  have r5 := Ne.symm q5
  have r6 := Ne.symm q6
  have r7 := Ne.symm q7
  have r8 := Ne.symm q8
  have r9 := Ne.symm q9
  have r10 := Ne.symm q10
  rcases hv with ⟨rfl | rfl | rfl | rfl, rfl⟩ | ⟨rfl | rfl | rfl, h0, h1⟩ | ⟨hw, h0, h1⟩
  · simp (maxSteps := 2000000) (decide := true) [Tells, f_Machine_step, f_Machine_reckon, mFun, b_Machine_step, b_Machine_reckon, mSeq, mPass, mBrk, mCnt, mDrop, mRet, mRetN, mIfS, mRaise, mSet, mAsg, mPar, mPar3, mAug, mFld, mFldAug, gNm, gSub', gFld, gNl, gCn, gTp, setA, putFD, mVar, mC, mB, mU, mTB, mAnd, mOr, mNot, mIf, mAndV, mOrV, mNotV, mChain, mNil, mCons, mTup, mLst, mSl, oNo, oE, mCB, fAbs, fMax2, fMin2, fInt, lenD, fLen, fTuple, fList, itemsD, fIsi, tyD, mAttr, mCall, mMeth, mMake, mBM, tyF, SM.bind, SM.pure, toRS, toRSA, toRST, Y.sb, List.lookup, put_f, put_n, alloc_f, alloc_n, put_put, alloc_put, okI, okB, orF, dSub, dFdiv, dMod, dPow, dShl, dShr, dAnd, dOr, dXor, dNeg, dLt, dLe, dGt, dGe, dIs, am, az, ae, ac, as, mF, sF, hh, ei, ev_eqS, ev_eqI, ok_halt, ok_set, ok_load, ok_store, ok_add, ok_sub, ok_and, ok_xor, ok_jump, ok_zero, ok_less, ok_out, ok_in, ok_half, ok_from, ok_to, in_J_halt, in_J_set, in_J_load, in_J_store, in_J_add, in_J_sub, in_J_and, in_J_xor, in_J_jump, in_J_zero, in_J_less, in_J_out, in_J_in, in_J_half, in_J_from, in_J_to, dAdd, z1, z2, z3, z4, q1, q2, q3, q4, q5, q6, q7, q8, q9, q10, r1, r2, r3, r4, r5, r6, r7, r8, r9, r10, macAt_iff, away_iff, stepP, fApp, List.map_append]
    all_goals (intro j hj j1 j2 j3 j4; simp [j1, j2, j3, j4, Nat.ne_of_lt hj])
  · have hz : st.sent.length < sizeLine := by rw [sizeLine_eq]; omega
    simp (maxSteps := 2000000) (decide := true) [Tells, f_Machine_step, f_Machine_reckon, mFun, b_Machine_step, b_Machine_reckon, mSeq, mPass, mBrk, mCnt, mDrop, mRet, mRetN, mIfS, mRaise, mSet, mAsg, mPar, mPar3, mAug, mFld, mFldAug, gNm, gSub', gFld, gNl, gCn, gTp, setA, putFD, mVar, mC, mB, mU, mTB, mAnd, mOr, mNot, mIf, mAndV, mOrV, mNotV, mChain, mNil, mCons, mTup, mLst, mSl, oNo, oE, mCB, fAbs, fMax2, fMin2, fInt, lenD, fLen, fTuple, fList, itemsD, fIsi, tyD, mAttr, mCall, mMeth, mMake, mBM, tyF, SM.bind, SM.pure, toRS, toRSA, toRST, Y.sb, List.lookup, put_f, put_n, alloc_f, alloc_n, put_put, alloc_put, okI, okB, orF, dSub, dFdiv, dMod, dPow, dShl, dShr, dAnd, dOr, dXor, dNeg, dLt, dLe, dGt, dGe, dIs, am, az, ae, ac, as, mF, sF, hh, ei, ev_eqS, ev_eqI, ok_halt, ok_set, ok_load, ok_store, ok_add, ok_sub, ok_and, ok_xor, ok_jump, ok_zero, ok_less, ok_out, ok_in, ok_half, ok_from, ok_to, in_J_halt, in_J_set, in_J_load, in_J_store, in_J_add, in_J_sub, in_J_and, in_J_xor, in_J_jump, in_J_zero, in_J_less, in_J_out, in_J_in, in_J_half, in_J_from, in_J_to, dAdd, z1, z2, z3, z4, q1, q2, q3, q4, q5, q6, q7, q8, q9, q10, r1, r2, r3, r4, r5, r6, r7, r8, r9, r10, macAt_iff, away_iff, stepP, fApp, List.map_append, hz]
    all_goals (intro j hj j1 j2 j3 j4; simp [j1, j2, j3, j4, Nat.ne_of_lt hj])
  · have t1 : p.im ≠ S.n := Nat.ne_of_lt q11
    have t2 : p.ie ≠ S.n := Nat.ne_of_lt q12
    have t3 : p.ic ≠ S.n := Nat.ne_of_lt q13
    have t4 : p.is ≠ S.n := Nat.ne_of_lt q14
    have t5 : p.iz ≠ S.n := Nat.ne_of_lt q15
    have en : dNe (.adr p.ic) (.adr S.n) (S.alloc (.lst [])) = .ok (.bl (!st.ins.isEmpty)) (S.alloc (.lst [])) := ne_empty (by rw [alloc_f, if_neg t3]; exact ac) (by rw [alloc_f, if_pos rfl])
    cases hin : st.ins with
    | nil =>
      rw [hin] at en ac
      simp (maxSteps := 2000000) (decide := true) [Tells, f_Machine_step, f_Machine_reckon, mFun, b_Machine_step, b_Machine_reckon, mSeq, mPass, mBrk, mCnt, mDrop, mRet, mRetN, mIfS, mRaise, mSet, mAsg, mPar, mPar3, mAug, mFld, mFldAug, gNm, gSub', gFld, gNl, gCn, gTp, setA, putFD, mVar, mC, mB, mU, mTB, mAnd, mOr, mNot, mIf, mAndV, mOrV, mNotV, mChain, mNil, mCons, mTup, mLst, mSl, oNo, oE, mCB, fAbs, fMax2, fMin2, fInt, lenD, fLen, fTuple, fList, itemsD, fIsi, tyD, mAttr, mCall, mMeth, mMake, mBM, tyF, SM.bind, SM.pure, toRS, toRSA, toRST, Y.sb, List.lookup, put_f, put_n, alloc_f, alloc_n, put_put, alloc_put, okI, okB, orF, dSub, dFdiv, dMod, dPow, dShl, dShr, dAnd, dOr, dXor, dNeg, dLt, dLe, dGt, dGe, dIs, am, az, ae, ac, as, mF, sF, hh, ei, ev_eqS, ev_eqI, ok_halt, ok_set, ok_load, ok_store, ok_add, ok_sub, ok_and, ok_xor, ok_jump, ok_zero, ok_less, ok_out, ok_in, ok_half, ok_from, ok_to, in_J_halt, in_J_set, in_J_load, in_J_store, in_J_add, in_J_sub, in_J_and, in_J_xor, in_J_jump, in_J_zero, in_J_less, in_J_out, in_J_in, in_J_half, in_J_from, in_J_to, dAdd, z1, z2, z3, z4, q1, q2, q3, q4, q5, q6, q7, q8, q9, q10, r1, r2, r3, r4, r5, r6, r7, r8, r9, r10, macAt_iff, away_iff, stepP, fApp, List.map_append, hin, en, t1, t2, t3, t4, t5]
      all_goals (intro j hj j1 j2 j3 j4; simp [j1, j2, j3, j4, Nat.ne_of_lt hj])
    | cons x xs =>
      rw [hin] at en ac
      have e0 : seqIndex? 0 (xs.length + 1) = some 0 := by
        unfold seqIndex?
        simp
      simp (maxSteps := 2000000) (decide := true) [Tells, f_Machine_step, f_Machine_reckon, mFun, b_Machine_step, b_Machine_reckon, mSeq, mPass, mBrk, mCnt, mDrop, mRet, mRetN, mIfS, mRaise, mSet, mAsg, mPar, mPar3, mAug, mFld, mFldAug, gNm, gSub', gFld, gNl, gCn, gTp, setA, putFD, mVar, mC, mB, mU, mTB, mAnd, mOr, mNot, mIf, mAndV, mOrV, mNotV, mChain, mNil, mCons, mTup, mLst, mSl, oNo, oE, mCB, fAbs, fMax2, fMin2, fInt, lenD, fLen, fTuple, fList, itemsD, fIsi, tyD, mAttr, mCall, mMeth, mMake, mBM, tyF, SM.bind, SM.pure, toRS, toRSA, toRST, Y.sb, List.lookup, put_f, put_n, alloc_f, alloc_n, put_put, alloc_put, okI, okB, orF, dSub, dFdiv, dMod, dPow, dShl, dShr, dAnd, dOr, dXor, dNeg, dLt, dLe, dGt, dGe, dIs, am, az, ae, ac, as, mF, sF, hh, ei, ev_eqS, ev_eqI, ok_halt, ok_set, ok_load, ok_store, ok_add, ok_sub, ok_and, ok_xor, ok_jump, ok_zero, ok_less, ok_out, ok_in, ok_half, ok_from, ok_to, in_J_halt, in_J_set, in_J_load, in_J_store, in_J_add, in_J_sub, in_J_and, in_J_xor, in_J_jump, in_J_zero, in_J_less, in_J_out, in_J_in, in_J_half, in_J_from, in_J_to, dAdd, z1, z2, z3, z4, q1, q2, q3, q4, q5, q6, q7, q8, q9, q10, r1, r2, r3, r4, r5, r6, r7, r8, r9, r10, macAt_iff, away_iff, stepP, fApp, List.map_append, hin, en, t1, t2, t3, t4, t5, fPopAt, e0]
      all_goals (intro j hj j1 j2 j3 j4; simp [j1, j2, j3, j4, Nat.ne_of_lt hj])
  · simp (maxSteps := 2000000) (decide := true) [Tells, f_Machine_step, f_Machine_reckon, mFun, b_Machine_step, b_Machine_reckon, mSeq, mPass, mBrk, mCnt, mDrop, mRet, mRetN, mIfS, mRaise, mSet, mAsg, mPar, mPar3, mAug, mFld, mFldAug, gNm, gSub', gFld, gNl, gCn, gTp, setA, putFD, mVar, mC, mB, mU, mTB, mAnd, mOr, mNot, mIf, mAndV, mOrV, mNotV, mChain, mNil, mCons, mTup, mLst, mSl, oNo, oE, mCB, fAbs, fMax2, fMin2, fInt, lenD, fLen, fTuple, fList, itemsD, fIsi, tyD, mAttr, mCall, mMeth, mMake, mBM, tyF, SM.bind, SM.pure, toRS, toRSA, toRST, Y.sb, List.lookup, put_f, put_n, alloc_f, alloc_n, put_put, alloc_put, okI, okB, orF, dSub, dFdiv, dMod, dPow, dShl, dShr, dAnd, dOr, dXor, dNeg, dLt, dLe, dGt, dGe, dIs, am, az, ae, ac, as, mF, sF, hh, ei, ev_eqS, ev_eqI, ok_halt, ok_set, ok_load, ok_store, ok_add, ok_sub, ok_and, ok_xor, ok_jump, ok_zero, ok_less, ok_out, ok_in, ok_half, ok_from, ok_to, in_J_halt, in_J_set, in_J_load, in_J_store, in_J_add, in_J_sub, in_J_and, in_J_xor, in_J_jump, in_J_zero, in_J_less, in_J_out, in_J_in, in_J_half, in_J_from, in_J_to, dAdd, z1, z2, z3, z4, q1, q2, q3, q4, q5, q6, q7, q8, q9, q10, r1, r2, r3, r4, r5, r6, r7, r8, r9, r10, macAt_iff, away_iff, stepP, fApp, List.map_append]
    all_goals (intro j hj j1 j2 j3 j4; simp [j1, j2, j3, j4, Nat.ne_of_lt hj])
  · simp (maxSteps := 2000000) (decide := true) [Tells, f_Machine_step, f_Machine_reckon, mFun, b_Machine_step, b_Machine_reckon, mSeq, mPass, mBrk, mCnt, mDrop, mRet, mRetN, mIfS, mRaise, mSet, mAsg, mPar, mPar3, mAug, mFld, mFldAug, gNm, gSub', gFld, gNl, gCn, gTp, setA, putFD, mVar, mC, mB, mU, mTB, mAnd, mOr, mNot, mIf, mAndV, mOrV, mNotV, mChain, mNil, mCons, mTup, mLst, mSl, oNo, oE, mCB, fAbs, fMax2, fMin2, fInt, lenD, fLen, fTuple, fList, itemsD, fIsi, tyD, mAttr, mCall, mMeth, mMake, mBM, tyF, SM.bind, SM.pure, toRS, toRSA, toRST, Y.sb, List.lookup, put_f, put_n, alloc_f, alloc_n, put_put, alloc_put, okI, okB, orF, dSub, dFdiv, dMod, dPow, dShl, dShr, dAnd, dOr, dXor, dNeg, dLt, dLe, dGt, dGe, dIs, am, az, ae, ac, as, mF, sF, hh, ei, ev_eqS, ev_eqI, ok_halt, ok_set, ok_load, ok_store, ok_add, ok_sub, ok_and, ok_xor, ok_jump, ok_zero, ok_less, ok_out, ok_in, ok_half, ok_from, ok_to, in_J_halt, in_J_set, in_J_load, in_J_store, in_J_add, in_J_sub, in_J_and, in_J_xor, in_J_jump, in_J_zero, in_J_less, in_J_out, in_J_in, in_J_half, in_J_from, in_J_to, dAdd, z1, z2, z3, z4, q1, q2, q3, q4, q5, q6, q7, q8, q9, q10, r1, r2, r3, r4, r5, r6, r7, r8, r9, r10, macAt_iff, away_iff, stepP, fApp, List.map_append]
    all_goals (intro j hj j1 j2 j3 j4; simp [j1, j2, j3, j4, Nat.ne_of_lt hj])
  · by_cases ha : st.acc = 0 <;> simp (maxSteps := 2000000) (decide := true) [Tells, f_Machine_step, f_Machine_reckon, mFun, b_Machine_step, b_Machine_reckon, mSeq, mPass, mBrk, mCnt, mDrop, mRet, mRetN, mIfS, mRaise, mSet, mAsg, mPar, mPar3, mAug, mFld, mFldAug, gNm, gSub', gFld, gNl, gCn, gTp, setA, putFD, mVar, mC, mB, mU, mTB, mAnd, mOr, mNot, mIf, mAndV, mOrV, mNotV, mChain, mNil, mCons, mTup, mLst, mSl, oNo, oE, mCB, fAbs, fMax2, fMin2, fInt, lenD, fLen, fTuple, fList, itemsD, fIsi, tyD, mAttr, mCall, mMeth, mMake, mBM, tyF, SM.bind, SM.pure, toRS, toRSA, toRST, Y.sb, List.lookup, put_f, put_n, alloc_f, alloc_n, put_put, alloc_put, okI, okB, orF, dSub, dFdiv, dMod, dPow, dShl, dShr, dAnd, dOr, dXor, dNeg, dLt, dLe, dGt, dGe, dIs, am, az, ae, ac, as, mF, sF, hh, ei, ev_eqS, ev_eqI, ok_halt, ok_set, ok_load, ok_store, ok_add, ok_sub, ok_and, ok_xor, ok_jump, ok_zero, ok_less, ok_out, ok_in, ok_half, ok_from, ok_to, in_J_halt, in_J_set, in_J_load, in_J_store, in_J_add, in_J_sub, in_J_and, in_J_xor, in_J_jump, in_J_zero, in_J_less, in_J_out, in_J_in, in_J_half, in_J_from, in_J_to, dAdd, z1, z2, z3, z4, q1, q2, q3, q4, q5, q6, q7, q8, q9, q10, r1, r2, r3, r4, r5, r6, r7, r8, r9, r10, macAt_iff, away_iff, stepP, fApp, List.map_append, ha]
    all_goals (intro j hj j1 j2 j3 j4; simp [j1, j2, j3, j4, Nat.ne_of_lt hj])
  · by_cases ha : st.carry = 1 <;> simp (maxSteps := 2000000) (decide := true) [Tells, f_Machine_step, f_Machine_reckon, mFun, b_Machine_step, b_Machine_reckon, mSeq, mPass, mBrk, mCnt, mDrop, mRet, mRetN, mIfS, mRaise, mSet, mAsg, mPar, mPar3, mAug, mFld, mFldAug, gNm, gSub', gFld, gNl, gCn, gTp, setA, putFD, mVar, mC, mB, mU, mTB, mAnd, mOr, mNot, mIf, mAndV, mOrV, mNotV, mChain, mNil, mCons, mTup, mLst, mSl, oNo, oE, mCB, fAbs, fMax2, fMin2, fInt, lenD, fLen, fTuple, fList, itemsD, fIsi, tyD, mAttr, mCall, mMeth, mMake, mBM, tyF, SM.bind, SM.pure, toRS, toRSA, toRST, Y.sb, List.lookup, put_f, put_n, alloc_f, alloc_n, put_put, alloc_put, okI, okB, orF, dSub, dFdiv, dMod, dPow, dShl, dShr, dAnd, dOr, dXor, dNeg, dLt, dLe, dGt, dGe, dIs, am, az, ae, ac, as, mF, sF, hh, ei, ev_eqS, ev_eqI, ok_halt, ok_set, ok_load, ok_store, ok_add, ok_sub, ok_and, ok_xor, ok_jump, ok_zero, ok_less, ok_out, ok_in, ok_half, ok_from, ok_to, in_J_halt, in_J_set, in_J_load, in_J_store, in_J_add, in_J_sub, in_J_and, in_J_xor, in_J_jump, in_J_zero, in_J_less, in_J_out, in_J_in, in_J_half, in_J_from, in_J_to, dAdd, z1, z2, z3, z4, q1, q2, q3, q4, q5, q6, q7, q8, q9, q10, r1, r2, r3, r4, r5, r6, r7, r8, r9, r10, macAt_iff, away_iff, stepP, fApp, List.map_append, ha]
    all_goals (intro j hj j1 j2 j3 j4; simp [j1, j2, j3, j4, Nat.ne_of_lt hj])
  · obtain ⟨m1, m2, m3, m4⟩ := mem_at ok h0 h1
    obtain ⟨n1, n2, n3, n4⟩ := mem_at ok m2 m3
    rcases hw with rfl | rfl | rfl | rfl | rfl | rfl | rfl | rfl | rfl
    · simp (maxSteps := 2000000) (decide := true) [Tells, f_Machine_step, f_Machine_reckon, mFun, b_Machine_step, b_Machine_reckon, mSeq, mPass, mBrk, mCnt, mDrop, mRet, mRetN, mIfS, mRaise, mSet, mAsg, mPar, mPar3, mAug, mFld, mFldAug, gNm, gSub', gFld, gNl, gCn, gTp, setA, putFD, mVar, mC, mB, mU, mTB, mAnd, mOr, mNot, mIf, mAndV, mOrV, mNotV, mChain, mNil, mCons, mTup, mLst, mSl, oNo, oE, mCB, fAbs, fMax2, fMin2, fInt, lenD, fLen, fTuple, fList, itemsD, fIsi, tyD, mAttr, mCall, mMeth, mMake, mBM, tyF, SM.bind, SM.pure, toRS, toRSA, toRST, Y.sb, List.lookup, put_f, put_n, alloc_f, alloc_n, put_put, alloc_put, okI, okB, orF, dSub, dFdiv, dMod, dPow, dShl, dShr, dAnd, dOr, dXor, dNeg, dLt, dLe, dGt, dGe, dIs, am, az, ae, ac, as, mF, sF, hh, ei, ev_eqS, ev_eqI, ok_halt, ok_set, ok_load, ok_store, ok_add, ok_sub, ok_and, ok_xor, ok_jump, ok_zero, ok_less, ok_out, ok_in, ok_half, ok_from, ok_to, in_J_halt, in_J_set, in_J_load, in_J_store, in_J_add, in_J_sub, in_J_and, in_J_xor, in_J_jump, in_J_zero, in_J_less, in_J_out, in_J_in, in_J_half, in_J_from, in_J_to, dAdd, z1, z2, z3, z4, q1, q2, q3, q4, q5, q6, q7, q8, q9, q10, r1, r2, r3, r4, r5, r6, r7, r8, r9, r10, macAt_iff, away_iff, stepP, fApp, List.map_append, dIx, ixSeq, Y.putAt, putSeq, m1, m4]
      all_goals (intro j hj j1 j2 j3 j4; simp [j1, j2, j3, j4, Nat.ne_of_lt hj])
    · simp (maxSteps := 2000000) (decide := true) [Tells, f_Machine_step, f_Machine_reckon, mFun, b_Machine_step, b_Machine_reckon, mSeq, mPass, mBrk, mCnt, mDrop, mRet, mRetN, mIfS, mRaise, mSet, mAsg, mPar, mPar3, mAug, mFld, mFldAug, gNm, gSub', gFld, gNl, gCn, gTp, setA, putFD, mVar, mC, mB, mU, mTB, mAnd, mOr, mNot, mIf, mAndV, mOrV, mNotV, mChain, mNil, mCons, mTup, mLst, mSl, oNo, oE, mCB, fAbs, fMax2, fMin2, fInt, lenD, fLen, fTuple, fList, itemsD, fIsi, tyD, mAttr, mCall, mMeth, mMake, mBM, tyF, SM.bind, SM.pure, toRS, toRSA, toRST, Y.sb, List.lookup, put_f, put_n, alloc_f, alloc_n, put_put, alloc_put, okI, okB, orF, dSub, dFdiv, dMod, dPow, dShl, dShr, dAnd, dOr, dXor, dNeg, dLt, dLe, dGt, dGe, dIs, am, az, ae, ac, as, mF, sF, hh, ei, ev_eqS, ev_eqI, ok_halt, ok_set, ok_load, ok_store, ok_add, ok_sub, ok_and, ok_xor, ok_jump, ok_zero, ok_less, ok_out, ok_in, ok_half, ok_from, ok_to, in_J_halt, in_J_set, in_J_load, in_J_store, in_J_add, in_J_sub, in_J_and, in_J_xor, in_J_jump, in_J_zero, in_J_less, in_J_out, in_J_in, in_J_half, in_J_from, in_J_to, dAdd, z1, z2, z3, z4, q1, q2, q3, q4, q5, q6, q7, q8, q9, q10, r1, r2, r3, r4, r5, r6, r7, r8, r9, r10, macAt_iff, away_iff, stepP, fApp, List.map_append, dIx, ixSeq, Y.putAt, putSeq, m1, m4]
      all_goals (intro j hj j1 j2 j3 j4; simp [j1, j2, j3, j4, Nat.ne_of_lt hj])
    · simp (maxSteps := 2000000) (decide := true) [Tells, f_Machine_step, f_Machine_reckon, mFun, b_Machine_step, b_Machine_reckon, mSeq, mPass, mBrk, mCnt, mDrop, mRet, mRetN, mIfS, mRaise, mSet, mAsg, mPar, mPar3, mAug, mFld, mFldAug, gNm, gSub', gFld, gNl, gCn, gTp, setA, putFD, mVar, mC, mB, mU, mTB, mAnd, mOr, mNot, mIf, mAndV, mOrV, mNotV, mChain, mNil, mCons, mTup, mLst, mSl, oNo, oE, mCB, fAbs, fMax2, fMin2, fInt, lenD, fLen, fTuple, fList, itemsD, fIsi, tyD, mAttr, mCall, mMeth, mMake, mBM, tyF, SM.bind, SM.pure, toRS, toRSA, toRST, Y.sb, List.lookup, put_f, put_n, alloc_f, alloc_n, put_put, alloc_put, okI, okB, orF, dSub, dFdiv, dMod, dPow, dShl, dShr, dAnd, dOr, dXor, dNeg, dLt, dLe, dGt, dGe, dIs, am, az, ae, ac, as, mF, sF, hh, ei, ev_eqS, ev_eqI, ok_halt, ok_set, ok_load, ok_store, ok_add, ok_sub, ok_and, ok_xor, ok_jump, ok_zero, ok_less, ok_out, ok_in, ok_half, ok_from, ok_to, in_J_halt, in_J_set, in_J_load, in_J_store, in_J_add, in_J_sub, in_J_and, in_J_xor, in_J_jump, in_J_zero, in_J_less, in_J_out, in_J_in, in_J_half, in_J_from, in_J_to, dAdd, z1, z2, z3, z4, q1, q2, q3, q4, q5, q6, q7, q8, q9, q10, r1, r2, r3, r4, r5, r6, r7, r8, r9, r10, macAt_iff, away_iff, stepP, fApp, List.map_append, dIx, ixSeq, Y.putAt, putSeq, m1, m4]
      all_goals (intro j hj j1 j2 j3 j4; simp [j1, j2, j3, j4, Nat.ne_of_lt hj])
    · by_cases t0 : 0 ≤ st.acc + memAt st n <;> by_cases t1 : st.acc + memAt st n < 2 ^ d <;> simp (maxSteps := 2000000) (decide := true) [Tells, f_Machine_step, f_Machine_reckon, mFun, b_Machine_step, b_Machine_reckon, mSeq, mPass, mBrk, mCnt, mDrop, mRet, mRetN, mIfS, mRaise, mSet, mAsg, mPar, mPar3, mAug, mFld, mFldAug, gNm, gSub', gFld, gNl, gCn, gTp, setA, putFD, mVar, mC, mB, mU, mTB, mAnd, mOr, mNot, mIf, mAndV, mOrV, mNotV, mChain, mNil, mCons, mTup, mLst, mSl, oNo, oE, mCB, fAbs, fMax2, fMin2, fInt, lenD, fLen, fTuple, fList, itemsD, fIsi, tyD, mAttr, mCall, mMeth, mMake, mBM, tyF, SM.bind, SM.pure, toRS, toRSA, toRST, Y.sb, List.lookup, put_f, put_n, alloc_f, alloc_n, put_put, alloc_put, okI, okB, orF, dSub, dFdiv, dMod, dPow, dShl, dShr, dAnd, dOr, dXor, dNeg, dLt, dLe, dGt, dGe, dIs, am, az, ae, ac, as, mF, sF, hh, ei, ev_eqS, ev_eqI, ok_halt, ok_set, ok_load, ok_store, ok_add, ok_sub, ok_and, ok_xor, ok_jump, ok_zero, ok_less, ok_out, ok_in, ok_half, ok_from, ok_to, in_J_halt, in_J_set, in_J_load, in_J_store, in_J_add, in_J_sub, in_J_and, in_J_xor, in_J_jump, in_J_zero, in_J_less, in_J_out, in_J_in, in_J_half, in_J_from, in_J_to, dAdd, z1, z2, z3, z4, q1, q2, q3, q4, q5, q6, q7, q8, q9, q10, r1, r2, r3, r4, r5, r6, r7, r8, r9, r10, macAt_iff, away_iff, stepP, fApp, List.map_append, dIx, ixSeq, Y.putAt, putSeq, m1, m4, t0, t1]
      all_goals (intro j hj j1 j2 j3 j4; simp [j1, j2, j3, j4, Nat.ne_of_lt hj])
    · by_cases t0 : memAt st n ≤ st.acc <;> by_cases t1 : st.acc - memAt st n < 2 ^ d <;> simp (maxSteps := 2000000) (decide := true) [Tells, f_Machine_step, f_Machine_reckon, mFun, b_Machine_step, b_Machine_reckon, mSeq, mPass, mBrk, mCnt, mDrop, mRet, mRetN, mIfS, mRaise, mSet, mAsg, mPar, mPar3, mAug, mFld, mFldAug, gNm, gSub', gFld, gNl, gCn, gTp, setA, putFD, mVar, mC, mB, mU, mTB, mAnd, mOr, mNot, mIf, mAndV, mOrV, mNotV, mChain, mNil, mCons, mTup, mLst, mSl, oNo, oE, mCB, fAbs, fMax2, fMin2, fInt, lenD, fLen, fTuple, fList, itemsD, fIsi, tyD, mAttr, mCall, mMeth, mMake, mBM, tyF, SM.bind, SM.pure, toRS, toRSA, toRST, Y.sb, List.lookup, put_f, put_n, alloc_f, alloc_n, put_put, alloc_put, okI, okB, orF, dSub, dFdiv, dMod, dPow, dShl, dShr, dAnd, dOr, dXor, dNeg, dLt, dLe, dGt, dGe, dIs, am, az, ae, ac, as, mF, sF, hh, ei, ev_eqS, ev_eqI, ok_halt, ok_set, ok_load, ok_store, ok_add, ok_sub, ok_and, ok_xor, ok_jump, ok_zero, ok_less, ok_out, ok_in, ok_half, ok_from, ok_to, in_J_halt, in_J_set, in_J_load, in_J_store, in_J_add, in_J_sub, in_J_and, in_J_xor, in_J_jump, in_J_zero, in_J_less, in_J_out, in_J_in, in_J_half, in_J_from, in_J_to, dAdd, z1, z2, z3, z4, q1, q2, q3, q4, q5, q6, q7, q8, q9, q10, r1, r2, r3, r4, r5, r6, r7, r8, r9, r10, macAt_iff, away_iff, stepP, fApp, List.map_append, dIx, ixSeq, Y.putAt, putSeq, m1, m4, t0, t1]
      all_goals (intro j hj j1 j2 j3 j4; simp [j1, j2, j3, j4, Nat.ne_of_lt hj])
    · simp (maxSteps := 2000000) (decide := true) [Tells, f_Machine_step, f_Machine_reckon, mFun, b_Machine_step, b_Machine_reckon, mSeq, mPass, mBrk, mCnt, mDrop, mRet, mRetN, mIfS, mRaise, mSet, mAsg, mPar, mPar3, mAug, mFld, mFldAug, gNm, gSub', gFld, gNl, gCn, gTp, setA, putFD, mVar, mC, mB, mU, mTB, mAnd, mOr, mNot, mIf, mAndV, mOrV, mNotV, mChain, mNil, mCons, mTup, mLst, mSl, oNo, oE, mCB, fAbs, fMax2, fMin2, fInt, lenD, fLen, fTuple, fList, itemsD, fIsi, tyD, mAttr, mCall, mMeth, mMake, mBM, tyF, SM.bind, SM.pure, toRS, toRSA, toRST, Y.sb, List.lookup, put_f, put_n, alloc_f, alloc_n, put_put, alloc_put, okI, okB, orF, dSub, dFdiv, dMod, dPow, dShl, dShr, dAnd, dOr, dXor, dNeg, dLt, dLe, dGt, dGe, dIs, am, az, ae, ac, as, mF, sF, hh, ei, ev_eqS, ev_eqI, ok_halt, ok_set, ok_load, ok_store, ok_add, ok_sub, ok_and, ok_xor, ok_jump, ok_zero, ok_less, ok_out, ok_in, ok_half, ok_from, ok_to, in_J_halt, in_J_set, in_J_load, in_J_store, in_J_add, in_J_sub, in_J_and, in_J_xor, in_J_jump, in_J_zero, in_J_less, in_J_out, in_J_in, in_J_half, in_J_from, in_J_to, dAdd, z1, z2, z3, z4, q1, q2, q3, q4, q5, q6, q7, q8, q9, q10, r1, r2, r3, r4, r5, r6, r7, r8, r9, r10, macAt_iff, away_iff, stepP, fApp, List.map_append, dIx, ixSeq, Y.putAt, putSeq, m1, m4]
      all_goals (intro j hj j1 j2 j3 j4; simp [j1, j2, j3, j4, Nat.ne_of_lt hj])
    · simp (maxSteps := 2000000) (decide := true) [Tells, f_Machine_step, f_Machine_reckon, mFun, b_Machine_step, b_Machine_reckon, mSeq, mPass, mBrk, mCnt, mDrop, mRet, mRetN, mIfS, mRaise, mSet, mAsg, mPar, mPar3, mAug, mFld, mFldAug, gNm, gSub', gFld, gNl, gCn, gTp, setA, putFD, mVar, mC, mB, mU, mTB, mAnd, mOr, mNot, mIf, mAndV, mOrV, mNotV, mChain, mNil, mCons, mTup, mLst, mSl, oNo, oE, mCB, fAbs, fMax2, fMin2, fInt, lenD, fLen, fTuple, fList, itemsD, fIsi, tyD, mAttr, mCall, mMeth, mMake, mBM, tyF, SM.bind, SM.pure, toRS, toRSA, toRST, Y.sb, List.lookup, put_f, put_n, alloc_f, alloc_n, put_put, alloc_put, okI, okB, orF, dSub, dFdiv, dMod, dPow, dShl, dShr, dAnd, dOr, dXor, dNeg, dLt, dLe, dGt, dGe, dIs, am, az, ae, ac, as, mF, sF, hh, ei, ev_eqS, ev_eqI, ok_halt, ok_set, ok_load, ok_store, ok_add, ok_sub, ok_and, ok_xor, ok_jump, ok_zero, ok_less, ok_out, ok_in, ok_half, ok_from, ok_to, in_J_halt, in_J_set, in_J_load, in_J_store, in_J_add, in_J_sub, in_J_and, in_J_xor, in_J_jump, in_J_zero, in_J_less, in_J_out, in_J_in, in_J_half, in_J_from, in_J_to, dAdd, z1, z2, z3, z4, q1, q2, q3, q4, q5, q6, q7, q8, q9, q10, r1, r2, r3, r4, r5, r6, r7, r8, r9, r10, macAt_iff, away_iff, stepP, fApp, List.map_append, dIx, ixSeq, Y.putAt, putSeq, m1, m4]
      all_goals (intro j hj j1 j2 j3 j4; simp [j1, j2, j3, j4, Nat.ne_of_lt hj])
    · simp (maxSteps := 2000000) (decide := true) [Tells, f_Machine_step, f_Machine_reckon, mFun, b_Machine_step, b_Machine_reckon, mSeq, mPass, mBrk, mCnt, mDrop, mRet, mRetN, mIfS, mRaise, mSet, mAsg, mPar, mPar3, mAug, mFld, mFldAug, gNm, gSub', gFld, gNl, gCn, gTp, setA, putFD, mVar, mC, mB, mU, mTB, mAnd, mOr, mNot, mIf, mAndV, mOrV, mNotV, mChain, mNil, mCons, mTup, mLst, mSl, oNo, oE, mCB, fAbs, fMax2, fMin2, fInt, lenD, fLen, fTuple, fList, itemsD, fIsi, tyD, mAttr, mCall, mMeth, mMake, mBM, tyF, SM.bind, SM.pure, toRS, toRSA, toRST, Y.sb, List.lookup, put_f, put_n, alloc_f, alloc_n, put_put, alloc_put, okI, okB, orF, dSub, dFdiv, dMod, dPow, dShl, dShr, dAnd, dOr, dXor, dNeg, dLt, dLe, dGt, dGe, dIs, am, az, ae, ac, as, mF, sF, hh, ei, ev_eqS, ev_eqI, ok_halt, ok_set, ok_load, ok_store, ok_add, ok_sub, ok_and, ok_xor, ok_jump, ok_zero, ok_less, ok_out, ok_in, ok_half, ok_from, ok_to, in_J_halt, in_J_set, in_J_load, in_J_store, in_J_add, in_J_sub, in_J_and, in_J_xor, in_J_jump, in_J_zero, in_J_less, in_J_out, in_J_in, in_J_half, in_J_from, in_J_to, dAdd, z1, z2, z3, z4, q1, q2, q3, q4, q5, q6, q7, q8, q9, q10, r1, r2, r3, r4, r5, r6, r7, r8, r9, r10, macAt_iff, away_iff, stepP, fApp, List.map_append, dIx, ixSeq, Y.putAt, putSeq, m1, m4, n1]
      all_goals (intro j hj j1 j2 j3 j4; simp [j1, j2, j3, j4, Nat.ne_of_lt hj])
    · simp (maxSteps := 2000000) (decide := true) [Tells, f_Machine_step, f_Machine_reckon, mFun, b_Machine_step, b_Machine_reckon, mSeq, mPass, mBrk, mCnt, mDrop, mRet, mRetN, mIfS, mRaise, mSet, mAsg, mPar, mPar3, mAug, mFld, mFldAug, gNm, gSub', gFld, gNl, gCn, gTp, setA, putFD, mVar, mC, mB, mU, mTB, mAnd, mOr, mNot, mIf, mAndV, mOrV, mNotV, mChain, mNil, mCons, mTup, mLst, mSl, oNo, oE, mCB, fAbs, fMax2, fMin2, fInt, lenD, fLen, fTuple, fList, itemsD, fIsi, tyD, mAttr, mCall, mMeth, mMake, mBM, tyF, SM.bind, SM.pure, toRS, toRSA, toRST, Y.sb, List.lookup, put_f, put_n, alloc_f, alloc_n, put_put, alloc_put, okI, okB, orF, dSub, dFdiv, dMod, dPow, dShl, dShr, dAnd, dOr, dXor, dNeg, dLt, dLe, dGt, dGe, dIs, am, az, ae, ac, as, mF, sF, hh, ei, ev_eqS, ev_eqI, ok_halt, ok_set, ok_load, ok_store, ok_add, ok_sub, ok_and, ok_xor, ok_jump, ok_zero, ok_less, ok_out, ok_in, ok_half, ok_from, ok_to, in_J_halt, in_J_set, in_J_load, in_J_store, in_J_add, in_J_sub, in_J_and, in_J_xor, in_J_jump, in_J_zero, in_J_less, in_J_out, in_J_in, in_J_half, in_J_from, in_J_to, dAdd, z1, z2, z3, z4, q1, q2, q3, q4, q5, q6, q7, q8, q9, q10, r1, r2, r3, r4, r5, r6, r7, r8, r9, r10, macAt_iff, away_iff, stepP, fApp, List.map_append, dIx, ixSeq, Y.putAt, putSeq, m1, m4, n4]
      all_goals (intro j hj j1 j2 j3 j4; simp [j1, j2, j3, j4, Nat.ne_of_lt hj])
end
end K10

set_option Elab.async false
set_option linter.all false
set_option maxRecDepth 100000
set_option maxHeartbeats 4000000
namespace K10
open PySem L2 Y
structure Op where
  io : Nat
  om : Nat
  os : Nat
  oi : Nat
structure Op.Ok (o : Op) (b : Nat) : Prop where
  m : o.om ≠ o.io
  s : o.os ≠ o.io
  i : o.oi ≠ o.io
  sm : o.os ≠ o.om
  im : o.oi ≠ o.om
  b0 : o.io < b
  b1 : o.om < b
  b2 : o.os < b
  b3 : o.oi < b
theorem op_iff {o : Op} {b : Nat} : o.Ok b ↔ o.om ≠ o.io ∧ o.os ≠ o.io ∧ o.oi ≠ o.io ∧ o.os ≠ o.om ∧ o.oi ≠ o.om ∧ o.io < b ∧ o.om < b ∧ o.os < b ∧ o.oi < b :=
  ⟨fun ⟨a, b, c, d, e, f, g, h, i⟩ => ⟨a, b, c, d, e, f, g, h, i⟩, fun ⟨a, b, c, d, e, f, g, h, i⟩ => ⟨a, b, c, d, e, f, g, h, i⟩⟩
def oF (o : Op) (st : Ms) : List (Key × D) := [(.inr "acc", .int st.acc), (.inr "carry", .int st.carry), (.inr "place", .int st.place), (.inr "memory", .adr o.om), (.inr "sent", .adr o.os), (.inr "halted", .bl st.halted), (.inr "ins", .adr o.oi)]
structure OwnAt (S : Sr) (o : Op) (st : Ms) : Prop where
  w : S.f o.io = some (.dic (oF o st))
  m : S.f o.om = some (.lst (st.mem.map D.int))
  s : S.f o.os = some (.lst (st.sent.map D.int))
  i : S.f o.oi = some (.lst (st.ins.map D.int))
theorem ownAt_iff {S : Sr} {o : Op} {st : Ms} : OwnAt S o st ↔ S.f o.io = some (.dic (oF o st)) ∧ S.f o.om = some (.lst (st.mem.map D.int)) ∧ S.f o.os = some (.lst (st.sent.map D.int)) ∧ S.f o.oi = some (.lst (st.ins.map D.int)) :=
  ⟨fun ⟨a, b, c, d⟩ => ⟨a, b, c, d⟩, fun ⟨a, b, c, d⟩ => ⟨a, b, c, d⟩⟩
def AwayO (o : Op) (S S' : Sr) : Prop := S.n ≤ S'.n ∧ ∀ j, j < S.n → j ≠ o.io → j ≠ o.om → S'.f j = S.f j
theorem cut_tail {l : List Int} : cutD (l.map D.int) (some 1) none = l.tail.map D.int := by
  unfold cutD
  cases l with
  | nil => rfl
  | cons a l =>
    have e1 : HT.sIx ((a :: l).map D.int).length 0 (some 1) = 1 := by
      rw [show (1 : Int) = ((1 : Nat) : Int) from rfl, HT.sIx_nat, List.length_map, List.length_cons]
      omega
    rw [e1, HT.sIx_none]
    show (List.map D.int l).take _ = List.map D.int l
    rw [List.take_of_length_le]
    simp
theorem at2 {a b : D} : atI [a, b] 0 = some a ∧ atI [a, b] 1 = some b := ⟨rfl, rfl⟩
section
variable {S : Sr} {o : Op} {d k : Nat} {st : Ms} {w : Str} {n : Int}
theorem e_own (a : OwnAt S o st) (po : o.Ok S.n) (hd : d ≤ 8) (hk : k ≤ 8) (ok : MsOk d k st) (hh : st.halted = false) (hv : Valid d k w n) (hs : st.sent.length < 1000) :
    Tells (f__law_step [.adr o.io, .tup [.str w, .int n], .int (2 ^ d), .int (2 ^ k)] S) fun r S' => r = .non ∧ ∃ s' i', ((s' = o.os ∨ S.n ≤ s') ∧ (i' = o.oi ∨ S.n ≤ i')) ∧ OwnAt S' ⟨o.io, o.om, s', i'⟩ (stepP d k w n st) ∧ Op.Ok ⟨o.io, o.om, s', i'⟩ S'.n ∧ AwayO o S S' := by
  obtain ⟨ao, am, as, ai⟩ := a
  obtain ⟨q1, q2, q3, q4, q5, q6, q7, q8, q9⟩ := po
  have z3 := pos2 (d := d)
  have z4 := pos2 (d := k)
  have r1 := Ne.symm q1
  have r2 := Ne.symm q2
  have r3 := Ne.symm q3
  have r4 := Ne.symm q4
  have r5 := Ne.symm q5
  have v0 : o.io ≠ S.n := by omega
  have v1 : S.n ≠ o.io := by omega
  have v2 : o.io ≠ S.n + 1 := by omega
  have v3 : S.n + 1 ≠ o.io := by omega
  have v4 : o.io ≠ S.n + 1 + 1 := by omega
  have v5 : S.n + 1 + 1 ≠ o.io := by omega
  have v6 : o.io ≠ S.n + 1 + 1 + 1 := by omega
  have v7 : S.n + 1 + 1 + 1 ≠ o.io := by omega
  have v8 : o.io ≠ S.n + 2 := by omega
  have v9 : S.n + 2 ≠ o.io := by omega
  have v10 : o.io ≠ S.n + 3 := by omega
  have v11 : S.n + 3 ≠ o.io := by omega
  have v12 : o.io ≠ S.n + 4 := by omega
  have v13 : S.n + 4 ≠ o.io := by omega
  have v14 : o.io ≠ S.n + 1 + 1 + 1 + 1 := by omega
  have v15 : S.n + 1 + 1 + 1 + 1 ≠ o.io := by omega
  have v16 : o.om ≠ S.n := by omega
  have v17 : S.n ≠ o.om := by omega
  have v18 : o.om ≠ S.n + 1 := by omega
  have v19 : S.n + 1 ≠ o.om := by omega
  have v20 : o.om ≠ S.n + 1 + 1 := by omega
  have v21 : S.n + 1 + 1 ≠ o.om := by omega
  have v22 : o.om ≠ S.n + 1 + 1 + 1 := by omega
  have v23 : S.n + 1 + 1 + 1 ≠ o.om := by omega
  have v24 : o.om ≠ S.n + 2 := by omega
  have v25 : S.n + 2 ≠ o.om := by omega
  have v26 : o.om ≠ S.n + 3 := by omega
  have v27 : S.n + 3 ≠ o.om := by omega
  have v28 : o.om ≠ S.n + 4 := by omega
  have v29 : S.n + 4 ≠ o.om := by omega
  have v30 : o.om ≠ S.n + 1 + 1 + 1 + 1 := by omega
  have v31 : S.n + 1 + 1 + 1 + 1 ≠ o.om := by omega
  have v32 : o.os ≠ S.n := by omega
  have v33 : S.n ≠ o.os := by omega
  have v34 : o.os ≠ S.n + 1 := by omega
  have v35 : S.n + 1 ≠ o.os := by omega
  have v36 : o.os ≠ S.n + 1 + 1 := by omega
  have v37 : S.n + 1 + 1 ≠ o.os := by omega
  have v38 : o.os ≠ S.n + 1 + 1 + 1 := by omega
  have v39 : S.n + 1 + 1 + 1 ≠ o.os := by omega
  have v40 : o.os ≠ S.n + 2 := by omega
  have v41 : S.n + 2 ≠ o.os := by omega
  have v42 : o.os ≠ S.n + 3 := by omega
  have v43 : S.n + 3 ≠ o.os := by omega
  have v44 : o.os ≠ S.n + 4 := by omega
  have v45 : S.n + 4 ≠ o.os := by omega
  have v46 : o.os ≠ S.n + 1 + 1 + 1 + 1 := by omega
  have v47 : S.n + 1 + 1 + 1 + 1 ≠ o.os := by omega
  have v48 : o.oi ≠ S.n := by omega
  have v49 : S.n ≠ o.oi := by omega
  have v50 : o.oi ≠ S.n + 1 := by omega
  have v51 : S.n + 1 ≠ o.oi := by omega
  have v52 : o.oi ≠ S.n + 1 + 1 := by omega
  have v53 : S.n + 1 + 1 ≠ o.oi := by omega
  have v54 : o.oi ≠ S.n + 1 + 1 + 1 := by omega
  have v55 : S.n + 1 + 1 + 1 ≠ o.oi := by omega
  have v56 : o.oi ≠ S.n + 2 := by omega
  have v57 : S.n + 2 ≠ o.oi := by omega
  have v58 : o.oi ≠ S.n + 3 := by omega
  have v59 : S.n + 3 ≠ o.oi := by omega
  have v60 : o.oi ≠ S.n + 4 := by omega
  have v61 : S.n + 4 ≠ o.oi := by omega
  have v62 : o.oi ≠ S.n + 1 + 1 + 1 + 1 := by omega
  have v63 : S.n + 1 + 1 + 1 + 1 ≠ o.oi := by omega
  have hz0 : 7 < sizeLine := by rw [sizeLine_eq]; omega
  rcases hv with ⟨rfl | rfl | rfl | rfl, rfl⟩ | ⟨rfl | rfl | rfl, h0, h1⟩ | ⟨hw, h0, h1⟩
  · simp (maxSteps := 4000000) (decide := true) [Tells, f__law_step, mFun, b__law_step, mSeq, mPass, mBrk, mCnt, mDrop, mRet, mRetN, mIfS, mRaise, mSet, mAsg, mPar, mPar3, mAug, mFld, mFldAug, gNm, gSub', gFld, gNl, gCn, gTp, setA, putFD, mVar, mC, mB, mU, mTB, mAnd, mOr, mNot, mIf, mAndV, mOrV, mNotV, mChain, mNil, mCons, mTup, mLst, mSl, oNo, oE, mCB, fAbs, fMax2, fMin2, fInt, lenD, fLen, fTuple, fList, itemsD, fIsi, tyD, mAttr, mCall, mMeth, mMake, mBM, tyF, SM.bind, SM.pure, toRS, toRSA, toRST, Y.sb, List.lookup, put_f, put_n, alloc_f, alloc_n, put_put, alloc_put, okI, okB, orF, dSub, dFdiv, dMod, dPow, dShl, dShr, dAnd, dOr, dXor, dNeg, dLt, dLe, dGt, dGe, dIs, ao, am, as, ai, oF, hh, ev_eqS, ev_eqI, ok_halt, ok_set, ok_load, ok_store, ok_add, ok_sub, ok_and, ok_xor, ok_jump, ok_zero, ok_less, ok_out, ok_in, ok_half, ok_from, ok_to, lin_J_halt, lin_J_set, lin_J_load, lin_J_store, lin_J_add, lin_J_sub, lin_J_and, lin_J_xor, lin_J_jump, lin_J_zero, lin_J_less, lin_J_out, lin_J_in, lin_J_half, lin_J_from, lin_J_to, lin_S_halt, lin_S_set, lin_S_load, lin_S_store, lin_S_add, lin_S_sub, lin_S_and, lin_S_xor, lin_S_jump, lin_S_zero, lin_S_less, lin_S_out, lin_S_in, lin_S_half, lin_S_from, lin_S_to, lin_L_halt, lin_L_set, lin_L_load, lin_L_store, lin_L_add, lin_L_sub, lin_L_and, lin_L_xor, lin_L_jump, lin_L_zero, lin_L_less, lin_L_out, lin_L_in, lin_L_half, lin_L_from, lin_L_to, lin_A_halt, lin_A_set, lin_A_load, lin_A_store, lin_A_add, lin_A_sub, lin_A_and, lin_A_xor, lin_A_jump, lin_A_zero, lin_A_less, lin_A_out, lin_A_in, lin_A_half, lin_A_from, lin_A_to, dAdd, catL, addS, dIx, ixSeq, ixTxt, ixDic, dicAt, keyD, look_cons, look_nil, putD, Y.putAt, putSeq, putDic, mDisp, evP, keysP, mergeD, z3, z4, q1, q2, q3, q4, q5, r1, r2, r3, r4, r5, op_iff, ownAt_iff, AwayO, stepP, List.map_append, hz0, slD, cut_tail, at2, v0, v1, v2, v3, v4, v5, v6, v7, v8, v9, v10, v11, v12, v13, v14, v15, v16, v17, v18, v19, v20, v21, v22, v23, v24, v25, v26, v27, v28, v29, v30, v31, v32, v33, v34, v35, v36, v37, v38, v39, v40, v41, v42, v43, v44, v45, v46, v47, v48, v49, v50, v51, v52, v53, v54, v55, v56, v57, v58, v59, v60, v61, v62, v63]
    refine ⟨_, _, ?_, ⟨⟨rfl, rfl⟩, ?_, ?_⟩, ?_, ?_⟩
    · omega
    · simp [q1, q2, q3, q4, q5, q6, q7, q8, q9, r1, r2, r3, r4, r5, am, as, ai, v0, v1, v2, v3, v4, v5, v6, v7, v8, v9, v10, v11, v12, v13, v14, v15, v16, v17, v18, v19, v20, v21, v22, v23, v24, v25, v26, v27, v28, v29, v30, v31, v32, v33, v34, v35, v36, v37, v38, v39, v40, v41, v42, v43, v44, v45, v46, v47, v48, v49, v50, v51, v52, v53, v54, v55, v56, v57, v58, v59, v60, v61, v62, v63]
    · simp [q1, q2, q3, q4, q5, q6, q7, q8, q9, r1, r2, r3, r4, r5, am, as, ai, v0, v1, v2, v3, v4, v5, v6, v7, v8, v9, v10, v11, v12, v13, v14, v15, v16, v17, v18, v19, v20, v21, v22, v23, v24, v25, v26, v27, v28, v29, v30, v31, v32, v33, v34, v35, v36, v37, v38, v39, v40, v41, v42, v43, v44, v45, v46, v47, v48, v49, v50, v51, v52, v53, v54, v55, v56, v57, v58, v59, v60, v61, v62, v63]
    · omega
    · first
      | (intro j hj j1 j2; have w0 : j ≠ S.n := (by omega); have w1 : j ≠ S.n + 1 := (by omega); have w2 : j ≠ S.n + 1 + 1 := (by omega); have w3 : j ≠ S.n + 1 + 1 + 1 := (by omega); have w4 : j ≠ S.n + 1 + 1 + 1 + 1 := (by omega); have w5 : j ≠ S.n + 2 := (by omega); have w6 : j ≠ S.n + 3 := (by omega); have w7 : j ≠ S.n + 4 := (by omega); have w8 : j ≠ S.n + 1 + 1 + 1 + 1 + 1 := (by omega); simp [j1, j2, w0, w1, w2, w3, w4, w5, w6, w7, w8])
      | (refine ⟨by omega, ?_⟩; intro j hj j1 j2; have w0 : j ≠ S.n := (by omega); have w1 : j ≠ S.n + 1 := (by omega); have w2 : j ≠ S.n + 1 + 1 := (by omega); have w3 : j ≠ S.n + 1 + 1 + 1 := (by omega); have w4 : j ≠ S.n + 1 + 1 + 1 + 1 := (by omega); have w5 : j ≠ S.n + 2 := (by omega); have w6 : j ≠ S.n + 3 := (by omega); have w7 : j ≠ S.n + 4 := (by omega); have w8 : j ≠ S.n + 1 + 1 + 1 + 1 + 1 := (by omega); simp [j1, j2, w0, w1, w2, w3, w4, w5, w6, w7, w8])
  · have hz : st.sent.length + 1 ≤ sizeLine := by rw [sizeLine_eq]; omega
    simp (maxSteps := 4000000) (decide := true) [Tells, f__law_step, mFun, b__law_step, mSeq, mPass, mBrk, mCnt, mDrop, mRet, mRetN, mIfS, mRaise, mSet, mAsg, mPar, mPar3, mAug, mFld, mFldAug, gNm, gSub', gFld, gNl, gCn, gTp, setA, putFD, mVar, mC, mB, mU, mTB, mAnd, mOr, mNot, mIf, mAndV, mOrV, mNotV, mChain, mNil, mCons, mTup, mLst, mSl, oNo, oE, mCB, fAbs, fMax2, fMin2, fInt, lenD, fLen, fTuple, fList, itemsD, fIsi, tyD, mAttr, mCall, mMeth, mMake, mBM, tyF, SM.bind, SM.pure, toRS, toRSA, toRST, Y.sb, List.lookup, put_f, put_n, alloc_f, alloc_n, put_put, alloc_put, okI, okB, orF, dSub, dFdiv, dMod, dPow, dShl, dShr, dAnd, dOr, dXor, dNeg, dLt, dLe, dGt, dGe, dIs, ao, am, as, ai, oF, hh, ev_eqS, ev_eqI, ok_halt, ok_set, ok_load, ok_store, ok_add, ok_sub, ok_and, ok_xor, ok_jump, ok_zero, ok_less, ok_out, ok_in, ok_half, ok_from, ok_to, lin_J_halt, lin_J_set, lin_J_load, lin_J_store, lin_J_add, lin_J_sub, lin_J_and, lin_J_xor, lin_J_jump, lin_J_zero, lin_J_less, lin_J_out, lin_J_in, lin_J_half, lin_J_from, lin_J_to, lin_S_halt, lin_S_set, lin_S_load, lin_S_store, lin_S_add, lin_S_sub, lin_S_and, lin_S_xor, lin_S_jump, lin_S_zero, lin_S_less, lin_S_out, lin_S_in, lin_S_half, lin_S_from, lin_S_to, lin_L_halt, lin_L_set, lin_L_load, lin_L_store, lin_L_add, lin_L_sub, lin_L_and, lin_L_xor, lin_L_jump, lin_L_zero, lin_L_less, lin_L_out, lin_L_in, lin_L_half, lin_L_from, lin_L_to, lin_A_halt, lin_A_set, lin_A_load, lin_A_store, lin_A_add, lin_A_sub, lin_A_and, lin_A_xor, lin_A_jump, lin_A_zero, lin_A_less, lin_A_out, lin_A_in, lin_A_half, lin_A_from, lin_A_to, dAdd, catL, addS, dIx, ixSeq, ixTxt, ixDic, dicAt, keyD, look_cons, look_nil, putD, Y.putAt, putSeq, putDic, mDisp, evP, keysP, mergeD, z3, z4, q1, q2, q3, q4, q5, r1, r2, r3, r4, r5, op_iff, ownAt_iff, AwayO, stepP, List.map_append, hz0, slD, cut_tail, at2, v0, v1, v2, v3, v4, v5, v6, v7, v8, v9, v10, v11, v12, v13, v14, v15, v16, v17, v18, v19, v20, v21, v22, v23, v24, v25, v26, v27, v28, v29, v30, v31, v32, v33, v34, v35, v36, v37, v38, v39, v40, v41, v42, v43, v44, v45, v46, v47, v48, v49, v50, v51, v52, v53, v54, v55, v56, v57, v58, v59, v60, v61, v62, v63, hz]
    refine ⟨_, _, ?_, ⟨⟨rfl, rfl⟩, ?_, ?_⟩, ?_, ?_⟩
    · omega
    · simp [q1, q2, q3, q4, q5, q6, q7, q8, q9, r1, r2, r3, r4, r5, am, as, ai, v0, v1, v2, v3, v4, v5, v6, v7, v8, v9, v10, v11, v12, v13, v14, v15, v16, v17, v18, v19, v20, v21, v22, v23, v24, v25, v26, v27, v28, v29, v30, v31, v32, v33, v34, v35, v36, v37, v38, v39, v40, v41, v42, v43, v44, v45, v46, v47, v48, v49, v50, v51, v52, v53, v54, v55, v56, v57, v58, v59, v60, v61, v62, v63]
    · simp [q1, q2, q3, q4, q5, q6, q7, q8, q9, r1, r2, r3, r4, r5, am, as, ai, v0, v1, v2, v3, v4, v5, v6, v7, v8, v9, v10, v11, v12, v13, v14, v15, v16, v17, v18, v19, v20, v21, v22, v23, v24, v25, v26, v27, v28, v29, v30, v31, v32, v33, v34, v35, v36, v37, v38, v39, v40, v41, v42, v43, v44, v45, v46, v47, v48, v49, v50, v51, v52, v53, v54, v55, v56, v57, v58, v59, v60, v61, v62, v63]
    · omega
    · first
      | (intro j hj j1 j2; have w0 : j ≠ S.n := (by omega); have w1 : j ≠ S.n + 1 := (by omega); have w2 : j ≠ S.n + 1 + 1 := (by omega); have w3 : j ≠ S.n + 1 + 1 + 1 := (by omega); have w4 : j ≠ S.n + 1 + 1 + 1 + 1 := (by omega); have w5 : j ≠ S.n + 2 := (by omega); have w6 : j ≠ S.n + 3 := (by omega); have w7 : j ≠ S.n + 4 := (by omega); have w8 : j ≠ S.n + 1 + 1 + 1 + 1 + 1 := (by omega); simp [j1, j2, w0, w1, w2, w3, w4, w5, w6, w7, w8])
      | (refine ⟨by omega, ?_⟩; intro j hj j1 j2; have w0 : j ≠ S.n := (by omega); have w1 : j ≠ S.n + 1 := (by omega); have w2 : j ≠ S.n + 1 + 1 := (by omega); have w3 : j ≠ S.n + 1 + 1 + 1 := (by omega); have w4 : j ≠ S.n + 1 + 1 + 1 + 1 := (by omega); have w5 : j ≠ S.n + 2 := (by omega); have w6 : j ≠ S.n + 3 := (by omega); have w7 : j ≠ S.n + 4 := (by omega); have w8 : j ≠ S.n + 1 + 1 + 1 + 1 + 1 := (by omega); simp [j1, j2, w0, w1, w2, w3, w4, w5, w6, w7, w8])
  · have en : dNe (.adr o.oi) (.adr (S.n + 1)) ((S.alloc (.lst [.str "jump", .str "zero", .str "less"])).alloc (.lst [])) = .ok (.bl (!st.ins.isEmpty)) ((S.alloc (.lst [.str "jump", .str "zero", .str "less"])).alloc (.lst [])) := ne_empty (by simp [alloc_f, alloc_n, ai, v0, v1, v2, v3, v4, v5, v6, v7, v8, v9, v10, v11, v12, v13, v14, v15, v16, v17, v18, v19, v20, v21, v22, v23, v24, v25, v26, v27, v28, v29, v30, v31, v32, v33, v34, v35, v36, v37, v38, v39, v40, v41, v42, v43, v44, v45, v46, v47, v48, v49, v50, v51, v52, v53, v54, v55, v56, v57, v58, v59, v60, v61, v62, v63]) (by simp [alloc_f, alloc_n])
    cases hin : st.ins with
    | nil =>
      rw [hin] at en ai
      have c0 : cutD ([] : List D) (some 1) none = [] := rfl
      simp (maxSteps := 4000000) (decide := true) [Tells, f__law_step, mFun, b__law_step, mSeq, mPass, mBrk, mCnt, mDrop, mRet, mRetN, mIfS, mRaise, mSet, mAsg, mPar, mPar3, mAug, mFld, mFldAug, gNm, gSub', gFld, gNl, gCn, gTp, setA, putFD, mVar, mC, mB, mU, mTB, mAnd, mOr, mNot, mIf, mAndV, mOrV, mNotV, mChain, mNil, mCons, mTup, mLst, mSl, oNo, oE, mCB, fAbs, fMax2, fMin2, fInt, lenD, fLen, fTuple, fList, itemsD, fIsi, tyD, mAttr, mCall, mMeth, mMake, mBM, tyF, SM.bind, SM.pure, toRS, toRSA, toRST, Y.sb, List.lookup, put_f, put_n, alloc_f, alloc_n, put_put, alloc_put, okI, okB, orF, dSub, dFdiv, dMod, dPow, dShl, dShr, dAnd, dOr, dXor, dNeg, dLt, dLe, dGt, dGe, dIs, ao, am, as, ai, oF, hh, ev_eqS, ev_eqI, ok_halt, ok_set, ok_load, ok_store, ok_add, ok_sub, ok_and, ok_xor, ok_jump, ok_zero, ok_less, ok_out, ok_in, ok_half, ok_from, ok_to, lin_J_halt, lin_J_set, lin_J_load, lin_J_store, lin_J_add, lin_J_sub, lin_J_and, lin_J_xor, lin_J_jump, lin_J_zero, lin_J_less, lin_J_out, lin_J_in, lin_J_half, lin_J_from, lin_J_to, lin_S_halt, lin_S_set, lin_S_load, lin_S_store, lin_S_add, lin_S_sub, lin_S_and, lin_S_xor, lin_S_jump, lin_S_zero, lin_S_less, lin_S_out, lin_S_in, lin_S_half, lin_S_from, lin_S_to, lin_L_halt, lin_L_set, lin_L_load, lin_L_store, lin_L_add, lin_L_sub, lin_L_and, lin_L_xor, lin_L_jump, lin_L_zero, lin_L_less, lin_L_out, lin_L_in, lin_L_half, lin_L_from, lin_L_to, lin_A_halt, lin_A_set, lin_A_load, lin_A_store, lin_A_add, lin_A_sub, lin_A_and, lin_A_xor, lin_A_jump, lin_A_zero, lin_A_less, lin_A_out, lin_A_in, lin_A_half, lin_A_from, lin_A_to, dAdd, catL, addS, dIx, ixSeq, ixTxt, ixDic, dicAt, keyD, look_cons, look_nil, putD, Y.putAt, putSeq, putDic, mDisp, evP, keysP, mergeD, z3, z4, q1, q2, q3, q4, q5, r1, r2, r3, r4, r5, op_iff, ownAt_iff, AwayO, stepP, List.map_append, hz0, slD, cut_tail, at2, v0, v1, v2, v3, v4, v5, v6, v7, v8, v9, v10, v11, v12, v13, v14, v15, v16, v17, v18, v19, v20, v21, v22, v23, v24, v25, v26, v27, v28, v29, v30, v31, v32, v33, v34, v35, v36, v37, v38, v39, v40, v41, v42, v43, v44, v45, v46, v47, v48, v49, v50, v51, v52, v53, v54, v55, v56, v57, v58, v59, v60, v61, v62, v63, hin, en, c0]
      refine ⟨_, _, ?_, ⟨⟨rfl, rfl⟩, ?_, ?_⟩, ?_, ?_⟩
      · omega
      · simp [q1, q2, q3, q4, q5, q6, q7, q8, q9, r1, r2, r3, r4, r5, am, as, ai, v0, v1, v2, v3, v4, v5, v6, v7, v8, v9, v10, v11, v12, v13, v14, v15, v16, v17, v18, v19, v20, v21, v22, v23, v24, v25, v26, v27, v28, v29, v30, v31, v32, v33, v34, v35, v36, v37, v38, v39, v40, v41, v42, v43, v44, v45, v46, v47, v48, v49, v50, v51, v52, v53, v54, v55, v56, v57, v58, v59, v60, v61, v62, v63]
      · simp [q1, q2, q3, q4, q5, q6, q7, q8, q9, r1, r2, r3, r4, r5, am, as, ai, v0, v1, v2, v3, v4, v5, v6, v7, v8, v9, v10, v11, v12, v13, v14, v15, v16, v17, v18, v19, v20, v21, v22, v23, v24, v25, v26, v27, v28, v29, v30, v31, v32, v33, v34, v35, v36, v37, v38, v39, v40, v41, v42, v43, v44, v45, v46, v47, v48, v49, v50, v51, v52, v53, v54, v55, v56, v57, v58, v59, v60, v61, v62, v63]
      · omega
      · first
        | (intro j hj j1 j2; have w0 : j ≠ S.n := (by omega); have w1 : j ≠ S.n + 1 := (by omega); have w2 : j ≠ S.n + 1 + 1 := (by omega); have w3 : j ≠ S.n + 1 + 1 + 1 := (by omega); have w4 : j ≠ S.n + 1 + 1 + 1 + 1 := (by omega); have w5 : j ≠ S.n + 2 := (by omega); have w6 : j ≠ S.n + 3 := (by omega); have w7 : j ≠ S.n + 4 := (by omega); have w8 : j ≠ S.n + 1 + 1 + 1 + 1 + 1 := (by omega); simp [j1, j2, w0, w1, w2, w3, w4, w5, w6, w7, w8])
        | (refine ⟨by omega, ?_⟩; intro j hj j1 j2; have w0 : j ≠ S.n := (by omega); have w1 : j ≠ S.n + 1 := (by omega); have w2 : j ≠ S.n + 1 + 1 := (by omega); have w3 : j ≠ S.n + 1 + 1 + 1 := (by omega); have w4 : j ≠ S.n + 1 + 1 + 1 + 1 := (by omega); have w5 : j ≠ S.n + 2 := (by omega); have w6 : j ≠ S.n + 3 := (by omega); have w7 : j ≠ S.n + 4 := (by omega); have w8 : j ≠ S.n + 1 + 1 + 1 + 1 + 1 := (by omega); simp [j1, j2, w0, w1, w2, w3, w4, w5, w6, w7, w8])
    | cons x xs =>
      rw [hin] at en ai
      have e0 : atI (D.int x :: xs.map D.int) 0 = some (.int x) := at_int (l := x :: xs) (n := 0) (by omega) (by simp)
      have c0 : cutD (D.int x :: xs.map D.int) (some 1) none = xs.map D.int := cut_tail (l := x :: xs)
      simp (maxSteps := 4000000) (decide := true) [Tells, f__law_step, mFun, b__law_step, mSeq, mPass, mBrk, mCnt, mDrop, mRet, mRetN, mIfS, mRaise, mSet, mAsg, mPar, mPar3, mAug, mFld, mFldAug, gNm, gSub', gFld, gNl, gCn, gTp, setA, putFD, mVar, mC, mB, mU, mTB, mAnd, mOr, mNot, mIf, mAndV, mOrV, mNotV, mChain, mNil, mCons, mTup, mLst, mSl, oNo, oE, mCB, fAbs, fMax2, fMin2, fInt, lenD, fLen, fTuple, fList, itemsD, fIsi, tyD, mAttr, mCall, mMeth, mMake, mBM, tyF, SM.bind, SM.pure, toRS, toRSA, toRST, Y.sb, List.lookup, put_f, put_n, alloc_f, alloc_n, put_put, alloc_put, okI, okB, orF, dSub, dFdiv, dMod, dPow, dShl, dShr, dAnd, dOr, dXor, dNeg, dLt, dLe, dGt, dGe, dIs, ao, am, as, ai, oF, hh, ev_eqS, ev_eqI, ok_halt, ok_set, ok_load, ok_store, ok_add, ok_sub, ok_and, ok_xor, ok_jump, ok_zero, ok_less, ok_out, ok_in, ok_half, ok_from, ok_to, lin_J_halt, lin_J_set, lin_J_load, lin_J_store, lin_J_add, lin_J_sub, lin_J_and, lin_J_xor, lin_J_jump, lin_J_zero, lin_J_less, lin_J_out, lin_J_in, lin_J_half, lin_J_from, lin_J_to, lin_S_halt, lin_S_set, lin_S_load, lin_S_store, lin_S_add, lin_S_sub, lin_S_and, lin_S_xor, lin_S_jump, lin_S_zero, lin_S_less, lin_S_out, lin_S_in, lin_S_half, lin_S_from, lin_S_to, lin_L_halt, lin_L_set, lin_L_load, lin_L_store, lin_L_add, lin_L_sub, lin_L_and, lin_L_xor, lin_L_jump, lin_L_zero, lin_L_less, lin_L_out, lin_L_in, lin_L_half, lin_L_from, lin_L_to, lin_A_halt, lin_A_set, lin_A_load, lin_A_store, lin_A_add, lin_A_sub, lin_A_and, lin_A_xor, lin_A_jump, lin_A_zero, lin_A_less, lin_A_out, lin_A_in, lin_A_half, lin_A_from, lin_A_to, dAdd, catL, addS, dIx, ixSeq, ixTxt, ixDic, dicAt, keyD, look_cons, look_nil, putD, Y.putAt, putSeq, putDic, mDisp, evP, keysP, mergeD, z3, z4, q1, q2, q3, q4, q5, r1, r2, r3, r4, r5, op_iff, ownAt_iff, AwayO, stepP, List.map_append, hz0, slD, cut_tail, at2, v0, v1, v2, v3, v4, v5, v6, v7, v8, v9, v10, v11, v12, v13, v14, v15, v16, v17, v18, v19, v20, v21, v22, v23, v24, v25, v26, v27, v28, v29, v30, v31, v32, v33, v34, v35, v36, v37, v38, v39, v40, v41, v42, v43, v44, v45, v46, v47, v48, v49, v50, v51, v52, v53, v54, v55, v56, v57, v58, v59, v60, v61, v62, v63, hin, en, e0, c0]
      refine ⟨_, _, ?_, ⟨⟨rfl, rfl⟩, ?_, ?_⟩, ?_, ?_⟩
      · omega
      · simp [q1, q2, q3, q4, q5, q6, q7, q8, q9, r1, r2, r3, r4, r5, am, as, ai, v0, v1, v2, v3, v4, v5, v6, v7, v8, v9, v10, v11, v12, v13, v14, v15, v16, v17, v18, v19, v20, v21, v22, v23, v24, v25, v26, v27, v28, v29, v30, v31, v32, v33, v34, v35, v36, v37, v38, v39, v40, v41, v42, v43, v44, v45, v46, v47, v48, v49, v50, v51, v52, v53, v54, v55, v56, v57, v58, v59, v60, v61, v62, v63]
      · simp [q1, q2, q3, q4, q5, q6, q7, q8, q9, r1, r2, r3, r4, r5, am, as, ai, v0, v1, v2, v3, v4, v5, v6, v7, v8, v9, v10, v11, v12, v13, v14, v15, v16, v17, v18, v19, v20, v21, v22, v23, v24, v25, v26, v27, v28, v29, v30, v31, v32, v33, v34, v35, v36, v37, v38, v39, v40, v41, v42, v43, v44, v45, v46, v47, v48, v49, v50, v51, v52, v53, v54, v55, v56, v57, v58, v59, v60, v61, v62, v63]
      · omega
      · first
        | (intro j hj j1 j2; have w0 : j ≠ S.n := (by omega); have w1 : j ≠ S.n + 1 := (by omega); have w2 : j ≠ S.n + 1 + 1 := (by omega); have w3 : j ≠ S.n + 1 + 1 + 1 := (by omega); have w4 : j ≠ S.n + 1 + 1 + 1 + 1 := (by omega); have w5 : j ≠ S.n + 2 := (by omega); have w6 : j ≠ S.n + 3 := (by omega); have w7 : j ≠ S.n + 4 := (by omega); have w8 : j ≠ S.n + 1 + 1 + 1 + 1 + 1 := (by omega); simp [j1, j2, w0, w1, w2, w3, w4, w5, w6, w7, w8])
        | (refine ⟨by omega, ?_⟩; intro j hj j1 j2; have w0 : j ≠ S.n := (by omega); have w1 : j ≠ S.n + 1 := (by omega); have w2 : j ≠ S.n + 1 + 1 := (by omega); have w3 : j ≠ S.n + 1 + 1 + 1 := (by omega); have w4 : j ≠ S.n + 1 + 1 + 1 + 1 := (by omega); have w5 : j ≠ S.n + 2 := (by omega); have w6 : j ≠ S.n + 3 := (by omega); have w7 : j ≠ S.n + 4 := (by omega); have w8 : j ≠ S.n + 1 + 1 + 1 + 1 + 1 := (by omega); simp [j1, j2, w0, w1, w2, w3, w4, w5, w6, w7, w8])
  · simp (maxSteps := 4000000) (decide := true) [Tells, f__law_step, mFun, b__law_step, mSeq, mPass, mBrk, mCnt, mDrop, mRet, mRetN, mIfS, mRaise, mSet, mAsg, mPar, mPar3, mAug, mFld, mFldAug, gNm, gSub', gFld, gNl, gCn, gTp, setA, putFD, mVar, mC, mB, mU, mTB, mAnd, mOr, mNot, mIf, mAndV, mOrV, mNotV, mChain, mNil, mCons, mTup, mLst, mSl, oNo, oE, mCB, fAbs, fMax2, fMin2, fInt, lenD, fLen, fTuple, fList, itemsD, fIsi, tyD, mAttr, mCall, mMeth, mMake, mBM, tyF, SM.bind, SM.pure, toRS, toRSA, toRST, Y.sb, List.lookup, put_f, put_n, alloc_f, alloc_n, put_put, alloc_put, okI, okB, orF, dSub, dFdiv, dMod, dPow, dShl, dShr, dAnd, dOr, dXor, dNeg, dLt, dLe, dGt, dGe, dIs, ao, am, as, ai, oF, hh, ev_eqS, ev_eqI, ok_halt, ok_set, ok_load, ok_store, ok_add, ok_sub, ok_and, ok_xor, ok_jump, ok_zero, ok_less, ok_out, ok_in, ok_half, ok_from, ok_to, lin_J_halt, lin_J_set, lin_J_load, lin_J_store, lin_J_add, lin_J_sub, lin_J_and, lin_J_xor, lin_J_jump, lin_J_zero, lin_J_less, lin_J_out, lin_J_in, lin_J_half, lin_J_from, lin_J_to, lin_S_halt, lin_S_set, lin_S_load, lin_S_store, lin_S_add, lin_S_sub, lin_S_and, lin_S_xor, lin_S_jump, lin_S_zero, lin_S_less, lin_S_out, lin_S_in, lin_S_half, lin_S_from, lin_S_to, lin_L_halt, lin_L_set, lin_L_load, lin_L_store, lin_L_add, lin_L_sub, lin_L_and, lin_L_xor, lin_L_jump, lin_L_zero, lin_L_less, lin_L_out, lin_L_in, lin_L_half, lin_L_from, lin_L_to, lin_A_halt, lin_A_set, lin_A_load, lin_A_store, lin_A_add, lin_A_sub, lin_A_and, lin_A_xor, lin_A_jump, lin_A_zero, lin_A_less, lin_A_out, lin_A_in, lin_A_half, lin_A_from, lin_A_to, dAdd, catL, addS, dIx, ixSeq, ixTxt, ixDic, dicAt, keyD, look_cons, look_nil, putD, Y.putAt, putSeq, putDic, mDisp, evP, keysP, mergeD, z3, z4, q1, q2, q3, q4, q5, r1, r2, r3, r4, r5, op_iff, ownAt_iff, AwayO, stepP, List.map_append, hz0, slD, cut_tail, at2, v0, v1, v2, v3, v4, v5, v6, v7, v8, v9, v10, v11, v12, v13, v14, v15, v16, v17, v18, v19, v20, v21, v22, v23, v24, v25, v26, v27, v28, v29, v30, v31, v32, v33, v34, v35, v36, v37, v38, v39, v40, v41, v42, v43, v44, v45, v46, v47, v48, v49, v50, v51, v52, v53, v54, v55, v56, v57, v58, v59, v60, v61, v62, v63]
    refine ⟨_, _, ?_, ⟨⟨rfl, rfl⟩, ?_, ?_⟩, ?_, ?_⟩
    · omega
    · simp [q1, q2, q3, q4, q5, q6, q7, q8, q9, r1, r2, r3, r4, r5, am, as, ai, v0, v1, v2, v3, v4, v5, v6, v7, v8, v9, v10, v11, v12, v13, v14, v15, v16, v17, v18, v19, v20, v21, v22, v23, v24, v25, v26, v27, v28, v29, v30, v31, v32, v33, v34, v35, v36, v37, v38, v39, v40, v41, v42, v43, v44, v45, v46, v47, v48, v49, v50, v51, v52, v53, v54, v55, v56, v57, v58, v59, v60, v61, v62, v63]
    · simp [q1, q2, q3, q4, q5, q6, q7, q8, q9, r1, r2, r3, r4, r5, am, as, ai, v0, v1, v2, v3, v4, v5, v6, v7, v8, v9, v10, v11, v12, v13, v14, v15, v16, v17, v18, v19, v20, v21, v22, v23, v24, v25, v26, v27, v28, v29, v30, v31, v32, v33, v34, v35, v36, v37, v38, v39, v40, v41, v42, v43, v44, v45, v46, v47, v48, v49, v50, v51, v52, v53, v54, v55, v56, v57, v58, v59, v60, v61, v62, v63]
    · omega
    · first
      | (intro j hj j1 j2; have w0 : j ≠ S.n := (by omega); have w1 : j ≠ S.n + 1 := (by omega); have w2 : j ≠ S.n + 1 + 1 := (by omega); have w3 : j ≠ S.n + 1 + 1 + 1 := (by omega); have w4 : j ≠ S.n + 1 + 1 + 1 + 1 := (by omega); have w5 : j ≠ S.n + 2 := (by omega); have w6 : j ≠ S.n + 3 := (by omega); have w7 : j ≠ S.n + 4 := (by omega); have w8 : j ≠ S.n + 1 + 1 + 1 + 1 + 1 := (by omega); simp [j1, j2, w0, w1, w2, w3, w4, w5, w6, w7, w8])
      | (refine ⟨by omega, ?_⟩; intro j hj j1 j2; have w0 : j ≠ S.n := (by omega); have w1 : j ≠ S.n + 1 := (by omega); have w2 : j ≠ S.n + 1 + 1 := (by omega); have w3 : j ≠ S.n + 1 + 1 + 1 := (by omega); have w4 : j ≠ S.n + 1 + 1 + 1 + 1 := (by omega); have w5 : j ≠ S.n + 2 := (by omega); have w6 : j ≠ S.n + 3 := (by omega); have w7 : j ≠ S.n + 4 := (by omega); have w8 : j ≠ S.n + 1 + 1 + 1 + 1 + 1 := (by omega); simp [j1, j2, w0, w1, w2, w3, w4, w5, w6, w7, w8])
  · simp (maxSteps := 4000000) (decide := true) [Tells, f__law_step, mFun, b__law_step, mSeq, mPass, mBrk, mCnt, mDrop, mRet, mRetN, mIfS, mRaise, mSet, mAsg, mPar, mPar3, mAug, mFld, mFldAug, gNm, gSub', gFld, gNl, gCn, gTp, setA, putFD, mVar, mC, mB, mU, mTB, mAnd, mOr, mNot, mIf, mAndV, mOrV, mNotV, mChain, mNil, mCons, mTup, mLst, mSl, oNo, oE, mCB, fAbs, fMax2, fMin2, fInt, lenD, fLen, fTuple, fList, itemsD, fIsi, tyD, mAttr, mCall, mMeth, mMake, mBM, tyF, SM.bind, SM.pure, toRS, toRSA, toRST, Y.sb, List.lookup, put_f, put_n, alloc_f, alloc_n, put_put, alloc_put, okI, okB, orF, dSub, dFdiv, dMod, dPow, dShl, dShr, dAnd, dOr, dXor, dNeg, dLt, dLe, dGt, dGe, dIs, ao, am, as, ai, oF, hh, ev_eqS, ev_eqI, ok_halt, ok_set, ok_load, ok_store, ok_add, ok_sub, ok_and, ok_xor, ok_jump, ok_zero, ok_less, ok_out, ok_in, ok_half, ok_from, ok_to, lin_J_halt, lin_J_set, lin_J_load, lin_J_store, lin_J_add, lin_J_sub, lin_J_and, lin_J_xor, lin_J_jump, lin_J_zero, lin_J_less, lin_J_out, lin_J_in, lin_J_half, lin_J_from, lin_J_to, lin_S_halt, lin_S_set, lin_S_load, lin_S_store, lin_S_add, lin_S_sub, lin_S_and, lin_S_xor, lin_S_jump, lin_S_zero, lin_S_less, lin_S_out, lin_S_in, lin_S_half, lin_S_from, lin_S_to, lin_L_halt, lin_L_set, lin_L_load, lin_L_store, lin_L_add, lin_L_sub, lin_L_and, lin_L_xor, lin_L_jump, lin_L_zero, lin_L_less, lin_L_out, lin_L_in, lin_L_half, lin_L_from, lin_L_to, lin_A_halt, lin_A_set, lin_A_load, lin_A_store, lin_A_add, lin_A_sub, lin_A_and, lin_A_xor, lin_A_jump, lin_A_zero, lin_A_less, lin_A_out, lin_A_in, lin_A_half, lin_A_from, lin_A_to, dAdd, catL, addS, dIx, ixSeq, ixTxt, ixDic, dicAt, keyD, look_cons, look_nil, putD, Y.putAt, putSeq, putDic, mDisp, evP, keysP, mergeD, z3, z4, q1, q2, q3, q4, q5, r1, r2, r3, r4, r5, op_iff, ownAt_iff, AwayO, stepP, List.map_append, hz0, slD, cut_tail, at2, v0, v1, v2, v3, v4, v5, v6, v7, v8, v9, v10, v11, v12, v13, v14, v15, v16, v17, v18, v19, v20, v21, v22, v23, v24, v25, v26, v27, v28, v29, v30, v31, v32, v33, v34, v35, v36, v37, v38, v39, v40, v41, v42, v43, v44, v45, v46, v47, v48, v49, v50, v51, v52, v53, v54, v55, v56, v57, v58, v59, v60, v61, v62, v63]
    refine ⟨_, _, ?_, ⟨⟨rfl, rfl⟩, ?_, ?_⟩, ?_, ?_⟩
    · omega
    · simp [q1, q2, q3, q4, q5, q6, q7, q8, q9, r1, r2, r3, r4, r5, am, as, ai, v0, v1, v2, v3, v4, v5, v6, v7, v8, v9, v10, v11, v12, v13, v14, v15, v16, v17, v18, v19, v20, v21, v22, v23, v24, v25, v26, v27, v28, v29, v30, v31, v32, v33, v34, v35, v36, v37, v38, v39, v40, v41, v42, v43, v44, v45, v46, v47, v48, v49, v50, v51, v52, v53, v54, v55, v56, v57, v58, v59, v60, v61, v62, v63]
    · simp [q1, q2, q3, q4, q5, q6, q7, q8, q9, r1, r2, r3, r4, r5, am, as, ai, v0, v1, v2, v3, v4, v5, v6, v7, v8, v9, v10, v11, v12, v13, v14, v15, v16, v17, v18, v19, v20, v21, v22, v23, v24, v25, v26, v27, v28, v29, v30, v31, v32, v33, v34, v35, v36, v37, v38, v39, v40, v41, v42, v43, v44, v45, v46, v47, v48, v49, v50, v51, v52, v53, v54, v55, v56, v57, v58, v59, v60, v61, v62, v63]
    · omega
    · first
      | (intro j hj j1 j2; have w0 : j ≠ S.n := (by omega); have w1 : j ≠ S.n + 1 := (by omega); have w2 : j ≠ S.n + 1 + 1 := (by omega); have w3 : j ≠ S.n + 1 + 1 + 1 := (by omega); have w4 : j ≠ S.n + 1 + 1 + 1 + 1 := (by omega); have w5 : j ≠ S.n + 2 := (by omega); have w6 : j ≠ S.n + 3 := (by omega); have w7 : j ≠ S.n + 4 := (by omega); have w8 : j ≠ S.n + 1 + 1 + 1 + 1 + 1 := (by omega); simp [j1, j2, w0, w1, w2, w3, w4, w5, w6, w7, w8])
      | (refine ⟨by omega, ?_⟩; intro j hj j1 j2; have w0 : j ≠ S.n := (by omega); have w1 : j ≠ S.n + 1 := (by omega); have w2 : j ≠ S.n + 1 + 1 := (by omega); have w3 : j ≠ S.n + 1 + 1 + 1 := (by omega); have w4 : j ≠ S.n + 1 + 1 + 1 + 1 := (by omega); have w5 : j ≠ S.n + 2 := (by omega); have w6 : j ≠ S.n + 3 := (by omega); have w7 : j ≠ S.n + 4 := (by omega); have w8 : j ≠ S.n + 1 + 1 + 1 + 1 + 1 := (by omega); simp [j1, j2, w0, w1, w2, w3, w4, w5, w6, w7, w8])
  · by_cases ha : st.acc = 0
    · simp (maxSteps := 4000000) (decide := true) [Tells, f__law_step, mFun, b__law_step, mSeq, mPass, mBrk, mCnt, mDrop, mRet, mRetN, mIfS, mRaise, mSet, mAsg, mPar, mPar3, mAug, mFld, mFldAug, gNm, gSub', gFld, gNl, gCn, gTp, setA, putFD, mVar, mC, mB, mU, mTB, mAnd, mOr, mNot, mIf, mAndV, mOrV, mNotV, mChain, mNil, mCons, mTup, mLst, mSl, oNo, oE, mCB, fAbs, fMax2, fMin2, fInt, lenD, fLen, fTuple, fList, itemsD, fIsi, tyD, mAttr, mCall, mMeth, mMake, mBM, tyF, SM.bind, SM.pure, toRS, toRSA, toRST, Y.sb, List.lookup, put_f, put_n, alloc_f, alloc_n, put_put, alloc_put, okI, okB, orF, dSub, dFdiv, dMod, dPow, dShl, dShr, dAnd, dOr, dXor, dNeg, dLt, dLe, dGt, dGe, dIs, ao, am, as, ai, oF, hh, ev_eqS, ev_eqI, ok_halt, ok_set, ok_load, ok_store, ok_add, ok_sub, ok_and, ok_xor, ok_jump, ok_zero, ok_less, ok_out, ok_in, ok_half, ok_from, ok_to, lin_J_halt, lin_J_set, lin_J_load, lin_J_store, lin_J_add, lin_J_sub, lin_J_and, lin_J_xor, lin_J_jump, lin_J_zero, lin_J_less, lin_J_out, lin_J_in, lin_J_half, lin_J_from, lin_J_to, lin_S_halt, lin_S_set, lin_S_load, lin_S_store, lin_S_add, lin_S_sub, lin_S_and, lin_S_xor, lin_S_jump, lin_S_zero, lin_S_less, lin_S_out, lin_S_in, lin_S_half, lin_S_from, lin_S_to, lin_L_halt, lin_L_set, lin_L_load, lin_L_store, lin_L_add, lin_L_sub, lin_L_and, lin_L_xor, lin_L_jump, lin_L_zero, lin_L_less, lin_L_out, lin_L_in, lin_L_half, lin_L_from, lin_L_to, lin_A_halt, lin_A_set, lin_A_load, lin_A_store, lin_A_add, lin_A_sub, lin_A_and, lin_A_xor, lin_A_jump, lin_A_zero, lin_A_less, lin_A_out, lin_A_in, lin_A_half, lin_A_from, lin_A_to, dAdd, catL, addS, dIx, ixSeq, ixTxt, ixDic, dicAt, keyD, look_cons, look_nil, putD, Y.putAt, putSeq, putDic, mDisp, evP, keysP, mergeD, z3, z4, q1, q2, q3, q4, q5, r1, r2, r3, r4, r5, op_iff, ownAt_iff, AwayO, stepP, List.map_append, hz0, slD, cut_tail, at2, v0, v1, v2, v3, v4, v5, v6, v7, v8, v9, v10, v11, v12, v13, v14, v15, v16, v17, v18, v19, v20, v21, v22, v23, v24, v25, v26, v27, v28, v29, v30, v31, v32, v33, v34, v35, v36, v37, v38, v39, v40, v41, v42, v43, v44, v45, v46, v47, v48, v49, v50, v51, v52, v53, v54, v55, v56, v57, v58, v59, v60, v61, v62, v63, ha]
      refine ⟨_, _, ?_, ⟨⟨rfl, rfl⟩, ?_, ?_⟩, ?_, ?_⟩
      · omega
      · simp [q1, q2, q3, q4, q5, q6, q7, q8, q9, r1, r2, r3, r4, r5, am, as, ai, v0, v1, v2, v3, v4, v5, v6, v7, v8, v9, v10, v11, v12, v13, v14, v15, v16, v17, v18, v19, v20, v21, v22, v23, v24, v25, v26, v27, v28, v29, v30, v31, v32, v33, v34, v35, v36, v37, v38, v39, v40, v41, v42, v43, v44, v45, v46, v47, v48, v49, v50, v51, v52, v53, v54, v55, v56, v57, v58, v59, v60, v61, v62, v63]
      · simp [q1, q2, q3, q4, q5, q6, q7, q8, q9, r1, r2, r3, r4, r5, am, as, ai, v0, v1, v2, v3, v4, v5, v6, v7, v8, v9, v10, v11, v12, v13, v14, v15, v16, v17, v18, v19, v20, v21, v22, v23, v24, v25, v26, v27, v28, v29, v30, v31, v32, v33, v34, v35, v36, v37, v38, v39, v40, v41, v42, v43, v44, v45, v46, v47, v48, v49, v50, v51, v52, v53, v54, v55, v56, v57, v58, v59, v60, v61, v62, v63]
      · omega
      · first
        | (intro j hj j1 j2; have w0 : j ≠ S.n := (by omega); have w1 : j ≠ S.n + 1 := (by omega); have w2 : j ≠ S.n + 1 + 1 := (by omega); have w3 : j ≠ S.n + 1 + 1 + 1 := (by omega); have w4 : j ≠ S.n + 1 + 1 + 1 + 1 := (by omega); have w5 : j ≠ S.n + 2 := (by omega); have w6 : j ≠ S.n + 3 := (by omega); have w7 : j ≠ S.n + 4 := (by omega); have w8 : j ≠ S.n + 1 + 1 + 1 + 1 + 1 := (by omega); simp [j1, j2, w0, w1, w2, w3, w4, w5, w6, w7, w8])
        | (refine ⟨by omega, ?_⟩; intro j hj j1 j2; have w0 : j ≠ S.n := (by omega); have w1 : j ≠ S.n + 1 := (by omega); have w2 : j ≠ S.n + 1 + 1 := (by omega); have w3 : j ≠ S.n + 1 + 1 + 1 := (by omega); have w4 : j ≠ S.n + 1 + 1 + 1 + 1 := (by omega); have w5 : j ≠ S.n + 2 := (by omega); have w6 : j ≠ S.n + 3 := (by omega); have w7 : j ≠ S.n + 4 := (by omega); have w8 : j ≠ S.n + 1 + 1 + 1 + 1 + 1 := (by omega); simp [j1, j2, w0, w1, w2, w3, w4, w5, w6, w7, w8])
    · simp (maxSteps := 4000000) (decide := true) [Tells, f__law_step, mFun, b__law_step, mSeq, mPass, mBrk, mCnt, mDrop, mRet, mRetN, mIfS, mRaise, mSet, mAsg, mPar, mPar3, mAug, mFld, mFldAug, gNm, gSub', gFld, gNl, gCn, gTp, setA, putFD, mVar, mC, mB, mU, mTB, mAnd, mOr, mNot, mIf, mAndV, mOrV, mNotV, mChain, mNil, mCons, mTup, mLst, mSl, oNo, oE, mCB, fAbs, fMax2, fMin2, fInt, lenD, fLen, fTuple, fList, itemsD, fIsi, tyD, mAttr, mCall, mMeth, mMake, mBM, tyF, SM.bind, SM.pure, toRS, toRSA, toRST, Y.sb, List.lookup, put_f, put_n, alloc_f, alloc_n, put_put, alloc_put, okI, okB, orF, dSub, dFdiv, dMod, dPow, dShl, dShr, dAnd, dOr, dXor, dNeg, dLt, dLe, dGt, dGe, dIs, ao, am, as, ai, oF, hh, ev_eqS, ev_eqI, ok_halt, ok_set, ok_load, ok_store, ok_add, ok_sub, ok_and, ok_xor, ok_jump, ok_zero, ok_less, ok_out, ok_in, ok_half, ok_from, ok_to, lin_J_halt, lin_J_set, lin_J_load, lin_J_store, lin_J_add, lin_J_sub, lin_J_and, lin_J_xor, lin_J_jump, lin_J_zero, lin_J_less, lin_J_out, lin_J_in, lin_J_half, lin_J_from, lin_J_to, lin_S_halt, lin_S_set, lin_S_load, lin_S_store, lin_S_add, lin_S_sub, lin_S_and, lin_S_xor, lin_S_jump, lin_S_zero, lin_S_less, lin_S_out, lin_S_in, lin_S_half, lin_S_from, lin_S_to, lin_L_halt, lin_L_set, lin_L_load, lin_L_store, lin_L_add, lin_L_sub, lin_L_and, lin_L_xor, lin_L_jump, lin_L_zero, lin_L_less, lin_L_out, lin_L_in, lin_L_half, lin_L_from, lin_L_to, lin_A_halt, lin_A_set, lin_A_load, lin_A_store, lin_A_add, lin_A_sub, lin_A_and, lin_A_xor, lin_A_jump, lin_A_zero, lin_A_less, lin_A_out, lin_A_in, lin_A_half, lin_A_from, lin_A_to, dAdd, catL, addS, dIx, ixSeq, ixTxt, ixDic, dicAt, keyD, look_cons, look_nil, putD, Y.putAt, putSeq, putDic, mDisp, evP, keysP, mergeD, z3, z4, q1, q2, q3, q4, q5, r1, r2, r3, r4, r5, op_iff, ownAt_iff, AwayO, stepP, List.map_append, hz0, slD, cut_tail, at2, v0, v1, v2, v3, v4, v5, v6, v7, v8, v9, v10, v11, v12, v13, v14, v15, v16, v17, v18, v19, v20, v21, v22, v23, v24, v25, v26, v27, v28, v29, v30, v31, v32, v33, v34, v35, v36, v37, v38, v39, v40, v41, v42, v43, v44, v45, v46, v47, v48, v49, v50, v51, v52, v53, v54, v55, v56, v57, v58, v59, v60, v61, v62, v63, ha]
      refine ⟨_, _, ?_, ⟨⟨rfl, rfl⟩, ?_, ?_⟩, ?_, ?_⟩
      · omega
      · simp [q1, q2, q3, q4, q5, q6, q7, q8, q9, r1, r2, r3, r4, r5, am, as, ai, v0, v1, v2, v3, v4, v5, v6, v7, v8, v9, v10, v11, v12, v13, v14, v15, v16, v17, v18, v19, v20, v21, v22, v23, v24, v25, v26, v27, v28, v29, v30, v31, v32, v33, v34, v35, v36, v37, v38, v39, v40, v41, v42, v43, v44, v45, v46, v47, v48, v49, v50, v51, v52, v53, v54, v55, v56, v57, v58, v59, v60, v61, v62, v63]
      · simp [q1, q2, q3, q4, q5, q6, q7, q8, q9, r1, r2, r3, r4, r5, am, as, ai, v0, v1, v2, v3, v4, v5, v6, v7, v8, v9, v10, v11, v12, v13, v14, v15, v16, v17, v18, v19, v20, v21, v22, v23, v24, v25, v26, v27, v28, v29, v30, v31, v32, v33, v34, v35, v36, v37, v38, v39, v40, v41, v42, v43, v44, v45, v46, v47, v48, v49, v50, v51, v52, v53, v54, v55, v56, v57, v58, v59, v60, v61, v62, v63]
      · omega
      · first
        | (intro j hj j1 j2; have w0 : j ≠ S.n := (by omega); have w1 : j ≠ S.n + 1 := (by omega); have w2 : j ≠ S.n + 1 + 1 := (by omega); have w3 : j ≠ S.n + 1 + 1 + 1 := (by omega); have w4 : j ≠ S.n + 1 + 1 + 1 + 1 := (by omega); have w5 : j ≠ S.n + 2 := (by omega); have w6 : j ≠ S.n + 3 := (by omega); have w7 : j ≠ S.n + 4 := (by omega); have w8 : j ≠ S.n + 1 + 1 + 1 + 1 + 1 := (by omega); simp [j1, j2, w0, w1, w2, w3, w4, w5, w6, w7, w8])
        | (refine ⟨by omega, ?_⟩; intro j hj j1 j2; have w0 : j ≠ S.n := (by omega); have w1 : j ≠ S.n + 1 := (by omega); have w2 : j ≠ S.n + 1 + 1 := (by omega); have w3 : j ≠ S.n + 1 + 1 + 1 := (by omega); have w4 : j ≠ S.n + 1 + 1 + 1 + 1 := (by omega); have w5 : j ≠ S.n + 2 := (by omega); have w6 : j ≠ S.n + 3 := (by omega); have w7 : j ≠ S.n + 4 := (by omega); have w8 : j ≠ S.n + 1 + 1 + 1 + 1 + 1 := (by omega); simp [j1, j2, w0, w1, w2, w3, w4, w5, w6, w7, w8])
  · by_cases ha : st.carry = 1
    · simp (maxSteps := 4000000) (decide := true) [Tells, f__law_step, mFun, b__law_step, mSeq, mPass, mBrk, mCnt, mDrop, mRet, mRetN, mIfS, mRaise, mSet, mAsg, mPar, mPar3, mAug, mFld, mFldAug, gNm, gSub', gFld, gNl, gCn, gTp, setA, putFD, mVar, mC, mB, mU, mTB, mAnd, mOr, mNot, mIf, mAndV, mOrV, mNotV, mChain, mNil, mCons, mTup, mLst, mSl, oNo, oE, mCB, fAbs, fMax2, fMin2, fInt, lenD, fLen, fTuple, fList, itemsD, fIsi, tyD, mAttr, mCall, mMeth, mMake, mBM, tyF, SM.bind, SM.pure, toRS, toRSA, toRST, Y.sb, List.lookup, put_f, put_n, alloc_f, alloc_n, put_put, alloc_put, okI, okB, orF, dSub, dFdiv, dMod, dPow, dShl, dShr, dAnd, dOr, dXor, dNeg, dLt, dLe, dGt, dGe, dIs, ao, am, as, ai, oF, hh, ev_eqS, ev_eqI, ok_halt, ok_set, ok_load, ok_store, ok_add, ok_sub, ok_and, ok_xor, ok_jump, ok_zero, ok_less, ok_out, ok_in, ok_half, ok_from, ok_to, lin_J_halt, lin_J_set, lin_J_load, lin_J_store, lin_J_add, lin_J_sub, lin_J_and, lin_J_xor, lin_J_jump, lin_J_zero, lin_J_less, lin_J_out, lin_J_in, lin_J_half, lin_J_from, lin_J_to, lin_S_halt, lin_S_set, lin_S_load, lin_S_store, lin_S_add, lin_S_sub, lin_S_and, lin_S_xor, lin_S_jump, lin_S_zero, lin_S_less, lin_S_out, lin_S_in, lin_S_half, lin_S_from, lin_S_to, lin_L_halt, lin_L_set, lin_L_load, lin_L_store, lin_L_add, lin_L_sub, lin_L_and, lin_L_xor, lin_L_jump, lin_L_zero, lin_L_less, lin_L_out, lin_L_in, lin_L_half, lin_L_from, lin_L_to, lin_A_halt, lin_A_set, lin_A_load, lin_A_store, lin_A_add, lin_A_sub, lin_A_and, lin_A_xor, lin_A_jump, lin_A_zero, lin_A_less, lin_A_out, lin_A_in, lin_A_half, lin_A_from, lin_A_to, dAdd, catL, addS, dIx, ixSeq, ixTxt, ixDic, dicAt, keyD, look_cons, look_nil, putD, Y.putAt, putSeq, putDic, mDisp, evP, keysP, mergeD, z3, z4, q1, q2, q3, q4, q5, r1, r2, r3, r4, r5, op_iff, ownAt_iff, AwayO, stepP, List.map_append, hz0, slD, cut_tail, at2, v0, v1, v2, v3, v4, v5, v6, v7, v8, v9, v10, v11, v12, v13, v14, v15, v16, v17, v18, v19, v20, v21, v22, v23, v24, v25, v26, v27, v28, v29, v30, v31, v32, v33, v34, v35, v36, v37, v38, v39, v40, v41, v42, v43, v44, v45, v46, v47, v48, v49, v50, v51, v52, v53, v54, v55, v56, v57, v58, v59, v60, v61, v62, v63, ha]
      refine ⟨_, _, ?_, ⟨⟨rfl, rfl⟩, ?_, ?_⟩, ?_, ?_⟩
      · omega
      · simp [q1, q2, q3, q4, q5, q6, q7, q8, q9, r1, r2, r3, r4, r5, am, as, ai, v0, v1, v2, v3, v4, v5, v6, v7, v8, v9, v10, v11, v12, v13, v14, v15, v16, v17, v18, v19, v20, v21, v22, v23, v24, v25, v26, v27, v28, v29, v30, v31, v32, v33, v34, v35, v36, v37, v38, v39, v40, v41, v42, v43, v44, v45, v46, v47, v48, v49, v50, v51, v52, v53, v54, v55, v56, v57, v58, v59, v60, v61, v62, v63]
      · simp [q1, q2, q3, q4, q5, q6, q7, q8, q9, r1, r2, r3, r4, r5, am, as, ai, v0, v1, v2, v3, v4, v5, v6, v7, v8, v9, v10, v11, v12, v13, v14, v15, v16, v17, v18, v19, v20, v21, v22, v23, v24, v25, v26, v27, v28, v29, v30, v31, v32, v33, v34, v35, v36, v37, v38, v39, v40, v41, v42, v43, v44, v45, v46, v47, v48, v49, v50, v51, v52, v53, v54, v55, v56, v57, v58, v59, v60, v61, v62, v63]
      · omega
      · first
        | (intro j hj j1 j2; have w0 : j ≠ S.n := (by omega); have w1 : j ≠ S.n + 1 := (by omega); have w2 : j ≠ S.n + 1 + 1 := (by omega); have w3 : j ≠ S.n + 1 + 1 + 1 := (by omega); have w4 : j ≠ S.n + 1 + 1 + 1 + 1 := (by omega); have w5 : j ≠ S.n + 2 := (by omega); have w6 : j ≠ S.n + 3 := (by omega); have w7 : j ≠ S.n + 4 := (by omega); have w8 : j ≠ S.n + 1 + 1 + 1 + 1 + 1 := (by omega); simp [j1, j2, w0, w1, w2, w3, w4, w5, w6, w7, w8])
        | (refine ⟨by omega, ?_⟩; intro j hj j1 j2; have w0 : j ≠ S.n := (by omega); have w1 : j ≠ S.n + 1 := (by omega); have w2 : j ≠ S.n + 1 + 1 := (by omega); have w3 : j ≠ S.n + 1 + 1 + 1 := (by omega); have w4 : j ≠ S.n + 1 + 1 + 1 + 1 := (by omega); have w5 : j ≠ S.n + 2 := (by omega); have w6 : j ≠ S.n + 3 := (by omega); have w7 : j ≠ S.n + 4 := (by omega); have w8 : j ≠ S.n + 1 + 1 + 1 + 1 + 1 := (by omega); simp [j1, j2, w0, w1, w2, w3, w4, w5, w6, w7, w8])
    · simp (maxSteps := 4000000) (decide := true) [Tells, f__law_step, mFun, b__law_step, mSeq, mPass, mBrk, mCnt, mDrop, mRet, mRetN, mIfS, mRaise, mSet, mAsg, mPar, mPar3, mAug, mFld, mFldAug, gNm, gSub', gFld, gNl, gCn, gTp, setA, putFD, mVar, mC, mB, mU, mTB, mAnd, mOr, mNot, mIf, mAndV, mOrV, mNotV, mChain, mNil, mCons, mTup, mLst, mSl, oNo, oE, mCB, fAbs, fMax2, fMin2, fInt, lenD, fLen, fTuple, fList, itemsD, fIsi, tyD, mAttr, mCall, mMeth, mMake, mBM, tyF, SM.bind, SM.pure, toRS, toRSA, toRST, Y.sb, List.lookup, put_f, put_n, alloc_f, alloc_n, put_put, alloc_put, okI, okB, orF, dSub, dFdiv, dMod, dPow, dShl, dShr, dAnd, dOr, dXor, dNeg, dLt, dLe, dGt, dGe, dIs, ao, am, as, ai, oF, hh, ev_eqS, ev_eqI, ok_halt, ok_set, ok_load, ok_store, ok_add, ok_sub, ok_and, ok_xor, ok_jump, ok_zero, ok_less, ok_out, ok_in, ok_half, ok_from, ok_to, lin_J_halt, lin_J_set, lin_J_load, lin_J_store, lin_J_add, lin_J_sub, lin_J_and, lin_J_xor, lin_J_jump, lin_J_zero, lin_J_less, lin_J_out, lin_J_in, lin_J_half, lin_J_from, lin_J_to, lin_S_halt, lin_S_set, lin_S_load, lin_S_store, lin_S_add, lin_S_sub, lin_S_and, lin_S_xor, lin_S_jump, lin_S_zero, lin_S_less, lin_S_out, lin_S_in, lin_S_half, lin_S_from, lin_S_to, lin_L_halt, lin_L_set, lin_L_load, lin_L_store, lin_L_add, lin_L_sub, lin_L_and, lin_L_xor, lin_L_jump, lin_L_zero, lin_L_less, lin_L_out, lin_L_in, lin_L_half, lin_L_from, lin_L_to, lin_A_halt, lin_A_set, lin_A_load, lin_A_store, lin_A_add, lin_A_sub, lin_A_and, lin_A_xor, lin_A_jump, lin_A_zero, lin_A_less, lin_A_out, lin_A_in, lin_A_half, lin_A_from, lin_A_to, dAdd, catL, addS, dIx, ixSeq, ixTxt, ixDic, dicAt, keyD, look_cons, look_nil, putD, Y.putAt, putSeq, putDic, mDisp, evP, keysP, mergeD, z3, z4, q1, q2, q3, q4, q5, r1, r2, r3, r4, r5, op_iff, ownAt_iff, AwayO, stepP, List.map_append, hz0, slD, cut_tail, at2, v0, v1, v2, v3, v4, v5, v6, v7, v8, v9, v10, v11, v12, v13, v14, v15, v16, v17, v18, v19, v20, v21, v22, v23, v24, v25, v26, v27, v28, v29, v30, v31, v32, v33, v34, v35, v36, v37, v38, v39, v40, v41, v42, v43, v44, v45, v46, v47, v48, v49, v50, v51, v52, v53, v54, v55, v56, v57, v58, v59, v60, v61, v62, v63, ha]
      refine ⟨_, _, ?_, ⟨⟨rfl, rfl⟩, ?_, ?_⟩, ?_, ?_⟩
      · omega
      · simp [q1, q2, q3, q4, q5, q6, q7, q8, q9, r1, r2, r3, r4, r5, am, as, ai, v0, v1, v2, v3, v4, v5, v6, v7, v8, v9, v10, v11, v12, v13, v14, v15, v16, v17, v18, v19, v20, v21, v22, v23, v24, v25, v26, v27, v28, v29, v30, v31, v32, v33, v34, v35, v36, v37, v38, v39, v40, v41, v42, v43, v44, v45, v46, v47, v48, v49, v50, v51, v52, v53, v54, v55, v56, v57, v58, v59, v60, v61, v62, v63]
      · simp [q1, q2, q3, q4, q5, q6, q7, q8, q9, r1, r2, r3, r4, r5, am, as, ai, v0, v1, v2, v3, v4, v5, v6, v7, v8, v9, v10, v11, v12, v13, v14, v15, v16, v17, v18, v19, v20, v21, v22, v23, v24, v25, v26, v27, v28, v29, v30, v31, v32, v33, v34, v35, v36, v37, v38, v39, v40, v41, v42, v43, v44, v45, v46, v47, v48, v49, v50, v51, v52, v53, v54, v55, v56, v57, v58, v59, v60, v61, v62, v63]
      · omega
      · first
        | (intro j hj j1 j2; have w0 : j ≠ S.n := (by omega); have w1 : j ≠ S.n + 1 := (by omega); have w2 : j ≠ S.n + 1 + 1 := (by omega); have w3 : j ≠ S.n + 1 + 1 + 1 := (by omega); have w4 : j ≠ S.n + 1 + 1 + 1 + 1 := (by omega); have w5 : j ≠ S.n + 2 := (by omega); have w6 : j ≠ S.n + 3 := (by omega); have w7 : j ≠ S.n + 4 := (by omega); have w8 : j ≠ S.n + 1 + 1 + 1 + 1 + 1 := (by omega); simp [j1, j2, w0, w1, w2, w3, w4, w5, w6, w7, w8])
        | (refine ⟨by omega, ?_⟩; intro j hj j1 j2; have w0 : j ≠ S.n := (by omega); have w1 : j ≠ S.n + 1 := (by omega); have w2 : j ≠ S.n + 1 + 1 := (by omega); have w3 : j ≠ S.n + 1 + 1 + 1 := (by omega); have w4 : j ≠ S.n + 1 + 1 + 1 + 1 := (by omega); have w5 : j ≠ S.n + 2 := (by omega); have w6 : j ≠ S.n + 3 := (by omega); have w7 : j ≠ S.n + 4 := (by omega); have w8 : j ≠ S.n + 1 + 1 + 1 + 1 + 1 := (by omega); simp [j1, j2, w0, w1, w2, w3, w4, w5, w6, w7, w8])
  · obtain ⟨m1, m2, m3, m4⟩ := mem_at ok h0 h1
    obtain ⟨n1, n2, n3, n4⟩ := mem_at ok m2 m3
    rcases hw with rfl | rfl | rfl | rfl | rfl | rfl | rfl | rfl | rfl
    · simp (maxSteps := 4000000) (decide := true) [Tells, f__law_step, mFun, b__law_step, mSeq, mPass, mBrk, mCnt, mDrop, mRet, mRetN, mIfS, mRaise, mSet, mAsg, mPar, mPar3, mAug, mFld, mFldAug, gNm, gSub', gFld, gNl, gCn, gTp, setA, putFD, mVar, mC, mB, mU, mTB, mAnd, mOr, mNot, mIf, mAndV, mOrV, mNotV, mChain, mNil, mCons, mTup, mLst, mSl, oNo, oE, mCB, fAbs, fMax2, fMin2, fInt, lenD, fLen, fTuple, fList, itemsD, fIsi, tyD, mAttr, mCall, mMeth, mMake, mBM, tyF, SM.bind, SM.pure, toRS, toRSA, toRST, Y.sb, List.lookup, put_f, put_n, alloc_f, alloc_n, put_put, alloc_put, okI, okB, orF, dSub, dFdiv, dMod, dPow, dShl, dShr, dAnd, dOr, dXor, dNeg, dLt, dLe, dGt, dGe, dIs, ao, am, as, ai, oF, hh, ev_eqS, ev_eqI, ok_halt, ok_set, ok_load, ok_store, ok_add, ok_sub, ok_and, ok_xor, ok_jump, ok_zero, ok_less, ok_out, ok_in, ok_half, ok_from, ok_to, lin_J_halt, lin_J_set, lin_J_load, lin_J_store, lin_J_add, lin_J_sub, lin_J_and, lin_J_xor, lin_J_jump, lin_J_zero, lin_J_less, lin_J_out, lin_J_in, lin_J_half, lin_J_from, lin_J_to, lin_S_halt, lin_S_set, lin_S_load, lin_S_store, lin_S_add, lin_S_sub, lin_S_and, lin_S_xor, lin_S_jump, lin_S_zero, lin_S_less, lin_S_out, lin_S_in, lin_S_half, lin_S_from, lin_S_to, lin_L_halt, lin_L_set, lin_L_load, lin_L_store, lin_L_add, lin_L_sub, lin_L_and, lin_L_xor, lin_L_jump, lin_L_zero, lin_L_less, lin_L_out, lin_L_in, lin_L_half, lin_L_from, lin_L_to, lin_A_halt, lin_A_set, lin_A_load, lin_A_store, lin_A_add, lin_A_sub, lin_A_and, lin_A_xor, lin_A_jump, lin_A_zero, lin_A_less, lin_A_out, lin_A_in, lin_A_half, lin_A_from, lin_A_to, dAdd, catL, addS, dIx, ixSeq, ixTxt, ixDic, dicAt, keyD, look_cons, look_nil, putD, Y.putAt, putSeq, putDic, mDisp, evP, keysP, mergeD, z3, z4, q1, q2, q3, q4, q5, r1, r2, r3, r4, r5, op_iff, ownAt_iff, AwayO, stepP, List.map_append, hz0, slD, cut_tail, at2, v0, v1, v2, v3, v4, v5, v6, v7, v8, v9, v10, v11, v12, v13, v14, v15, v16, v17, v18, v19, v20, v21, v22, v23, v24, v25, v26, v27, v28, v29, v30, v31, v32, v33, v34, v35, v36, v37, v38, v39, v40, v41, v42, v43, v44, v45, v46, v47, v48, v49, v50, v51, v52, v53, v54, v55, v56, v57, v58, v59, v60, v61, v62, v63, m1, m4]
      refine ⟨_, _, ?_, ⟨⟨rfl, rfl⟩, ?_, ?_⟩, ?_, ?_⟩
      · omega
      · simp [q1, q2, q3, q4, q5, q6, q7, q8, q9, r1, r2, r3, r4, r5, am, as, ai, v0, v1, v2, v3, v4, v5, v6, v7, v8, v9, v10, v11, v12, v13, v14, v15, v16, v17, v18, v19, v20, v21, v22, v23, v24, v25, v26, v27, v28, v29, v30, v31, v32, v33, v34, v35, v36, v37, v38, v39, v40, v41, v42, v43, v44, v45, v46, v47, v48, v49, v50, v51, v52, v53, v54, v55, v56, v57, v58, v59, v60, v61, v62, v63]
      · simp [q1, q2, q3, q4, q5, q6, q7, q8, q9, r1, r2, r3, r4, r5, am, as, ai, v0, v1, v2, v3, v4, v5, v6, v7, v8, v9, v10, v11, v12, v13, v14, v15, v16, v17, v18, v19, v20, v21, v22, v23, v24, v25, v26, v27, v28, v29, v30, v31, v32, v33, v34, v35, v36, v37, v38, v39, v40, v41, v42, v43, v44, v45, v46, v47, v48, v49, v50, v51, v52, v53, v54, v55, v56, v57, v58, v59, v60, v61, v62, v63]
      · omega
      · first
        | (intro j hj j1 j2; have w0 : j ≠ S.n := (by omega); have w1 : j ≠ S.n + 1 := (by omega); have w2 : j ≠ S.n + 1 + 1 := (by omega); have w3 : j ≠ S.n + 1 + 1 + 1 := (by omega); have w4 : j ≠ S.n + 1 + 1 + 1 + 1 := (by omega); have w5 : j ≠ S.n + 2 := (by omega); have w6 : j ≠ S.n + 3 := (by omega); have w7 : j ≠ S.n + 4 := (by omega); have w8 : j ≠ S.n + 1 + 1 + 1 + 1 + 1 := (by omega); simp [j1, j2, w0, w1, w2, w3, w4, w5, w6, w7, w8])
        | (refine ⟨by omega, ?_⟩; intro j hj j1 j2; have w0 : j ≠ S.n := (by omega); have w1 : j ≠ S.n + 1 := (by omega); have w2 : j ≠ S.n + 1 + 1 := (by omega); have w3 : j ≠ S.n + 1 + 1 + 1 := (by omega); have w4 : j ≠ S.n + 1 + 1 + 1 + 1 := (by omega); have w5 : j ≠ S.n + 2 := (by omega); have w6 : j ≠ S.n + 3 := (by omega); have w7 : j ≠ S.n + 4 := (by omega); have w8 : j ≠ S.n + 1 + 1 + 1 + 1 + 1 := (by omega); simp [j1, j2, w0, w1, w2, w3, w4, w5, w6, w7, w8])
    · simp (maxSteps := 4000000) (decide := true) [Tells, f__law_step, mFun, b__law_step, mSeq, mPass, mBrk, mCnt, mDrop, mRet, mRetN, mIfS, mRaise, mSet, mAsg, mPar, mPar3, mAug, mFld, mFldAug, gNm, gSub', gFld, gNl, gCn, gTp, setA, putFD, mVar, mC, mB, mU, mTB, mAnd, mOr, mNot, mIf, mAndV, mOrV, mNotV, mChain, mNil, mCons, mTup, mLst, mSl, oNo, oE, mCB, fAbs, fMax2, fMin2, fInt, lenD, fLen, fTuple, fList, itemsD, fIsi, tyD, mAttr, mCall, mMeth, mMake, mBM, tyF, SM.bind, SM.pure, toRS, toRSA, toRST, Y.sb, List.lookup, put_f, put_n, alloc_f, alloc_n, put_put, alloc_put, okI, okB, orF, dSub, dFdiv, dMod, dPow, dShl, dShr, dAnd, dOr, dXor, dNeg, dLt, dLe, dGt, dGe, dIs, ao, am, as, ai, oF, hh, ev_eqS, ev_eqI, ok_halt, ok_set, ok_load, ok_store, ok_add, ok_sub, ok_and, ok_xor, ok_jump, ok_zero, ok_less, ok_out, ok_in, ok_half, ok_from, ok_to, lin_J_halt, lin_J_set, lin_J_load, lin_J_store, lin_J_add, lin_J_sub, lin_J_and, lin_J_xor, lin_J_jump, lin_J_zero, lin_J_less, lin_J_out, lin_J_in, lin_J_half, lin_J_from, lin_J_to, lin_S_halt, lin_S_set, lin_S_load, lin_S_store, lin_S_add, lin_S_sub, lin_S_and, lin_S_xor, lin_S_jump, lin_S_zero, lin_S_less, lin_S_out, lin_S_in, lin_S_half, lin_S_from, lin_S_to, lin_L_halt, lin_L_set, lin_L_load, lin_L_store, lin_L_add, lin_L_sub, lin_L_and, lin_L_xor, lin_L_jump, lin_L_zero, lin_L_less, lin_L_out, lin_L_in, lin_L_half, lin_L_from, lin_L_to, lin_A_halt, lin_A_set, lin_A_load, lin_A_store, lin_A_add, lin_A_sub, lin_A_and, lin_A_xor, lin_A_jump, lin_A_zero, lin_A_less, lin_A_out, lin_A_in, lin_A_half, lin_A_from, lin_A_to, dAdd, catL, addS, dIx, ixSeq, ixTxt, ixDic, dicAt, keyD, look_cons, look_nil, putD, Y.putAt, putSeq, putDic, mDisp, evP, keysP, mergeD, z3, z4, q1, q2, q3, q4, q5, r1, r2, r3, r4, r5, op_iff, ownAt_iff, AwayO, stepP, List.map_append, hz0, slD, cut_tail, at2, v0, v1, v2, v3, v4, v5, v6, v7, v8, v9, v10, v11, v12, v13, v14, v15, v16, v17, v18, v19, v20, v21, v22, v23, v24, v25, v26, v27, v28, v29, v30, v31, v32, v33, v34, v35, v36, v37, v38, v39, v40, v41, v42, v43, v44, v45, v46, v47, v48, v49, v50, v51, v52, v53, v54, v55, v56, v57, v58, v59, v60, v61, v62, v63, m1, m4]
      refine ⟨_, _, ?_, ⟨⟨rfl, rfl⟩, ?_, ?_⟩, ?_, ?_⟩
      · omega
      · simp [q1, q2, q3, q4, q5, q6, q7, q8, q9, r1, r2, r3, r4, r5, am, as, ai, v0, v1, v2, v3, v4, v5, v6, v7, v8, v9, v10, v11, v12, v13, v14, v15, v16, v17, v18, v19, v20, v21, v22, v23, v24, v25, v26, v27, v28, v29, v30, v31, v32, v33, v34, v35, v36, v37, v38, v39, v40, v41, v42, v43, v44, v45, v46, v47, v48, v49, v50, v51, v52, v53, v54, v55, v56, v57, v58, v59, v60, v61, v62, v63]
      · simp [q1, q2, q3, q4, q5, q6, q7, q8, q9, r1, r2, r3, r4, r5, am, as, ai, v0, v1, v2, v3, v4, v5, v6, v7, v8, v9, v10, v11, v12, v13, v14, v15, v16, v17, v18, v19, v20, v21, v22, v23, v24, v25, v26, v27, v28, v29, v30, v31, v32, v33, v34, v35, v36, v37, v38, v39, v40, v41, v42, v43, v44, v45, v46, v47, v48, v49, v50, v51, v52, v53, v54, v55, v56, v57, v58, v59, v60, v61, v62, v63]
      · omega
      · first
        | (intro j hj j1 j2; have w0 : j ≠ S.n := (by omega); have w1 : j ≠ S.n + 1 := (by omega); have w2 : j ≠ S.n + 1 + 1 := (by omega); have w3 : j ≠ S.n + 1 + 1 + 1 := (by omega); have w4 : j ≠ S.n + 1 + 1 + 1 + 1 := (by omega); have w5 : j ≠ S.n + 2 := (by omega); have w6 : j ≠ S.n + 3 := (by omega); have w7 : j ≠ S.n + 4 := (by omega); have w8 : j ≠ S.n + 1 + 1 + 1 + 1 + 1 := (by omega); simp [j1, j2, w0, w1, w2, w3, w4, w5, w6, w7, w8])
        | (refine ⟨by omega, ?_⟩; intro j hj j1 j2; have w0 : j ≠ S.n := (by omega); have w1 : j ≠ S.n + 1 := (by omega); have w2 : j ≠ S.n + 1 + 1 := (by omega); have w3 : j ≠ S.n + 1 + 1 + 1 := (by omega); have w4 : j ≠ S.n + 1 + 1 + 1 + 1 := (by omega); have w5 : j ≠ S.n + 2 := (by omega); have w6 : j ≠ S.n + 3 := (by omega); have w7 : j ≠ S.n + 4 := (by omega); have w8 : j ≠ S.n + 1 + 1 + 1 + 1 + 1 := (by omega); simp [j1, j2, w0, w1, w2, w3, w4, w5, w6, w7, w8])
    · simp (maxSteps := 4000000) (decide := true) [Tells, f__law_step, mFun, b__law_step, mSeq, mPass, mBrk, mCnt, mDrop, mRet, mRetN, mIfS, mRaise, mSet, mAsg, mPar, mPar3, mAug, mFld, mFldAug, gNm, gSub', gFld, gNl, gCn, gTp, setA, putFD, mVar, mC, mB, mU, mTB, mAnd, mOr, mNot, mIf, mAndV, mOrV, mNotV, mChain, mNil, mCons, mTup, mLst, mSl, oNo, oE, mCB, fAbs, fMax2, fMin2, fInt, lenD, fLen, fTuple, fList, itemsD, fIsi, tyD, mAttr, mCall, mMeth, mMake, mBM, tyF, SM.bind, SM.pure, toRS, toRSA, toRST, Y.sb, List.lookup, put_f, put_n, alloc_f, alloc_n, put_put, alloc_put, okI, okB, orF, dSub, dFdiv, dMod, dPow, dShl, dShr, dAnd, dOr, dXor, dNeg, dLt, dLe, dGt, dGe, dIs, ao, am, as, ai, oF, hh, ev_eqS, ev_eqI, ok_halt, ok_set, ok_load, ok_store, ok_add, ok_sub, ok_and, ok_xor, ok_jump, ok_zero, ok_less, ok_out, ok_in, ok_half, ok_from, ok_to, lin_J_halt, lin_J_set, lin_J_load, lin_J_store, lin_J_add, lin_J_sub, lin_J_and, lin_J_xor, lin_J_jump, lin_J_zero, lin_J_less, lin_J_out, lin_J_in, lin_J_half, lin_J_from, lin_J_to, lin_S_halt, lin_S_set, lin_S_load, lin_S_store, lin_S_add, lin_S_sub, lin_S_and, lin_S_xor, lin_S_jump, lin_S_zero, lin_S_less, lin_S_out, lin_S_in, lin_S_half, lin_S_from, lin_S_to, lin_L_halt, lin_L_set, lin_L_load, lin_L_store, lin_L_add, lin_L_sub, lin_L_and, lin_L_xor, lin_L_jump, lin_L_zero, lin_L_less, lin_L_out, lin_L_in, lin_L_half, lin_L_from, lin_L_to, lin_A_halt, lin_A_set, lin_A_load, lin_A_store, lin_A_add, lin_A_sub, lin_A_and, lin_A_xor, lin_A_jump, lin_A_zero, lin_A_less, lin_A_out, lin_A_in, lin_A_half, lin_A_from, lin_A_to, dAdd, catL, addS, dIx, ixSeq, ixTxt, ixDic, dicAt, keyD, look_cons, look_nil, putD, Y.putAt, putSeq, putDic, mDisp, evP, keysP, mergeD, z3, z4, q1, q2, q3, q4, q5, r1, r2, r3, r4, r5, op_iff, ownAt_iff, AwayO, stepP, List.map_append, hz0, slD, cut_tail, at2, v0, v1, v2, v3, v4, v5, v6, v7, v8, v9, v10, v11, v12, v13, v14, v15, v16, v17, v18, v19, v20, v21, v22, v23, v24, v25, v26, v27, v28, v29, v30, v31, v32, v33, v34, v35, v36, v37, v38, v39, v40, v41, v42, v43, v44, v45, v46, v47, v48, v49, v50, v51, v52, v53, v54, v55, v56, v57, v58, v59, v60, v61, v62, v63, m1, m4]
      refine ⟨_, _, ?_, ⟨⟨rfl, rfl⟩, ?_, ?_⟩, ?_, ?_⟩
      · omega
      · simp [q1, q2, q3, q4, q5, q6, q7, q8, q9, r1, r2, r3, r4, r5, am, as, ai, v0, v1, v2, v3, v4, v5, v6, v7, v8, v9, v10, v11, v12, v13, v14, v15, v16, v17, v18, v19, v20, v21, v22, v23, v24, v25, v26, v27, v28, v29, v30, v31, v32, v33, v34, v35, v36, v37, v38, v39, v40, v41, v42, v43, v44, v45, v46, v47, v48, v49, v50, v51, v52, v53, v54, v55, v56, v57, v58, v59, v60, v61, v62, v63]
      · simp [q1, q2, q3, q4, q5, q6, q7, q8, q9, r1, r2, r3, r4, r5, am, as, ai, v0, v1, v2, v3, v4, v5, v6, v7, v8, v9, v10, v11, v12, v13, v14, v15, v16, v17, v18, v19, v20, v21, v22, v23, v24, v25, v26, v27, v28, v29, v30, v31, v32, v33, v34, v35, v36, v37, v38, v39, v40, v41, v42, v43, v44, v45, v46, v47, v48, v49, v50, v51, v52, v53, v54, v55, v56, v57, v58, v59, v60, v61, v62, v63]
      · omega
      · first
        | (intro j hj j1 j2; have w0 : j ≠ S.n := (by omega); have w1 : j ≠ S.n + 1 := (by omega); have w2 : j ≠ S.n + 1 + 1 := (by omega); have w3 : j ≠ S.n + 1 + 1 + 1 := (by omega); have w4 : j ≠ S.n + 1 + 1 + 1 + 1 := (by omega); have w5 : j ≠ S.n + 2 := (by omega); have w6 : j ≠ S.n + 3 := (by omega); have w7 : j ≠ S.n + 4 := (by omega); have w8 : j ≠ S.n + 1 + 1 + 1 + 1 + 1 := (by omega); simp [j1, j2, w0, w1, w2, w3, w4, w5, w6, w7, w8])
        | (refine ⟨by omega, ?_⟩; intro j hj j1 j2; have w0 : j ≠ S.n := (by omega); have w1 : j ≠ S.n + 1 := (by omega); have w2 : j ≠ S.n + 1 + 1 := (by omega); have w3 : j ≠ S.n + 1 + 1 + 1 := (by omega); have w4 : j ≠ S.n + 1 + 1 + 1 + 1 := (by omega); have w5 : j ≠ S.n + 2 := (by omega); have w6 : j ≠ S.n + 3 := (by omega); have w7 : j ≠ S.n + 4 := (by omega); have w8 : j ≠ S.n + 1 + 1 + 1 + 1 + 1 := (by omega); simp [j1, j2, w0, w1, w2, w3, w4, w5, w6, w7, w8])
    · by_cases t0 : 0 ≤ st.acc + memAt st n <;> by_cases t1 : st.acc + memAt st n < 2 ^ d
      all_goals
        simp (maxSteps := 4000000) (decide := true) [Tells, f__law_step, mFun, b__law_step, mSeq, mPass, mBrk, mCnt, mDrop, mRet, mRetN, mIfS, mRaise, mSet, mAsg, mPar, mPar3, mAug, mFld, mFldAug, gNm, gSub', gFld, gNl, gCn, gTp, setA, putFD, mVar, mC, mB, mU, mTB, mAnd, mOr, mNot, mIf, mAndV, mOrV, mNotV, mChain, mNil, mCons, mTup, mLst, mSl, oNo, oE, mCB, fAbs, fMax2, fMin2, fInt, lenD, fLen, fTuple, fList, itemsD, fIsi, tyD, mAttr, mCall, mMeth, mMake, mBM, tyF, SM.bind, SM.pure, toRS, toRSA, toRST, Y.sb, List.lookup, put_f, put_n, alloc_f, alloc_n, put_put, alloc_put, okI, okB, orF, dSub, dFdiv, dMod, dPow, dShl, dShr, dAnd, dOr, dXor, dNeg, dLt, dLe, dGt, dGe, dIs, ao, am, as, ai, oF, hh, ev_eqS, ev_eqI, ok_halt, ok_set, ok_load, ok_store, ok_add, ok_sub, ok_and, ok_xor, ok_jump, ok_zero, ok_less, ok_out, ok_in, ok_half, ok_from, ok_to, lin_J_halt, lin_J_set, lin_J_load, lin_J_store, lin_J_add, lin_J_sub, lin_J_and, lin_J_xor, lin_J_jump, lin_J_zero, lin_J_less, lin_J_out, lin_J_in, lin_J_half, lin_J_from, lin_J_to, lin_S_halt, lin_S_set, lin_S_load, lin_S_store, lin_S_add, lin_S_sub, lin_S_and, lin_S_xor, lin_S_jump, lin_S_zero, lin_S_less, lin_S_out, lin_S_in, lin_S_half, lin_S_from, lin_S_to, lin_L_halt, lin_L_set, lin_L_load, lin_L_store, lin_L_add, lin_L_sub, lin_L_and, lin_L_xor, lin_L_jump, lin_L_zero, lin_L_less, lin_L_out, lin_L_in, lin_L_half, lin_L_from, lin_L_to, lin_A_halt, lin_A_set, lin_A_load, lin_A_store, lin_A_add, lin_A_sub, lin_A_and, lin_A_xor, lin_A_jump, lin_A_zero, lin_A_less, lin_A_out, lin_A_in, lin_A_half, lin_A_from, lin_A_to, dAdd, catL, addS, dIx, ixSeq, ixTxt, ixDic, dicAt, keyD, look_cons, look_nil, putD, Y.putAt, putSeq, putDic, mDisp, evP, keysP, mergeD, z3, z4, q1, q2, q3, q4, q5, r1, r2, r3, r4, r5, op_iff, ownAt_iff, AwayO, stepP, List.map_append, hz0, slD, cut_tail, at2, v0, v1, v2, v3, v4, v5, v6, v7, v8, v9, v10, v11, v12, v13, v14, v15, v16, v17, v18, v19, v20, v21, v22, v23, v24, v25, v26, v27, v28, v29, v30, v31, v32, v33, v34, v35, v36, v37, v38, v39, v40, v41, v42, v43, v44, v45, v46, v47, v48, v49, v50, v51, v52, v53, v54, v55, v56, v57, v58, v59, v60, v61, v62, v63, m1, m4, t0, t1]
        refine ⟨_, _, ?_, ⟨⟨rfl, rfl⟩, ?_, ?_⟩, ?_, ?_⟩
        · omega
        · simp [q1, q2, q3, q4, q5, q6, q7, q8, q9, r1, r2, r3, r4, r5, am, as, ai, v0, v1, v2, v3, v4, v5, v6, v7, v8, v9, v10, v11, v12, v13, v14, v15, v16, v17, v18, v19, v20, v21, v22, v23, v24, v25, v26, v27, v28, v29, v30, v31, v32, v33, v34, v35, v36, v37, v38, v39, v40, v41, v42, v43, v44, v45, v46, v47, v48, v49, v50, v51, v52, v53, v54, v55, v56, v57, v58, v59, v60, v61, v62, v63]
        · simp [q1, q2, q3, q4, q5, q6, q7, q8, q9, r1, r2, r3, r4, r5, am, as, ai, v0, v1, v2, v3, v4, v5, v6, v7, v8, v9, v10, v11, v12, v13, v14, v15, v16, v17, v18, v19, v20, v21, v22, v23, v24, v25, v26, v27, v28, v29, v30, v31, v32, v33, v34, v35, v36, v37, v38, v39, v40, v41, v42, v43, v44, v45, v46, v47, v48, v49, v50, v51, v52, v53, v54, v55, v56, v57, v58, v59, v60, v61, v62, v63]
        · omega
        · first
          | (intro j hj j1 j2; have w0 : j ≠ S.n := (by omega); have w1 : j ≠ S.n + 1 := (by omega); have w2 : j ≠ S.n + 1 + 1 := (by omega); have w3 : j ≠ S.n + 1 + 1 + 1 := (by omega); have w4 : j ≠ S.n + 1 + 1 + 1 + 1 := (by omega); have w5 : j ≠ S.n + 2 := (by omega); have w6 : j ≠ S.n + 3 := (by omega); have w7 : j ≠ S.n + 4 := (by omega); have w8 : j ≠ S.n + 1 + 1 + 1 + 1 + 1 := (by omega); simp [j1, j2, w0, w1, w2, w3, w4, w5, w6, w7, w8])
          | (refine ⟨by omega, ?_⟩; intro j hj j1 j2; have w0 : j ≠ S.n := (by omega); have w1 : j ≠ S.n + 1 := (by omega); have w2 : j ≠ S.n + 1 + 1 := (by omega); have w3 : j ≠ S.n + 1 + 1 + 1 := (by omega); have w4 : j ≠ S.n + 1 + 1 + 1 + 1 := (by omega); have w5 : j ≠ S.n + 2 := (by omega); have w6 : j ≠ S.n + 3 := (by omega); have w7 : j ≠ S.n + 4 := (by omega); have w8 : j ≠ S.n + 1 + 1 + 1 + 1 + 1 := (by omega); simp [j1, j2, w0, w1, w2, w3, w4, w5, w6, w7, w8])
    · by_cases t0 : memAt st n ≤ st.acc <;> by_cases t1 : st.acc - memAt st n < 2 ^ d
      all_goals
        simp (maxSteps := 4000000) (decide := true) [Tells, f__law_step, mFun, b__law_step, mSeq, mPass, mBrk, mCnt, mDrop, mRet, mRetN, mIfS, mRaise, mSet, mAsg, mPar, mPar3, mAug, mFld, mFldAug, gNm, gSub', gFld, gNl, gCn, gTp, setA, putFD, mVar, mC, mB, mU, mTB, mAnd, mOr, mNot, mIf, mAndV, mOrV, mNotV, mChain, mNil, mCons, mTup, mLst, mSl, oNo, oE, mCB, fAbs, fMax2, fMin2, fInt, lenD, fLen, fTuple, fList, itemsD, fIsi, tyD, mAttr, mCall, mMeth, mMake, mBM, tyF, SM.bind, SM.pure, toRS, toRSA, toRST, Y.sb, List.lookup, put_f, put_n, alloc_f, alloc_n, put_put, alloc_put, okI, okB, orF, dSub, dFdiv, dMod, dPow, dShl, dShr, dAnd, dOr, dXor, dNeg, dLt, dLe, dGt, dGe, dIs, ao, am, as, ai, oF, hh, ev_eqS, ev_eqI, ok_halt, ok_set, ok_load, ok_store, ok_add, ok_sub, ok_and, ok_xor, ok_jump, ok_zero, ok_less, ok_out, ok_in, ok_half, ok_from, ok_to, lin_J_halt, lin_J_set, lin_J_load, lin_J_store, lin_J_add, lin_J_sub, lin_J_and, lin_J_xor, lin_J_jump, lin_J_zero, lin_J_less, lin_J_out, lin_J_in, lin_J_half, lin_J_from, lin_J_to, lin_S_halt, lin_S_set, lin_S_load, lin_S_store, lin_S_add, lin_S_sub, lin_S_and, lin_S_xor, lin_S_jump, lin_S_zero, lin_S_less, lin_S_out, lin_S_in, lin_S_half, lin_S_from, lin_S_to, lin_L_halt, lin_L_set, lin_L_load, lin_L_store, lin_L_add, lin_L_sub, lin_L_and, lin_L_xor, lin_L_jump, lin_L_zero, lin_L_less, lin_L_out, lin_L_in, lin_L_half, lin_L_from, lin_L_to, lin_A_halt, lin_A_set, lin_A_load, lin_A_store, lin_A_add, lin_A_sub, lin_A_and, lin_A_xor, lin_A_jump, lin_A_zero, lin_A_less, lin_A_out, lin_A_in, lin_A_half, lin_A_from, lin_A_to, dAdd, catL, addS, dIx, ixSeq, ixTxt, ixDic, dicAt, keyD, look_cons, look_nil, putD, Y.putAt, putSeq, putDic, mDisp, evP, keysP, mergeD, z3, z4, q1, q2, q3, q4, q5, r1, r2, r3, r4, r5, op_iff, ownAt_iff, AwayO, stepP, List.map_append, hz0, slD, cut_tail, at2, v0, v1, v2, v3, v4, v5, v6, v7, v8, v9, v10, v11, v12, v13, v14, v15, v16, v17, v18, v19, v20, v21, v22, v23, v24, v25, v26, v27, v28, v29, v30, v31, v32, v33, v34, v35, v36, v37, v38, v39, v40, v41, v42, v43, v44, v45, v46, v47, v48, v49, v50, v51, v52, v53, v54, v55, v56, v57, v58, v59, v60, v61, v62, v63, m1, m4, t0, t1, dNeg, ← Int.sub_eq_add_neg]
        refine ⟨_, _, ?_, ⟨⟨rfl, rfl⟩, ?_, ?_⟩, ?_, ?_⟩
        · omega
        · simp [q1, q2, q3, q4, q5, q6, q7, q8, q9, r1, r2, r3, r4, r5, am, as, ai, v0, v1, v2, v3, v4, v5, v6, v7, v8, v9, v10, v11, v12, v13, v14, v15, v16, v17, v18, v19, v20, v21, v22, v23, v24, v25, v26, v27, v28, v29, v30, v31, v32, v33, v34, v35, v36, v37, v38, v39, v40, v41, v42, v43, v44, v45, v46, v47, v48, v49, v50, v51, v52, v53, v54, v55, v56, v57, v58, v59, v60, v61, v62, v63]
        · simp [q1, q2, q3, q4, q5, q6, q7, q8, q9, r1, r2, r3, r4, r5, am, as, ai, v0, v1, v2, v3, v4, v5, v6, v7, v8, v9, v10, v11, v12, v13, v14, v15, v16, v17, v18, v19, v20, v21, v22, v23, v24, v25, v26, v27, v28, v29, v30, v31, v32, v33, v34, v35, v36, v37, v38, v39, v40, v41, v42, v43, v44, v45, v46, v47, v48, v49, v50, v51, v52, v53, v54, v55, v56, v57, v58, v59, v60, v61, v62, v63]
        · omega
        · first
          | (intro j hj j1 j2; have w0 : j ≠ S.n := (by omega); have w1 : j ≠ S.n + 1 := (by omega); have w2 : j ≠ S.n + 1 + 1 := (by omega); have w3 : j ≠ S.n + 1 + 1 + 1 := (by omega); have w4 : j ≠ S.n + 1 + 1 + 1 + 1 := (by omega); have w5 : j ≠ S.n + 2 := (by omega); have w6 : j ≠ S.n + 3 := (by omega); have w7 : j ≠ S.n + 4 := (by omega); have w8 : j ≠ S.n + 1 + 1 + 1 + 1 + 1 := (by omega); simp [j1, j2, w0, w1, w2, w3, w4, w5, w6, w7, w8])
          | (refine ⟨by omega, ?_⟩; intro j hj j1 j2; have w0 : j ≠ S.n := (by omega); have w1 : j ≠ S.n + 1 := (by omega); have w2 : j ≠ S.n + 1 + 1 := (by omega); have w3 : j ≠ S.n + 1 + 1 + 1 := (by omega); have w4 : j ≠ S.n + 1 + 1 + 1 + 1 := (by omega); have w5 : j ≠ S.n + 2 := (by omega); have w6 : j ≠ S.n + 3 := (by omega); have w7 : j ≠ S.n + 4 := (by omega); have w8 : j ≠ S.n + 1 + 1 + 1 + 1 + 1 := (by omega); simp [j1, j2, w0, w1, w2, w3, w4, w5, w6, w7, w8])
    · simp (maxSteps := 4000000) (decide := true) [Tells, f__law_step, mFun, b__law_step, mSeq, mPass, mBrk, mCnt, mDrop, mRet, mRetN, mIfS, mRaise, mSet, mAsg, mPar, mPar3, mAug, mFld, mFldAug, gNm, gSub', gFld, gNl, gCn, gTp, setA, putFD, mVar, mC, mB, mU, mTB, mAnd, mOr, mNot, mIf, mAndV, mOrV, mNotV, mChain, mNil, mCons, mTup, mLst, mSl, oNo, oE, mCB, fAbs, fMax2, fMin2, fInt, lenD, fLen, fTuple, fList, itemsD, fIsi, tyD, mAttr, mCall, mMeth, mMake, mBM, tyF, SM.bind, SM.pure, toRS, toRSA, toRST, Y.sb, List.lookup, put_f, put_n, alloc_f, alloc_n, put_put, alloc_put, okI, okB, orF, dSub, dFdiv, dMod, dPow, dShl, dShr, dAnd, dOr, dXor, dNeg, dLt, dLe, dGt, dGe, dIs, ao, am, as, ai, oF, hh, ev_eqS, ev_eqI, ok_halt, ok_set, ok_load, ok_store, ok_add, ok_sub, ok_and, ok_xor, ok_jump, ok_zero, ok_less, ok_out, ok_in, ok_half, ok_from, ok_to, lin_J_halt, lin_J_set, lin_J_load, lin_J_store, lin_J_add, lin_J_sub, lin_J_and, lin_J_xor, lin_J_jump, lin_J_zero, lin_J_less, lin_J_out, lin_J_in, lin_J_half, lin_J_from, lin_J_to, lin_S_halt, lin_S_set, lin_S_load, lin_S_store, lin_S_add, lin_S_sub, lin_S_and, lin_S_xor, lin_S_jump, lin_S_zero, lin_S_less, lin_S_out, lin_S_in, lin_S_half, lin_S_from, lin_S_to, lin_L_halt, lin_L_set, lin_L_load, lin_L_store, lin_L_add, lin_L_sub, lin_L_and, lin_L_xor, lin_L_jump, lin_L_zero, lin_L_less, lin_L_out, lin_L_in, lin_L_half, lin_L_from, lin_L_to, lin_A_halt, lin_A_set, lin_A_load, lin_A_store, lin_A_add, lin_A_sub, lin_A_and, lin_A_xor, lin_A_jump, lin_A_zero, lin_A_less, lin_A_out, lin_A_in, lin_A_half, lin_A_from, lin_A_to, dAdd, catL, addS, dIx, ixSeq, ixTxt, ixDic, dicAt, keyD, look_cons, look_nil, putD, Y.putAt, putSeq, putDic, mDisp, evP, keysP, mergeD, z3, z4, q1, q2, q3, q4, q5, r1, r2, r3, r4, r5, op_iff, ownAt_iff, AwayO, stepP, List.map_append, hz0, slD, cut_tail, at2, v0, v1, v2, v3, v4, v5, v6, v7, v8, v9, v10, v11, v12, v13, v14, v15, v16, v17, v18, v19, v20, v21, v22, v23, v24, v25, v26, v27, v28, v29, v30, v31, v32, v33, v34, v35, v36, v37, v38, v39, v40, v41, v42, v43, v44, v45, v46, v47, v48, v49, v50, v51, v52, v53, v54, v55, v56, v57, v58, v59, v60, v61, v62, v63, m1, m4]
      refine ⟨_, _, ?_, ⟨⟨rfl, rfl⟩, ?_, ?_⟩, ?_, ?_⟩
      · omega
      · simp [q1, q2, q3, q4, q5, q6, q7, q8, q9, r1, r2, r3, r4, r5, am, as, ai, v0, v1, v2, v3, v4, v5, v6, v7, v8, v9, v10, v11, v12, v13, v14, v15, v16, v17, v18, v19, v20, v21, v22, v23, v24, v25, v26, v27, v28, v29, v30, v31, v32, v33, v34, v35, v36, v37, v38, v39, v40, v41, v42, v43, v44, v45, v46, v47, v48, v49, v50, v51, v52, v53, v54, v55, v56, v57, v58, v59, v60, v61, v62, v63]
      · simp [q1, q2, q3, q4, q5, q6, q7, q8, q9, r1, r2, r3, r4, r5, am, as, ai, v0, v1, v2, v3, v4, v5, v6, v7, v8, v9, v10, v11, v12, v13, v14, v15, v16, v17, v18, v19, v20, v21, v22, v23, v24, v25, v26, v27, v28, v29, v30, v31, v32, v33, v34, v35, v36, v37, v38, v39, v40, v41, v42, v43, v44, v45, v46, v47, v48, v49, v50, v51, v52, v53, v54, v55, v56, v57, v58, v59, v60, v61, v62, v63]
      · omega
      · first
        | (intro j hj j1 j2; have w0 : j ≠ S.n := (by omega); have w1 : j ≠ S.n + 1 := (by omega); have w2 : j ≠ S.n + 1 + 1 := (by omega); have w3 : j ≠ S.n + 1 + 1 + 1 := (by omega); have w4 : j ≠ S.n + 1 + 1 + 1 + 1 := (by omega); have w5 : j ≠ S.n + 2 := (by omega); have w6 : j ≠ S.n + 3 := (by omega); have w7 : j ≠ S.n + 4 := (by omega); have w8 : j ≠ S.n + 1 + 1 + 1 + 1 + 1 := (by omega); simp [j1, j2, w0, w1, w2, w3, w4, w5, w6, w7, w8])
        | (refine ⟨by omega, ?_⟩; intro j hj j1 j2; have w0 : j ≠ S.n := (by omega); have w1 : j ≠ S.n + 1 := (by omega); have w2 : j ≠ S.n + 1 + 1 := (by omega); have w3 : j ≠ S.n + 1 + 1 + 1 := (by omega); have w4 : j ≠ S.n + 1 + 1 + 1 + 1 := (by omega); have w5 : j ≠ S.n + 2 := (by omega); have w6 : j ≠ S.n + 3 := (by omega); have w7 : j ≠ S.n + 4 := (by omega); have w8 : j ≠ S.n + 1 + 1 + 1 + 1 + 1 := (by omega); simp [j1, j2, w0, w1, w2, w3, w4, w5, w6, w7, w8])
    · simp (maxSteps := 4000000) (decide := true) [Tells, f__law_step, mFun, b__law_step, mSeq, mPass, mBrk, mCnt, mDrop, mRet, mRetN, mIfS, mRaise, mSet, mAsg, mPar, mPar3, mAug, mFld, mFldAug, gNm, gSub', gFld, gNl, gCn, gTp, setA, putFD, mVar, mC, mB, mU, mTB, mAnd, mOr, mNot, mIf, mAndV, mOrV, mNotV, mChain, mNil, mCons, mTup, mLst, mSl, oNo, oE, mCB, fAbs, fMax2, fMin2, fInt, lenD, fLen, fTuple, fList, itemsD, fIsi, tyD, mAttr, mCall, mMeth, mMake, mBM, tyF, SM.bind, SM.pure, toRS, toRSA, toRST, Y.sb, List.lookup, put_f, put_n, alloc_f, alloc_n, put_put, alloc_put, okI, okB, orF, dSub, dFdiv, dMod, dPow, dShl, dShr, dAnd, dOr, dXor, dNeg, dLt, dLe, dGt, dGe, dIs, ao, am, as, ai, oF, hh, ev_eqS, ev_eqI, ok_halt, ok_set, ok_load, ok_store, ok_add, ok_sub, ok_and, ok_xor, ok_jump, ok_zero, ok_less, ok_out, ok_in, ok_half, ok_from, ok_to, lin_J_halt, lin_J_set, lin_J_load, lin_J_store, lin_J_add, lin_J_sub, lin_J_and, lin_J_xor, lin_J_jump, lin_J_zero, lin_J_less, lin_J_out, lin_J_in, lin_J_half, lin_J_from, lin_J_to, lin_S_halt, lin_S_set, lin_S_load, lin_S_store, lin_S_add, lin_S_sub, lin_S_and, lin_S_xor, lin_S_jump, lin_S_zero, lin_S_less, lin_S_out, lin_S_in, lin_S_half, lin_S_from, lin_S_to, lin_L_halt, lin_L_set, lin_L_load, lin_L_store, lin_L_add, lin_L_sub, lin_L_and, lin_L_xor, lin_L_jump, lin_L_zero, lin_L_less, lin_L_out, lin_L_in, lin_L_half, lin_L_from, lin_L_to, lin_A_halt, lin_A_set, lin_A_load, lin_A_store, lin_A_add, lin_A_sub, lin_A_and, lin_A_xor, lin_A_jump, lin_A_zero, lin_A_less, lin_A_out, lin_A_in, lin_A_half, lin_A_from, lin_A_to, dAdd, catL, addS, dIx, ixSeq, ixTxt, ixDic, dicAt, keyD, look_cons, look_nil, putD, Y.putAt, putSeq, putDic, mDisp, evP, keysP, mergeD, z3, z4, q1, q2, q3, q4, q5, r1, r2, r3, r4, r5, op_iff, ownAt_iff, AwayO, stepP, List.map_append, hz0, slD, cut_tail, at2, v0, v1, v2, v3, v4, v5, v6, v7, v8, v9, v10, v11, v12, v13, v14, v15, v16, v17, v18, v19, v20, v21, v22, v23, v24, v25, v26, v27, v28, v29, v30, v31, v32, v33, v34, v35, v36, v37, v38, v39, v40, v41, v42, v43, v44, v45, v46, v47, v48, v49, v50, v51, v52, v53, v54, v55, v56, v57, v58, v59, v60, v61, v62, v63, m1, m4]
      refine ⟨_, _, ?_, ⟨⟨rfl, rfl⟩, ?_, ?_⟩, ?_, ?_⟩
      · omega
      · simp [q1, q2, q3, q4, q5, q6, q7, q8, q9, r1, r2, r3, r4, r5, am, as, ai, v0, v1, v2, v3, v4, v5, v6, v7, v8, v9, v10, v11, v12, v13, v14, v15, v16, v17, v18, v19, v20, v21, v22, v23, v24, v25, v26, v27, v28, v29, v30, v31, v32, v33, v34, v35, v36, v37, v38, v39, v40, v41, v42, v43, v44, v45, v46, v47, v48, v49, v50, v51, v52, v53, v54, v55, v56, v57, v58, v59, v60, v61, v62, v63]
      · simp [q1, q2, q3, q4, q5, q6, q7, q8, q9, r1, r2, r3, r4, r5, am, as, ai, v0, v1, v2, v3, v4, v5, v6, v7, v8, v9, v10, v11, v12, v13, v14, v15, v16, v17, v18, v19, v20, v21, v22, v23, v24, v25, v26, v27, v28, v29, v30, v31, v32, v33, v34, v35, v36, v37, v38, v39, v40, v41, v42, v43, v44, v45, v46, v47, v48, v49, v50, v51, v52, v53, v54, v55, v56, v57, v58, v59, v60, v61, v62, v63]
      · omega
      · first
        | (intro j hj j1 j2; have w0 : j ≠ S.n := (by omega); have w1 : j ≠ S.n + 1 := (by omega); have w2 : j ≠ S.n + 1 + 1 := (by omega); have w3 : j ≠ S.n + 1 + 1 + 1 := (by omega); have w4 : j ≠ S.n + 1 + 1 + 1 + 1 := (by omega); have w5 : j ≠ S.n + 2 := (by omega); have w6 : j ≠ S.n + 3 := (by omega); have w7 : j ≠ S.n + 4 := (by omega); have w8 : j ≠ S.n + 1 + 1 + 1 + 1 + 1 := (by omega); simp [j1, j2, w0, w1, w2, w3, w4, w5, w6, w7, w8])
        | (refine ⟨by omega, ?_⟩; intro j hj j1 j2; have w0 : j ≠ S.n := (by omega); have w1 : j ≠ S.n + 1 := (by omega); have w2 : j ≠ S.n + 1 + 1 := (by omega); have w3 : j ≠ S.n + 1 + 1 + 1 := (by omega); have w4 : j ≠ S.n + 1 + 1 + 1 + 1 := (by omega); have w5 : j ≠ S.n + 2 := (by omega); have w6 : j ≠ S.n + 3 := (by omega); have w7 : j ≠ S.n + 4 := (by omega); have w8 : j ≠ S.n + 1 + 1 + 1 + 1 + 1 := (by omega); simp [j1, j2, w0, w1, w2, w3, w4, w5, w6, w7, w8])
    · simp (maxSteps := 4000000) (decide := true) [Tells, f__law_step, mFun, b__law_step, mSeq, mPass, mBrk, mCnt, mDrop, mRet, mRetN, mIfS, mRaise, mSet, mAsg, mPar, mPar3, mAug, mFld, mFldAug, gNm, gSub', gFld, gNl, gCn, gTp, setA, putFD, mVar, mC, mB, mU, mTB, mAnd, mOr, mNot, mIf, mAndV, mOrV, mNotV, mChain, mNil, mCons, mTup, mLst, mSl, oNo, oE, mCB, fAbs, fMax2, fMin2, fInt, lenD, fLen, fTuple, fList, itemsD, fIsi, tyD, mAttr, mCall, mMeth, mMake, mBM, tyF, SM.bind, SM.pure, toRS, toRSA, toRST, Y.sb, List.lookup, put_f, put_n, alloc_f, alloc_n, put_put, alloc_put, okI, okB, orF, dSub, dFdiv, dMod, dPow, dShl, dShr, dAnd, dOr, dXor, dNeg, dLt, dLe, dGt, dGe, dIs, ao, am, as, ai, oF, hh, ev_eqS, ev_eqI, ok_halt, ok_set, ok_load, ok_store, ok_add, ok_sub, ok_and, ok_xor, ok_jump, ok_zero, ok_less, ok_out, ok_in, ok_half, ok_from, ok_to, lin_J_halt, lin_J_set, lin_J_load, lin_J_store, lin_J_add, lin_J_sub, lin_J_and, lin_J_xor, lin_J_jump, lin_J_zero, lin_J_less, lin_J_out, lin_J_in, lin_J_half, lin_J_from, lin_J_to, lin_S_halt, lin_S_set, lin_S_load, lin_S_store, lin_S_add, lin_S_sub, lin_S_and, lin_S_xor, lin_S_jump, lin_S_zero, lin_S_less, lin_S_out, lin_S_in, lin_S_half, lin_S_from, lin_S_to, lin_L_halt, lin_L_set, lin_L_load, lin_L_store, lin_L_add, lin_L_sub, lin_L_and, lin_L_xor, lin_L_jump, lin_L_zero, lin_L_less, lin_L_out, lin_L_in, lin_L_half, lin_L_from, lin_L_to, lin_A_halt, lin_A_set, lin_A_load, lin_A_store, lin_A_add, lin_A_sub, lin_A_and, lin_A_xor, lin_A_jump, lin_A_zero, lin_A_less, lin_A_out, lin_A_in, lin_A_half, lin_A_from, lin_A_to, dAdd, catL, addS, dIx, ixSeq, ixTxt, ixDic, dicAt, keyD, look_cons, look_nil, putD, Y.putAt, putSeq, putDic, mDisp, evP, keysP, mergeD, z3, z4, q1, q2, q3, q4, q5, r1, r2, r3, r4, r5, op_iff, ownAt_iff, AwayO, stepP, List.map_append, hz0, slD, cut_tail, at2, v0, v1, v2, v3, v4, v5, v6, v7, v8, v9, v10, v11, v12, v13, v14, v15, v16, v17, v18, v19, v20, v21, v22, v23, v24, v25, v26, v27, v28, v29, v30, v31, v32, v33, v34, v35, v36, v37, v38, v39, v40, v41, v42, v43, v44, v45, v46, v47, v48, v49, v50, v51, v52, v53, v54, v55, v56, v57, v58, v59, v60, v61, v62, v63, m1, m4, n1]
      refine ⟨_, _, ?_, ⟨⟨rfl, rfl⟩, ?_, ?_⟩, ?_, ?_⟩
      · omega
      · simp [q1, q2, q3, q4, q5, q6, q7, q8, q9, r1, r2, r3, r4, r5, am, as, ai, v0, v1, v2, v3, v4, v5, v6, v7, v8, v9, v10, v11, v12, v13, v14, v15, v16, v17, v18, v19, v20, v21, v22, v23, v24, v25, v26, v27, v28, v29, v30, v31, v32, v33, v34, v35, v36, v37, v38, v39, v40, v41, v42, v43, v44, v45, v46, v47, v48, v49, v50, v51, v52, v53, v54, v55, v56, v57, v58, v59, v60, v61, v62, v63]
      · simp [q1, q2, q3, q4, q5, q6, q7, q8, q9, r1, r2, r3, r4, r5, am, as, ai, v0, v1, v2, v3, v4, v5, v6, v7, v8, v9, v10, v11, v12, v13, v14, v15, v16, v17, v18, v19, v20, v21, v22, v23, v24, v25, v26, v27, v28, v29, v30, v31, v32, v33, v34, v35, v36, v37, v38, v39, v40, v41, v42, v43, v44, v45, v46, v47, v48, v49, v50, v51, v52, v53, v54, v55, v56, v57, v58, v59, v60, v61, v62, v63]
      · omega
      · first
        | (intro j hj j1 j2; have w0 : j ≠ S.n := (by omega); have w1 : j ≠ S.n + 1 := (by omega); have w2 : j ≠ S.n + 1 + 1 := (by omega); have w3 : j ≠ S.n + 1 + 1 + 1 := (by omega); have w4 : j ≠ S.n + 1 + 1 + 1 + 1 := (by omega); have w5 : j ≠ S.n + 2 := (by omega); have w6 : j ≠ S.n + 3 := (by omega); have w7 : j ≠ S.n + 4 := (by omega); have w8 : j ≠ S.n + 1 + 1 + 1 + 1 + 1 := (by omega); simp [j1, j2, w0, w1, w2, w3, w4, w5, w6, w7, w8])
        | (refine ⟨by omega, ?_⟩; intro j hj j1 j2; have w0 : j ≠ S.n := (by omega); have w1 : j ≠ S.n + 1 := (by omega); have w2 : j ≠ S.n + 1 + 1 := (by omega); have w3 : j ≠ S.n + 1 + 1 + 1 := (by omega); have w4 : j ≠ S.n + 1 + 1 + 1 + 1 := (by omega); have w5 : j ≠ S.n + 2 := (by omega); have w6 : j ≠ S.n + 3 := (by omega); have w7 : j ≠ S.n + 4 := (by omega); have w8 : j ≠ S.n + 1 + 1 + 1 + 1 + 1 := (by omega); simp [j1, j2, w0, w1, w2, w3, w4, w5, w6, w7, w8])
    · simp (maxSteps := 4000000) (decide := true) [Tells, f__law_step, mFun, b__law_step, mSeq, mPass, mBrk, mCnt, mDrop, mRet, mRetN, mIfS, mRaise, mSet, mAsg, mPar, mPar3, mAug, mFld, mFldAug, gNm, gSub', gFld, gNl, gCn, gTp, setA, putFD, mVar, mC, mB, mU, mTB, mAnd, mOr, mNot, mIf, mAndV, mOrV, mNotV, mChain, mNil, mCons, mTup, mLst, mSl, oNo, oE, mCB, fAbs, fMax2, fMin2, fInt, lenD, fLen, fTuple, fList, itemsD, fIsi, tyD, mAttr, mCall, mMeth, mMake, mBM, tyF, SM.bind, SM.pure, toRS, toRSA, toRST, Y.sb, List.lookup, put_f, put_n, alloc_f, alloc_n, put_put, alloc_put, okI, okB, orF, dSub, dFdiv, dMod, dPow, dShl, dShr, dAnd, dOr, dXor, dNeg, dLt, dLe, dGt, dGe, dIs, ao, am, as, ai, oF, hh, ev_eqS, ev_eqI, ok_halt, ok_set, ok_load, ok_store, ok_add, ok_sub, ok_and, ok_xor, ok_jump, ok_zero, ok_less, ok_out, ok_in, ok_half, ok_from, ok_to, lin_J_halt, lin_J_set, lin_J_load, lin_J_store, lin_J_add, lin_J_sub, lin_J_and, lin_J_xor, lin_J_jump, lin_J_zero, lin_J_less, lin_J_out, lin_J_in, lin_J_half, lin_J_from, lin_J_to, lin_S_halt, lin_S_set, lin_S_load, lin_S_store, lin_S_add, lin_S_sub, lin_S_and, lin_S_xor, lin_S_jump, lin_S_zero, lin_S_less, lin_S_out, lin_S_in, lin_S_half, lin_S_from, lin_S_to, lin_L_halt, lin_L_set, lin_L_load, lin_L_store, lin_L_add, lin_L_sub, lin_L_and, lin_L_xor, lin_L_jump, lin_L_zero, lin_L_less, lin_L_out, lin_L_in, lin_L_half, lin_L_from, lin_L_to, lin_A_halt, lin_A_set, lin_A_load, lin_A_store, lin_A_add, lin_A_sub, lin_A_and, lin_A_xor, lin_A_jump, lin_A_zero, lin_A_less, lin_A_out, lin_A_in, lin_A_half, lin_A_from, lin_A_to, dAdd, catL, addS, dIx, ixSeq, ixTxt, ixDic, dicAt, keyD, look_cons, look_nil, putD, Y.putAt, putSeq, putDic, mDisp, evP, keysP, mergeD, z3, z4, q1, q2, q3, q4, q5, r1, r2, r3, r4, r5, op_iff, ownAt_iff, AwayO, stepP, List.map_append, hz0, slD, cut_tail, at2, v0, v1, v2, v3, v4, v5, v6, v7, v8, v9, v10, v11, v12, v13, v14, v15, v16, v17, v18, v19, v20, v21, v22, v23, v24, v25, v26, v27, v28, v29, v30, v31, v32, v33, v34, v35, v36, v37, v38, v39, v40, v41, v42, v43, v44, v45, v46, v47, v48, v49, v50, v51, v52, v53, v54, v55, v56, v57, v58, v59, v60, v61, v62, v63, m1, m4, n4]
      refine ⟨_, _, ?_, ⟨⟨rfl, rfl⟩, ?_, ?_⟩, ?_, ?_⟩
      · omega
      · simp [q1, q2, q3, q4, q5, q6, q7, q8, q9, r1, r2, r3, r4, r5, am, as, ai, v0, v1, v2, v3, v4, v5, v6, v7, v8, v9, v10, v11, v12, v13, v14, v15, v16, v17, v18, v19, v20, v21, v22, v23, v24, v25, v26, v27, v28, v29, v30, v31, v32, v33, v34, v35, v36, v37, v38, v39, v40, v41, v42, v43, v44, v45, v46, v47, v48, v49, v50, v51, v52, v53, v54, v55, v56, v57, v58, v59, v60, v61, v62, v63]
      · simp [q1, q2, q3, q4, q5, q6, q7, q8, q9, r1, r2, r3, r4, r5, am, as, ai, v0, v1, v2, v3, v4, v5, v6, v7, v8, v9, v10, v11, v12, v13, v14, v15, v16, v17, v18, v19, v20, v21, v22, v23, v24, v25, v26, v27, v28, v29, v30, v31, v32, v33, v34, v35, v36, v37, v38, v39, v40, v41, v42, v43, v44, v45, v46, v47, v48, v49, v50, v51, v52, v53, v54, v55, v56, v57, v58, v59, v60, v61, v62, v63]
      · omega
      · first
        | (intro j hj j1 j2; have w0 : j ≠ S.n := (by omega); have w1 : j ≠ S.n + 1 := (by omega); have w2 : j ≠ S.n + 1 + 1 := (by omega); have w3 : j ≠ S.n + 1 + 1 + 1 := (by omega); have w4 : j ≠ S.n + 1 + 1 + 1 + 1 := (by omega); have w5 : j ≠ S.n + 2 := (by omega); have w6 : j ≠ S.n + 3 := (by omega); have w7 : j ≠ S.n + 4 := (by omega); have w8 : j ≠ S.n + 1 + 1 + 1 + 1 + 1 := (by omega); simp [j1, j2, w0, w1, w2, w3, w4, w5, w6, w7, w8])
        | (refine ⟨by omega, ?_⟩; intro j hj j1 j2; have w0 : j ≠ S.n := (by omega); have w1 : j ≠ S.n + 1 := (by omega); have w2 : j ≠ S.n + 1 + 1 := (by omega); have w3 : j ≠ S.n + 1 + 1 + 1 := (by omega); have w4 : j ≠ S.n + 1 + 1 + 1 + 1 := (by omega); have w5 : j ≠ S.n + 2 := (by omega); have w6 : j ≠ S.n + 3 := (by omega); have w7 : j ≠ S.n + 4 := (by omega); have w8 : j ≠ S.n + 1 + 1 + 1 + 1 + 1 := (by omega); simp [j1, j2, w0, w1, w2, w3, w4, w5, w6, w7, w8])
end
end K10

set_option Elab.async false
set_option linter.all false
set_option maxRecDepth 100000
set_option maxHeartbeats 4000000
namespace K10
open PySem L2 Y
def ixW (w : Str) : Nat := if w = "halt" then 0 else if w = "set" then 1 else if w = "load" then 2 else if w = "store" then 3 else if w = "add" then 4 else if w = "sub" then 5 else if w = "and" then 6 else if w = "xor" then 7 else if w = "jump" then 8 else if w = "zero" then 9 else if w = "less" then 10 else if w = "out" then 11 else if w = "in" then 12 else if w = "half" then 13 else if w = "from" then 14 else if w = "to" then 15 else 99
def Word (w : Str) : Prop := w = "halt" ∨ w = "set" ∨ w = "load" ∨ w = "store" ∨ w = "add" ∨ w = "sub" ∨ w = "and" ∨ w = "xor" ∨ w = "jump" ∨ w = "zero" ∨ w = "less" ∨ w = "out" ∨ w = "in" ∨ w = "half" ∨ w = "from" ∨ w = "to"
theorem ai_halt : atI [.str "halt", .str "set", .str "load", .str "store", .str "add", .str "sub", .str "and", .str "xor", .str "jump", .str "zero", .str "less", .str "out", .str "in", .str "half", .str "from", .str "to"] 0 = some (D.str "halt") := by rfl
theorem ai_set : atI [.str "halt", .str "set", .str "load", .str "store", .str "add", .str "sub", .str "and", .str "xor", .str "jump", .str "zero", .str "less", .str "out", .str "in", .str "half", .str "from", .str "to"] 1 = some (D.str "set") := by rfl
theorem ai_load : atI [.str "halt", .str "set", .str "load", .str "store", .str "add", .str "sub", .str "and", .str "xor", .str "jump", .str "zero", .str "less", .str "out", .str "in", .str "half", .str "from", .str "to"] 2 = some (D.str "load") := by rfl
theorem ai_store : atI [.str "halt", .str "set", .str "load", .str "store", .str "add", .str "sub", .str "and", .str "xor", .str "jump", .str "zero", .str "less", .str "out", .str "in", .str "half", .str "from", .str "to"] 3 = some (D.str "store") := by rfl
theorem ai_add : atI [.str "halt", .str "set", .str "load", .str "store", .str "add", .str "sub", .str "and", .str "xor", .str "jump", .str "zero", .str "less", .str "out", .str "in", .str "half", .str "from", .str "to"] 4 = some (D.str "add") := by rfl
theorem ai_sub : atI [.str "halt", .str "set", .str "load", .str "store", .str "add", .str "sub", .str "and", .str "xor", .str "jump", .str "zero", .str "less", .str "out", .str "in", .str "half", .str "from", .str "to"] 5 = some (D.str "sub") := by rfl
theorem ai_and : atI [.str "halt", .str "set", .str "load", .str "store", .str "add", .str "sub", .str "and", .str "xor", .str "jump", .str "zero", .str "less", .str "out", .str "in", .str "half", .str "from", .str "to"] 6 = some (D.str "and") := by rfl
theorem ai_xor : atI [.str "halt", .str "set", .str "load", .str "store", .str "add", .str "sub", .str "and", .str "xor", .str "jump", .str "zero", .str "less", .str "out", .str "in", .str "half", .str "from", .str "to"] 7 = some (D.str "xor") := by rfl
theorem ai_jump : atI [.str "halt", .str "set", .str "load", .str "store", .str "add", .str "sub", .str "and", .str "xor", .str "jump", .str "zero", .str "less", .str "out", .str "in", .str "half", .str "from", .str "to"] 8 = some (D.str "jump") := by rfl
theorem ai_zero : atI [.str "halt", .str "set", .str "load", .str "store", .str "add", .str "sub", .str "and", .str "xor", .str "jump", .str "zero", .str "less", .str "out", .str "in", .str "half", .str "from", .str "to"] 9 = some (D.str "zero") := by rfl
theorem ai_less : atI [.str "halt", .str "set", .str "load", .str "store", .str "add", .str "sub", .str "and", .str "xor", .str "jump", .str "zero", .str "less", .str "out", .str "in", .str "half", .str "from", .str "to"] 10 = some (D.str "less") := by rfl
theorem ai_out : atI [.str "halt", .str "set", .str "load", .str "store", .str "add", .str "sub", .str "and", .str "xor", .str "jump", .str "zero", .str "less", .str "out", .str "in", .str "half", .str "from", .str "to"] 11 = some (D.str "out") := by rfl
theorem ai_in : atI [.str "halt", .str "set", .str "load", .str "store", .str "add", .str "sub", .str "and", .str "xor", .str "jump", .str "zero", .str "less", .str "out", .str "in", .str "half", .str "from", .str "to"] 12 = some (D.str "in") := by rfl
theorem ai_half : atI [.str "halt", .str "set", .str "load", .str "store", .str "add", .str "sub", .str "and", .str "xor", .str "jump", .str "zero", .str "less", .str "out", .str "in", .str "half", .str "from", .str "to"] 13 = some (D.str "half") := by rfl
theorem ai_from : atI [.str "halt", .str "set", .str "load", .str "store", .str "add", .str "sub", .str "and", .str "xor", .str "jump", .str "zero", .str "less", .str "out", .str "in", .str "half", .str "from", .str "to"] 14 = some (D.str "from") := by rfl
theorem ai_to : atI [.str "halt", .str "set", .str "load", .str "store", .str "add", .str "sub", .str "and", .str "xor", .str "jump", .str "zero", .str "less", .str "out", .str "in", .str "half", .str "from", .str "to"] 15 = some (D.str "to") := by rfl
def bitsOf (d k : Nat) (w : Str) : Nat := if w = "halt" ∨ w = "out" ∨ w = "in" ∨ w = "half" then 0 else if w = "jump" ∨ w = "zero" ∨ w = "less" then k else d
theorem valid_iff {d k : Nat} {w : Str} {n : Int} (h : Valid d k w n) : Word w ∧ 0 ≤ n ∧ n < 2 ^ bitsOf d k w := by
  rcases h with ⟨rfl | rfl | rfl | rfl, rfl⟩ | ⟨rfl | rfl | rfl, h0, h1⟩ | ⟨rfl | rfl | rfl | rfl | rfl | rfl | rfl | rfl | rfl, h0, h1⟩ <;> refine ⟨by simp [Word], ?_⟩ <;> simp (decide := true) [bitsOf] <;> exact ⟨h0, h1⟩
theorem iff_valid {d k : Nat} {w : Str} {n : Int} (hw : Word w) (h0 : 0 ≤ n) (h1 : n < 2 ^ bitsOf d k w) : Valid d k w n := by
  rcases hw with rfl | rfl | rfl | rfl | rfl | rfl | rfl | rfl | rfl | rfl | rfl | rfl | rfl | rfl | rfl | rfl <;> simp (decide := true) [bitsOf] at h1 <;> simp (decide := true) [Valid] <;> omega
theorem atT2 {a b : D} : atI [a, b] 0 = some a ∧ atI [a, b] 1 = some b := ⟨rfl, rfl⟩
theorem kitInt : kitB "int" "int" = some true := by decide +kernel
section
variable {S : Sr} {iz : Nat} {d k : Nat} {w : Str} {n : Int}
theorem e_check (hz : S.f iz = some (.ins "Size" (sF d k))) (hd : d ≤ 8) (hk : k ≤ 8) (hw : Word w) : f_check_instruction [.tup [.str w, .int n], .adr iz] S = if 0 ≤ n ∧ n < 2 ^ bitsOf d k w then .ok .non S else .exc "CodeError" S := by
  have z1 := pw1 hd
  have z2 := pw1 hk
  have z0 : powB 1 0 = true := by decide
  by_cases h0 : 0 ≤ n
  · by_cases h1 : n < 2 ^ bitsOf d k w
    · rw [if_pos ⟨h0, h1⟩]
      rcases hw with rfl | rfl | rfl | rfl | rfl | rfl | rfl | rfl | rfl | rfl | rfl | rfl | rfl | rfl | rfl | rfl
      all_goals
        simp (decide := true) [bitsOf] at h1
        simp (maxSteps := 4000000) (decide := true)  [f_check_instruction, mFun, b_check_instruction, mSeq, mPass, mBrk, mCnt, mDrop, mRet, mRetN, mIfS, mRaise, mSet, mAsg, mPar, mPar3, mAug, mFld, mFldAug, gNm, gSub', gFld, gNl, gCn, gTp, setA, putFD, mVar, mC, mB, mU, mTB, mAnd, mOr, mNot, mIf, mAndV, mOrV, mNotV, mChain, mNil, mCons, mTup, mLst, mSl, oNo, oE, mCB, fAbs, fMax2, fMin2, fInt, lenD, fLen, fTuple, fList, itemsD, fIsi, tyD, mAttr, mCall, mMeth, mMake, mBM, tyF, SM.bind, SM.pure, toRS, toRSA, toRST, Y.sb, List.lookup, put_f, put_n, alloc_f, alloc_n, put_put, alloc_put, okI, okB, orF, dSub, dFdiv, dMod, dPow, dShl, dShr, dAnd, dOr, dXor, dNeg, dLt, dLe, dGt, dGe, dIs, hz, sF, dIx, ixSeq, atT2, ev_neI, in_J_halt, in_J_set, in_J_load, in_J_store, in_J_add, in_J_sub, in_J_and, in_J_xor, in_J_jump, in_J_zero, in_J_less, in_J_out, in_J_in, in_J_half, in_J_from, in_J_to, in_P_halt, in_P_set, in_P_load, in_P_store, in_P_add, in_P_sub, in_P_and, in_P_xor, in_P_jump, in_P_zero, in_P_less, in_P_out, in_P_in, in_P_half, in_P_from, in_P_to, nin_I_halt, nin_I_set, nin_I_load, nin_I_store, nin_I_add, nin_I_sub, nin_I_and, nin_I_xor, nin_I_jump, nin_I_zero, nin_I_less, nin_I_out, nin_I_in, nin_I_half, nin_I_from, nin_I_to, z0, z1, z2, h0, h1, kitInt]
    · rw [if_neg fun z => h1 z.2]
      rcases hw with rfl | rfl | rfl | rfl | rfl | rfl | rfl | rfl | rfl | rfl | rfl | rfl | rfl | rfl | rfl | rfl
      all_goals
        simp (decide := true) [bitsOf] at h1
        have h2 := Int.not_lt.mpr h1
        simp (maxSteps := 4000000) (decide := true)  [f_check_instruction, mFun, b_check_instruction, mSeq, mPass, mBrk, mCnt, mDrop, mRet, mRetN, mIfS, mRaise, mSet, mAsg, mPar, mPar3, mAug, mFld, mFldAug, gNm, gSub', gFld, gNl, gCn, gTp, setA, putFD, mVar, mC, mB, mU, mTB, mAnd, mOr, mNot, mIf, mAndV, mOrV, mNotV, mChain, mNil, mCons, mTup, mLst, mSl, oNo, oE, mCB, fAbs, fMax2, fMin2, fInt, lenD, fLen, fTuple, fList, itemsD, fIsi, tyD, mAttr, mCall, mMeth, mMake, mBM, tyF, SM.bind, SM.pure, toRS, toRSA, toRST, Y.sb, List.lookup, put_f, put_n, alloc_f, alloc_n, put_put, alloc_put, okI, okB, orF, dSub, dFdiv, dMod, dPow, dShl, dShr, dAnd, dOr, dXor, dNeg, dLt, dLe, dGt, dGe, dIs, hz, sF, dIx, ixSeq, atT2, ev_neI, in_J_halt, in_J_set, in_J_load, in_J_store, in_J_add, in_J_sub, in_J_and, in_J_xor, in_J_jump, in_J_zero, in_J_less, in_J_out, in_J_in, in_J_half, in_J_from, in_J_to, in_P_halt, in_P_set, in_P_load, in_P_store, in_P_add, in_P_sub, in_P_and, in_P_xor, in_P_jump, in_P_zero, in_P_less, in_P_out, in_P_in, in_P_half, in_P_from, in_P_to, nin_I_halt, nin_I_set, nin_I_load, nin_I_store, nin_I_add, nin_I_sub, nin_I_and, nin_I_xor, nin_I_jump, nin_I_zero, nin_I_less, nin_I_out, nin_I_in, nin_I_half, nin_I_from, nin_I_to, z0, z1, z2, h0, h2, kitInt]
  · rw [if_neg fun z => h0 z.1]
    rcases hw with rfl | rfl | rfl | rfl | rfl | rfl | rfl | rfl | rfl | rfl | rfl | rfl | rfl | rfl | rfl | rfl
    all_goals
      simp (maxSteps := 4000000) (decide := true)  [f_check_instruction, mFun, b_check_instruction, mSeq, mPass, mBrk, mCnt, mDrop, mRet, mRetN, mIfS, mRaise, mSet, mAsg, mPar, mPar3, mAug, mFld, mFldAug, gNm, gSub', gFld, gNl, gCn, gTp, setA, putFD, mVar, mC, mB, mU, mTB, mAnd, mOr, mNot, mIf, mAndV, mOrV, mNotV, mChain, mNil, mCons, mTup, mLst, mSl, oNo, oE, mCB, fAbs, fMax2, fMin2, fInt, lenD, fLen, fTuple, fList, itemsD, fIsi, tyD, mAttr, mCall, mMeth, mMake, mBM, tyF, SM.bind, SM.pure, toRS, toRSA, toRST, Y.sb, List.lookup, put_f, put_n, alloc_f, alloc_n, put_put, alloc_put, okI, okB, orF, dSub, dFdiv, dMod, dPow, dShl, dShr, dAnd, dOr, dXor, dNeg, dLt, dLe, dGt, dGe, dIs, hz, sF, dIx, ixSeq, atT2, ev_neI, in_J_halt, in_J_set, in_J_load, in_J_store, in_J_add, in_J_sub, in_J_and, in_J_xor, in_J_jump, in_J_zero, in_J_less, in_J_out, in_J_in, in_J_half, in_J_from, in_J_to, in_P_halt, in_P_set, in_P_load, in_P_store, in_P_add, in_P_sub, in_P_and, in_P_xor, in_P_jump, in_P_zero, in_P_less, in_P_out, in_P_in, in_P_half, in_P_from, in_P_to, nin_I_halt, nin_I_set, nin_I_load, nin_I_store, nin_I_add, nin_I_sub, nin_I_and, nin_I_xor, nin_I_jump, nin_I_zero, nin_I_less, nin_I_out, nin_I_in, nin_I_half, nin_I_from, nin_I_to, z0, z1, z2, h0, kitInt]
theorem max_of : (if (d : Int) < (k : Int) then (k : Int) else (d : Int)) = ((max d k : Nat) : Int) := by
  by_cases h : (d : Int) < k
  · rw [if_pos h]
    omega
  · rw [if_neg h]
    omega
theorem e_arg (hz : S.f iz = some (.ins "Size" (sF d k))) : f_Size_argument [.adr iz] S = .ok (.int ((max d k : Nat) : Int)) S := by
  rw [← max_of]
  simp (maxSteps := 4000000) (decide := true)  [f_Size_argument, mFun, b_Size_argument, mSeq, mPass, mBrk, mCnt, mDrop, mRet, mRetN, mIfS, mRaise, mSet, mAsg, mPar, mPar3, mAug, mFld, mFldAug, gNm, gSub', gFld, gNl, gCn, gTp, setA, putFD, mVar, mC, mB, mU, mTB, mAnd, mOr, mNot, mIf, mAndV, mOrV, mNotV, mChain, mNil, mCons, mTup, mLst, mSl, oNo, oE, mCB, fAbs, fMax2, fMin2, fInt, lenD, fLen, fTuple, fList, itemsD, fIsi, tyD, mAttr, mCall, mMeth, mMake, mBM, tyF, SM.bind, SM.pure, toRS, toRSA, toRST, Y.sb, List.lookup, put_f, put_n, alloc_f, alloc_n, put_put, alloc_put, okI, okB, orF, dSub, dFdiv, dMod, dPow, dShl, dShr, dAnd, dOr, dXor, dNeg, dLt, dLe, dGt, dGe, dIs, hz, sF]
theorem e_width (hz : S.f iz = some (.ins "Size" (sF d k))) : f_Size_width [.adr iz] S = .ok (.int (4 + ((max d k : Nat) : Int))) S := by
  have e := e_arg hz
  simp (maxSteps := 4000000) (decide := true)  [f_Size_width, mFun, b_Size_width, mSeq, mPass, mBrk, mCnt, mDrop, mRet, mRetN, mIfS, mRaise, mSet, mAsg, mPar, mPar3, mAug, mFld, mFldAug, gNm, gSub', gFld, gNl, gCn, gTp, setA, putFD, mVar, mC, mB, mU, mTB, mAnd, mOr, mNot, mIf, mAndV, mOrV, mNotV, mChain, mNil, mCons, mTup, mLst, mSl, oNo, oE, mCB, fAbs, fMax2, fMin2, fInt, lenD, fLen, fTuple, fList, itemsD, fIsi, tyD, mAttr, mCall, mMeth, mMake, mBM, tyF, SM.bind, SM.pure, toRS, toRSA, toRST, Y.sb, List.lookup, put_f, put_n, alloc_f, alloc_n, put_put, alloc_put, okI, okB, orF, dSub, dFdiv, dMod, dPow, dShl, dShr, dAnd, dOr, dXor, dNeg, dLt, dLe, dGt, dGe, dIs, hz, e, dAdd]
  simp (decide := true) [sF, List.lookup, Y.sb]
end

end K10

set_option Elab.async false
set_option linter.all false
set_option maxRecDepth 100000
set_option maxHeartbeats 4000000
namespace K10
open PySem L2 Y
section
variable {S : Sr} {iz : Nat} {d k : Nat} {w : Str} {n : Int}
theorem pwm (hd : d ≤ 8) (hk : k ≤ 8) (i : Int) (hi : i.natAbs < 2 ^ 64) : powB i ((max d k : Nat) : Int) = true := by
  unfold powB
  exact decide_eq_true ⟨by omega, by omega, hi⟩
theorem bits_max (hw : Word w) : (2 : Int) ^ bitsOf d k w ≤ 2 ^ max d k := by
  have h : bitsOf d k w ≤ max d k := by
    rcases hw with rfl | rfl | rfl | rfl | rfl | rfl | rfl | rfl | rfl | rfl | rfl | rfl | rfl | rfl | rfl | rfl <;> simp (decide := true) [bitsOf] <;> omega
  exact_mod_cast Nat.pow_le_pow_right (n := 2) (by decide) h
theorem e_enc (hz : S.f iz = some (.ins "Size" (sF d k))) (hd : d ≤ 8) (hk : k ≤ 8) (hw : Word w) (h0 : 0 ≤ n) (h1 : n < 2 ^ bitsOf d k w) : f_encoded [.tup [.str w, .int n], .adr iz] S = .ok (.int ((ixW w : Int) * 2 ^ (max d k) + n)) S := by
  have e1 := e_check (n := n) hz hd hk hw
  rw [if_pos ⟨h0, h1⟩] at e1
  have e2 := e_arg hz
  have lk : List.lookup ("argument" : Str) (sF d k) = none := by rfl
  rcases hw with rfl | rfl | rfl | rfl | rfl | rfl | rfl | rfl | rfl | rfl | rfl | rfl | rfl | rfl | rfl | rfl
  all_goals
    simp (maxSteps := 4000000) (decide := true) [f_encoded, mFun, b_encoded, mSeq, mPass, mBrk, mCnt, mDrop, mRet, mRetN, mIfS, mRaise, mSet, mAsg, mPar, mPar3, mAug, mFld, mFldAug, gNm, gSub', gFld, gNl, gCn, gTp, setA, putFD, mVar, mC, mB, mU, mTB, mAnd, mOr, mNot, mIf, mAndV, mOrV, mNotV, mChain, mNil, mCons, mTup, mLst, mSl, oNo, oE, mCB, fAbs, fMax2, fMin2, fInt, lenD, fLen, fTuple, fList, itemsD, fIsi, tyD, mAttr, mCall, mMeth, mMake, mBM, tyF, SM.bind, SM.pure, toRS, toRSA, toRST, Y.sb, List.lookup, put_f, put_n, alloc_f, alloc_n, put_put, alloc_put, okI, okB, orF, dSub, dFdiv, dMod, dPow, dShl, dShr, dAnd, dOr, dXor, dNeg, dLt, dLe, dGt, dGe, dIs, hz, e1, e2, lk, dIx, ixSeq, atT2, dAdd, pwm hd hk, ixW, K_INSTRUCTIONS, fTix, strsOf, ixS]
theorem e_dec {c : Int} (hz : S.f iz = some (.ins "Size" (sF d k))) (hd : d ≤ 8) (hk : k ≤ 8) (hw : Word w) (h0 : 0 ≤ n) (h1 : n < 2 ^ bitsOf d k w) (hc : c / 2 ^ max d k = ixW w) (hm : c % 2 ^ max d k = n) (c0 : 0 ≤ c) (c1 : c < 2 ^ (4 + max d k)) :
    f_decoded [.int c, .adr iz] S = .ok (.tup [.str w, .int n]) S := by
  have e1 := e_check (n := n) hz hd hk hw
  rw [if_pos ⟨h0, h1⟩] at e1
  have e2 := e_arg hz
  have e3 := e_width hz
  have lk : List.lookup ("argument" : Str) (sF d k) = none := by rfl
  have lk2 : List.lookup ("width" : Str) (sF d k) = none := by rfl
  obtain ⟨m, em⟩ : ∃ m, m = max d k := ⟨_, rfl⟩
  have hm8 : m ≤ 8 := by omega
  rw [← em] at hc hm c1 e2 e3
  have p1 : powB 1 (m : Int) = true := pw1 hm8
  have p2 : powB 1 (4 + (m : Int)) = true := by
    unfold powB
    exact decide_eq_true ⟨by omega, by omega, by decide⟩
  have tn : (4 + (m : Int)).toNat = 4 + m := by omega
  have mp := pos2 (d := m)
  have sz : 2 ≤ sizeLine := by rw [sizeLine_eq]; omega
  rcases hw with rfl | rfl | rfl | rfl | rfl | rfl | rfl | rfl | rfl | rfl | rfl | rfl | rfl | rfl | rfl | rfl
  all_goals
    simp (decide := true) [ixW] at hc
    simp (maxSteps := 4000000) (decide := true) [f_decoded, mFun, b_decoded, mSeq, mPass, mBrk, mCnt, mDrop, mRet, mRetN, mIfS, mRaise, mSet, mAsg, mPar, mPar3, mAug, mFld, mFldAug, gNm, gSub', gFld, gNl, gCn, gTp, setA, putFD, mVar, mC, mB, mU, mTB, mAnd, mOr, mNot, mIf, mAndV, mOrV, mNotV, mChain, mNil, mCons, mTup, mLst, mSl, oNo, oE, mCB, fAbs, fMax2, fMin2, fInt, lenD, fLen, fTuple, fList, itemsD, fIsi, tyD, mAttr, mCall, mMeth, mMake, mBM, tyF, SM.bind, SM.pure, toRS, toRSA, toRST, Y.sb, List.lookup, put_f, put_n, alloc_f, alloc_n, put_put, alloc_put, okI, okB, orF, dSub, dFdiv, dMod, dPow, dShl, dShr, dAnd, dOr, dXor, dNeg, dLt, dLe, dGt, dGe, dIs, hz, e1, e2, e3, lk, lk2, dIx, ixSeq, atT2, dAdd, p1, p2, tn, mp, K_INSTRUCTIONS, c0, c1, hc, hm, ai_halt, ai_set, ai_load, ai_store, ai_add, ai_sub, ai_and, ai_xor, ai_jump, ai_zero, ai_less, ai_out, ai_in, ai_half, ai_from, ai_to, sz]
/-- what is shown -/
theorem e_shown {p : Mp} {rows : List D} {st : Ms} (a : MacAt S p d k rows st) : f_Machine_shown [.adr p.im] S = .ok (.tup [.int st.acc, .int st.carry, .int st.place, .tup (st.mem.map D.int), .tup (st.sent.map D.int), .bl st.halted]) S := by
  obtain ⟨am, az, ae, ac, as⟩ := a
  have sz : 6 ≤ sizeLine := by rw [sizeLine_eq]; omega
  simp (maxSteps := 4000000) (decide := true) [f_Machine_shown, mFun, b_Machine_shown, mSeq, mPass, mBrk, mCnt, mDrop, mRet, mRetN, mIfS, mRaise, mSet, mAsg, mPar, mPar3, mAug, mFld, mFldAug, gNm, gSub', gFld, gNl, gCn, gTp, setA, putFD, mVar, mC, mB, mU, mTB, mAnd, mOr, mNot, mIf, mAndV, mOrV, mNotV, mChain, mNil, mCons, mTup, mLst, mSl, oNo, oE, mCB, fAbs, fMax2, fMin2, fInt, lenD, fLen, fTuple, fList, itemsD, fIsi, tyD, mAttr, mCall, mMeth, mMake, mBM, tyF, SM.bind, SM.pure, toRS, toRSA, toRST, Y.sb, List.lookup, put_f, put_n, alloc_f, alloc_n, put_put, alloc_put, okI, okB, orF, dSub, dFdiv, dMod, dPow, dShl, dShr, dAnd, dOr, dXor, dNeg, dLt, dLe, dGt, dGe, dIs, am, ae, as, mF, sz]
/-- behind a halt -/
theorem e_halted {p : Mp} {rows : List D} {st : Ms} (a : MacAt S p d k rows st) (hh : st.halted = true) : f_Machine_step [.adr p.im] S = .exc "RunError" S := by
  obtain ⟨am, az, ae, ac, as⟩ := a
  simp (maxSteps := 4000000) (decide := true) [f_Machine_step, mFun, b_Machine_step, mSeq, mPass, mBrk, mCnt, mDrop, mRet, mRetN, mIfS, mRaise, mSet, mAsg, mPar, mPar3, mAug, mFld, mFldAug, gNm, gSub', gFld, gNl, gCn, gTp, setA, putFD, mVar, mC, mB, mU, mTB, mAnd, mOr, mNot, mIf, mAndV, mOrV, mNotV, mChain, mNil, mCons, mTup, mLst, mSl, oNo, oE, mCB, fAbs, fMax2, fMin2, fInt, lenD, fLen, fTuple, fList, itemsD, fIsi, tyD, mAttr, mCall, mMeth, mMake, mBM, tyF, SM.bind, SM.pure, toRS, toRSA, toRST, Y.sb, List.lookup, put_f, put_n, alloc_f, alloc_n, put_put, alloc_put, okI, okB, orF, dSub, dFdiv, dMod, dPow, dShl, dShr, dAnd, dOr, dXor, dNeg, dLt, dLe, dGt, dGe, dIs, am, mF, hh]
end

end K10

set_option Elab.async false
set_option linter.all false
set_option maxRecDepth 100000
set_option maxHeartbeats 4000000
namespace K10
open PySem L2 Y
section
variable {S : Sr} {p : Mp} {d k : Nat} {rows : List D} {st : Ms} {w : Str} {n : Int}
theorem mem_set (ok : MsOk d k st) {i : Nat} : (st.mem.set i st.acc).length = 2 ^ d ∧ ∀ x ∈ st.mem.set i st.acc, 0 ≤ x ∧ x < 2 ^ d := by
  refine ⟨by rw [List.length_set]; exact ok.len, fun x hx => ?_⟩
  rcases List.mem_or_eq_of_mem_set hx with h | h
  · exact ok.mem x h
  · rw [h]
    exact ⟨ok.a0, ok.a1⟩
theorem bit_and {a b : Int} (a0 : 0 ≤ a) (a1 : a < 2 ^ d) (b0 : 0 ≤ b) : 0 ≤ Builtin.bitAnd a b ∧ Builtin.bitAnd a b < 2 ^ d := by
  rw [PyProof.Rows.bitAnd_pp a0 b0]
  have h : a.toNat &&& b.toNat ≤ a.toNat := Nat.and_le_left
  exact ⟨by omega, by omega⟩
theorem bit_xor {a b : Int} (a0 : 0 ≤ a) (a1 : a < 2 ^ d) (b0 : 0 ≤ b) (b1 : b < 2 ^ d) : 0 ≤ Builtin.bitXor a b ∧ Builtin.bitXor a b < 2 ^ d := by
  rw [Bits.bitXor_pp a0 b0]
  have e : ((2 ^ d : Nat) : Int) = 2 ^ d := by push_cast; rfl
  have h : a.toNat ^^^ b.toNat < 2 ^ d := Nat.xor_lt_two_pow (by omega) (by omega)
  exact ⟨by omega, by omega⟩
theorem step_ok (ok : MsOk d k st) (hv : Valid d k w n) : MsOk d k (stepP d k w n st) ∧ (stepP d k w n st).sent.length ≤ st.sent.length + 1 := by
  have z3 := pos2 (d := d)
  have z4 := pos2 (d := k)
  have f0 : 0 ≤ (st.place + 1) % 2 ^ k := Int.emod_nonneg _ (by omega)
  have f1 : (st.place + 1) % 2 ^ k < 2 ^ k := Int.emod_lt_of_pos _ z4
  have g0 : ∀ x : Int, 0 ≤ x % 2 ^ d := fun x => Int.emod_nonneg _ (by omega)
  have g1 : ∀ x : Int, x % 2 ^ d < 2 ^ d := fun x => Int.emod_lt_of_pos _ z3
  obtain ⟨k1, k2, k3, k4, k5, k6⟩ := id ok
  rcases hv with ⟨rfl | rfl | rfl | rfl, rfl⟩ | ⟨rfl | rfl | rfl, h0, h1⟩ | ⟨hw, h0, h1⟩
  · exact ⟨⟨k1, k2, k3, k4, k5, k6⟩, Nat.le_succ _⟩
  · refine ⟨⟨k1, k2, k3, k4, f0, f1⟩, ?_⟩
    show (st.sent ++ [st.acc]).length ≤ _
    simp
  · exact ⟨⟨k1, k2, g0 _, g1 _, f0, f1⟩, Nat.le_succ _⟩
  · refine ⟨⟨k1, k2, ?_, ?_, f0, f1⟩, Nat.le_succ _⟩
    · show 0 ≤ st.acc / 2
      omega
    · show st.acc / 2 < 2 ^ d
      omega
  · exact ⟨⟨k1, k2, k3, k4, h0, h1⟩, Nat.le_succ _⟩
  · refine ⟨⟨k1, k2, k3, k4, ?_, ?_⟩, Nat.le_succ _⟩
    · show 0 ≤ (if st.acc = 0 then n else (st.place + 1) % 2 ^ k)
      split <;> assumption
    · show (if st.acc = 0 then n else (st.place + 1) % 2 ^ k) < 2 ^ k
      split <;> assumption
  · refine ⟨⟨k1, k2, k3, k4, ?_, ?_⟩, Nat.le_succ _⟩
    · show 0 ≤ (if st.carry = 1 then n else (st.place + 1) % 2 ^ k)
      split <;> assumption
    · show (if st.carry = 1 then n else (st.place + 1) % 2 ^ k) < 2 ^ k
      split <;> assumption
  · obtain ⟨m1, m2, m3, m4⟩ := mem_at ok h0 h1
    obtain ⟨n1, n2, n3, n4⟩ := mem_at ok m2 m3
    rcases hw with rfl | rfl | rfl | rfl | rfl | rfl | rfl | rfl | rfl
    · exact ⟨⟨k1, k2, h0, h1, f0, f1⟩, Nat.le_succ _⟩
    · exact ⟨⟨k1, k2, m2, m3, f0, f1⟩, Nat.le_succ _⟩
    · exact ⟨⟨(mem_set ok).1, (mem_set ok).2, k3, k4, f0, f1⟩, Nat.le_succ _⟩
    · exact ⟨⟨k1, k2, g0 _, g1 _, f0, f1⟩, Nat.le_succ _⟩
    · exact ⟨⟨k1, k2, g0 _, g1 _, f0, f1⟩, Nat.le_succ _⟩
    · exact ⟨⟨k1, k2, (bit_and k3 k4 m2).1, (bit_and k3 k4 m2).2, f0, f1⟩, Nat.le_succ _⟩
    · exact ⟨⟨k1, k2, (bit_xor k3 k4 m2 m3).1, (bit_xor k3 k4 m2 m3).2, f0, f1⟩, Nat.le_succ _⟩
    · exact ⟨⟨k1, k2, n2, n3, f0, f1⟩, Nat.le_succ _⟩
    · exact ⟨⟨(mem_set ok).1, (mem_set ok).2, k3, k4, f0, f1⟩, Nat.le_succ _⟩
/-- the code's rows -/
def rowD (r : Str × Int) : D := .tup [.str r.1, .int r.2]
theorem ins_at {rs : List (Str × Int)} (hr : ∀ r ∈ rs, Valid d k r.1 r.2) (h0 : 0 ≤ st.place) : ∃ w n, InsAt (rs.map rowD) st.place w n ∧ Valid d k w n := by
  by_cases h : st.place < (rs.map rowD).length
  · have hl : st.place.toNat < rs.length := by
      rw [List.length_map] at h
      omega
    refine ⟨rs[st.place.toNat].1, rs[st.place.toNat].2, .inl ⟨h, ?_⟩, hr _ (List.getElem_mem _)⟩
    rw [List.getElem?_map, List.getElem?_eq_getElem hl]
    rfl
  · exact ⟨"halt", 0, .inr ⟨h, rfl, rfl⟩, .inl ⟨.inl rfl, rfl⟩⟩
theorem Away.refl : Away p S S := ⟨Nat.le_refl _, fun _ _ _ _ _ _ => rfl⟩
theorem Away.trans {S1 S2 : Sr} (a : Away p S S1) (b : Away p S1 S2) : Away p S S2 :=
  ⟨Nat.le_trans a.1 b.1, fun j hj h1 h2 h3 h4 => (b.2 j (Nat.lt_of_lt_of_le hj a.1) h1 h2 h3 h4).trans (a.2 j hj h1 h2 h3 h4)⟩
theorem Mp.Ok.mono {a b : Nat} (h : p.Ok a) (l : a ≤ b) : p.Ok b := ⟨h.em, h.cm, h.sm, h.zm, h.ce, h.se, h.ze, h.sc, h.zc, h.zs, Nat.lt_of_lt_of_le h.m l, Nat.lt_of_lt_of_le h.e l, Nat.lt_of_lt_of_le h.c l, Nat.lt_of_lt_of_le h.s l, Nat.lt_of_lt_of_le h.z l⟩
/-- the machine's run -/
theorem e_run {rs : List (Str × Int)} {most : Nat} (a : MacAt S p d k (rs.map rowD) st) (po : p.Ok S.n) (hd : d ≤ 8) (hk : k ≤ 8) (ok : MsOk d k st) (hr : ∀ r ∈ rs, Valid d k r.1 r.2) (hs : st.sent.length + most < 4000) :
    Does (f_Machine_run [.adr p.im, .int (most : Int)] S) fun r S' => ∃ st', r = .bl st'.halted ∧ MacAt S' p d k (rs.map rowD) st' ∧ MsOk d k st' ∧ Away p S S' ∧ st'.sent.length ≤ st.sent.length + most ∧ (st.halted = true → st' = st) := by
  have hmost : (most : Int) < 2 ^ 62 := by omega
  have e1 : (most : Int).toNat = most := Int.toNat_natCast most
  have hb : (-(2 ^ 62) ≤ (most : Int) ∧ (most : Int) < 2 ^ 62) := ⟨by omega, hmost⟩
  obtain ⟨mo, emo⟩ : ∃ mo, mo = D.int (most : Int) := ⟨_, rfl⟩
  rw [← emo]
  unfold f_Machine_run
  refine fun_post ?_
  show RP _ (b_Machine_run [some (.adr p.im), some mo, none] S)
  unfold b_Machine_run
  refine seq_rp (for_nx (sr := sqr 0 1 most) (S1 := S) ?_ ?_)
  · simp [mSeq, mPass, mBrk, mCnt, mDrop, mRet, mRetN, mIfS, mRaise, mSet, mAsg, mPar, mPar3, mAug, mFld, mFldAug, gNm, gSub', gFld, gNl, gCn, gTp, setA, putFD, mVar, mC, mB, mU, mTB, mAnd, mOr, mNot, mIf, mAndV, mOrV, mNotV, mChain, mNil, mCons, mTup, mLst, mSl, oNo, oE, mCB, fAbs, fMax2, fMin2, fInt, lenD, fLen, fTuple, fList, itemsD, fIsi, tyD, mAttr, mCall, mMeth, mMake, mBM, tyF, SM.bind, SM.pure, toRS, toRSA, toRST, Y.sb, List.lookup, put_f, put_n, alloc_f, alloc_n, put_put, alloc_put, okI, okB, orF, dSub, dFdiv, dMod, dPow, dShl, dShr, dAnd, dOr, dXor, dNeg, dLt, dLe, dGt, dGe, dIs, mRng1, hmost, emo]
    omega
  clear emo
  refine for_loop (n := most) (fun i g S' => ∃ st' x, g = [some (.adr p.im), some mo, x] ∧ MacAt S' p d k (rs.map rowD) st' ∧ MsOk d k st' ∧ Away p S S' ∧ st'.sent.length ≤ st.sent.length + i ∧ (st.halted = true → st' = st)) _ ?_ ?_ most 0 _ S (Nat.zero_add _) ⟨st, none, rfl, a, ok, Away.refl, Nat.le_refl _, fun _ => rfl⟩
  · rintro i g S' hi ⟨st', x, rfl, a', ok', aw, hl, hh⟩
    refine ⟨.int (0 + (i : Int) * 1), by simp [sqr, hi], ?_⟩
    have am := a'.m
    cases hst : st'.halted with
    | true =>
      simp (decide := true) [mStep, b_Machine_run_L103, mSeq, mPass, mBrk, mCnt, mDrop, mRet, mRetN, mIfS, mRaise, mSet, mAsg, mPar, mPar3, mAug, mFld, mFldAug, gNm, gSub', gFld, gNl, gCn, gTp, setA, putFD, mVar, mC, mB, mU, mTB, mAnd, mOr, mNot, mIf, mAndV, mOrV, mNotV, mChain, mNil, mCons, mTup, mLst, mSl, oNo, oE, mCB, fAbs, fMax2, fMin2, fInt, lenD, fLen, fTuple, fList, itemsD, fIsi, tyD, mAttr, mCall, mMeth, mMake, mBM, tyF, SM.bind, SM.pure, toRS, toRSA, toRST, Y.sb, List.lookup, put_f, put_n, alloc_f, alloc_n, put_put, alloc_put, okI, okB, orF, dSub, dFdiv, dMod, dPow, dShl, dShr, dAnd, dOr, dXor, dNeg, dLt, dLe, dGt, dGe, dIs, am, mF, hst, tn_nx, tn_bk, nx_nx, rp_rt]
      exact ⟨st', by rw [hst], a', ok', aw, by omega, hh⟩
    | false =>
      obtain ⟨w, n, hi', hv⟩ := ins_at hr ok'.p0
      obtain ⟨r, S2, e2, rfl, a2, aw2⟩ := (e_step a' (po.mono aw.1) hd hk ok' hst hi' hv (by omega)).get
      obtain ⟨ok2, hl2⟩ := step_ok ok' hv
      have lk : List.lookup ("step" : Str) (mF p (rs.map rowD) st') = none := by rfl
      have lk2 : List.lookup ("halted" : Str) (mF p (rs.map rowD) st') = some (.bl st'.halted) := by rfl
      simp (decide := true) [mStep, b_Machine_run_L103, mSeq, mPass, mBrk, mCnt, mDrop, mRet, mRetN, mIfS, mRaise, mSet, mAsg, mPar, mPar3, mAug, mFld, mFldAug, gNm, gSub', gFld, gNl, gCn, gTp, setA, putFD, mVar, mC, mB, mU, mTB, mAnd, mOr, mNot, mIf, mAndV, mOrV, mNotV, mChain, mNil, mCons, mTup, mLst, mSl, oNo, oE, mCB, fAbs, fMax2, fMin2, fInt, lenD, fLen, fTuple, fList, itemsD, fIsi, tyD, mAttr, mCall, mMeth, mMake, mBM, tyF, SM.bind, SM.pure, toRS, toRSA, toRST, Y.sb, List.lookup, put_f, put_n, alloc_f, alloc_n, put_put, alloc_put, okI, okB, orF, dSub, dFdiv, dMod, dPow, dShl, dShr, dAnd, dOr, dXor, dNeg, dLt, dLe, dGt, dGe, dIs, am, lk, lk2, hst, tn_nx, tn_bk, e2]
      refine ⟨_, a2, ok2, aw.trans aw2, by omega, fun h => ?_⟩
      have := hh h
      rw [this, h] at hst
      cases hst
  · rintro g S' ⟨st', x, rfl, a', ok', aw, hl, hh⟩
    refine ⟨by simp [sqr], ?_⟩
    have am := a'.m
    have lk2 : List.lookup ("halted" : Str) (mF p (rs.map rowD) st') = some (.bl st'.halted) := by rfl
    simp (decide := true) [mSeq, mPass, mBrk, mCnt, mDrop, mRet, mRetN, mIfS, mRaise, mSet, mAsg, mPar, mPar3, mAug, mFld, mFldAug, gNm, gSub', gFld, gNl, gCn, gTp, setA, putFD, mVar, mC, mB, mU, mTB, mAnd, mOr, mNot, mIf, mAndV, mOrV, mNotV, mChain, mNil, mCons, mTup, mLst, mSl, oNo, oE, mCB, fAbs, fMax2, fMin2, fInt, lenD, fLen, fTuple, fList, itemsD, fIsi, tyD, mAttr, mCall, mMeth, mMake, mBM, tyF, SM.bind, SM.pure, toRS, toRSA, toRST, Y.sb, List.lookup, put_f, put_n, alloc_f, alloc_n, put_put, alloc_put, okI, okB, orF, dSub, dFdiv, dMod, dPow, dShl, dShr, dAnd, dOr, dXor, dNeg, dLt, dLe, dGt, dGe, dIs, am, lk2, nx_nx, rp_rt]
    exact ⟨st', rfl, a', ok', aw, hl, hh⟩
end
end K10

set_option Elab.async false
set_option linter.all false
set_option maxRecDepth 100000
set_option maxHeartbeats 4000000
namespace K10
open PySem L2 Y
def st0 (d : Nat) (ins : List Int) : Ms := ⟨0, 0, 0, List.replicate (2 ^ d) 0, [], ins, false⟩
theorem rep_flat (n : Nat) : (List.replicate n [D.int 0]).flatten = (List.replicate n (0 : Int)).map D.int := by
  induction n with
  | zero => rfl
  | succ n ih =>
    rw [List.replicate_succ, List.flatten_cons, ih, List.replicate_succ]
    rfl
theorem st0_ok {d k : Nat} {ins : List Int} : MsOk d k (st0 d ins) := by
  have z3 := pos2 (d := d)
  have z4 := pos2 (d := k)
  refine ⟨by simp [st0], fun x hx => ?_, by simp [st0], z3, by simp [st0], z4⟩
  have e : x = 0 := (List.mem_replicate.mp hx).2
  rw [e]
  exact ⟨Int.le_refl _, z3⟩
section
variable {S : Sr} {im iz ir ic : Nat} {d k : Nat} {rs : List (Str × Int)} {ins : List Int} {co : D}
theorem e_init (hm : S.f im = some (.ins "Machine" [])) (hz : S.f iz = some (.ins "Size" (sF d k))) (hr : S.f ir = some (.lst (rs.map rowD))) (hl : rs.length ≤ 2 ^ k) (hv : ∀ r ∈ rs, Valid d k r.1 r.2) (hd : d ≤ 8) (hk : k ≤ 8) (m0 : im < S.n) (z0 : iz < S.n) (r0 : ir < S.n) (mz : im ≠ iz) (mr : im ≠ ir)
    (hc : (∃ i0, co = .adr i0 ∧ S.f i0 = some (.lst (ins.map D.int)) ∧ i0 ≠ im) ∨ (co = .ktp [] ∧ ins = [])) :
    Does (f_Machine___init__ [.adr im, .adr iz, .adr ir, co] S) fun r S' => r = .non ∧ MacAt S' ⟨im, iz, S.n + 2, S.n, S.n + 3⟩ d k (rs.map rowD) (st0 d ins) ∧ S'.n = S.n + 4 ∧ ∀ j, j < S.n → j ≠ im → S'.f j = S.f j := by
  have z1 := pw1 hd
  have z2 := pw1 hk
  have hl2 : ¬ ((2 : Int) ^ k < (rs.length : Int)) := by
    have e : ((2 ^ k : Nat) : Int) = 2 ^ k := by push_cast; rfl
    omega
  unfold f_Machine___init__
  refine fun_post ?_
  show RP _ (b_Machine___init__ [some (.adr im), some (.adr iz), some (.adr ir), some co, none] S)
  unfold b_Machine___init__
  refine seq_rp (nx_of (g' := [some (.adr im), some (.adr iz), some (.adr ir), some co, none]) (S' := S) ?_ ?_)
  · simp (decide := true) [mSeq, mPass, mBrk, mCnt, mDrop, mRet, mRetN, mIfS, mRaise, mSet, mAsg, mPar, mPar3, mAug, mFld, mFldAug, gNm, gSub', gFld, gNl, gCn, gTp, setA, putFD, mVar, mC, mB, mU, mTB, mAnd, mOr, mNot, mIf, mAndV, mOrV, mNotV, mChain, mNil, mCons, mTup, mLst, mSl, oNo, oE, mCB, fAbs, fMax2, fMin2, fInt, lenD, fLen, fTuple, fList, itemsD, fIsi, tyD, mAttr, mCall, mMeth, mMake, mBM, tyF, SM.bind, SM.pure, toRS, toRSA, toRST, Y.sb, List.lookup, put_f, put_n, alloc_f, alloc_n, put_put, alloc_put, okI, okB, orF, dSub, dFdiv, dMod, dPow, dShl, dShr, dAnd, dOr, dXor, dNeg, dLt, dLe, dGt, dGe, dIs, hz, hr, sF, z2, hl2]
  refine seq_rp (for_nx (sr := sqa ir rs.length) (S1 := S) ?_ ?_)
  · simp [mSeq, mPass, mBrk, mCnt, mDrop, mRet, mRetN, mIfS, mRaise, mSet, mAsg, mPar, mPar3, mAug, mFld, mFldAug, gNm, gSub', gFld, gNl, gCn, gTp, setA, putFD, mVar, mC, mB, mU, mTB, mAnd, mOr, mNot, mIf, mAndV, mOrV, mNotV, mChain, mNil, mCons, mTup, mLst, mSl, oNo, oE, mCB, fAbs, fMax2, fMin2, fInt, lenD, fLen, fTuple, fList, itemsD, fIsi, tyD, mAttr, mCall, mMeth, mMake, mBM, tyF, SM.bind, SM.pure, toRS, toRSA, toRST, Y.sb, List.lookup, put_f, put_n, alloc_f, alloc_n, put_put, alloc_put, okI, okB, orF, dSub, dFdiv, dMod, dPow, dShl, dShr, dAnd, dOr, dXor, dNeg, dLt, dLe, dGt, dGe, dIs, mSrc, mSrcD, hr]
  refine for_loop (n := rs.length) (fun i g S' => S' = S ∧ ∃ x, g = [some (.adr im), some (.adr iz), some (.adr ir), some co, x]) _ ?_ ?_ rs.length 0 _ S (Nat.zero_add _) ⟨rfl, none, rfl⟩
  · rintro i g S' hi ⟨rfl, x, rfl⟩
    refine ⟨rowD rs[i], by
      show (match S'.f ir with
        | some (.lst l) => some l[i]?
        | _ => none) = _
      rw [hr]
      show some (rs.map rowD)[i]? = _
      rw [List.getElem?_map, List.getElem?_eq_getElem hi]
      rfl, ?_⟩
    obtain ⟨hw, h0, h1⟩ := valid_iff (hv rs[i] (List.getElem_mem _))
    have e1 := e_check (n := rs[i].2) hz hd hk hw
    rw [if_pos ⟨h0, h1⟩] at e1
    refine tn_of (g' := [some (.adr im), some (.adr iz), some (.adr ir), some co, some (rowD rs[i])]) (S' := S') ?_ ⟨rfl, _, rfl⟩
    simp (decide := true) [mStep, b_Machine___init___L45, mSeq, mPass, mBrk, mCnt, mDrop, mRet, mRetN, mIfS, mRaise, mSet, mAsg, mPar, mPar3, mAug, mFld, mFldAug, gNm, gSub', gFld, gNl, gCn, gTp, setA, putFD, mVar, mC, mB, mU, mTB, mAnd, mOr, mNot, mIf, mAndV, mOrV, mNotV, mChain, mNil, mCons, mTup, mLst, mSl, oNo, oE, mCB, fAbs, fMax2, fMin2, fInt, lenD, fLen, fTuple, fList, itemsD, fIsi, tyD, mAttr, mCall, mMeth, mMake, mBM, tyF, SM.bind, SM.pure, toRS, toRSA, toRST, Y.sb, List.lookup, put_f, put_n, alloc_f, alloc_n, put_put, alloc_put, okI, okB, orF, dSub, dFdiv, dMod, dPow, dShl, dShr, dAnd, dOr, dXor, dNeg, dLt, dLe, dGt, dGe, dIs, rowD, e1]
  · rintro g S' ⟨rfl, x, rfl⟩
    refine ⟨by simp [sqa, hr], ?_⟩
    have t0 : im ≠ S'.n := Nat.ne_of_lt m0
    have t1 : iz ≠ S'.n := Nat.ne_of_lt z0
    have sz1 : 1 ≤ sizeLine := by rw [sizeLine_eq]; omega
    have p8 : (2 : Nat) ^ d ≤ 256 := Nat.pow_le_pow_right (n := 2) (by decide) hd
    have sz2 : 2 ^ d ≤ sizeLine := by rw [sizeLine_eq]; omega
    have c1 : (-9223372036854775808 : Int) ≤ 2 ^ d := Int.le_trans (by decide) (Int.le_of_lt (pos2 (d := d)))
    have c2 : (2 : Int) ^ d < 9223372036854775808 := Int.lt_of_le_of_lt (b := 256) (by exact_mod_cast p8) (by decide)
    have tn : ((2 : Int) ^ d).toNat = 2 ^ d := by
      have e : ((2 ^ d : Nat) : Int) = 2 ^ d := by push_cast; rfl
      rw [← e, Int.toNat_natCast]
    have t2 : im ≠ S'.n + 1 := by omega
    have t3 : S'.n + 1 ≠ im := by omega
    have t4 : im ≠ S'.n + 1 + 1 := by omega
    have t5 : S'.n + 1 + 1 ≠ im := by omega
    have t6 : im ≠ S'.n + 1 + 1 + 1 := by omega
    have t7 : S'.n + 1 + 1 + 1 ≠ im := by omega
    have t8 : im ≠ S'.n + 2 := by omega
    have t9 : S'.n + 2 ≠ im := by omega
    have t10 : im ≠ S'.n + 3 := by omega
    have t11 : S'.n + 3 ≠ im := by omega
    have t12 : im ≠ S'.n + 4 := by omega
    have t13 : S'.n + 4 ≠ im := by omega
    have t14 : iz ≠ S'.n + 1 := by omega
    have t15 : S'.n + 1 ≠ iz := by omega
    have t16 : iz ≠ S'.n + 1 + 1 := by omega
    have t17 : S'.n + 1 + 1 ≠ iz := by omega
    have t18 : iz ≠ S'.n + 1 + 1 + 1 := by omega
    have t19 : S'.n + 1 + 1 + 1 ≠ iz := by omega
    have t20 : iz ≠ S'.n + 2 := by omega
    have t21 : S'.n + 2 ≠ iz := by omega
    have t22 : iz ≠ S'.n + 3 := by omega
    have t23 : S'.n + 3 ≠ iz := by omega
    have t24 : iz ≠ S'.n + 4 := by omega
    have t25 : S'.n + 4 ≠ iz := by omega
    rw [nx_nx]
    rcases hc with ⟨i0, rfl, h0, h1⟩ | ⟨rfl, rfl⟩
    · simp (maxSteps := 4000000) (decide := true) [mSeq, mPass, mBrk, mCnt, mDrop, mRet, mRetN, mIfS, mRaise, mSet, mAsg, mPar, mPar3, mAug, mFld, mFldAug, gNm, gSub', gFld, gNl, gCn, gTp, setA, putFD, mVar, mC, mB, mU, mTB, mAnd, mOr, mNot, mIf, mAndV, mOrV, mNotV, mChain, mNil, mCons, mTup, mLst, mSl, oNo, oE, mCB, fAbs, fMax2, fMin2, fInt, lenD, fLen, fTuple, fList, itemsD, fIsi, tyD, mAttr, mCall, mMeth, mMake, mBM, tyF, SM.bind, SM.pure, toRS, toRSA, toRST, Y.sb, List.lookup, put_f, put_n, alloc_f, alloc_n, put_put, alloc_put, okI, okB, orF, dSub, dFdiv, dMod, dPow, dShl, dShr, dAnd, dOr, dXor, dNeg, dLt, dLe, dGt, dGe, dIs, hm, hz, hr, sF, z1, z2, dMul, repL, rp_nx, macAt_iff, mF, st0, rep_flat, mz, Ne.symm mz, mr, Ne.symm mr, t0, t1, Ne.symm t0, Ne.symm t1, sz1, sz2, c1, c2, tn, t2, t3, t4, t5, t6, t7, t8, t9, t10, t11, t12, t13, t14, t15, t16, t17, t18, t19, t20, t21, t22, t23, t24, t25, h0, h1]
      have a0 : S'.n ≠ S'.n + 1 + 1 := by omega
      have a1 : S'.n ≠ S'.n + 1 + 1 + 1 := by omega
      refine ⟨by simp [a0, a1], fun j hj j1 => ?_⟩
      have w0 : j ≠ S'.n := (by omega); have w1 : j ≠ S'.n + 1 := (by omega); have w2 : j ≠ S'.n + 1 + 1 := (by omega); have w3 : j ≠ S'.n + 1 + 1 + 1 := (by omega); have w4 : j ≠ S'.n + 2 := (by omega); have w5 : j ≠ S'.n + 3 := (by omega);
      simp [j1, w0, w1, w2, w3, w4, w5]
    · simp (maxSteps := 4000000) (decide := true) [mSeq, mPass, mBrk, mCnt, mDrop, mRet, mRetN, mIfS, mRaise, mSet, mAsg, mPar, mPar3, mAug, mFld, mFldAug, gNm, gSub', gFld, gNl, gCn, gTp, setA, putFD, mVar, mC, mB, mU, mTB, mAnd, mOr, mNot, mIf, mAndV, mOrV, mNotV, mChain, mNil, mCons, mTup, mLst, mSl, oNo, oE, mCB, fAbs, fMax2, fMin2, fInt, lenD, fLen, fTuple, fList, itemsD, fIsi, tyD, mAttr, mCall, mMeth, mMake, mBM, tyF, SM.bind, SM.pure, toRS, toRSA, toRST, Y.sb, List.lookup, put_f, put_n, alloc_f, alloc_n, put_put, alloc_put, okI, okB, orF, dSub, dFdiv, dMod, dPow, dShl, dShr, dAnd, dOr, dXor, dNeg, dLt, dLe, dGt, dGe, dIs, hm, hz, hr, sF, z1, z2, dMul, repL, rp_nx, macAt_iff, mF, st0, rep_flat, mz, Ne.symm mz, mr, Ne.symm mr, t0, t1, Ne.symm t0, Ne.symm t1, sz1, sz2, c1, c2, tn, t2, t3, t4, t5, t6, t7, t8, t9, t10, t11, t12, t13, t14, t15, t16, t17, t18, t19, t20, t21, t22, t23, t24, t25]
      have a0 : S'.n ≠ S'.n + 1 + 1 := by omega
      have a1 : S'.n ≠ S'.n + 1 + 1 + 1 := by omega
      refine ⟨by simp [a0, a1], fun j hj j1 => ?_⟩
      have w0 : j ≠ S'.n := (by omega); have w1 : j ≠ S'.n + 1 := (by omega); have w2 : j ≠ S'.n + 1 + 1 := (by omega); have w3 : j ≠ S'.n + 1 + 1 + 1 := (by omega); have w4 : j ≠ S'.n + 2 := (by omega); have w5 : j ≠ S'.n + 3 := (by omega);
      simp [j1, w0, w1, w2, w3, w4, w5]
end
end K10

set_option Elab.async false
set_option linter.all false
set_option maxRecDepth 100000
set_option maxHeartbeats 4000000
namespace K10
open PySem L2 Y
def DiceAt (S : Sr) (i : Nat) : Prop := ∃ a b c : Int, S.f i = some (.lst [.int a, .int b, .int c])
/-- all but these stay -/
def Fr (l : List Nat) (S S' : Sr) : Prop := S.n ≤ S'.n ∧ ∀ j, j < S.n → j ∉ l → S'.f j = S.f j
theorem Fr.refl {l : List Nat} {S : Sr} : Fr l S S := ⟨Nat.le_refl _, fun _ _ _ => rfl⟩
theorem Fr.trans {l : List Nat} {S S1 S2 : Sr} (a : Fr l S S1) (b : Fr l S1 S2) : Fr l S S2 := ⟨Nat.le_trans a.1 b.1, fun j hj h => (b.2 j (Nat.lt_of_lt_of_le hj a.1) h).trans (a.2 j hj h)⟩
theorem Fr.put {l : List Nat} {S : Sr} {i : Nat} {x : MO} (h : i ∈ l) : Fr l S (S.put i x) := ⟨Nat.le_refl _, fun j _ hj => if_neg (fun e : j = i => hj (by rw [e]; exact h))⟩
theorem Fr.alloc {l : List Nat} {S : Sr} {x : MO} : Fr l S (S.alloc x) := ⟨Nat.le_succ _, fun j hj _ => if_neg (Nat.ne_of_lt hj)⟩
theorem word_at {r : Int} (h0 : 0 ≤ r) (h1 : r < 16) : ∃ w, atI [.str "halt", .str "set", .str "load", .str "store", .str "add", .str "sub", .str "and", .str "xor", .str "jump", .str "zero", .str "less", .str "out", .str "in", .str "half", .str "from", .str "to"] r = some (D.str w) ∧ Word w := by
  have h : r = 0 ∨ r = 1 ∨ r = 2 ∨ r = 3 ∨ r = 4 ∨ r = 5 ∨ r = 6 ∨ r = 7 ∨ r = 8 ∨ r = 9 ∨ r = 10 ∨ r = 11 ∨ r = 12 ∨ r = 13 ∨ r = 14 ∨ r = 15 := by omega
  rcases h with rfl | rfl | rfl | rfl | rfl | rfl | rfl | rfl | rfl | rfl | rfl | rfl | rfl | rfl | rfl | rfl
  · exact ⟨"halt", ai_halt, by simp [Word]⟩
  · exact ⟨"set", ai_set, by simp [Word]⟩
  · exact ⟨"load", ai_load, by simp [Word]⟩
  · exact ⟨"store", ai_store, by simp [Word]⟩
  · exact ⟨"add", ai_add, by simp [Word]⟩
  · exact ⟨"sub", ai_sub, by simp [Word]⟩
  · exact ⟨"and", ai_and, by simp [Word]⟩
  · exact ⟨"xor", ai_xor, by simp [Word]⟩
  · exact ⟨"jump", ai_jump, by simp [Word]⟩
  · exact ⟨"zero", ai_zero, by simp [Word]⟩
  · exact ⟨"less", ai_less, by simp [Word]⟩
  · exact ⟨"out", ai_out, by simp [Word]⟩
  · exact ⟨"in", ai_in, by simp [Word]⟩
  · exact ⟨"half", ai_half, by simp [Word]⟩
  · exact ⟨"from", ai_from, by simp [Word]⟩
  · exact ⟨"to", ai_to, by simp [Word]⟩
section
variable {S : Sr} {i : Nat} {d k : Nat} {many : Int}
theorem roll_at (h : DiceAt S i) (h1 : 0 < many) (h2 : many ≤ 100000000) : ∃ r x, 0 ≤ r ∧ r < many ∧ f__law_roll [.adr i, .int many] S = .ok (.int r) (S.put i x) ∧ DiceAt (S.put i x) i := by
  obtain ⟨a, b, c, h⟩ := h
  obtain ⟨r, a', b', c', r0, r1, e⟩ := e_roll h h1 h2
  exact ⟨r, _, r0, r1, e, a', b', c', if_pos rfl⟩
theorem dice_alloc {x : MO} (h : DiceAt S i) (hi : i < S.n) : DiceAt (S.alloc x) i := by
  obtain ⟨a, b, c, h⟩ := h
  exact ⟨a, b, c, (if_neg (Nat.ne_of_lt hi)).trans h⟩
theorem e_row (h : DiceAt S i) (hi : i < S.n) (hd : d ≤ 8) (hk : k ≤ 8) (m0 : 0 ≤ many) (m1 : many ≤ 1000) :
    Tells (f__law_row [.adr i, .int (d : Int), .int (k : Int), .int many] S) fun r S' => (∃ w n, r = rowD (w, n) ∧ Valid d k w n) ∧ DiceAt S' i ∧ Fr [i] S S' := by
  have z1 := pw1 hd
  have z2 := pw1 hk
  have sz : 4 ≤ sizeLine := by rw [sizeLine_eq]; omega
  have sz3 : 3 ≤ sizeLine := by rw [sizeLine_eq]; omega
  have sz2 : 2 ≤ sizeLine := by rw [sizeLine_eq]; omega
  have hn : i ≠ S.n := Nat.ne_of_lt hi
  obtain ⟨r, x, r0, r1, e1, d1⟩ := roll_at h (many := 16) (by decide) (by decide)
  obtain ⟨w, ew, hw⟩ := word_at r0 r1
  have d2 : DiceAt ((S.put i x).alloc (.lst [.str "halt", .str "out", .str "in", .str "half"])) i := dice_alloc d1 hi
  have d3 : DiceAt (((S.put i x).alloc (.lst [.str "halt", .str "out", .str "in", .str "half"])).alloc (.lst [.str "jump", .str "zero", .str "less"])) i := dice_alloc d2 (Nat.lt_succ_of_lt hi)
  have f2 : Fr [i] S ((S.put i x).alloc (.lst [.str "halt", .str "out", .str "in", .str "half"])) := (Fr.put (by simp)).trans Fr.alloc
  have f3 : Fr [i] S (((S.put i x).alloc (.lst [.str "halt", .str "out", .str "in", .str "half"])).alloc (.lst [.str "jump", .str "zero", .str "less"])) := f2.trans Fr.alloc
  have p8 : (2 : Int) ^ d ≤ 256 := by exact_mod_cast (Nat.pow_le_pow_right (n := 2) (by decide) hd)
  have q8 : (2 : Int) ^ k ≤ 256 := by exact_mod_cast (Nat.pow_le_pow_right (n := 2) (by decide) hk)
  have z3 := pos2 (d := d)
  have z4 := pos2 (d := k)
  obtain ⟨r2, x2, a0, a1, e2, g2⟩ := roll_at d2 (many := 3) (by decide) (by decide)
  obtain ⟨r3, x3, b0, b1, e3, g3⟩ := roll_at d3 (many := if 2 ^ k < many + 1 then 2 ^ k else many + 1) (by split <;> omega) (by split <;> omega)
  obtain ⟨r4, x4, c0, c1, e4, g4⟩ := roll_at d3 (many := 2 ^ d) z3 (by omega)
  have b2 : r3 < 2 ^ k := by
    split at b1 <;> omega
  rcases hw with rfl | rfl | rfl | rfl | rfl | rfl | rfl | rfl | rfl | rfl | rfl | rfl | rfl | rfl | rfl | rfl
  · by_cases hr : r2 = 0
    · simp (maxSteps := 4000000) (decide := true) [Tells, f__law_row, mFun, b__law_row, mSeq, mPass, mBrk, mCnt, mDrop, mRet, mRetN, mIfS, mRaise, mSet, mAsg, mPar, mPar3, mAug, mFld, mFldAug, gNm, gSub', gFld, gNl, gCn, gTp, setA, putFD, mVar, mC, mB, mU, mTB, mAnd, mOr, mNot, mIf, mAndV, mOrV, mNotV, mChain, mNil, mCons, mTup, mLst, mSl, oNo, oE, mCB, fAbs, fMax2, fMin2, fInt, lenD, fLen, fTuple, fList, itemsD, fIsi, tyD, mAttr, mCall, mMeth, mMake, mBM, tyF, SM.bind, SM.pure, toRS, toRSA, toRST, Y.sb, List.lookup, put_f, put_n, alloc_f, alloc_n, put_put, alloc_put, okI, okB, orF, dSub, dFdiv, dMod, dPow, dShl, dShr, dAnd, dOr, dXor, dNeg, dLt, dLe, dGt, dGe, dIs, e1, ew, dIx, ixSeq, K_INSTRUCTIONS, lin_P_halt, lin_P_set, lin_P_load, lin_P_store, lin_P_add, lin_P_sub, lin_P_and, lin_P_xor, lin_P_jump, lin_P_zero, lin_P_less, lin_P_out, lin_P_in, lin_P_half, lin_P_from, lin_P_to, lin_J_halt, lin_J_set, lin_J_load, lin_J_store, lin_J_add, lin_J_sub, lin_J_and, lin_J_xor, lin_J_jump, lin_J_zero, lin_J_less, lin_J_out, lin_J_in, lin_J_half, lin_J_from, lin_J_to, ok_halt, ok_set, ok_load, ok_store, ok_add, ok_sub, ok_and, ok_xor, ok_jump, ok_zero, ok_less, ok_out, ok_in, ok_half, ok_from, ok_to, ev_neS, ev_eqI, sz, sz2, sz3, z1, z2, dAdd, rowD, e2, hr]
      exact ⟨⟨"halt", 0, ⟨rfl, rfl⟩, .inl ⟨.inl rfl, rfl⟩⟩, g2, f2.trans (Fr.put (by simp))⟩
    · simp (maxSteps := 4000000) (decide := true) [Tells, f__law_row, mFun, b__law_row, mSeq, mPass, mBrk, mCnt, mDrop, mRet, mRetN, mIfS, mRaise, mSet, mAsg, mPar, mPar3, mAug, mFld, mFldAug, gNm, gSub', gFld, gNl, gCn, gTp, setA, putFD, mVar, mC, mB, mU, mTB, mAnd, mOr, mNot, mIf, mAndV, mOrV, mNotV, mChain, mNil, mCons, mTup, mLst, mSl, oNo, oE, mCB, fAbs, fMax2, fMin2, fInt, lenD, fLen, fTuple, fList, itemsD, fIsi, tyD, mAttr, mCall, mMeth, mMake, mBM, tyF, SM.bind, SM.pure, toRS, toRSA, toRST, Y.sb, List.lookup, put_f, put_n, alloc_f, alloc_n, put_put, alloc_put, okI, okB, orF, dSub, dFdiv, dMod, dPow, dShl, dShr, dAnd, dOr, dXor, dNeg, dLt, dLe, dGt, dGe, dIs, e1, ew, dIx, ixSeq, K_INSTRUCTIONS, lin_P_halt, lin_P_set, lin_P_load, lin_P_store, lin_P_add, lin_P_sub, lin_P_and, lin_P_xor, lin_P_jump, lin_P_zero, lin_P_less, lin_P_out, lin_P_in, lin_P_half, lin_P_from, lin_P_to, lin_J_halt, lin_J_set, lin_J_load, lin_J_store, lin_J_add, lin_J_sub, lin_J_and, lin_J_xor, lin_J_jump, lin_J_zero, lin_J_less, lin_J_out, lin_J_in, lin_J_half, lin_J_from, lin_J_to, ok_halt, ok_set, ok_load, ok_store, ok_add, ok_sub, ok_and, ok_xor, ok_jump, ok_zero, ok_less, ok_out, ok_in, ok_half, ok_from, ok_to, ev_neS, ev_eqI, sz, sz2, sz3, z1, z2, dAdd, rowD, e2, hr]
      exact ⟨⟨"out", 0, ⟨rfl, rfl⟩, .inl ⟨.inr (.inl rfl), rfl⟩⟩, g2, f2.trans (Fr.put (by simp))⟩
  · simp (maxSteps := 4000000) (decide := true) [Tells, f__law_row, mFun, b__law_row, mSeq, mPass, mBrk, mCnt, mDrop, mRet, mRetN, mIfS, mRaise, mSet, mAsg, mPar, mPar3, mAug, mFld, mFldAug, gNm, gSub', gFld, gNl, gCn, gTp, setA, putFD, mVar, mC, mB, mU, mTB, mAnd, mOr, mNot, mIf, mAndV, mOrV, mNotV, mChain, mNil, mCons, mTup, mLst, mSl, oNo, oE, mCB, fAbs, fMax2, fMin2, fInt, lenD, fLen, fTuple, fList, itemsD, fIsi, tyD, mAttr, mCall, mMeth, mMake, mBM, tyF, SM.bind, SM.pure, toRS, toRSA, toRST, Y.sb, List.lookup, put_f, put_n, alloc_f, alloc_n, put_put, alloc_put, okI, okB, orF, dSub, dFdiv, dMod, dPow, dShl, dShr, dAnd, dOr, dXor, dNeg, dLt, dLe, dGt, dGe, dIs, e1, ew, dIx, ixSeq, K_INSTRUCTIONS, lin_P_halt, lin_P_set, lin_P_load, lin_P_store, lin_P_add, lin_P_sub, lin_P_and, lin_P_xor, lin_P_jump, lin_P_zero, lin_P_less, lin_P_out, lin_P_in, lin_P_half, lin_P_from, lin_P_to, lin_J_halt, lin_J_set, lin_J_load, lin_J_store, lin_J_add, lin_J_sub, lin_J_and, lin_J_xor, lin_J_jump, lin_J_zero, lin_J_less, lin_J_out, lin_J_in, lin_J_half, lin_J_from, lin_J_to, ok_halt, ok_set, ok_load, ok_store, ok_add, ok_sub, ok_and, ok_xor, ok_jump, ok_zero, ok_less, ok_out, ok_in, ok_half, ok_from, ok_to, ev_neS, ev_eqI, sz, sz2, sz3, z1, z2, dAdd, rowD, e4]
    exact ⟨⟨"set", r4, ⟨rfl, rfl⟩, .inr (.inr ⟨by simp, c0, c1⟩)⟩, g4, f3.trans (Fr.put (by simp))⟩
  · simp (maxSteps := 4000000) (decide := true) [Tells, f__law_row, mFun, b__law_row, mSeq, mPass, mBrk, mCnt, mDrop, mRet, mRetN, mIfS, mRaise, mSet, mAsg, mPar, mPar3, mAug, mFld, mFldAug, gNm, gSub', gFld, gNl, gCn, gTp, setA, putFD, mVar, mC, mB, mU, mTB, mAnd, mOr, mNot, mIf, mAndV, mOrV, mNotV, mChain, mNil, mCons, mTup, mLst, mSl, oNo, oE, mCB, fAbs, fMax2, fMin2, fInt, lenD, fLen, fTuple, fList, itemsD, fIsi, tyD, mAttr, mCall, mMeth, mMake, mBM, tyF, SM.bind, SM.pure, toRS, toRSA, toRST, Y.sb, List.lookup, put_f, put_n, alloc_f, alloc_n, put_put, alloc_put, okI, okB, orF, dSub, dFdiv, dMod, dPow, dShl, dShr, dAnd, dOr, dXor, dNeg, dLt, dLe, dGt, dGe, dIs, e1, ew, dIx, ixSeq, K_INSTRUCTIONS, lin_P_halt, lin_P_set, lin_P_load, lin_P_store, lin_P_add, lin_P_sub, lin_P_and, lin_P_xor, lin_P_jump, lin_P_zero, lin_P_less, lin_P_out, lin_P_in, lin_P_half, lin_P_from, lin_P_to, lin_J_halt, lin_J_set, lin_J_load, lin_J_store, lin_J_add, lin_J_sub, lin_J_and, lin_J_xor, lin_J_jump, lin_J_zero, lin_J_less, lin_J_out, lin_J_in, lin_J_half, lin_J_from, lin_J_to, ok_halt, ok_set, ok_load, ok_store, ok_add, ok_sub, ok_and, ok_xor, ok_jump, ok_zero, ok_less, ok_out, ok_in, ok_half, ok_from, ok_to, ev_neS, ev_eqI, sz, sz2, sz3, z1, z2, dAdd, rowD, e4]
    exact ⟨⟨"load", r4, ⟨rfl, rfl⟩, .inr (.inr ⟨by simp, c0, c1⟩)⟩, g4, f3.trans (Fr.put (by simp))⟩
  · simp (maxSteps := 4000000) (decide := true) [Tells, f__law_row, mFun, b__law_row, mSeq, mPass, mBrk, mCnt, mDrop, mRet, mRetN, mIfS, mRaise, mSet, mAsg, mPar, mPar3, mAug, mFld, mFldAug, gNm, gSub', gFld, gNl, gCn, gTp, setA, putFD, mVar, mC, mB, mU, mTB, mAnd, mOr, mNot, mIf, mAndV, mOrV, mNotV, mChain, mNil, mCons, mTup, mLst, mSl, oNo, oE, mCB, fAbs, fMax2, fMin2, fInt, lenD, fLen, fTuple, fList, itemsD, fIsi, tyD, mAttr, mCall, mMeth, mMake, mBM, tyF, SM.bind, SM.pure, toRS, toRSA, toRST, Y.sb, List.lookup, put_f, put_n, alloc_f, alloc_n, put_put, alloc_put, okI, okB, orF, dSub, dFdiv, dMod, dPow, dShl, dShr, dAnd, dOr, dXor, dNeg, dLt, dLe, dGt, dGe, dIs, e1, ew, dIx, ixSeq, K_INSTRUCTIONS, lin_P_halt, lin_P_set, lin_P_load, lin_P_store, lin_P_add, lin_P_sub, lin_P_and, lin_P_xor, lin_P_jump, lin_P_zero, lin_P_less, lin_P_out, lin_P_in, lin_P_half, lin_P_from, lin_P_to, lin_J_halt, lin_J_set, lin_J_load, lin_J_store, lin_J_add, lin_J_sub, lin_J_and, lin_J_xor, lin_J_jump, lin_J_zero, lin_J_less, lin_J_out, lin_J_in, lin_J_half, lin_J_from, lin_J_to, ok_halt, ok_set, ok_load, ok_store, ok_add, ok_sub, ok_and, ok_xor, ok_jump, ok_zero, ok_less, ok_out, ok_in, ok_half, ok_from, ok_to, ev_neS, ev_eqI, sz, sz2, sz3, z1, z2, dAdd, rowD, e4]
    exact ⟨⟨"store", r4, ⟨rfl, rfl⟩, .inr (.inr ⟨by simp, c0, c1⟩)⟩, g4, f3.trans (Fr.put (by simp))⟩
  · simp (maxSteps := 4000000) (decide := true) [Tells, f__law_row, mFun, b__law_row, mSeq, mPass, mBrk, mCnt, mDrop, mRet, mRetN, mIfS, mRaise, mSet, mAsg, mPar, mPar3, mAug, mFld, mFldAug, gNm, gSub', gFld, gNl, gCn, gTp, setA, putFD, mVar, mC, mB, mU, mTB, mAnd, mOr, mNot, mIf, mAndV, mOrV, mNotV, mChain, mNil, mCons, mTup, mLst, mSl, oNo, oE, mCB, fAbs, fMax2, fMin2, fInt, lenD, fLen, fTuple, fList, itemsD, fIsi, tyD, mAttr, mCall, mMeth, mMake, mBM, tyF, SM.bind, SM.pure, toRS, toRSA, toRST, Y.sb, List.lookup, put_f, put_n, alloc_f, alloc_n, put_put, alloc_put, okI, okB, orF, dSub, dFdiv, dMod, dPow, dShl, dShr, dAnd, dOr, dXor, dNeg, dLt, dLe, dGt, dGe, dIs, e1, ew, dIx, ixSeq, K_INSTRUCTIONS, lin_P_halt, lin_P_set, lin_P_load, lin_P_store, lin_P_add, lin_P_sub, lin_P_and, lin_P_xor, lin_P_jump, lin_P_zero, lin_P_less, lin_P_out, lin_P_in, lin_P_half, lin_P_from, lin_P_to, lin_J_halt, lin_J_set, lin_J_load, lin_J_store, lin_J_add, lin_J_sub, lin_J_and, lin_J_xor, lin_J_jump, lin_J_zero, lin_J_less, lin_J_out, lin_J_in, lin_J_half, lin_J_from, lin_J_to, ok_halt, ok_set, ok_load, ok_store, ok_add, ok_sub, ok_and, ok_xor, ok_jump, ok_zero, ok_less, ok_out, ok_in, ok_half, ok_from, ok_to, ev_neS, ev_eqI, sz, sz2, sz3, z1, z2, dAdd, rowD, e4]
    exact ⟨⟨"add", r4, ⟨rfl, rfl⟩, .inr (.inr ⟨by simp, c0, c1⟩)⟩, g4, f3.trans (Fr.put (by simp))⟩
  · simp (maxSteps := 4000000) (decide := true) [Tells, f__law_row, mFun, b__law_row, mSeq, mPass, mBrk, mCnt, mDrop, mRet, mRetN, mIfS, mRaise, mSet, mAsg, mPar, mPar3, mAug, mFld, mFldAug, gNm, gSub', gFld, gNl, gCn, gTp, setA, putFD, mVar, mC, mB, mU, mTB, mAnd, mOr, mNot, mIf, mAndV, mOrV, mNotV, mChain, mNil, mCons, mTup, mLst, mSl, oNo, oE, mCB, fAbs, fMax2, fMin2, fInt, lenD, fLen, fTuple, fList, itemsD, fIsi, tyD, mAttr, mCall, mMeth, mMake, mBM, tyF, SM.bind, SM.pure, toRS, toRSA, toRST, Y.sb, List.lookup, put_f, put_n, alloc_f, alloc_n, put_put, alloc_put, okI, okB, orF, dSub, dFdiv, dMod, dPow, dShl, dShr, dAnd, dOr, dXor, dNeg, dLt, dLe, dGt, dGe, dIs, e1, ew, dIx, ixSeq, K_INSTRUCTIONS, lin_P_halt, lin_P_set, lin_P_load, lin_P_store, lin_P_add, lin_P_sub, lin_P_and, lin_P_xor, lin_P_jump, lin_P_zero, lin_P_less, lin_P_out, lin_P_in, lin_P_half, lin_P_from, lin_P_to, lin_J_halt, lin_J_set, lin_J_load, lin_J_store, lin_J_add, lin_J_sub, lin_J_and, lin_J_xor, lin_J_jump, lin_J_zero, lin_J_less, lin_J_out, lin_J_in, lin_J_half, lin_J_from, lin_J_to, ok_halt, ok_set, ok_load, ok_store, ok_add, ok_sub, ok_and, ok_xor, ok_jump, ok_zero, ok_less, ok_out, ok_in, ok_half, ok_from, ok_to, ev_neS, ev_eqI, sz, sz2, sz3, z1, z2, dAdd, rowD, e4]
    exact ⟨⟨"sub", r4, ⟨rfl, rfl⟩, .inr (.inr ⟨by simp, c0, c1⟩)⟩, g4, f3.trans (Fr.put (by simp))⟩
  · simp (maxSteps := 4000000) (decide := true) [Tells, f__law_row, mFun, b__law_row, mSeq, mPass, mBrk, mCnt, mDrop, mRet, mRetN, mIfS, mRaise, mSet, mAsg, mPar, mPar3, mAug, mFld, mFldAug, gNm, gSub', gFld, gNl, gCn, gTp, setA, putFD, mVar, mC, mB, mU, mTB, mAnd, mOr, mNot, mIf, mAndV, mOrV, mNotV, mChain, mNil, mCons, mTup, mLst, mSl, oNo, oE, mCB, fAbs, fMax2, fMin2, fInt, lenD, fLen, fTuple, fList, itemsD, fIsi, tyD, mAttr, mCall, mMeth, mMake, mBM, tyF, SM.bind, SM.pure, toRS, toRSA, toRST, Y.sb, List.lookup, put_f, put_n, alloc_f, alloc_n, put_put, alloc_put, okI, okB, orF, dSub, dFdiv, dMod, dPow, dShl, dShr, dAnd, dOr, dXor, dNeg, dLt, dLe, dGt, dGe, dIs, e1, ew, dIx, ixSeq, K_INSTRUCTIONS, lin_P_halt, lin_P_set, lin_P_load, lin_P_store, lin_P_add, lin_P_sub, lin_P_and, lin_P_xor, lin_P_jump, lin_P_zero, lin_P_less, lin_P_out, lin_P_in, lin_P_half, lin_P_from, lin_P_to, lin_J_halt, lin_J_set, lin_J_load, lin_J_store, lin_J_add, lin_J_sub, lin_J_and, lin_J_xor, lin_J_jump, lin_J_zero, lin_J_less, lin_J_out, lin_J_in, lin_J_half, lin_J_from, lin_J_to, ok_halt, ok_set, ok_load, ok_store, ok_add, ok_sub, ok_and, ok_xor, ok_jump, ok_zero, ok_less, ok_out, ok_in, ok_half, ok_from, ok_to, ev_neS, ev_eqI, sz, sz2, sz3, z1, z2, dAdd, rowD, e4]
    exact ⟨⟨"and", r4, ⟨rfl, rfl⟩, .inr (.inr ⟨by simp, c0, c1⟩)⟩, g4, f3.trans (Fr.put (by simp))⟩
  · simp (maxSteps := 4000000) (decide := true) [Tells, f__law_row, mFun, b__law_row, mSeq, mPass, mBrk, mCnt, mDrop, mRet, mRetN, mIfS, mRaise, mSet, mAsg, mPar, mPar3, mAug, mFld, mFldAug, gNm, gSub', gFld, gNl, gCn, gTp, setA, putFD, mVar, mC, mB, mU, mTB, mAnd, mOr, mNot, mIf, mAndV, mOrV, mNotV, mChain, mNil, mCons, mTup, mLst, mSl, oNo, oE, mCB, fAbs, fMax2, fMin2, fInt, lenD, fLen, fTuple, fList, itemsD, fIsi, tyD, mAttr, mCall, mMeth, mMake, mBM, tyF, SM.bind, SM.pure, toRS, toRSA, toRST, Y.sb, List.lookup, put_f, put_n, alloc_f, alloc_n, put_put, alloc_put, okI, okB, orF, dSub, dFdiv, dMod, dPow, dShl, dShr, dAnd, dOr, dXor, dNeg, dLt, dLe, dGt, dGe, dIs, e1, ew, dIx, ixSeq, K_INSTRUCTIONS, lin_P_halt, lin_P_set, lin_P_load, lin_P_store, lin_P_add, lin_P_sub, lin_P_and, lin_P_xor, lin_P_jump, lin_P_zero, lin_P_less, lin_P_out, lin_P_in, lin_P_half, lin_P_from, lin_P_to, lin_J_halt, lin_J_set, lin_J_load, lin_J_store, lin_J_add, lin_J_sub, lin_J_and, lin_J_xor, lin_J_jump, lin_J_zero, lin_J_less, lin_J_out, lin_J_in, lin_J_half, lin_J_from, lin_J_to, ok_halt, ok_set, ok_load, ok_store, ok_add, ok_sub, ok_and, ok_xor, ok_jump, ok_zero, ok_less, ok_out, ok_in, ok_half, ok_from, ok_to, ev_neS, ev_eqI, sz, sz2, sz3, z1, z2, dAdd, rowD, e4]
    exact ⟨⟨"xor", r4, ⟨rfl, rfl⟩, .inr (.inr ⟨by simp, c0, c1⟩)⟩, g4, f3.trans (Fr.put (by simp))⟩
  · simp (maxSteps := 4000000) (decide := true) [Tells, f__law_row, mFun, b__law_row, mSeq, mPass, mBrk, mCnt, mDrop, mRet, mRetN, mIfS, mRaise, mSet, mAsg, mPar, mPar3, mAug, mFld, mFldAug, gNm, gSub', gFld, gNl, gCn, gTp, setA, putFD, mVar, mC, mB, mU, mTB, mAnd, mOr, mNot, mIf, mAndV, mOrV, mNotV, mChain, mNil, mCons, mTup, mLst, mSl, oNo, oE, mCB, fAbs, fMax2, fMin2, fInt, lenD, fLen, fTuple, fList, itemsD, fIsi, tyD, mAttr, mCall, mMeth, mMake, mBM, tyF, SM.bind, SM.pure, toRS, toRSA, toRST, Y.sb, List.lookup, put_f, put_n, alloc_f, alloc_n, put_put, alloc_put, okI, okB, orF, dSub, dFdiv, dMod, dPow, dShl, dShr, dAnd, dOr, dXor, dNeg, dLt, dLe, dGt, dGe, dIs, e1, ew, dIx, ixSeq, K_INSTRUCTIONS, lin_P_halt, lin_P_set, lin_P_load, lin_P_store, lin_P_add, lin_P_sub, lin_P_and, lin_P_xor, lin_P_jump, lin_P_zero, lin_P_less, lin_P_out, lin_P_in, lin_P_half, lin_P_from, lin_P_to, lin_J_halt, lin_J_set, lin_J_load, lin_J_store, lin_J_add, lin_J_sub, lin_J_and, lin_J_xor, lin_J_jump, lin_J_zero, lin_J_less, lin_J_out, lin_J_in, lin_J_half, lin_J_from, lin_J_to, ok_halt, ok_set, ok_load, ok_store, ok_add, ok_sub, ok_and, ok_xor, ok_jump, ok_zero, ok_less, ok_out, ok_in, ok_half, ok_from, ok_to, ev_neS, ev_eqI, sz, sz2, sz3, z1, z2, dAdd, rowD, e3]
    exact ⟨⟨"jump", r3, ⟨rfl, rfl⟩, .inr (.inl ⟨by simp, b0, b2⟩)⟩, g3, f3.trans (Fr.put (by simp))⟩
  · simp (maxSteps := 4000000) (decide := true) [Tells, f__law_row, mFun, b__law_row, mSeq, mPass, mBrk, mCnt, mDrop, mRet, mRetN, mIfS, mRaise, mSet, mAsg, mPar, mPar3, mAug, mFld, mFldAug, gNm, gSub', gFld, gNl, gCn, gTp, setA, putFD, mVar, mC, mB, mU, mTB, mAnd, mOr, mNot, mIf, mAndV, mOrV, mNotV, mChain, mNil, mCons, mTup, mLst, mSl, oNo, oE, mCB, fAbs, fMax2, fMin2, fInt, lenD, fLen, fTuple, fList, itemsD, fIsi, tyD, mAttr, mCall, mMeth, mMake, mBM, tyF, SM.bind, SM.pure, toRS, toRSA, toRST, Y.sb, List.lookup, put_f, put_n, alloc_f, alloc_n, put_put, alloc_put, okI, okB, orF, dSub, dFdiv, dMod, dPow, dShl, dShr, dAnd, dOr, dXor, dNeg, dLt, dLe, dGt, dGe, dIs, e1, ew, dIx, ixSeq, K_INSTRUCTIONS, lin_P_halt, lin_P_set, lin_P_load, lin_P_store, lin_P_add, lin_P_sub, lin_P_and, lin_P_xor, lin_P_jump, lin_P_zero, lin_P_less, lin_P_out, lin_P_in, lin_P_half, lin_P_from, lin_P_to, lin_J_halt, lin_J_set, lin_J_load, lin_J_store, lin_J_add, lin_J_sub, lin_J_and, lin_J_xor, lin_J_jump, lin_J_zero, lin_J_less, lin_J_out, lin_J_in, lin_J_half, lin_J_from, lin_J_to, ok_halt, ok_set, ok_load, ok_store, ok_add, ok_sub, ok_and, ok_xor, ok_jump, ok_zero, ok_less, ok_out, ok_in, ok_half, ok_from, ok_to, ev_neS, ev_eqI, sz, sz2, sz3, z1, z2, dAdd, rowD, e3]
    exact ⟨⟨"zero", r3, ⟨rfl, rfl⟩, .inr (.inl ⟨by simp, b0, b2⟩)⟩, g3, f3.trans (Fr.put (by simp))⟩
  · simp (maxSteps := 4000000) (decide := true) [Tells, f__law_row, mFun, b__law_row, mSeq, mPass, mBrk, mCnt, mDrop, mRet, mRetN, mIfS, mRaise, mSet, mAsg, mPar, mPar3, mAug, mFld, mFldAug, gNm, gSub', gFld, gNl, gCn, gTp, setA, putFD, mVar, mC, mB, mU, mTB, mAnd, mOr, mNot, mIf, mAndV, mOrV, mNotV, mChain, mNil, mCons, mTup, mLst, mSl, oNo, oE, mCB, fAbs, fMax2, fMin2, fInt, lenD, fLen, fTuple, fList, itemsD, fIsi, tyD, mAttr, mCall, mMeth, mMake, mBM, tyF, SM.bind, SM.pure, toRS, toRSA, toRST, Y.sb, List.lookup, put_f, put_n, alloc_f, alloc_n, put_put, alloc_put, okI, okB, orF, dSub, dFdiv, dMod, dPow, dShl, dShr, dAnd, dOr, dXor, dNeg, dLt, dLe, dGt, dGe, dIs, e1, ew, dIx, ixSeq, K_INSTRUCTIONS, lin_P_halt, lin_P_set, lin_P_load, lin_P_store, lin_P_add, lin_P_sub, lin_P_and, lin_P_xor, lin_P_jump, lin_P_zero, lin_P_less, lin_P_out, lin_P_in, lin_P_half, lin_P_from, lin_P_to, lin_J_halt, lin_J_set, lin_J_load, lin_J_store, lin_J_add, lin_J_sub, lin_J_and, lin_J_xor, lin_J_jump, lin_J_zero, lin_J_less, lin_J_out, lin_J_in, lin_J_half, lin_J_from, lin_J_to, ok_halt, ok_set, ok_load, ok_store, ok_add, ok_sub, ok_and, ok_xor, ok_jump, ok_zero, ok_less, ok_out, ok_in, ok_half, ok_from, ok_to, ev_neS, ev_eqI, sz, sz2, sz3, z1, z2, dAdd, rowD, e3]
    exact ⟨⟨"less", r3, ⟨rfl, rfl⟩, .inr (.inl ⟨by simp, b0, b2⟩)⟩, g3, f3.trans (Fr.put (by simp))⟩
  · simp (maxSteps := 4000000) (decide := true) [Tells, f__law_row, mFun, b__law_row, mSeq, mPass, mBrk, mCnt, mDrop, mRet, mRetN, mIfS, mRaise, mSet, mAsg, mPar, mPar3, mAug, mFld, mFldAug, gNm, gSub', gFld, gNl, gCn, gTp, setA, putFD, mVar, mC, mB, mU, mTB, mAnd, mOr, mNot, mIf, mAndV, mOrV, mNotV, mChain, mNil, mCons, mTup, mLst, mSl, oNo, oE, mCB, fAbs, fMax2, fMin2, fInt, lenD, fLen, fTuple, fList, itemsD, fIsi, tyD, mAttr, mCall, mMeth, mMake, mBM, tyF, SM.bind, SM.pure, toRS, toRSA, toRST, Y.sb, List.lookup, put_f, put_n, alloc_f, alloc_n, put_put, alloc_put, okI, okB, orF, dSub, dFdiv, dMod, dPow, dShl, dShr, dAnd, dOr, dXor, dNeg, dLt, dLe, dGt, dGe, dIs, e1, ew, dIx, ixSeq, K_INSTRUCTIONS, lin_P_halt, lin_P_set, lin_P_load, lin_P_store, lin_P_add, lin_P_sub, lin_P_and, lin_P_xor, lin_P_jump, lin_P_zero, lin_P_less, lin_P_out, lin_P_in, lin_P_half, lin_P_from, lin_P_to, lin_J_halt, lin_J_set, lin_J_load, lin_J_store, lin_J_add, lin_J_sub, lin_J_and, lin_J_xor, lin_J_jump, lin_J_zero, lin_J_less, lin_J_out, lin_J_in, lin_J_half, lin_J_from, lin_J_to, ok_halt, ok_set, ok_load, ok_store, ok_add, ok_sub, ok_and, ok_xor, ok_jump, ok_zero, ok_less, ok_out, ok_in, ok_half, ok_from, ok_to, ev_neS, ev_eqI, sz, sz2, sz3, z1, z2, dAdd, rowD]
    exact ⟨⟨"out", 0, ⟨rfl, rfl⟩, .inl ⟨by simp, rfl⟩⟩, d2, f2⟩
  · simp (maxSteps := 4000000) (decide := true) [Tells, f__law_row, mFun, b__law_row, mSeq, mPass, mBrk, mCnt, mDrop, mRet, mRetN, mIfS, mRaise, mSet, mAsg, mPar, mPar3, mAug, mFld, mFldAug, gNm, gSub', gFld, gNl, gCn, gTp, setA, putFD, mVar, mC, mB, mU, mTB, mAnd, mOr, mNot, mIf, mAndV, mOrV, mNotV, mChain, mNil, mCons, mTup, mLst, mSl, oNo, oE, mCB, fAbs, fMax2, fMin2, fInt, lenD, fLen, fTuple, fList, itemsD, fIsi, tyD, mAttr, mCall, mMeth, mMake, mBM, tyF, SM.bind, SM.pure, toRS, toRSA, toRST, Y.sb, List.lookup, put_f, put_n, alloc_f, alloc_n, put_put, alloc_put, okI, okB, orF, dSub, dFdiv, dMod, dPow, dShl, dShr, dAnd, dOr, dXor, dNeg, dLt, dLe, dGt, dGe, dIs, e1, ew, dIx, ixSeq, K_INSTRUCTIONS, lin_P_halt, lin_P_set, lin_P_load, lin_P_store, lin_P_add, lin_P_sub, lin_P_and, lin_P_xor, lin_P_jump, lin_P_zero, lin_P_less, lin_P_out, lin_P_in, lin_P_half, lin_P_from, lin_P_to, lin_J_halt, lin_J_set, lin_J_load, lin_J_store, lin_J_add, lin_J_sub, lin_J_and, lin_J_xor, lin_J_jump, lin_J_zero, lin_J_less, lin_J_out, lin_J_in, lin_J_half, lin_J_from, lin_J_to, ok_halt, ok_set, ok_load, ok_store, ok_add, ok_sub, ok_and, ok_xor, ok_jump, ok_zero, ok_less, ok_out, ok_in, ok_half, ok_from, ok_to, ev_neS, ev_eqI, sz, sz2, sz3, z1, z2, dAdd, rowD]
    exact ⟨⟨"in", 0, ⟨rfl, rfl⟩, .inl ⟨by simp, rfl⟩⟩, d2, f2⟩
  · simp (maxSteps := 4000000) (decide := true) [Tells, f__law_row, mFun, b__law_row, mSeq, mPass, mBrk, mCnt, mDrop, mRet, mRetN, mIfS, mRaise, mSet, mAsg, mPar, mPar3, mAug, mFld, mFldAug, gNm, gSub', gFld, gNl, gCn, gTp, setA, putFD, mVar, mC, mB, mU, mTB, mAnd, mOr, mNot, mIf, mAndV, mOrV, mNotV, mChain, mNil, mCons, mTup, mLst, mSl, oNo, oE, mCB, fAbs, fMax2, fMin2, fInt, lenD, fLen, fTuple, fList, itemsD, fIsi, tyD, mAttr, mCall, mMeth, mMake, mBM, tyF, SM.bind, SM.pure, toRS, toRSA, toRST, Y.sb, List.lookup, put_f, put_n, alloc_f, alloc_n, put_put, alloc_put, okI, okB, orF, dSub, dFdiv, dMod, dPow, dShl, dShr, dAnd, dOr, dXor, dNeg, dLt, dLe, dGt, dGe, dIs, e1, ew, dIx, ixSeq, K_INSTRUCTIONS, lin_P_halt, lin_P_set, lin_P_load, lin_P_store, lin_P_add, lin_P_sub, lin_P_and, lin_P_xor, lin_P_jump, lin_P_zero, lin_P_less, lin_P_out, lin_P_in, lin_P_half, lin_P_from, lin_P_to, lin_J_halt, lin_J_set, lin_J_load, lin_J_store, lin_J_add, lin_J_sub, lin_J_and, lin_J_xor, lin_J_jump, lin_J_zero, lin_J_less, lin_J_out, lin_J_in, lin_J_half, lin_J_from, lin_J_to, ok_halt, ok_set, ok_load, ok_store, ok_add, ok_sub, ok_and, ok_xor, ok_jump, ok_zero, ok_less, ok_out, ok_in, ok_half, ok_from, ok_to, ev_neS, ev_eqI, sz, sz2, sz3, z1, z2, dAdd, rowD]
    exact ⟨⟨"half", 0, ⟨rfl, rfl⟩, .inl ⟨by simp, rfl⟩⟩, d2, f2⟩
  · simp (maxSteps := 4000000) (decide := true) [Tells, f__law_row, mFun, b__law_row, mSeq, mPass, mBrk, mCnt, mDrop, mRet, mRetN, mIfS, mRaise, mSet, mAsg, mPar, mPar3, mAug, mFld, mFldAug, gNm, gSub', gFld, gNl, gCn, gTp, setA, putFD, mVar, mC, mB, mU, mTB, mAnd, mOr, mNot, mIf, mAndV, mOrV, mNotV, mChain, mNil, mCons, mTup, mLst, mSl, oNo, oE, mCB, fAbs, fMax2, fMin2, fInt, lenD, fLen, fTuple, fList, itemsD, fIsi, tyD, mAttr, mCall, mMeth, mMake, mBM, tyF, SM.bind, SM.pure, toRS, toRSA, toRST, Y.sb, List.lookup, put_f, put_n, alloc_f, alloc_n, put_put, alloc_put, okI, okB, orF, dSub, dFdiv, dMod, dPow, dShl, dShr, dAnd, dOr, dXor, dNeg, dLt, dLe, dGt, dGe, dIs, e1, ew, dIx, ixSeq, K_INSTRUCTIONS, lin_P_halt, lin_P_set, lin_P_load, lin_P_store, lin_P_add, lin_P_sub, lin_P_and, lin_P_xor, lin_P_jump, lin_P_zero, lin_P_less, lin_P_out, lin_P_in, lin_P_half, lin_P_from, lin_P_to, lin_J_halt, lin_J_set, lin_J_load, lin_J_store, lin_J_add, lin_J_sub, lin_J_and, lin_J_xor, lin_J_jump, lin_J_zero, lin_J_less, lin_J_out, lin_J_in, lin_J_half, lin_J_from, lin_J_to, ok_halt, ok_set, ok_load, ok_store, ok_add, ok_sub, ok_and, ok_xor, ok_jump, ok_zero, ok_less, ok_out, ok_in, ok_half, ok_from, ok_to, ev_neS, ev_eqI, sz, sz2, sz3, z1, z2, dAdd, rowD, e4]
    exact ⟨⟨"from", r4, ⟨rfl, rfl⟩, .inr (.inr ⟨by simp, c0, c1⟩)⟩, g4, f3.trans (Fr.put (by simp))⟩
  · simp (maxSteps := 4000000) (decide := true) [Tells, f__law_row, mFun, b__law_row, mSeq, mPass, mBrk, mCnt, mDrop, mRet, mRetN, mIfS, mRaise, mSet, mAsg, mPar, mPar3, mAug, mFld, mFldAug, gNm, gSub', gFld, gNl, gCn, gTp, setA, putFD, mVar, mC, mB, mU, mTB, mAnd, mOr, mNot, mIf, mAndV, mOrV, mNotV, mChain, mNil, mCons, mTup, mLst, mSl, oNo, oE, mCB, fAbs, fMax2, fMin2, fInt, lenD, fLen, fTuple, fList, itemsD, fIsi, tyD, mAttr, mCall, mMeth, mMake, mBM, tyF, SM.bind, SM.pure, toRS, toRSA, toRST, Y.sb, List.lookup, put_f, put_n, alloc_f, alloc_n, put_put, alloc_put, okI, okB, orF, dSub, dFdiv, dMod, dPow, dShl, dShr, dAnd, dOr, dXor, dNeg, dLt, dLe, dGt, dGe, dIs, e1, ew, dIx, ixSeq, K_INSTRUCTIONS, lin_P_halt, lin_P_set, lin_P_load, lin_P_store, lin_P_add, lin_P_sub, lin_P_and, lin_P_xor, lin_P_jump, lin_P_zero, lin_P_less, lin_P_out, lin_P_in, lin_P_half, lin_P_from, lin_P_to, lin_J_halt, lin_J_set, lin_J_load, lin_J_store, lin_J_add, lin_J_sub, lin_J_and, lin_J_xor, lin_J_jump, lin_J_zero, lin_J_less, lin_J_out, lin_J_in, lin_J_half, lin_J_from, lin_J_to, ok_halt, ok_set, ok_load, ok_store, ok_add, ok_sub, ok_and, ok_xor, ok_jump, ok_zero, ok_less, ok_out, ok_in, ok_half, ok_from, ok_to, ev_neS, ev_eqI, sz, sz2, sz3, z1, z2, dAdd, rowD, e4]
    exact ⟨⟨"to", r4, ⟨rfl, rfl⟩, .inr (.inr ⟨by simp, c0, c1⟩)⟩, g4, f3.trans (Fr.put (by simp))⟩
end
end K10

set_option Elab.async false
set_option linter.all false
set_option maxRecDepth 100000
set_option maxHeartbeats 4000000
namespace K10
open PySem L2 Y
section
variable {S : Sr}
theorem e_dice (z : Int) : ∃ a b c : Int, f__law_dice [.int z] S = .ok (.adr S.n) (S.alloc (.lst [.int a, .int b, .int c])) := by
  have sz : 3 ≤ sizeLine := by rw [sizeLine_eq]; omega
  have pw : powB 10 18 = true := by decide
  by_cases h0 : -10 < z
  · by_cases h1 : z < 10
    · refine ⟨if z < 0 then -z else z, 0, 2, ?_⟩
      simp (maxSteps := 4000000) (decide := true) [f__law_dice, mFun, b__law_dice, mSeq, mPass, mBrk, mCnt, mDrop, mRet, mRetN, mIfS, mRaise, mSet, mAsg, mPar, mPar3, mAug, mFld, mFldAug, gNm, gSub', gFld, gNl, gCn, gTp, setA, putFD, mVar, mC, mB, mU, mTB, mAnd, mOr, mNot, mIf, mAndV, mOrV, mNotV, mChain, mNil, mCons, mTup, mLst, mSl, oNo, oE, mCB, fAbs, fMax2, fMin2, fInt, lenD, fLen, fTuple, fList, itemsD, fIsi, tyD, mAttr, mCall, mMeth, mMake, mBM, tyF, SM.bind, SM.pure, toRS, toRSA, toRST, Y.sb, List.lookup, put_f, put_n, alloc_f, alloc_n, put_put, alloc_put, okI, okB, orF, dSub, dFdiv, dMod, dPow, dShl, dShr, dAnd, dOr, dXor, dNeg, dLt, dLe, dGt, dGe, dIs, h0, h1, sz]
    · refine ⟨z, 1 + z % 1009, if 10 ^ 18 ≤ z then 1 else 0, ?_⟩
      simp (maxSteps := 4000000) (decide := true) [f__law_dice, mFun, b__law_dice, mSeq, mPass, mBrk, mCnt, mDrop, mRet, mRetN, mIfS, mRaise, mSet, mAsg, mPar, mPar3, mAug, mFld, mFldAug, gNm, gSub', gFld, gNl, gCn, gTp, setA, putFD, mVar, mC, mB, mU, mTB, mAnd, mOr, mNot, mIf, mAndV, mOrV, mNotV, mChain, mNil, mCons, mTup, mLst, mSl, oNo, oE, mCB, fAbs, fMax2, fMin2, fInt, lenD, fLen, fTuple, fList, itemsD, fIsi, tyD, mAttr, mCall, mMeth, mMake, mBM, tyF, SM.bind, SM.pure, toRS, toRSA, toRST, Y.sb, List.lookup, put_f, put_n, alloc_f, alloc_n, put_put, alloc_put, okI, okB, orF, dSub, dFdiv, dMod, dPow, dShl, dShr, dAnd, dOr, dXor, dNeg, dLt, dLe, dGt, dGe, dIs, h0, h1, sz, pw, dAdd]
  · refine ⟨z, 1 + z % 1009, if 10 ^ 18 ≤ z then 1 else 0, ?_⟩
    simp (maxSteps := 4000000) (decide := true) [f__law_dice, mFun, b__law_dice, mSeq, mPass, mBrk, mCnt, mDrop, mRet, mRetN, mIfS, mRaise, mSet, mAsg, mPar, mPar3, mAug, mFld, mFldAug, gNm, gSub', gFld, gNl, gCn, gTp, setA, putFD, mVar, mC, mB, mU, mTB, mAnd, mOr, mNot, mIf, mAndV, mOrV, mNotV, mChain, mNil, mCons, mTup, mLst, mSl, oNo, oE, mCB, fAbs, fMax2, fMin2, fInt, lenD, fLen, fTuple, fList, itemsD, fIsi, tyD, mAttr, mCall, mMeth, mMake, mBM, tyF, SM.bind, SM.pure, toRS, toRSA, toRST, Y.sb, List.lookup, put_f, put_n, alloc_f, alloc_n, put_put, alloc_put, okI, okB, orF, dSub, dFdiv, dMod, dPow, dShl, dShr, dAnd, dOr, dXor, dNeg, dLt, dLe, dGt, dGe, dIs, h0, sz, pw, dAdd]
theorem lc_one {sr : Src} {t : Tg} {mt : MT} {me : ME} {g0 g : Gm} {D0 : Nat} {S S1 : Sr} {d y : D} (h0 : sr.nxt 0 S = some (some d)) (h1 : t.put d g0 = some g) (h2 : mt g S = .ok true S) (h3 : me g S = .ok y S1) (h4 : S1.f D0 = some (.lst [])) (h5 : sr.nxt 1 (S1.put D0 (.lst [y])) = some none) :
    lcG sr t mt me g0 D0 1 0 S = .ok () (S1.put D0 (.lst [y])) := by
  show (match sr.nxt 0 S with
    | some none => R.ok () S
    | some (some d) => (match t.put d g0 with
      | none => .bad
      | some g => (match mt g S with
        | .ok false S1 => lcG sr t mt me g0 D0 0 1 S1
        | .ok true S1 => (match me g S1 with
          | .ok y S2 => (match S2.f D0 with
            | some (.lst acc) => if acc.length < sizeLine then lcG sr t mt me g0 D0 0 1 (S2.put D0 (.lst (acc ++ [y]))) else .bad
            | _ => .bad)
          | _ => .bad)
        | _ => .bad))
    | none => .bad) = _
  rw [h0]
  dsimp only
  rw [h1]
  dsimp only
  rw [h2]
  dsimp only
  rw [h3]
  dsimp only
  rw [h4]
  dsimp only
  rw [if_pos (by rw [sizeLine_eq]; decide)]
  show (match sr.nxt 1 (S1.put D0 (.lst [y])) with
    | some none => R.ok () (S1.put D0 (.lst [y]))
    | _ => .bad) = _
  rw [h5]
/-- the comprehension over one cell at q -/
theorem e_cells {g : Gm} {q : Nat} {z : Int} (hq : S.f q = some (.lst [.int z])) (hl : q < S.n) :
    Tells (mLc (mSrc (mVar 2)) (.nm 3) mYes (mCall f__law_dice 1 [] (mCons (mVar 3) mNil)) [3] [g.getD 0 none, g.getD 1 none, some (.adr q), none] S) fun r S' => r = .adr S.n ∧ S'.f S.n = some (.lst [.adr (S.n + 1)]) ∧ DiceAt S' (S.n + 1) ∧ S'.n = S.n + 2 := by
  obtain ⟨a, b, c, e⟩ := e_dice (S := S.alloc (.lst [])) z
  have hn : q ≠ S.n := Nat.ne_of_lt hl
  have hn2 : q ≠ S.n + 1 := by omega
  have l := lc_one (sr := sqa q 1) (t := .nm 3) (mt := mYes) (me := mCall f__law_dice 1 [] (mCons (mVar 3) mNil)) (g0 := wipeD [g.getD 0 none, g.getD 1 none, some (.adr q), none] [3]) (g := [g.getD 0 none, g.getD 1 none, some (.adr q), some (.int z)]) (D0 := S.n) (S := S.alloc (.lst [])) (d := .int z) (y := .adr (S.n + 1)) (S1 := (S.alloc (.lst [])).alloc (.lst [.int a, .int b, .int c]))
    (by simp [sqa, alloc_f, hn, hq]) (by rfl) (by rfl) (by
      simp [mCall, mCons, mNil, mVar, SM.bind, SM.pure, e, alloc_n]) (by simp [alloc_f, alloc_n]) (by simp [sqa, alloc_f, alloc_n, put_f, hn, hn2, hq])
  have e2 : mLc (mSrc (mVar 2)) (.nm 3) mYes (mCall f__law_dice 1 [] (mCons (mVar 3) mNil)) [3] [g.getD 0 none, g.getD 1 none, some (.adr q), none] S = .ok (D.adr S.n) (((S.alloc (.lst [])).alloc (.lst [.int a, .int b, .int c])).put S.n (.lst [.adr (S.n + 1)])) := by
    have es : mSrc (mVar 2) [g.getD 0 none, g.getD 1 none, some (.adr q), none] S = .ok (sqa q 1) S := by
      simp [mSrc, mSrcD, mVar, SM.bind, hq]
    exact mLc_ok es l
  rw [e2]
  have h1 : S.n + 1 ≠ S.n := Nat.succ_ne_self _
  exact ⟨rfl, if_pos rfl, ⟨a, b, c, by simp [put_f, alloc_f, alloc_n]⟩, rfl⟩
theorem e_rounds {script : D} {ns : List Int} (hs : slD script none (some 1) S = .ok (.adr S.n) (S.alloc (.lst ((ns.take 1).map D.int)))) :
    Tells (f__law_rounds [script, .int 1] S) fun r S' => ∃ a i, r = .adr a ∧ S'.f a = some (.lst [.adr i]) ∧ DiceAt S' i ∧ i < S'.n ∧ a < S'.n ∧ a ≠ i ∧ S.n ≤ S'.n := by
  have t1 : S.n + 1 ≠ S.n := Nat.succ_ne_self _
  have ee : dEq (.adr S.n) (.adr (S.n + 1)) ((S.alloc (.lst ((ns.take 1).map D.int))).alloc (.lst [])) = .ok (.bl (ns.take 1).isEmpty) ((S.alloc (.lst ((ns.take 1).map D.int))).alloc (.lst [])) := eq_empty (by simp [alloc_f, alloc_n]) (by simp [alloc_f, alloc_n])
  have sz : 1 ≤ sizeLine := by rw [sizeLine_eq]; omega
  cases ns with
  | nil =>
    have ee : dEq (.adr S.n) (.adr (S.n + 1)) ((S.alloc (.lst [])).alloc (.lst [])) = .ok (.bl true) ((S.alloc (.lst [])).alloc (.lst [])) := ee
    have hs : slD script none (some 1) S = .ok (.adr S.n) (S.alloc (.lst [])) := hs
    have ec := (e_cells (S := ((S.alloc (.lst [])).alloc (.lst [])).alloc (.lst [.int 0])) (g := [some script, some (.int 1)]) (q := S.n + 2) (z := 0) (by simp [alloc_f, alloc_n]) (by simp [alloc_n])).get
    obtain ⟨r, S', e, rfl, h1, h2, h3⟩ := ec
    simp (maxSteps := 4000000) (decide := true) [Tells, f__law_rounds, mFun, b__law_rounds, mSeq, mSet, mSl, oNo, oE, mVar, mC, SM.bind, SM.pure, toRS, toRST, mIfS, mTB, mB, mLst, mCons, mNil, mPass, mRet, alloc_n, hs, ee, sz] at e ⊢
    rw [e]
    refine ⟨_, rfl, _, h1, h2, ?_, ?_, ?_, ?_⟩
    all_goals (simp only [alloc_n] at h3 ⊢; omega)
  | cons z t =>
    have ee : dEq (.adr S.n) (.adr (S.n + 1)) ((S.alloc (.lst [.int z])).alloc (.lst [])) = .ok (.bl false) ((S.alloc (.lst [.int z])).alloc (.lst [])) := ee
    have hs : slD script none (some 1) S = .ok (.adr S.n) (S.alloc (.lst [.int z])) := hs
    have ec := (e_cells (S := (S.alloc (.lst [.int z])).alloc (.lst [])) (g := [some script, some (.int 1)]) (q := S.n) (z := z) (by simp [alloc_f, alloc_n]) (by simp only [alloc_n]; omega)).get
    obtain ⟨r, S', e, rfl, h1, h2, h3⟩ := ec
    simp (maxSteps := 4000000) (decide := true) [Tells, f__law_rounds, mFun, b__law_rounds, mSeq, mSet, mSl, oNo, oE, mVar, mC, SM.bind, SM.pure, toRS, toRST, mIfS, mTB, mB, mLst, mCons, mNil, mPass, mRet, alloc_n, hs, ee, sz] at e ⊢
    rw [e]
    refine ⟨_, rfl, _, h1, h2, ?_, ?_, ?_, ?_⟩
    all_goals (simp only [alloc_n] at h3 ⊢; omega)
end
end K10

set_option Elab.async false
set_option linter.all false
set_option maxRecDepth 100000
set_option maxHeartbeats 4000000
namespace K10
open PySem L2 Y
section
variable {S : Sr} {i : Nat} {d k : Nat} {x0 x2 x3 x4 x5 x6 x7 x8 x9 : Option D} {t : Gm}
theorem l171 (hd : DiceAt S i) : ∃ d k : Nat, (2 ≤ d ∧ d ≤ 8) ∧ (2 ≤ k ∧ k ≤ 8) ∧ ∃ S', b_law_s171 (x0 :: some (.adr i) :: x2 :: x3 :: t) S = .nx (x0 :: some (.adr i) :: some (.int (d : Int)) :: some (.int (k : Int)) :: t) S' ∧ DiceAt S' i ∧ Fr [i] S S' := by
  obtain ⟨r1, y1, a0, a1, e1, d1⟩ := roll_at hd (many := 7) (by decide) (by decide)
  obtain ⟨r2, y2, b0, b1, e2, d2⟩ := roll_at d1 (many := 7) (by decide) (by decide)
  have sz : 2 ≤ sizeLine := by rw [sizeLine_eq]; omega
  refine ⟨(2 + r1).toNat, (2 + r2).toNat, by omega, by omega, (S.put i y1).put i y2, ?_, d2, (Fr.put (by simp)).trans (Fr.put (by simp))⟩
  have h1 : (((2 + r1).toNat : Nat) : Int) = 2 + r1 := by omega
  have h2 : (((2 + r2).toNat : Nat) : Int) = 2 + r2 := by omega
  rw [h1, h2]
  rw [put_put] at e2 ⊢
  simp (maxSteps := 4000000) (decide := true) [b_law_s171, mSeq, mPass, mBrk, mCnt, mDrop, mRet, mRetN, mIfS, mRaise, mSet, mAsg, mPar, mPar3, mAug, mFld, mFldAug, gNm, gSub', gFld, gNl, gCn, gTp, setA, putFD, mVar, mC, mB, mU, mTB, mAnd, mOr, mNot, mIf, mAndV, mOrV, mNotV, mChain, mNil, mCons, mTup, mLst, mSl, oNo, oE, mCB, fAbs, fMax2, fMin2, fInt, lenD, fLen, fTuple, fList, itemsD, fIsi, tyD, mAttr, mCall, mMeth, mMake, mBM, tyF, SM.bind, SM.pure, toRS, toRSA, toRST, Y.sb, List.lookup, put_f, put_n, alloc_f, alloc_n, put_put, alloc_put, okI, okB, orF, dSub, dFdiv, dMod, dPow, dShl, dShr, dAnd, dOr, dXor, dNeg, dLt, dLe, dGt, dGe, dIs, e1, e2, dAdd, sz]
theorem l172 (hd : DiceAt S i) (hi : i < S.n) (h2 : 2 ≤ d ∧ d ≤ 8) (h3 : 2 ≤ k ∧ k ≤ 8) : ∃ m : Nat, 1 ≤ m ∧ m ≤ 30 ∧ m ≤ 2 ^ k ∧ ∃ S', b_law_s172 (x0 :: some (.adr i) :: some (.int (d : Int)) :: some (.int (k : Int)) :: x4 :: x5 :: t) S = .nx (x0 :: some (.adr i) :: some (.int (d : Int)) :: some (.int (k : Int)) :: some (.adr S.n) :: some (.int (m : Int)) :: t) S' ∧
    DiceAt S' i ∧ Fr [i] S S' ∧ S'.f S.n = some (.ins "Size" (sF d k)) ∧ S.n < S'.n := by
  have hn : i ≠ S.n := Nat.ne_of_lt hi
  have z2 := pw1 h3.2
  have z4 := pos2 (d := k)
  have sz : 2 ≤ sizeLine := by rw [sizeLine_eq]; omega
  have c1 : (2 : Int) ≤ d := by omega
  have c2 : (d : Int) ≤ 8 := by omega
  have c3 : (2 : Int) ≤ k := by omega
  have c4 : (k : Int) ≤ 8 := by omega
  have e0 : f_Size___init__ [.adr S.n, .int (d : Int), .int (k : Int)] (S.alloc (.ins "Size" [])) = .ok .non (S.alloc (.ins "Size" (sF d k))) := by
    simp (maxSteps := 4000000) (decide := true) [f_Size___init__, mFun, b_Size___init__, mSeq, mPass, mBrk, mCnt, mDrop, mRet, mRetN, mIfS, mRaise, mSet, mAsg, mPar, mPar3, mAug, mFld, mFldAug, gNm, gSub', gFld, gNl, gCn, gTp, setA, putFD, mVar, mC, mB, mU, mTB, mAnd, mOr, mNot, mIf, mAndV, mOrV, mNotV, mChain, mNil, mCons, mTup, mLst, mSl, oNo, oE, mCB, fAbs, fMax2, fMin2, fInt, lenD, fLen, fTuple, fList, itemsD, fIsi, tyD, mAttr, mCall, mMeth, mMake, mBM, tyF, SM.bind, SM.pure, toRS, toRSA, toRST, Y.sb, List.lookup, put_f, put_n, alloc_f, alloc_n, put_put, alloc_put, okI, okB, orF, dSub, dFdiv, dMod, dPow, dShl, dShr, dAnd, dOr, dXor, dNeg, dLt, dLe, dGt, dGe, dIs, sF, c1, c2, c3, c4]
  have dz : DiceAt (S.alloc (.ins "Size" (sF d k))) i := dice_alloc hd hi
  have p8 : (2 : Int) ^ k ≤ 256 := by exact_mod_cast (Nat.pow_le_pow_right (n := 2) (by decide) h3.2)
  have e2k : ((2 ^ k : Nat) : Int) = 2 ^ k := by push_cast; rfl
  have fin : ∀ M : Int, (if (2 : Int) ^ k < 30 then (2 : Int) ^ k else 30) = M → ∃ m : Nat, 1 ≤ m ∧ m ≤ 30 ∧ m ≤ 2 ^ k ∧ ∃ S', b_law_s172 (x0 :: some (.adr i) :: some (.int (d : Int)) :: some (.int (k : Int)) :: x4 :: x5 :: t) S = .nx (x0 :: some (.adr i) :: some (.int (d : Int)) :: some (.int (k : Int)) :: some (.adr S.n) :: some (.int (m : Int)) :: t) S' ∧
    DiceAt S' i ∧ Fr [i] S S' ∧ S'.f S.n = some (.ins "Size" (sF d k)) ∧ S.n < S'.n := by
    intro M hM
    have hM1 : 0 < M ∧ M ≤ 30 ∧ M ≤ 2 ^ k := by
      rw [← hM]
      split <;> omega
    obtain ⟨r1, y1, a0, a1, e1, d1⟩ := roll_at dz (many := M) hM1.1 (by omega)
    refine ⟨(1 + r1).toNat, by omega, by omega, by omega, (S.alloc (.ins "Size" (sF d k))).put i y1, ?_, d1, Fr.alloc.trans (Fr.put (by simp)), ?_, ?_⟩
    · have h1 : (((1 + r1).toNat : Nat) : Int) = 1 + r1 := by omega
      rw [h1]
      simp (maxSteps := 4000000) (decide := true) [b_law_s172, mSeq, mPass, mBrk, mCnt, mDrop, mRet, mRetN, mIfS, mRaise, mSet, mAsg, mPar, mPar3, mAug, mFld, mFldAug, gNm, gSub', gFld, gNl, gCn, gTp, setA, putFD, mVar, mC, mB, mU, mTB, mAnd, mOr, mNot, mIf, mAndV, mOrV, mNotV, mChain, mNil, mCons, mTup, mLst, mSl, oNo, oE, mCB, fAbs, fMax2, fMin2, fInt, lenD, fLen, fTuple, fList, itemsD, fIsi, tyD, mAttr, mCall, mMeth, mMake, mBM, tyF, SM.bind, SM.pure, toRS, toRSA, toRST, Y.sb, List.lookup, put_f, put_n, alloc_f, alloc_n, put_put, alloc_put, okI, okB, orF, dSub, dFdiv, dMod, dPow, dShl, dShr, dAnd, dOr, dXor, dNeg, dLt, dLe, dGt, dGe, dIs, e0, e1, dAdd, sz, z2, hM]
    · rw [put_f, if_neg (Ne.symm hn), alloc_f, if_pos rfl]
    · show S.n < S.n + 1
      omega
  exact fin _ rfl
theorem Fr.putNew {l : List Nat} {S S' : Sr} {q : Nat} {x : MO} (h : Fr l S S') (hq : S.n ≤ q) : Fr l S (S'.put q x) := ⟨h.1, fun j hj hn => (if_neg (by omega)).trans (h.2 j hj hn)⟩
theorem dice_put {q : Nat} {x : MO} (h : DiceAt S i) (hq : i ≠ q) : DiceAt (S.put q x) i := by
  obtain ⟨a, b, c, h⟩ := h
  exact ⟨a, b, c, (if_neg hq).trans h⟩
theorem l173 {m : Nat} (hd : DiceAt S i) (hi : i < S.n) (h2 : d ≤ 8) (h3 : k ≤ 8) (hm : m ≤ 30) : ∃ rs : List (Str × Int), rs.length = m ∧ (∀ r ∈ rs, Valid d k r.1 r.2) ∧ ∃ S', b_law_s173 (x0 :: some (.adr i) :: some (.int (d : Int)) :: some (.int (k : Int)) :: x4 :: some (.int (m : Int)) :: x6 :: t) S = .nx (x0 :: some (.adr i) :: some (.int (d : Int)) :: some (.int (k : Int)) :: x4 :: some (.int (m : Int)) :: some (.adr S.n) :: t) S' ∧
    DiceAt S' i ∧ Fr [i] S S' ∧ S'.f S.n = some (.lst (rs.map rowD)) ∧ S.n < S'.n := by
  have hn : i ≠ S.n := Nat.ne_of_lt hi
  have hmi : (m : Int) < 2 ^ 62 := Int.lt_of_le_of_lt (b := 30) (by omega) (by decide)
  obtain ⟨mi, emi⟩ : ∃ mi : Int, mi = (m : Int) := ⟨_, rfl⟩
  have es : mRng1 (mCons (mVar 5) mNil) (x0 :: some (.adr i) :: some (.int (d : Int)) :: some (.int (k : Int)) :: x4 :: some (.int mi) :: x6 :: t) S = .ok (sqr 0 1 m) S := by
    have c1 : -(2 ^ 62) ≤ mi ∧ mi < 2 ^ 62 := by
      rw [emi]
      exact ⟨Int.le_trans (by decide) (Int.natCast_nonneg m), hmi⟩
    have c2 : mi.toNat = m := by rw [emi]; exact Int.toNat_natCast m
    show (if -(2 ^ 62) ≤ mi ∧ mi < 2 ^ 62 then R.ok (sqr 0 1 mi.toNat) S else .bad) = _
    rw [if_pos c1, c2]
  have key := lc_loop (sr := sqr 0 1 m) (t := .nm 19) (mt := mYes) (me := mCall f__law_row 4 [] (mCons (mVar 1) (mCons (mVar 2) (mCons (mVar 3) (mCons (mVar 5) mNil))))) (g0 := wipeD (x0 :: some (.adr i) :: some (.int (d : Int)) :: some (.int (k : Int)) :: x4 :: some (.int mi) :: x6 :: t) [19]) (D0 := S.n) (n := m)
    (fun j acc S' => ∃ rs : List (Str × Int), acc = rs.map rowD ∧ rs.length = j ∧ (∀ r ∈ rs, Valid d k r.1 r.2) ∧ DiceAt S' i ∧ Fr [i] S S' ∧ S.n < S'.n) ?_ ?_ m 0 [] (S.alloc (.lst [])) (Nat.zero_add _) ⟨[], rfl, rfl, (fun r h => nomatch h), dice_alloc hd hi, Fr.alloc, Nat.lt_succ_self _⟩ (if_pos rfl)
  · obtain ⟨acc, S', e, ⟨rs, ea, hl, hv, dd, fr, hlt⟩, hf⟩ := key
    refine ⟨rs, hl, hv, S', ?_, dd, fr, by rw [hf, ea], hlt⟩
    have e2 := mLc_ok (vs := [19]) es e
    rw [← emi]
    unfold b_law_s173 mSet toRS
    rw [e2]
    rfl
  · rintro j acc S' hj ⟨rs, ea, hl, hv, dd, fr, hlt⟩ hf
    refine ⟨.int (0 + (j : Int) * 1), x0 :: some (.adr i) :: some (.int (d : Int)) :: some (.int (k : Int)) :: x4 :: some (.int mi) :: x6 :: (t.set 12 none).set 12 (some (.int (0 + (j : Int) * 1))), by simp [sqr, hj], rfl, .inr ⟨rfl, ?_⟩⟩
    have hi' : i < S'.n := Nat.lt_trans hi hlt
    obtain ⟨r, S2, e, ⟨⟨w, n, er, hvr⟩, d2, f2⟩⟩ := (e_row (many := mi) dd hi' h2 h3 (by omega) (by omega)).get
    have fr2 : Fr [i] S S2 := fr.trans f2
    have hS2 : S2.f S.n = some (.lst acc) := by
      rw [f2.2 S.n hlt (by simp [Ne.symm hn])]
      exact hf
    refine ⟨r, S2, ?_, hS2, ?_, rs ++ [(w, n)], ?_, by simp [hl], fun q hq => ?_, dice_put d2 hn, fr2.putNew (Nat.le_refl _), Nat.lt_of_lt_of_le hlt f2.1⟩
    · simp [mCall, mCons, mNil, mVar, SM.bind, SM.pure, e]
    · rw [ea, List.length_map, hl, sizeLine_eq]
      omega
    · rw [ea, er, List.map_append]
      rfl
    · rcases List.mem_append.mp hq with h | h
      · exact hv q h
      · rw [List.mem_singleton.mp h]
        exact hvr
  · rintro acc S' _
    simp [sqr]
theorem l174 (hd : DiceAt S i) (hi : i < S.n) : ∃ ins : List Int, ins.length ≤ 5 ∧ ∃ S' q, b_law_s174 (x0 :: some (.adr i) :: x2 :: x3 :: x4 :: x5 :: x6 :: x7 :: t) S = .nx (x0 :: some (.adr i) :: x2 :: x3 :: x4 :: x5 :: x6 :: some (.adr q) :: t) S' ∧
    DiceAt S' i ∧ Fr [i] S S' ∧ S'.f q = some (.lst (ins.map D.int)) ∧ S.n ≤ q ∧ q < S'.n := by
  have hn : i ≠ S.n := Nat.ne_of_lt hi
  obtain ⟨r1, y1, a0, a1, e1, d1⟩ := roll_at hd (many := 5) (by decide) (by decide)
  obtain ⟨m, em⟩ : ∃ m : Nat, (m : Int) = r1 := ⟨r1.toNat, by omega⟩
  have f1 : Fr [i] S (S.put i y1) := Fr.put (by simp)
  have es : mRng1 (mCons (mCall f__law_roll 2 [] (mCons (mVar 1) (mCons (mC (.int 5)) mNil))) mNil) (x0 :: some (.adr i) :: x2 :: x3 :: x4 :: x5 :: x6 :: x7 :: t) S = .ok (sqr 0 1 m) (S.put i y1) := by
    have c1 : -(2 ^ 62) ≤ r1 ∧ r1 < 2 ^ 62 := ⟨Int.le_trans (by decide) a0, Int.lt_trans a1 (by decide)⟩
    have c2 : r1.toNat = m := by omega
    have ec : mCons (mCall f__law_roll 2 [] (mCons (mVar 1) (mCons (mC (.int 5)) mNil))) mNil (x0 :: some (.adr i) :: x2 :: x3 :: x4 :: x5 :: x6 :: x7 :: t) S = .ok [.int r1] (S.put i y1) := by
      simp [mCall, mCons, mNil, mVar, mC, SM.bind, SM.pure, e1]
    unfold mRng1 SM.bind
    rw [ec]
    show (if -(2 ^ 62) ≤ r1 ∧ r1 < 2 ^ 62 then R.ok (sqr 0 1 r1.toNat) (S.put i y1) else .bad) = _
    rw [if_pos c1, c2]
  have key := lc_loop (sr := sqr 0 1 m) (t := .nm 19) (mt := mYes) (me := mCall f__law_roll 2 [] (mCons (mVar 1) (mCons (mC (.int 300)) mNil))) (g0 := wipeD (x0 :: some (.adr i) :: x2 :: x3 :: x4 :: x5 :: x6 :: x7 :: t) [19]) (D0 := S.n) (n := m)
    (fun j acc S' => ∃ ins : List Int, acc = ins.map D.int ∧ ins.length = j ∧ DiceAt S' i ∧ Fr [i] S S' ∧ S.n < S'.n) ?_ ?_ m 0 [] ((S.put i y1).alloc (.lst [])) (Nat.zero_add _) ⟨[], rfl, rfl, dice_alloc d1 hi, f1.trans Fr.alloc, Nat.lt_succ_self _⟩ (if_pos rfl)
  · obtain ⟨acc, S', e, ⟨ins, ea, hl, dd, fr, hlt⟩, hf⟩ := key
    refine ⟨ins, by omega, S', S.n, ?_, dd, fr, by rw [hf, ea], Nat.le_refl _, hlt⟩
    have e2 := mLc_ok (vs := [19]) es e
    unfold b_law_s174 mSet toRS
    rw [e2]
    rfl
  · rintro j acc S' hj ⟨ins, ea, hl, dd, fr, hlt⟩ hf
    refine ⟨.int (0 + (j : Int) * 1), x0 :: some (.adr i) :: x2 :: x3 :: x4 :: x5 :: x6 :: x7 :: (t.set 11 none).set 11 (some (.int (0 + (j : Int) * 1))), by simp [sqr, hj], rfl, .inr ⟨rfl, ?_⟩⟩
    obtain ⟨r, y, b0, b1, e, d2⟩ := roll_at dd (many := 300) (by decide) (by decide)
    have hS2 : (S'.put i y).f S.n = some (.lst acc) := (if_neg (Ne.symm hn)).trans hf
    refine ⟨.int r, S'.put i y, ?_, hS2, ?_, ins ++ [r], ?_, by simp [hl], dice_put d2 hn, (fr.trans (Fr.put (by simp))).putNew (Nat.le_refl _), hlt⟩
    · simp [mCall, mCons, mNil, mVar, mC, SM.bind, SM.pure, e]
    · rw [ea, List.length_map, hl, sizeLine_eq]
      omega
    · rw [ea, List.map_append]
      rfl
  · rintro acc S' _
    simp [sqr]
end
end K10

set_option Elab.async false
set_option linter.all false
set_option maxRecDepth 100000
set_option maxHeartbeats 4000000
namespace K10
open PySem L2 Y
section
variable {S : Sr} {i iz ir q : Nat} {d k : Nat} {x0 x1 x2 x3 x4 x5 x6 x7 x8 x9 : Option D} {t : Gm} {rs : List (Str × Int)} {ins : List Int}
theorem e_make (hz : S.f iz = some (.ins "Size" (sF d k))) (hr : S.f ir = some (.lst (rs.map rowD))) (hq : S.f q = some (.lst (ins.map D.int))) (hl : rs.length ≤ 2 ^ k) (hv : ∀ r ∈ rs, Valid d k r.1 r.2) (hd : d ≤ 8) (hk : k ≤ 8) (z0 : iz < S.n) (r0 : ir < S.n) (q0 : q < S.n) :
    ∃ S', mMake "Machine" f_Machine___init__ 4 [] (mCons (mVar 4) (mCons (mVar 6) (mCons (mVar 7) mNil))) (x0 :: x1 :: x2 :: x3 :: some (.adr iz) :: x5 :: some (.adr ir) :: some (.adr q) :: t) S = .ok (.adr S.n) S' ∧
      MacAt S' ⟨S.n, iz, S.n + 3, S.n + 1, S.n + 4⟩ d k (rs.map rowD) (st0 d ins) ∧ Mp.Ok ⟨S.n, iz, S.n + 3, S.n + 1, S.n + 4⟩ S'.n ∧ Fr [] S S' ∧ S'.n = S.n + 5 := by
  have g1 : ∀ j, j < S.n → (S.alloc (.ins "Machine" [])).f j = S.f j := fun j hj => if_neg (Nat.ne_of_lt hj)
  obtain ⟨r, S', e, rfl, ma, en, fr⟩ := (e_init (S := S.alloc (.ins "Machine" [])) (im := S.n) (iz := iz) (ir := ir) (co := .adr q) (if_pos rfl) (by rw [g1 _ z0]; exact hz) (by rw [g1 _ r0]; exact hr) hl hv hd hk (Nat.lt_succ_self _) (Nat.lt_succ_of_lt z0) (Nat.lt_succ_of_lt r0) (by omega) (by omega) (.inl ⟨q, rfl, by rw [g1 _ q0]; exact hq, by omega⟩)).get
  have en : S'.n = S.n + 5 := en
  refine ⟨S', ?_, ma, ?_, ⟨by omega, fun j hj _ => ?_⟩, en⟩
  · simp [mMake, mCons, mNil, mVar, SM.bind, SM.pure, e]
  · constructor <;> simp only <;> omega
  · rw [fr j (Nat.lt_succ_of_lt hj) (by omega), g1 j hj]
theorem l176 (hq : S.f q = some (.lst (ins.map D.int))) (q0 : q < S.n) (hd : d ≤ 8) : ∃ S' o, b_law_s176 (x0 :: x1 :: some (.int (d : Int)) :: x3 :: x4 :: x5 :: x6 :: some (.adr q) :: x8 :: x9 :: t) S = .nx (x0 :: x1 :: some (.int (d : Int)) :: x3 :: x4 :: x5 :: x6 :: some (.adr q) :: x8 :: some (.adr o.io) :: t) S' ∧
    OwnAt S' o (st0 d ins) ∧ o.Ok S'.n ∧ Fr [] S S' ∧ S.n ≤ o.io ∧ S.n ≤ o.om ∧ S.n ≤ o.os ∧ o.oi = q := by
  have z1 := pw1 hd
  have sz1 : 1 ≤ sizeLine := by rw [sizeLine_eq]; omega
  have p8 : (2 : Nat) ^ d ≤ 256 := Nat.pow_le_pow_right (n := 2) (by decide) hd
  have sz2 : 2 ^ d ≤ sizeLine := by rw [sizeLine_eq]; omega
  have c1 : (-9223372036854775808 : Int) ≤ 2 ^ d := Int.le_trans (by decide) (Int.le_of_lt (pos2 (d := d)))
  have c2 : (2 : Int) ^ d < 9223372036854775808 := Int.lt_of_le_of_lt (b := 256) (by exact_mod_cast p8) (by decide)
  have tn : ((2 : Int) ^ d).toNat = 2 ^ d := by
    have e : ((2 ^ d : Nat) : Int) = 2 ^ d := by push_cast; rfl
    rw [← e, Int.toNat_natCast]
  have t0 : q ≠ S.n := Nat.ne_of_lt q0
  have t1 : q ≠ S.n + 1 := by omega
  have t2 : q ≠ S.n + 1 + 1 := by omega
  have t3 : q ≠ S.n + 1 + 1 + 1 := by omega
  have u0 : S.n ≠ S.n + 1 := by omega
  have u1 : S.n ≠ S.n + 1 + 1 := by omega
  have u2 : S.n ≠ S.n + 1 + 1 + 1 := by omega
  have u3 : S.n + 1 + 1 ≠ S.n := by omega
  have u4 : S.n + 1 + 1 + 1 ≠ S.n := by omega
  refine ⟨((((S.alloc (.dic [])).alloc (.lst [.int 0])).alloc (.lst (List.replicate (2 ^ d) (.int 0)))).alloc (.lst [])).put S.n (.dic (oF ⟨S.n, S.n + 1 + 1, S.n + 1 + 1 + 1, q⟩ (st0 d ins))), ⟨S.n, S.n + 1 + 1, S.n + 1 + 1 + 1, q⟩, ?_, ?_, ?_, ?_, Nat.le_refl _, ?_, ?_, rfl⟩
  · simp (maxSteps := 4000000) (decide := true) [b_law_s176, mSeq, mPass, mBrk, mCnt, mDrop, mRet, mRetN, mIfS, mRaise, mSet, mAsg, mPar, mPar3, mAug, mFld, mFldAug, gNm, gSub', gFld, gNl, gCn, gTp, setA, putFD, mVar, mC, mB, mU, mTB, mAnd, mOr, mNot, mIf, mAndV, mOrV, mNotV, mChain, mNil, mCons, mTup, mLst, mSl, oNo, oE, mCB, fAbs, fMax2, fMin2, fInt, lenD, fLen, fTuple, fList, itemsD, fIsi, tyD, mAttr, mCall, mMeth, mMake, mBM, tyF, SM.bind, SM.pure, toRS, toRSA, toRST, Y.sb, List.lookup, put_f, put_n, alloc_f, alloc_n, put_put, alloc_put, okI, okB, orF, dSub, dFdiv, dMod, dPow, dShl, dShr, dAnd, dOr, dXor, dNeg, dLt, dLe, dGt, dGe, dIs, mDisp, evP, keysP, keyD, mergeD, putD, dMul, repL, z1, sz1, sz2, c1, c2, tn, u0, u1, u2, rep_flat, oF, st0]
  · simp [ownAt_iff, put_f, alloc_f, alloc_n, t0, t1, t2, t3, u0, u1, u2, u3, u4, hq, st0]
  · constructor <;> simp only [put_n, alloc_n] <;> omega
  · exact ((((Fr.refl.trans Fr.alloc).trans Fr.alloc).trans Fr.alloc).trans Fr.alloc).putNew (Nat.le_refl _)
  · show S.n ≤ S.n + 1 + 1
    omega
  · show S.n ≤ S.n + 1 + 1 + 1
    omega
theorem l177 (hz : S.f iz = some (.ins "Size" (sF d k))) : b_law_s177 (x0 :: x1 :: some (.int (d : Int)) :: some (.int (k : Int)) :: some (.adr iz) :: t) S = .nx (x0 :: x1 :: some (.int (d : Int)) :: some (.int (k : Int)) :: some (.adr iz) :: t) S := by
  have e2 := e_arg hz
  have e3 := e_width hz
  have lk : List.lookup ("argument" : Str) (sF d k) = none := by rfl
  have lk2 : List.lookup ("width" : Str) (sF d k) = none := by rfl
  have mx : (if d < k then (k : Int) else (d : Int)) = ((max d k : Nat) : Int) := by
    by_cases h : d < k
    · rw [if_pos h]
      omega
    · rw [if_neg h]
      omega
  obtain ⟨M, hM⟩ : ∃ M : Int, M = ((max d k : Nat) : Int) := ⟨_, rfl⟩
  rw [← hM] at e2 e3 mx
  simp (maxSteps := 4000000) (decide := true) [b_law_s177, mSeq, mPass, mBrk, mCnt, mDrop, mRet, mRetN, mIfS, mRaise, mSet, mAsg, mPar, mPar3, mAug, mFld, mFldAug, gNm, gSub', gFld, gNl, gCn, gTp, setA, putFD, mVar, mC, mB, mU, mTB, mAnd, mOr, mNot, mIf, mAndV, mOrV, mNotV, mChain, mNil, mCons, mTup, mLst, mSl, oNo, oE, mCB, fAbs, fMax2, fMin2, fInt, lenD, fLen, fTuple, fList, itemsD, fIsi, tyD, mAttr, mCall, mMeth, mMake, mBM, tyF, SM.bind, SM.pure, toRS, toRSA, toRST, Y.sb, List.lookup, put_f, put_n, alloc_f, alloc_n, put_put, alloc_put, okI, okB, orF, dSub, dFdiv, dMod, dPow, dShl, dShr, dAnd, dOr, dXor, dNeg, dLt, dLe, dGt, dGe, dIs, hz, lk, lk2, e2, e3, mx, ev_neI, dAdd]
end
end K10

set_option Elab.async false
set_option linter.all false
set_option maxRecDepth 100000
set_option maxHeartbeats 4000000
namespace K10
open PySem L2 Y
theorem ne_refl {S : Sr} {x : D} {a : PyData} (h : toPy S 9 x = some a) (hs : SeqAt.shaped a = true) : dNe x x S = .ok (.bl false) S := by
  have hp : a.plain = true := PyData.plain_of_canLay0 a (SeqAt.canLay_of_shaped hs)
  rw [ev_neP h h hs hs, SeqAt.eqv_refl_plain a hp]
  rfl
theorem eq_refl' {S : Sr} {x : D} {a : PyData} (h : toPy S 9 x = some a) (hs : SeqAt.shaped a = true) : dEq x x S = .ok (.bl true) S := by
  have hp : a.plain = true := PyData.plain_of_canLay0 a (SeqAt.canLay_of_shaped hs)
  rw [ev_eqP h h hs hs, SeqAt.eqv_refl_plain a hp]
theorem word_ok {w : Str} (h : Word w) : PyData.strOk w = true := by
  rcases h with rfl | rfl | rfl | rfl | rfl | rfl | rfl | rfl | rfl | rfl | rfl | rfl | rfl | rfl | rfl | rfl <;> decide +kernel
section
variable {S : Sr} {i iz ir q im io : Nat} {d k m : Nat} {x0 x1 x2 x3 x4 x5 x6 x7 x8 x9 x10 x11 : Option D} {t : Gm} {rs : List (Str × Int)} {ins : List Int} {p : Mp} {o : Op} {st : Ms} {w : Str} {n : Int} {R : List D}
theorem row_ne (hw : Word w) : dNe (.tup [.str w, .int n]) (.tup [.str w, .int n]) S = .ok (.bl false) S := by
  refine ne_refl (a := .tuple [.str w, .int n]) rfl ?_
  have h := word_ok hw
  simp [SeqAt.shaped, PyData.canLay0, PyData.canLayAll0, PyData.depth, PyData.depthAll, h]
theorem shown_ne {a b c : Int} {mem sent : List Int} {h : Bool} : dNe (.tup [.int a, .int b, .int c, .tup (mem.map D.int), .tup (sent.map D.int), .bl h]) (.tup [.int a, .int b, .int c, .tup (mem.map D.int), .tup (sent.map D.int), .bl h]) S = .ok (.bl false) S := by
  refine ne_refl (a := .tuple [.int a, .int b, .int c, .tuple (mem.map PyData.int), .tuple (sent.map PyData.int), .bool h]) ?_ ?_
  · show (mapO (toPy S 8) [.int a, .int b, .int c, .tup (mem.map D.int), .tup (sent.map D.int), .bl h]).map PyData.tuple = _
    simp only [mapO, py_int, py_bl, py_tints (k := 7)]
    rfl
  · obtain ⟨h1, h2⟩ := lay_ints mem
    obtain ⟨h3, h4⟩ := lay_ints sent
    simp [SeqAt.shaped, PyData.canLay0, PyData.canLayAll0, PyData.depth, PyData.depthAll, h1, h2, h3, h4]
theorem own_get (a : OwnAt S o st) : dIx (.adr o.io) (.str "halted") S = .ok (.bl st.halted) S ∧ dIx (.adr o.io) (.str "place") S = .ok (.int st.place) S ∧ dIx (.adr o.io) (.str "acc") S = .ok (.int st.acc) S ∧ dIx (.adr o.io) (.str "carry") S = .ok (.int st.carry) S ∧
    dIx (.adr o.io) (.str "memory") S = .ok (.adr o.om) S ∧ dIx (.adr o.io) (.str "sent") S = .ok (.adr o.os) S := by
  have ao := a.w
  refine ⟨?_, ?_, ?_, ?_, ?_, ?_⟩ <;> simp (decide := true) [dIx, ixSeq, ixTxt, ixDic, dicAt, keyD, look_cons, look_nil, orF, itemsD, ao, oF]
theorem l180f (a : OwnAt S o st) (hh : st.halted = false) : b_law_s180 (x0 :: x1 :: x2 :: x3 :: x4 :: x5 :: x6 :: x7 :: x8 :: some (.adr o.io) :: t) S = .nx (x0 :: x1 :: x2 :: x3 :: x4 :: x5 :: x6 :: x7 :: x8 :: some (.adr o.io) :: t) S := by
  have e := (own_get a).1
  rw [hh] at e
  simp (decide := true) [b_law_s180, mSeq, mPass, mBrk, mCnt, mDrop, mRet, mRetN, mIfS, mRaise, mSet, mAsg, mPar, mPar3, mAug, mFld, mFldAug, gNm, gSub', gFld, gNl, gCn, gTp, setA, putFD, mVar, mC, mB, mU, mTB, mAnd, mOr, mNot, mIf, mAndV, mOrV, mNotV, mChain, mNil, mCons, mTup, mLst, mSl, oNo, oE, mCB, fAbs, fMax2, fMin2, fInt, lenD, fLen, fTuple, fList, itemsD, fIsi, tyD, mAttr, mCall, mMeth, mMake, mBM, tyF, SM.bind, SM.pure, toRS, toRSA, toRST, Y.sb, List.lookup, put_f, put_n, alloc_f, alloc_n, put_put, alloc_put, okI, okB, orF, dSub, dFdiv, dMod, dPow, dShl, dShr, dAnd, dOr, dXor, dNeg, dLt, dLe, dGt, dGe, dIs, e]
theorem l180t (a : OwnAt S o st) (b : MacAt S p d k R st) (hh : st.halted = true) : b_law_s180 (x0 :: x1 :: x2 :: x3 :: x4 :: x5 :: x6 :: x7 :: some (.adr p.im) :: some (.adr o.io) :: t) S = .bk (x0 :: x1 :: x2 :: x3 :: x4 :: x5 :: x6 :: x7 :: some (.adr p.im) :: some (.adr o.io) :: t) S := by
  have e := (own_get a).1
  rw [hh] at e
  have eh := e_halted b hh
  have am := b.m
  have lk : List.lookup ("step" : Str) (mF p R st) = none := by rfl
  have en : dNe (.str "RunError") (.str "RunError") S = .ok (.bl false) S := ne_same (by decide +kernel)
  simp (decide := true) [b_law_s180, b_law_s181, b_law_s184, mSeq, mPass, mBrk, mCnt, mDrop, mRet, mRetN, mIfS, mRaise, mSet, mAsg, mPar, mPar3, mAug, mFld, mFldAug, gNm, gSub', gFld, gNl, gCn, gTp, setA, putFD, mVar, mC, mB, mU, mTB, mAnd, mOr, mNot, mIf, mAndV, mOrV, mNotV, mChain, mNil, mCons, mTup, mLst, mSl, oNo, oE, mCB, fAbs, fMax2, fMin2, fInt, lenD, fLen, fTuple, fList, itemsD, fIsi, tyD, mAttr, mCall, mMeth, mMake, mBM, tyF, SM.bind, SM.pure, toRS, toRSA, toRST, Y.sb, List.lookup, put_f, put_n, alloc_f, alloc_n, put_put, alloc_put, okI, okB, orF, dSub, dFdiv, dMod, dPow, dShl, dShr, dAnd, dOr, dXor, dNeg, dLt, dLe, dGt, dGe, dIs, e, am, lk, eh, mTold, qsT, clT, subT, pickT, en]
theorem l185 (a : OwnAt S o st) (hr : S.f ir = some (.lst (rs.map rowD))) (hm : rs.length = m) (h0 : 0 ≤ st.place) (hi : InsAt (rs.map rowD) st.place w n) : b_law_s185 (x0 :: x1 :: x2 :: x3 :: x4 :: some (.int (m : Int)) :: some (.adr ir) :: x7 :: x8 :: some (.adr o.io) :: x10 :: x11 :: t) S = .nx (x0 :: x1 :: x2 :: x3 :: x4 :: some (.int (m : Int)) :: some (.adr ir) :: x7 :: x8 :: some (.adr o.io) :: x10 :: some (rowD (w, n)) :: t) S := by
  have e := (own_get a).2.1
  have sz : 2 ≤ sizeLine := by rw [sizeLine_eq]; omega
  rcases hi with ⟨h1, h2⟩ | ⟨h1, rfl, rfl⟩
  · have h3 : st.place < (m : Int) := by
      rw [List.length_map] at h1
      omega
    have e2 := atI_nat h0 h2
    have e3 : dIx (.adr ir) (.int st.place) S = .ok (.tup [.str w, .int n]) S := by
      simp [dIx, ixSeq, orF, items_adr hr, e2]
    simp (decide := true) [b_law_s185, mSeq, mPass, mBrk, mCnt, mDrop, mRet, mRetN, mIfS, mRaise, mSet, mAsg, mPar, mPar3, mAug, mFld, mFldAug, gNm, gSub', gFld, gNl, gCn, gTp, setA, putFD, mVar, mC, mB, mU, mTB, mAnd, mOr, mNot, mIf, mAndV, mOrV, mNotV, mChain, mNil, mCons, mTup, mLst, mSl, oNo, oE, mCB, fAbs, fMax2, fMin2, fInt, lenD, fLen, fTuple, fList, itemsD, fIsi, tyD, mAttr, mCall, mMeth, mMake, mBM, tyF, SM.bind, SM.pure, toRS, toRSA, toRST, Y.sb, List.lookup, put_f, put_n, alloc_f, alloc_n, put_put, alloc_put, okI, okB, orF, dSub, dFdiv, dMod, dPow, dShl, dShr, dAnd, dOr, dXor, dNeg, dLt, dLe, dGt, dGe, dIs, e, e3, h3, rowD]
  · have h3 : ¬ st.place < (m : Int) := by
      rw [List.length_map] at h1
      omega
    simp (decide := true) [b_law_s185, mSeq, mPass, mBrk, mCnt, mDrop, mRet, mRetN, mIfS, mRaise, mSet, mAsg, mPar, mPar3, mAug, mFld, mFldAug, gNm, gSub', gFld, gNl, gCn, gTp, setA, putFD, mVar, mC, mB, mU, mTB, mAnd, mOr, mNot, mIf, mAndV, mOrV, mNotV, mChain, mNil, mCons, mTup, mLst, mSl, oNo, oE, mCB, fAbs, fMax2, fMin2, fInt, lenD, fLen, fTuple, fList, itemsD, fIsi, tyD, mAttr, mCall, mMeth, mMake, mBM, tyF, SM.bind, SM.pure, toRS, toRSA, toRST, Y.sb, List.lookup, put_f, put_n, alloc_f, alloc_n, put_put, alloc_put, okI, okB, orF, dSub, dFdiv, dMod, dPow, dShl, dShr, dAnd, dOr, dXor, dNeg, dLt, dLe, dGt, dGe, dIs, e, h3, rowD, sz]
theorem l186 (b : MacAt S p d k R st) (h0 : 0 ≤ st.place) (hi : InsAt R st.place w n) (hw : Word w) : b_law_s186 (x0 :: x1 :: x2 :: x3 :: x4 :: x5 :: x6 :: x7 :: some (.adr p.im) :: x9 :: x10 :: some (rowD (w, n)) :: t) S = .nx (x0 :: x1 :: x2 :: x3 :: x4 :: x5 :: x6 :: x7 :: some (.adr p.im) :: x9 :: x10 :: some (rowD (w, n)) :: t) S := by
  have ei := e_instr b h0 hi
  have am := b.m
  have lk : List.lookup ("instruction" : Str) (mF p R st) = none := by rfl
  have en := row_ne (S := S) (n := n) hw
  simp (decide := true) [b_law_s186, mSeq, mPass, mBrk, mCnt, mDrop, mRet, mRetN, mIfS, mRaise, mSet, mAsg, mPar, mPar3, mAug, mFld, mFldAug, gNm, gSub', gFld, gNl, gCn, gTp, setA, putFD, mVar, mC, mB, mU, mTB, mAnd, mOr, mNot, mIf, mAndV, mOrV, mNotV, mChain, mNil, mCons, mTup, mLst, mSl, oNo, oE, mCB, fAbs, fMax2, fMin2, fInt, lenD, fLen, fTuple, fList, itemsD, fIsi, tyD, mAttr, mCall, mMeth, mMake, mBM, tyF, SM.bind, SM.pure, toRS, toRSA, toRST, Y.sb, List.lookup, put_f, put_n, alloc_f, alloc_n, put_put, alloc_put, okI, okB, orF, dSub, dFdiv, dMod, dPow, dShl, dShr, dAnd, dOr, dXor, dNeg, dLt, dLe, dGt, dGe, dIs, am, lk, ei, rowD, en]
theorem l188 {S' : Sr} (b : MacAt S p d k R st) (e : f_Machine_step [.adr p.im] S = .ok .non S') : b_law_s188 (x0 :: x1 :: x2 :: x3 :: x4 :: x5 :: x6 :: x7 :: some (.adr p.im) :: t) S = .nx (x0 :: x1 :: x2 :: x3 :: x4 :: x5 :: x6 :: x7 :: some (.adr p.im) :: t) S' := by
  have am := b.m
  have lk : List.lookup ("step" : Str) (mF p R st) = none := by rfl
  simp (decide := true) [b_law_s188, mSeq, mPass, mBrk, mCnt, mDrop, mRet, mRetN, mIfS, mRaise, mSet, mAsg, mPar, mPar3, mAug, mFld, mFldAug, gNm, gSub', gFld, gNl, gCn, gTp, setA, putFD, mVar, mC, mB, mU, mTB, mAnd, mOr, mNot, mIf, mAndV, mOrV, mNotV, mChain, mNil, mCons, mTup, mLst, mSl, oNo, oE, mCB, fAbs, fMax2, fMin2, fInt, lenD, fLen, fTuple, fList, itemsD, fIsi, tyD, mAttr, mCall, mMeth, mMake, mBM, tyF, SM.bind, SM.pure, toRS, toRSA, toRST, Y.sb, List.lookup, put_f, put_n, alloc_f, alloc_n, put_put, alloc_put, okI, okB, orF, dSub, dFdiv, dMod, dPow, dShl, dShr, dAnd, dOr, dXor, dNeg, dLt, dLe, dGt, dGe, dIs, am, lk, e]
theorem l189 {S' : Sr} (hd : d ≤ 8) (hk : k ≤ 8) (e : f__law_step [.adr o.io, .tup [.str w, .int n], .int (2 ^ d), .int (2 ^ k)] S = .ok .non S') : b_law_s189 (x0 :: x1 :: some (.int (d : Int)) :: some (.int (k : Int)) :: x4 :: x5 :: x6 :: x7 :: x8 :: some (.adr o.io) :: x10 :: some (rowD (w, n)) :: t) S = .nx (x0 :: x1 :: some (.int (d : Int)) :: some (.int (k : Int)) :: x4 :: x5 :: x6 :: x7 :: x8 :: some (.adr o.io) :: x10 :: some (rowD (w, n)) :: t) S' := by
  have z1 := pw1 hd
  have z2 := pw1 hk
  simp (decide := true) [b_law_s189, mSeq, mPass, mBrk, mCnt, mDrop, mRet, mRetN, mIfS, mRaise, mSet, mAsg, mPar, mPar3, mAug, mFld, mFldAug, gNm, gSub', gFld, gNl, gCn, gTp, setA, putFD, mVar, mC, mB, mU, mTB, mAnd, mOr, mNot, mIf, mAndV, mOrV, mNotV, mChain, mNil, mCons, mTup, mLst, mSl, oNo, oE, mCB, fAbs, fMax2, fMin2, fInt, lenD, fLen, fTuple, fList, itemsD, fIsi, tyD, mAttr, mCall, mMeth, mMake, mBM, tyF, SM.bind, SM.pure, toRS, toRSA, toRST, Y.sb, List.lookup, put_f, put_n, alloc_f, alloc_n, put_put, alloc_put, okI, okB, orF, dSub, dFdiv, dMod, dPow, dShl, dShr, dAnd, dOr, dXor, dNeg, dLt, dLe, dGt, dGe, dIs, z1, z2, rowD, e]
theorem l190 (a : OwnAt S o st) (b : MacAt S p d k R st) : b_law_s190 (x0 :: x1 :: x2 :: x3 :: x4 :: x5 :: x6 :: x7 :: some (.adr p.im) :: some (.adr o.io) :: t) S = .nx (x0 :: x1 :: x2 :: x3 :: x4 :: x5 :: x6 :: x7 :: some (.adr p.im) :: some (.adr o.io) :: t) S := by
  obtain ⟨g1, g2, g3, g4, g5, g6⟩ := own_get a
  have es := e_shown b
  have am := b.m
  have lk : List.lookup ("shown" : Str) (mF p R st) = none := by rfl
  have sz : 6 ≤ sizeLine := by rw [sizeLine_eq]; omega
  have en := shown_ne (S := S) (a := st.acc) (b := st.carry) (c := st.place) (mem := st.mem) (sent := st.sent) (h := st.halted)
  simp (decide := true) [b_law_s190, mSeq, mPass, mBrk, mCnt, mDrop, mRet, mRetN, mIfS, mRaise, mSet, mAsg, mPar, mPar3, mAug, mFld, mFldAug, gNm, gSub', gFld, gNl, gCn, gTp, setA, putFD, mVar, mC, mB, mU, mTB, mAnd, mOr, mNot, mIf, mAndV, mOrV, mNotV, mChain, mNil, mCons, mTup, mLst, mSl, oNo, oE, mCB, fAbs, fMax2, fMin2, fInt, lenD, fLen, fTuple, fList, itemsD, fIsi, tyD, mAttr, mCall, mMeth, mMake, mBM, tyF, SM.bind, SM.pure, toRS, toRSA, toRST, Y.sb, List.lookup, put_f, put_n, alloc_f, alloc_n, put_put, alloc_put, okI, okB, orF, dSub, dFdiv, dMod, dPow, dShl, dShr, dAnd, dOr, dXor, dNeg, dLt, dLe, dGt, dGe, dIs, am, lk, es, g1, g2, g3, g4, g5, g6, a.m, a.s, sz, en]
end
end K10

set_option Elab.async false
set_option linter.all false
set_option maxRecDepth 100000
set_option maxHeartbeats 4000000
namespace K10
open PySem L2 Y
theorem seq_eq {a b : MS} {g g' : Gm} {S S' : Sr} (h : a g S = .nx g' S') : mSeq a b g S = b g' S' := by
  unfold mSeq
  rw [h]
def Sep (o : Op) (p : Mp) : Prop := ∀ a ∈ [o.io, o.om, o.os, o.oi], a ≠ p.im ∧ a ≠ p.ie ∧ a ≠ p.ic ∧ a ≠ p.is
section
variable {S S' : Sr} {i iz ir q im io om : Nat} {d k m : Nat} {x0 x1 x2 x3 x4 x5 x6 x7 x8 x9 x10 x11 : Option D} {t : Gm} {rs : List (Str × Int)} {ins : List Int} {p : Mp} {o : Op} {st : Ms} {w : Str} {n : Int} {R : List D}
theorem own_stay (a : OwnAt S o st) (h : ∀ j ∈ [o.io, o.om, o.os, o.oi], S'.f j = S.f j) : OwnAt S' o st :=
  ⟨(h _ (by simp)).trans a.w, (h _ (by simp)).trans a.m, (h _ (by simp)).trans a.s, (h _ (by simp)).trans a.i⟩
theorem mac_stay (a : MacAt S p d k R st) (h : ∀ j ∈ [p.im, p.iz, p.ie, p.ic, p.is], S'.f j = S.f j) : MacAt S' p d k R st :=
  ⟨(h _ (by simp)).trans a.m, (h _ (by simp)).trans a.z, (h _ (by simp)).trans a.e, (h _ (by simp)).trans a.c, (h _ (by simp)).trans a.s⟩
theorem Op.Ok.lt {b : Nat} (h : o.Ok b) : ∀ j ∈ [o.io, o.om, o.os, o.oi], j < b := by
  intro j hj
  simp only [List.mem_cons, List.not_mem_nil, or_false] at hj
  rcases hj with rfl | rfl | rfl | rfl
  · exact h.b0
  · exact h.b1
  · exact h.b2
  · exact h.b3
theorem Op.Ok.mono {a b : Nat} (h : o.Ok a) (l : a ≤ b) : o.Ok b := ⟨h.m, h.s, h.i, h.sm, h.im, Nat.lt_of_lt_of_le h.b0 l, Nat.lt_of_lt_of_le h.b1 l, Nat.lt_of_lt_of_le h.b2 l, Nat.lt_of_lt_of_le h.b3 l⟩
theorem turn (a : MacAt S p d k (rs.map rowD) st) (po : p.Ok S.n) (oa : OwnAt S o st) (oo : o.Ok S.n) (sep : Sep o p) (z1 : p.iz ≠ o.io) (z2 : p.iz ≠ o.om) (hd : d ≤ 8) (hk : k ≤ 8) (ok : MsOk d k st) (hh : st.halted = false) (hs : st.sent.length < 1000) (hv : ∀ r ∈ rs, Valid d k r.1 r.2)
    (hr : S.f ir = some (.lst (rs.map rowD))) (hm : rs.length = m) :
    ∃ S' o' st' y, b_law_L179 (x0 :: x1 :: some (.int (d : Int)) :: some (.int (k : Int)) :: x4 :: some (.int (m : Int)) :: some (.adr ir) :: x7 :: some (.adr p.im) :: some (.adr o.io) :: x10 :: x11 :: t) S = .nx (x0 :: x1 :: some (.int (d : Int)) :: some (.int (k : Int)) :: x4 :: some (.int (m : Int)) :: some (.adr ir) :: x7 :: some (.adr p.im) :: some (.adr o.io) :: x10 :: y :: t) S' ∧
      MacAt S' p d k (rs.map rowD) st' ∧ OwnAt S' o' st' ∧ o'.Ok S'.n ∧ o'.io = o.io ∧ o'.om = o.om ∧ Sep o' p ∧ MsOk d k st' ∧ st'.sent.length ≤ st.sent.length + 1 ∧ Fr [p.im, p.ie, p.ic, p.is, o.io, o.om] S S' := by
  obtain ⟨w, n, hi, hvw⟩ := ins_at (rs := rs) hv ok.p0
  obtain ⟨r, S1, e1, rfl, a1, aw1⟩ := (e_step a po hd hk ok hh hi hvw (by omega)).get
  have oa1 : OwnAt S1 o st := own_stay oa fun j hj => by
    obtain ⟨h1, h2, h3, h4⟩ := sep j hj
    exact aw1.2 j (oo.lt j hj) h1 h2 h3 h4
  have oo1 := oo.mono aw1.1
  obtain ⟨r, S2, e2, rfl, s', i', ⟨hs', hi'⟩, oa2, oo2, aw2⟩ := (e_own oa1 oo1 hd hk ok hh hvw hs).get
  obtain ⟨ok2, hl2⟩ := step_ok ok hvw
  have ps := po.mono aw1.1
  have sepI := sep o.io (by simp)
  have sepM := sep o.om (by simp)
  have a2 : MacAt S2 p d k (rs.map rowD) (stepP d k w n st) := mac_stay a1 fun j hj => by
    simp only [List.mem_cons, List.not_mem_nil, or_false] at hj
    rcases hj with rfl | rfl | rfl | rfl | rfl
    · exact aw2.2 _ ps.m (Ne.symm sepI.1) (Ne.symm sepM.1)
    · exact aw2.2 _ ps.z z1 z2
    · exact aw2.2 _ ps.e (Ne.symm sepI.2.1) (Ne.symm sepM.2.1)
    · exact aw2.2 _ ps.c (Ne.symm sepI.2.2.1) (Ne.symm sepM.2.2.1)
    · exact aw2.2 _ ps.s (Ne.symm sepI.2.2.2) (Ne.symm sepM.2.2.2)
  have hw := (valid_iff hvw).1
  refine ⟨S2, ⟨o.io, o.om, s', i'⟩, stepP d k w n st, some (rowD (w, n)), ?_, a2, oa2, oo2, rfl, rfl, ?_, ok2, hl2, ?_⟩
  · unfold b_law_L179
    rw [seq_eq (l180f oa hh), seq_eq (l185 oa hr hm ok.p0 hi), seq_eq (l186 a ok.p0 hi hw), seq_eq (l188 a e1), seq_eq (l189 hd hk e2)]
    exact l190 (o := ⟨o.io, o.om, s', i'⟩) oa2 a2
  · intro j hj
    have hbig : ∀ x, S1.n ≤ x → x ≠ p.im ∧ x ≠ p.ie ∧ x ≠ p.ic ∧ x ≠ p.is := fun x hx => by
      have h1 := ps.m
      have h2 := ps.e
      have h3 := ps.c
      have h4 := ps.s
      exact ⟨by omega, by omega, by omega, by omega⟩
    simp only [List.mem_cons, List.not_mem_nil, or_false] at hj
    rcases hj with rfl | rfl | rfl | rfl
    · exact sepI
    · exact sepM
    · rcases hs' with h | h
      · rw [h]
        exact sep o.os (by simp)
      · exact hbig _ h
    · rcases hi' with h | h
      · rw [h]
        exact sep o.oi (by simp)
      · exact hbig _ h
  · refine ⟨Nat.le_trans aw1.1 aw2.1, fun j hj hn => ?_⟩
    simp only [List.mem_cons, List.not_mem_nil, or_false, not_or] at hn
    obtain ⟨n1, n2, n3, n4, n5, n6⟩ := hn
    rw [aw2.2 j (Nat.lt_of_lt_of_le hj aw1.1) n5 n6]
    exact aw1.2 j hj n1 n2 n3 n4
theorem l179 (hdi : DiceAt S i) (a : MacAt S p d k (rs.map rowD) (st0 d ins)) (po : p.Ok S.n) (oa : OwnAt S o (st0 d ins)) (oo : o.Ok S.n) (sep : Sep o p) (z1 : p.iz ≠ o.io) (z2 : p.iz ≠ o.om) (hd : d ≤ 8) (hk : k ≤ 8) (hv : ∀ r ∈ rs, Valid d k r.1 r.2)
    (hr : S.f ir = some (.lst (rs.map rowD))) (hm : rs.length = m) (hir : ir < S.n) (rsep : ir ∉ [i, p.im, p.ie, p.ic, p.is, o.io, o.om]) (hi : i < S.n) (isep : i ∉ [p.im, p.ie, p.ic, p.is, p.iz, o.io, o.om, o.os, o.oi]) (i2 : i ≠ p.im ∧ i ≠ p.ie ∧ i ≠ p.ic ∧ i ≠ p.is ∧ i ≠ o.io ∧ i ≠ o.om) :
    ∃ S' y10 y11, b_law_s179 (x0 :: some (.adr i) :: some (.int (d : Int)) :: some (.int (k : Int)) :: x4 :: some (.int (m : Int)) :: some (.adr ir) :: x7 :: some (.adr p.im) :: some (.adr o.io) :: x10 :: x11 :: t) S = .nx (x0 :: some (.adr i) :: some (.int (d : Int)) :: some (.int (k : Int)) :: x4 :: some (.int (m : Int)) :: some (.adr ir) :: x7 :: some (.adr p.im) :: some (.adr o.io) :: y10 :: y11 :: t) S' ∧
      DiceAt S' i ∧ Fr [i, p.im, p.ie, p.ic, p.is, o.io, o.om] S S' := by
  obtain ⟨r1, y1, a0, a1, e1, d1⟩ := roll_at hdi (many := 101) (by decide) (by decide)
  obtain ⟨N, eN⟩ : ∃ N : Nat, (N : Int) = r1 := ⟨r1.toNat, by omega⟩
  have hN : N ≤ 100 := by omega
  have st_ : ∀ j, j ≠ i → (S.put i y1).f j = S.f j := fun j hj => if_neg hj
  have nI : ∀ j ∈ [p.im, p.iz, p.ie, p.ic, p.is], j ≠ i := fun j hj e => by
    subst e
    simp only [List.mem_cons, List.not_mem_nil, or_false, not_or] at isep hj
    obtain ⟨n1, n2, n3, n4, n5, n6, n7, n8, n9⟩ := isep
    rcases hj with h | h | h | h | h
    · exact n1 h
    · exact n5 h
    · exact n2 h
    · exact n3 h
    · exact n4 h
  have nO : ∀ j ∈ [o.io, o.om, o.os, o.oi], j ≠ i := fun j hj e => by
    subst e
    simp only [List.mem_cons, List.not_mem_nil, or_false, not_or] at isep hj
    obtain ⟨n1, n2, n3, n4, n5, n6, n7, n8, n9⟩ := isep
    rcases hj with h | h | h | h
    · exact n6 h
    · exact n7 h
    · exact n8 h
    · exact n9 h
  have aP : MacAt (S.put i y1) p d k (rs.map rowD) (st0 d ins) := mac_stay a fun j hj => st_ j (nI j hj)
  have oP : OwnAt (S.put i y1) o (st0 d ins) := own_stay oa fun j hj => st_ j (nO j hj)
  simp only [List.mem_cons, List.not_mem_nil, or_false, not_or] at rsep
  obtain ⟨k1, k2, k3, k4, k5, k6, k7⟩ := rsep
  have hrP : (S.put i y1).f ir = some (.lst (rs.map rowD)) := (st_ ir k1).trans hr
  obtain ⟨GG, eG⟩ : ∃ GG : Option D → Option D → Gm, GG = fun y10 y11 => (x0 :: some (.adr i) :: some (.int (d : Int)) :: some (.int (k : Int)) :: x4 :: some (.int (m : Int)) :: some (.adr ir) :: x7 :: some (.adr p.im) :: some (.adr o.io) :: y10 :: y11 :: t) := ⟨_, rfl⟩
  have es : mRng1 (mCons (mCall f__law_roll 2 [] (mCons (mVar 1) (mCons (mC (.int 101)) mNil))) mNil) (GG x10 x11) S = .ok (sqr 0 1 N) (S.put i y1) := by
    have c1 : -(2 ^ 62) ≤ r1 ∧ r1 < 2 ^ 62 := ⟨Int.le_trans (by decide) a0, Int.lt_trans a1 (by decide)⟩
    have c2 : r1.toNat = N := by omega
    have ec : mCons (mCall f__law_roll 2 [] (mCons (mVar 1) (mCons (mC (.int 101)) mNil))) mNil (GG x10 x11) S = .ok [.int r1] (S.put i y1) := by
      simp [eG, mCall, mCons, mNil, mVar, mC, SM.bind, SM.pure, e1]
    unfold mRng1 SM.bind
    rw [ec]
    show (if -(2 ^ 62) ≤ r1 ∧ r1 < 2 ^ 62 then R.ok (sqr 0 1 r1.toNat) (S.put i y1) else .bad) = _
    rw [if_pos c1, c2]
  have key := for_loop (sr := sqr 0 1 N) (step := mStep (gNm 10) b_law_L179) (n := N)
    (fun j g S' => ∃ st o' y10 y11, g = GG y10 y11 ∧ MacAt S' p d k (rs.map rowD) st ∧ OwnAt S' o' st ∧ o'.Ok S'.n ∧ o'.io = o.io ∧ o'.om = o.om ∧ Sep o' p ∧ MsOk d k st ∧ st.sent.length ≤ j ∧ Fr [p.im, p.ie, p.ic, p.is, o.io, o.om] (S.put i y1) S')
    (fun r => ∃ S' y10 y11, r = .nx (GG y10 y11) S' ∧ Fr [p.im, p.ie, p.ic, p.is, o.io, o.om] (S.put i y1) S') ?_ ?_ N 0 (GG x10 x11) (S.put i y1) (Nat.zero_add _) ⟨st0 d ins, o, x10, x11, rfl, aP, oP, oo, rfl, rfl, sep, st0_ok, Nat.le_refl _, Fr.refl⟩
  · obtain ⟨S', y10, y11, er, fr⟩ := key
    refine ⟨S', y10, y11, ?_, ?_, ?_⟩
    · have : b_law_s179 (GG x10 x11) S = .nx (GG y10 y11) S' := by
        unfold b_law_s179 mFor
        rw [es]
        exact er
      rw [eG] at this
      exact this
    · obtain ⟨A, B, C, hh⟩ := d1
      refine ⟨A, B, C, (fr.2 i hi ?_).trans hh⟩
      simp only [List.mem_cons, List.not_mem_nil, or_false, not_or]
      exact ⟨i2.1, i2.2.1, i2.2.2.1, i2.2.2.2.1, i2.2.2.2.2.1, i2.2.2.2.2.2⟩
    · refine (Fr.put (by simp)).trans ⟨fr.1, fun j hj hn => fr.2 j hj fun h => hn (List.mem_cons_of_mem _ h)⟩
  · rintro j g S' hj ⟨st, o', y10, y11, rfl, am, oa', oo', h1, h2, sp, ok, hl, fr⟩
    refine ⟨.int (0 + (j : Int) * 1), by simp [sqr, hj], ?_⟩
    have em : mStep (gNm 10) b_law_L179 (.int (0 + (j : Int) * 1)) (GG y10 y11) S' = b_law_L179 (GG (some (.int (0 + (j : Int) * 1))) y11) S' := by
      rw [eG]
      rfl
    rw [em]
    have po' := po.mono fr.1
    cases hst : st.halted with
    | true =>
      have e := l180t (x0 := x0) (x1 := some (.adr i)) (x2 := some (.int (d : Int))) (x3 := some (.int (k : Int))) (x4 := x4) (x5 := some (.int (m : Int))) (x6 := some (.adr ir)) (x7 := x7) (t := some (.int (0 + (j : Int) * 1)) :: y11 :: t) oa' am hst
      have e2 : b_law_L179 (GG (some (.int (0 + (j : Int) * 1))) y11) S' = .bk (GG (some (.int (0 + (j : Int) * 1))) y11) S' := by
        rw [eG]
        show b_law_L179 (x0 :: some (.adr i) :: some (.int (d : Int)) :: some (.int (k : Int)) :: x4 :: some (.int (m : Int)) :: some (.adr ir) :: x7 :: some (.adr p.im) :: some (.adr o.io) :: some (.int (0 + (j : Int) * 1)) :: y11 :: t) S' = _
        rw [← h1]
        unfold b_law_L179 mSeq
        rw [e]
      rw [e2]
      exact tn_bk.mpr ⟨S', _, _, rfl, fr⟩
    | false =>
      have hrS : S'.f ir = some (.lst (rs.map rowD)) := by
        rw [fr.2 ir hir (by simp only [List.mem_cons, List.not_mem_nil, or_false, not_or]; exact ⟨k2, k3, k4, k5, k6, k7⟩)]
        exact hrP
      obtain ⟨S2, o2, st2, y, e, am2, oa2, oo2, g1, g2, sp2, ok2, hl2, fr2⟩ := turn (x0 := x0) (x1 := some (.adr i)) (x4 := x4) (x7 := x7) (x10 := some (.int (0 + (j : Int) * 1))) (x11 := y11) (t := t) am po' oa' oo' sp (by rw [h1]; exact z1) (by rw [h2]; exact z2) hd hk ok hst (by omega) hv hrS hm
      rw [h1] at e
      have e2 : b_law_L179 (GG (some (.int (0 + (j : Int) * 1))) y11) S' = .nx (GG (some (.int (0 + (j : Int) * 1))) y) S2 := by
        rw [eG]
        exact e
      rw [e2]
      rw [h1, h2] at fr2
      exact tn_nx.mpr ⟨st2, o2, _, _, rfl, am2, oa2, oo2, g1.trans h1, g2.trans h2, sp2, ok2, by omega, fr.trans fr2⟩
  · rintro g S' ⟨st, o', y10, y11, rfl, am, oa', oo', h1, h2, sp, ok, hl, fr⟩
    exact ⟨by simp [sqr], S', y10, y11, rfl, fr⟩
end
end K10

set_option Elab.async false
set_option linter.all false
set_option maxRecDepth 100000
set_option maxHeartbeats 4000000
namespace K10
open PySem L2 Y
section
variable {S S' : Sr} {i iz ir q im io om : Nat} {d k m : Nat} {x0 x1 x2 x3 x4 x5 x6 x7 x8 x9 x10 x11 x12 x13 x14 x15 x16 : Option D} {t : Gm} {rs : List (Str × Int)} {ins : List Int} {p : Mp} {o : Op} {st : Ms} {w : Str} {n : Int} {R : List D}
theorem ne_bl {b : Bool} : dNe (.bl b) (.bl b) S = .ok (.bl false) S := ne_refl (a := .bool b) rfl rfl
theorem ne_bl2 {b c : Bool} : dNe (.bl b) (.bl c) S = .ok (.bl (!decide (b = c))) S := by
  rw [ev_neP (a := .bool b) (b := .bool c) rfl rfl rfl rfl]
  cases b <;> cases c <;> rfl
/-- again = Machine(..); its run; the check -/
theorem l192 (hz : S.f iz = some (.ins "Size" (sF d k))) (hr : S.f ir = some (.lst (rs.map rowD))) (hq : S.f q = some (.lst (ins.map D.int))) (hl : rs.length ≤ 2 ^ k) (hv : ∀ r ∈ rs, Valid d k r.1 r.2) (hd : d ≤ 8) (hk : k ≤ 8) (z0 : iz < S.n) (r0 : ir < S.n) (q0 : q < S.n) :
    ∃ S' y12 y13, (mSeq b_law_s192 (mSeq b_law_s193 b_law_s194)) (x0 :: x1 :: x2 :: x3 :: some (.adr iz) :: x5 :: some (.adr ir) :: some (.adr q) :: x8 :: x9 :: x10 :: x11 :: x12 :: x13 :: t) S = .nx (x0 :: x1 :: x2 :: x3 :: some (.adr iz) :: x5 :: some (.adr ir) :: some (.adr q) :: x8 :: x9 :: x10 :: x11 :: y12 :: y13 :: t) S' ∧ Fr [] S S' := by
  obtain ⟨S1, e1, m1, po, fr, en⟩ := e_make (x0 := x0) (x1 := x1) (x2 := x2) (x3 := x3) (x5 := x5) (t := x8 :: x9 :: x10 :: x11 :: x12 :: x13 :: t) hz hr hq hl hv hd hk z0 r0 q0
  obtain ⟨P, eP⟩ : ∃ P : Mp, P = ⟨S.n, iz, S.n + 3, S.n + 1, S.n + 4⟩ := ⟨_, rfl⟩
  rw [← eP] at m1 po
  have eim : P.im = S.n := by rw [eP]
  obtain ⟨r, S2, e2, st', rfl, m2, ok2, aw2, hl2, _⟩ := (e_run (most := 2000) m1 po hd hk st0_ok hv (by simp [st0])).get
  have po2 := po.mono aw2.1
  have hl2' : st'.sent.length ≤ 2000 := by simpa [st0] using hl2
  obtain ⟨r, S3, e3, st2, rfl, m3, ok3, aw3, hl3, hst⟩ := (e_run (most := 5) m2 po2 hd hk ok2 hv (by omega)).get
  have s1 : b_law_s192 (x0 :: x1 :: x2 :: x3 :: some (.adr iz) :: x5 :: some (.adr ir) :: some (.adr q) :: x8 :: x9 :: x10 :: x11 :: x12 :: x13 :: t) S = .nx (x0 :: x1 :: x2 :: x3 :: some (.adr iz) :: x5 :: some (.adr ir) :: some (.adr q) :: x8 :: x9 :: x10 :: x11 :: some (.adr P.im) :: x13 :: t) S1 := by
    unfold b_law_s192 mSet toRS
    rw [e1, eim]
    rfl
  have am := m1.m
  have lk : List.lookup ("run" : Str) (mF P (rs.map rowD) (st0 d ins)) = none := by rfl
  have e2' : f_Machine_run [.adr P.im, .int 2000] S1 = .ok (.bl st'.halted) S2 := e2
  have s2 : b_law_s193 (x0 :: x1 :: x2 :: x3 :: some (.adr iz) :: x5 :: some (.adr ir) :: some (.adr q) :: x8 :: x9 :: x10 :: x11 :: some (.adr P.im) :: x13 :: t) S1 = .nx (x0 :: x1 :: x2 :: x3 :: some (.adr iz) :: x5 :: some (.adr ir) :: some (.adr q) :: x8 :: x9 :: x10 :: x11 :: some (.adr P.im) :: some (.bl st'.halted) :: t) S2 := by
    simp (decide := true) [b_law_s193, mSeq, mPass, mBrk, mCnt, mDrop, mRet, mRetN, mIfS, mRaise, mSet, mAsg, mPar, mPar3, mAug, mFld, mFldAug, gNm, gSub', gFld, gNl, gCn, gTp, setA, putFD, mVar, mC, mB, mU, mTB, mAnd, mOr, mNot, mIf, mAndV, mOrV, mNotV, mChain, mNil, mCons, mTup, mLst, mSl, oNo, oE, mCB, fAbs, fMax2, fMin2, fInt, lenD, fLen, fTuple, fList, itemsD, fIsi, tyD, mAttr, mCall, mMeth, mMake, mBM, tyF, SM.bind, SM.pure, toRS, toRSA, toRST, Y.sb, List.lookup, put_f, put_n, alloc_f, alloc_n, put_put, alloc_put, okI, okB, orF, dSub, dFdiv, dMod, dPow, dShl, dShr, dAnd, dOr, dXor, dNeg, dLt, dLe, dGt, dGe, dIs, am, lk, e2']
  have am2 := m2.m
  have lk2 : List.lookup ("run" : Str) (mF P (rs.map rowD) st') = none := by rfl
  have lk3 : List.lookup ("halted" : Str) (mF P (rs.map rowD) st') = some (.bl st'.halted) := by rfl
  have e3' : f_Machine_run [.adr P.im, .int 5] S2 = .ok (.bl st2.halted) S3 := e3
  have fr2 : Fr [] S S2 := ⟨Nat.le_trans fr.1 aw2.1, fun j hj _ => by
    rw [aw2.2 j (Nat.lt_of_lt_of_le hj fr.1) (by rw [eP]; simp; omega) (by rw [eP]; simp; omega) (by rw [eP]; simp; omega) (by rw [eP]; simp; omega)]
    exact fr.2 j hj (by simp)⟩
  have fr3 : Fr [] S S3 := ⟨Nat.le_trans fr2.1 aw3.1, fun j hj _ => by
    rw [aw3.2 j (Nat.lt_of_lt_of_le hj fr2.1) (by rw [eP]; simp; omega) (by rw [eP]; simp; omega) (by rw [eP]; simp; omega) (by rw [eP]; simp; omega)]
    exact fr2.2 j hj (by simp)⟩
  cases hh : st'.halted with
  | false =>
    refine ⟨S2, some (.adr P.im), some (.bl st'.halted), ?_, fr2⟩
    rw [seq_eq s1, seq_eq s2, hh]
    rw [hh] at lk3
    simp (decide := true) [b_law_s194, mSeq, mPass, mBrk, mCnt, mDrop, mRet, mRetN, mIfS, mRaise, mSet, mAsg, mPar, mPar3, mAug, mFld, mFldAug, gNm, gSub', gFld, gNl, gCn, gTp, setA, putFD, mVar, mC, mB, mU, mTB, mAnd, mOr, mNot, mIf, mAndV, mOrV, mNotV, mChain, mNil, mCons, mTup, mLst, mSl, oNo, oE, mCB, fAbs, fMax2, fMin2, fInt, lenD, fLen, fTuple, fList, itemsD, fIsi, tyD, mAttr, mCall, mMeth, mMake, mBM, tyF, SM.bind, SM.pure, toRS, toRSA, toRST, Y.sb, List.lookup, put_f, put_n, alloc_f, alloc_n, put_put, alloc_put, okI, okB, orF, dSub, dFdiv, dMod, dPow, dShl, dShr, dAnd, dOr, dXor, dNeg, dLt, dLe, dGt, dGe, dIs, am2, lk3, ne_bl]
  | true =>
    have e4 : st2 = st' := hst hh
    rw [e4, hh] at e3'
    refine ⟨S3, some (.adr P.im), some (.bl st'.halted), ?_, fr3⟩
    rw [seq_eq s1, seq_eq s2, hh]
    rw [hh] at lk3
    simp (decide := true) [b_law_s194, mSeq, mPass, mBrk, mCnt, mDrop, mRet, mRetN, mIfS, mRaise, mSet, mAsg, mPar, mPar3, mAug, mFld, mFldAug, gNm, gSub', gFld, gNl, gCn, gTp, setA, putFD, mVar, mC, mB, mU, mTB, mAnd, mOr, mNot, mIf, mAndV, mOrV, mNotV, mChain, mNil, mCons, mTup, mLst, mSl, oNo, oE, mCB, fAbs, fMax2, fMin2, fInt, lenD, fLen, fTuple, fList, itemsD, fIsi, tyD, mAttr, mCall, mMeth, mMake, mBM, tyF, SM.bind, SM.pure, toRS, toRSA, toRST, Y.sb, List.lookup, put_f, put_n, alloc_f, alloc_n, put_put, alloc_put, okI, okB, orF, dSub, dFdiv, dMod, dPow, dShl, dShr, dAnd, dOr, dXor, dNeg, dLt, dLe, dGt, dGe, dIs, am2, lk2, lk3, ne_bl, e3']
end
end K10

set_option Elab.async false
set_option linter.all false
set_option maxRecDepth 100000
set_option maxHeartbeats 4000000
namespace K10
open PySem L2 Y
section
variable {S S' : Sr} {i iz ir q im io om : Nat} {d k m : Nat} {x0 x1 x2 x3 x4 x5 x6 x7 x8 x9 x10 x11 x12 x13 x14 x15 x16 : Option D} {t : Gm} {rs : List (Str × Int)} {ins : List Int} {p : Mp} {o : Op} {st : Ms} {w : Str} {n : Int} {R : List D}
theorem ix0 {a b : D} : dIx (.tup [a, b]) (.int 0) S = .ok a S := rfl
theorem ix1 {a b : D} : dIx (.tup [a, b]) (.int 1) S = .ok b S := rfl
theorem mulB_l {a b : Int} (h : -(2 ^ 64) < a ∧ a < 2 ^ 64) : mulB a b = true := by
  unfold mulB
  rw [Bool.or_eq_true]
  exact .inl (decide_eq_true h)
theorem ixW_lt (hw : Word w) : ixW w < 16 := by
  rcases hw with rfl | rfl | rfl | rfl | rfl | rfl | rfl | rfl | rfl | rfl | rfl | rfl | rfl | rfl | rfl | rfl <;> decide
theorem mb16 (lt : ixW w < 16) (b : Int) : mulB (ixW w : Int) b = true := by
  apply mulB_l
  have h : (16 : Int) < 2 ^ 64 := by decide
  omega
theorem ix16 (hw : Word w) : fTix K_INSTRUCTIONS [.str w] S = .ok (.int (ixW w : Nat)) S := by
    rcases hw with rfl | rfl | rfl | rfl | rfl | rfl | rfl | rfl | rfl | rfl | rfl | rfl | rfl | rfl | rfl | rfl
    · exact ix_halt
    · exact ix_set
    · exact ix_load
    · exact ix_store
    · exact ix_add
    · exact ix_sub
    · exact ix_and
    · exact ix_xor
    · exact ix_jump
    · exact ix_zero
    · exact ix_less
    · exact ix_out
    · exact ix_in
    · exact ix_half
    · exact ix_from
    · exact ix_to
theorem tuK : tyF "tuple" K_INSTRUCTIONS S = true := rfl
theorem mx2 {M : Nat} (hM : M = max d k) : (if d < k then (k : Int) else (d : Int)) = (M : Int) := by
    by_cases h : d < k
    · rw [if_pos h]
      omega
    · rw [if_neg h]
      omega
theorem c_div {M : Nat} {a n : Int} (h0 : 0 ≤ n) (nM : n < 2 ^ M) : (a * 2 ^ M + n) / 2 ^ M = a := by
    have mp := pos2 (d := M)
    rw [Int.add_comm, Int.add_mul_ediv_right _ _ (by omega), Int.ediv_eq_zero_of_lt h0 nM]
    omega
theorem c_mod {M : Nat} {a n : Int} (h0 : 0 ≤ n) (nM : n < 2 ^ M) : (a * 2 ^ M + n) % 2 ^ M = n := by
    rw [Int.add_comm, Int.add_mul_emod_self_right]
    exact Int.emod_eq_of_lt h0 nM
theorem c_lt {M : Nat} {a n : Int} (h0 : a < 16) (nM : n < 2 ^ M) : a * 2 ^ M + n < 2 ^ (4 + M) := by
    have mp := pos2 (d := M)
    have e : (2 : Int) ^ (4 + M) = 16 * 2 ^ M := by rw [Int.pow_add]; rfl
    rw [e]
    have : a * 2 ^ M ≤ 15 * 2 ^ M := Int.mul_le_mul_of_nonneg_right (by omega) (Int.le_of_lt mp)
    omega
theorem eidx (hw : Word w) : mBM "tuple" fTix (mC K_INSTRUCTIONS) (mCons (mB dIx (mVar 11) (mC (.int 0))) mNil) (x0 :: x1 :: x2 :: x3 :: x4 :: x5 :: x6 :: x7 :: x8 :: x9 :: x10 :: some (.tup [.str w, .int n]) :: t) S = .ok (.int (ixW w : Nat)) S := by
    simp (decide := true) [mBM, mC, mCons, mNil, mVar, mB, SM.bind, SM.pure, tuK, orF, ix0, ix16 hw]
section
variable {M : Nat} {C : Int}
theorem okI_ok {f : Int → Int → Int} {c : Int → Int → Bool} {a b : Int} (h : c a b = true) : okI f c (.int a) (.int b) S = .ok (.int (f a b)) S := if_pos h
theorem orF_ok {f f' : D → D → SM D} {x y v : D} (h : f x y S = .ok v S') : orF f f' x y S = .ok v S' := by
  unfold orF
  rw [h]
theorem m1 (lt : ixW w < 16) : dMul (.int (ixW w : Nat)) (.int (2 ^ M)) S = .ok (.int ((ixW w : Int) * 2 ^ M)) S := by
  unfold dMul
  exact orF_ok (okI_ok (mb16 lt _))
theorem m2 {a : Int} (eC : C = a + n) : dAdd (.int a) (.int n) S = .ok (.int C) S := by
  simp [dAdd, orF, okI, ← eC]
theorem m3 (h : M ≤ 8) : dShl (.int 1) (.int (M : Int)) S = .ok (.int (2 ^ M)) S := by
  have pm : powB 1 (M : Int) = true := pw1 h
  simp [dShl, orF, okI, pm]
theorem m4 (hM : M = max d k) : fMax2 [.int (d : Int), .int (k : Int)] S = .ok (.int (M : Int)) S := by
  simp [fMax2, mx2 hM]
theorem q1 (hw : Word w) (h : M ≤ 8) (hM : M = max d k) (eC : C = (ixW w : Int) * 2 ^ M + n) : mTB (mB dNe (mVar 14) (mB dAdd (mB dMul (mBM "tuple" fTix (mC K_INSTRUCTIONS) (mCons (mB dIx (mVar 11) (mC (.int 0))) mNil)) (mB dShl (mC (.int 1)) (mCB fMax2 (mCons (mVar 2) (mCons (mVar 3) mNil))))) (mB dIx (mVar 11) (mC (.int 1))))) (x0 :: x1 :: some (.int (d : Int)) :: some (.int (k : Int)) :: some (.adr iz) :: x5 :: x6 :: x7 :: x8 :: x9 :: x10 :: some (rowD (w, n)) :: x12 :: x13 :: some (.int C) :: t) S = .ok false S := by
  have ei := fun x0 x1 x2 x3 x4 x5 x6 x7 x8 x9 x10 t => eidx (S := S) (n := n) (x0 := x0) (x1 := x1) (x2 := x2) (x3 := x3) (x4 := x4) (x5 := x5) (x6 := x6) (x7 := x7) (x8 := x8) (x9 := x9) (x10 := x10) (t := t) hw
  have lt := ixW_lt hw
  simp (decide := true) [mTB, mB, ei, SM.bind, SM.pure, mVar, mC, mCB, mCons, mNil, rowD, ix0, ix1, m1 lt, m2 eC, m3 h, m4 hM, ev_neI]
theorem q2 (ed : f_decoded [.int C, .adr iz] S = .ok (.tup [.str w, .int n]) S) (hw : Word w) : mTB (mB dNe (mCall f_decoded 2 [] (mCons (mVar 14) (mCons (mVar 4) mNil))) (mVar 11)) (x0 :: x1 :: some (.int (d : Int)) :: some (.int (k : Int)) :: some (.adr iz) :: x5 :: x6 :: x7 :: x8 :: x9 :: x10 :: some (rowD (w, n)) :: x12 :: x13 :: some (.int C) :: t) S = .ok false S := by
  have en := row_ne (S := S) (n := n) hw
  simp (decide := true) [mTB, mB, SM.bind, SM.pure, mVar, mC, mCons, mNil, rowD, mCall, ed, en]
theorem q3 (ec : f_check_instruction [.tup [.str w, .int n], .adr iz] S = .ok .non S) : mTB (mB (dIs true) (mCall f_check_instruction 2 [] (mCons (mVar 11) (mCons (mVar 4) mNil))) (mC .non)) (x0 :: x1 :: some (.int (d : Int)) :: some (.int (k : Int)) :: some (.adr iz) :: x5 :: x6 :: x7 :: x8 :: x9 :: x10 :: some (rowD (w, n)) :: x12 :: x13 :: some (.int C) :: t) S = .ok false S := by
  simp (decide := true) [mTB, mB, SM.bind, SM.pure, mVar, mC, mCons, mNil, rowD, mCall, ec, dIs]
end
theorem l196t (hz : S.f iz = some (.ins "Size" (sF d k))) (hd : d ≤ 8) (hk : k ≤ 8) (hv : Valid d k w n) :
    ∃ y, b_law_L196 (x0 :: x1 :: some (.int (d : Int)) :: some (.int (k : Int)) :: some (.adr iz) :: x5 :: x6 :: x7 :: x8 :: x9 :: x10 :: some (rowD (w, n)) :: x12 :: x13 :: x14 :: t) S = .nx (x0 :: x1 :: some (.int (d : Int)) :: some (.int (k : Int)) :: some (.adr iz) :: x5 :: x6 :: x7 :: x8 :: x9 :: x10 :: some (rowD (w, n)) :: x12 :: x13 :: y :: t) S := by
  obtain ⟨hw, h0, h1⟩ := valid_iff hv
  have ee := e_enc hz hd hk hw h0 h1
  have bm := bits_max (d := d) (k := k) hw
  have lt := ixW_lt hw
  obtain ⟨M, hM⟩ : ∃ M : Nat, M = max d k := ⟨_, rfl⟩
  have hM8 : M ≤ 8 := by omega
  rw [← hM] at ee bm
  have mp := pos2 (d := M)
  have nM : n < 2 ^ M := by omega
  have c0 : 0 ≤ (ixW w : Int) * 2 ^ M + n := by
    have := Int.mul_nonneg (Int.natCast_nonneg (ixW w)) (Int.le_of_lt mp)
    omega
  have ed := e_dec (c := (ixW w : Int) * 2 ^ M + n) hz hd hk hw h0 h1 (by rw [← hM]; exact c_div h0 nM) (by rw [← hM]; exact c_mod h0 nM) c0 (by rw [← hM]; exact c_lt (by omega) nM)
  have ec := e_check (n := n) hz hd hk hw
  rw [if_pos ⟨h0, h1⟩] at ec
  have en := row_ne (S := S) (n := n) hw
  have mx := mx2 hM
  have pm : powB 1 (M : Int) = true := pw1 hM8
  have mb := mb16 lt
  obtain ⟨C, eC⟩ : ∃ C : Int, C = (ixW w : Int) * 2 ^ M + n := ⟨_, rfl⟩
  rw [← eC] at ee ed
  have s1 : b_law_s197 (x0 :: x1 :: some (.int (d : Int)) :: some (.int (k : Int)) :: some (.adr iz) :: x5 :: x6 :: x7 :: x8 :: x9 :: x10 :: some (rowD (w, n)) :: x12 :: x13 :: x14 :: t) S = .nx (x0 :: x1 :: some (.int (d : Int)) :: some (.int (k : Int)) :: some (.adr iz) :: x5 :: x6 :: x7 :: x8 :: x9 :: x10 :: some (rowD (w, n)) :: x12 :: x13 :: some (.int C) :: t) S := by
    simp (decide := true) [b_law_s197, mSet, toRS, mCall, mCons, mNil, mVar, SM.bind, SM.pure, rowD, ee]
  refine ⟨some (.int C), ?_⟩
  unfold b_law_L196
  rw [seq_eq s1]
  have h1 := q1 (S := S) (n := n) (iz := iz) (x0 := x0) (x1 := x1) (x5 := x5) (x6 := x6) (x7 := x7) (x8 := x8) (x9 := x9) (x10 := x10) (x12 := x12) (x13 := x13) (t := t) hw hM8 hM eC
  have h2 := q2 (x0 := x0) (x1 := x1) (d := d) (k := k) (x5 := x5) (x6 := x6) (x7 := x7) (x8 := x8) (x9 := x9) (x10 := x10) (x12 := x12) (x13 := x13) (t := t) ed hw
  have h3 := q3 (x0 := x0) (x1 := x1) (d := d) (k := k) (C := C) (x5 := x5) (x6 := x6) (x7 := x7) (x8 := x8) (x9 := x9) (x10 := x10) (x12 := x12) (x13 := x13) (t := t) ec
  unfold b_law_s198 mIfS mOr toRST mPass
  simp only [SM.bind, h1, h2, h3, SM.pure, Bool.false_eq_true, if_false]
end
end K10

set_option Elab.async false
set_option linter.all false
set_option maxRecDepth 100000
set_option maxHeartbeats 4000000
namespace K10
open PySem L2 Y
section
variable {S S' : Sr} {i iz ir q im io om : Nat} {d k m : Nat} {x0 x1 x2 x3 x4 x5 x6 x7 x8 x9 x10 x11 x12 x13 x14 x15 x16 : Option D} {t : Gm} {rs : List (Str × Int)} {ins : List Int} {p : Mp} {o : Op} {st : Ms} {w : Str} {n : Int} {R : List D}
theorem l196 (hz : S.f iz = some (.ins "Size" (sF d k))) (hr : S.f ir = some (.lst (rs.map rowD))) (hd : d ≤ 8) (hk : k ≤ 8) (hv : ∀ r ∈ rs, Valid d k r.1 r.2) :
    ∃ y11 y14, b_law_s196 (x0 :: x1 :: some (.int (d : Int)) :: some (.int (k : Int)) :: some (.adr iz) :: x5 :: some (.adr ir) :: x7 :: x8 :: x9 :: x10 :: x11 :: x12 :: x13 :: x14 :: t) S = .nx (x0 :: x1 :: some (.int (d : Int)) :: some (.int (k : Int)) :: some (.adr iz) :: x5 :: some (.adr ir) :: x7 :: x8 :: x9 :: x10 :: y11 :: x12 :: x13 :: y14 :: t) S := by
  obtain ⟨GG, eG⟩ : ∃ GG : Option D → Option D → Gm, GG = fun y11 y14 => (x0 :: x1 :: some (.int (d : Int)) :: some (.int (k : Int)) :: some (.adr iz) :: x5 :: some (.adr ir) :: x7 :: x8 :: x9 :: x10 :: y11 :: x12 :: x13 :: y14 :: t) := ⟨_, rfl⟩
  have es : mSrc (mVar 6) (GG x11 x14) S = .ok (sqa ir rs.length) S := by
    rw [eG]
    simp [mSrc, mVar, SM.bind, mSrcD, hr]
  have key := for_loop (sr := sqa ir rs.length) (step := mStep (gNm 11) b_law_L196) (n := rs.length)
    (fun j g S' => ∃ y11 y14, g = GG y11 y14 ∧ S' = S) (fun r => ∃ y11 y14, r = .nx (GG y11 y14) S) ?_ ?_ rs.length 0 (GG x11 x14) S (Nat.zero_add _) ⟨x11, x14, rfl, rfl⟩
  · obtain ⟨y11, y14, er⟩ := key
    refine ⟨y11, y14, ?_⟩
    have : b_law_s196 (GG x11 x14) S = .nx (GG y11 y14) S := by
      unfold b_law_s196 mFor
      rw [es]
      exact er
    rw [eG] at this
    exact this
  · rintro j g S' hj ⟨y11, y14, rfl, rfl⟩
    obtain ⟨w, n⟩ : ∃ w : Str × Int, w = rs[j] := ⟨_, rfl⟩
    obtain ⟨w1, n1⟩ := w
    refine ⟨rowD (w1, n1), ?_, ?_⟩
    · simp [sqa, hr, hj, ← n]
    · have hvr : Valid d k w1 n1 := hv (w1, n1) (by rw [n]; exact List.getElem_mem hj)
      have em : mStep (gNm 11) b_law_L196 (rowD (w1, n1)) (GG y11 y14) S' = b_law_L196 (GG (some (rowD (w1, n1))) y14) S' := by
        rw [eG]
        rfl
      rw [em]
      obtain ⟨y, e⟩ := l196t (x0 := x0) (x1 := x1) (x5 := x5) (x6 := some (.adr ir)) (x7 := x7) (x8 := x8) (x9 := x9) (x10 := x10) (x12 := x12) (x13 := x13) (x14 := y14) (t := t) hz hd hk hvr
      have e2 : b_law_L196 (GG (some (rowD (w1, n1))) y14) S' = .nx (GG (some (rowD (w1, n1))) y) S' := by
        rw [eG]
        exact e
      rw [e2]
      exact tn_nx.mpr ⟨_, _, rfl, rfl⟩
  · rintro g S' ⟨y11, y14, rfl, rfl⟩
    exact ⟨by simp [sqa, hr], _, _, rfl⟩
theorem l200 (h : DiceAt S i) : ∃ w n S', Word w ∧ 0 ≤ n ∧ n < 600 ∧ DiceAt S' i ∧ Fr [i] S S' ∧
    b_law_s200 (x0 :: some (.adr i) :: x2 :: x3 :: x4 :: x5 :: x6 :: x7 :: x8 :: x9 :: x10 :: x11 :: x12 :: x13 :: x14 :: x15 :: t) S = .nx (x0 :: some (.adr i) :: x2 :: x3 :: x4 :: x5 :: x6 :: x7 :: x8 :: x9 :: x10 :: x11 :: x12 :: x13 :: some (.int n) :: some (.str w) :: t) S' := by
  obtain ⟨r1, y1, a0, a1, e1, d1⟩ := roll_at h (many := 16) (by decide) (by decide)
  obtain ⟨w, ew, hw⟩ := word_at a0 a1
  obtain ⟨r2, y2, b0, b1, e2, d2⟩ := roll_at d1 (many := 600) (by decide) (by decide)
  have sz : 2 ≤ sizeLine := by rw [sizeLine_eq]; omega
  refine ⟨w, r2, (S.put i y1).put i y2, hw, b0, b1, d2, (Fr.put (by simp)).trans (Fr.put (by simp)), ?_⟩
  rw [put_put] at e2 ⊢
  simp (maxSteps := 4000000) (decide := true) [b_law_s200, mSeq, mPass, mBrk, mCnt, mDrop, mRet, mRetN, mIfS, mRaise, mSet, mAsg, mPar, mPar3, mAug, mFld, mFldAug, gNm, gSub', gFld, gNl, gCn, gTp, setA, putFD, mVar, mC, mB, mU, mTB, mAnd, mOr, mNot, mIf, mAndV, mOrV, mNotV, mChain, mNil, mCons, mTup, mLst, mSl, oNo, oE, mCB, fAbs, fMax2, fMin2, fInt, lenD, fLen, fTuple, fList, itemsD, fIsi, tyD, mAttr, mCall, mMeth, mMake, mBM, tyF, SM.bind, SM.pure, toRS, toRSA, toRST, Y.sb, List.lookup, put_f, put_n, alloc_f, alloc_n, put_put, alloc_put, okI, okB, orF, dSub, dFdiv, dMod, dPow, dShl, dShr, dAnd, dOr, dXor, dNeg, dLt, dLe, dGt, dGe, dIs, e1, e2, ew, dIx, ixSeq, K_INSTRUCTIONS, sz]
theorem l201 (hw : Word w) : ∃ S', Fr [] S S' ∧
    b_law_s201 (x0 :: x1 :: some (.int (d : Int)) :: some (.int (k : Int)) :: x4 :: x5 :: x6 :: x7 :: x8 :: x9 :: x10 :: x11 :: x12 :: x13 :: x14 :: some (.str w) :: x16 :: t) S = .nx (x0 :: x1 :: some (.int (d : Int)) :: some (.int (k : Int)) :: x4 :: x5 :: x6 :: x7 :: x8 :: x9 :: x10 :: x11 :: x12 :: x13 :: x14 :: some (.str w) :: some (.int (bitsOf d k w : Nat)) :: t) S' := by
  have sz : 4 ≤ sizeLine := by rw [sizeLine_eq]; omega
  have sz3 : 3 ≤ sizeLine := by rw [sizeLine_eq]; omega
  rcases hw with rfl | rfl | rfl | rfl | rfl | rfl | rfl | rfl | rfl | rfl | rfl | rfl | rfl | rfl | rfl | rfl
  · refine ⟨S.alloc (.lst [.str "halt", .str "out", .str "in", .str "half"]), Fr.alloc, ?_⟩
    simp (maxSteps := 4000000) (decide := true) [b_law_s201, mSeq, mPass, mBrk, mCnt, mDrop, mRet, mRetN, mIfS, mRaise, mSet, mAsg, mPar, mPar3, mAug, mFld, mFldAug, gNm, gSub', gFld, gNl, gCn, gTp, setA, putFD, mVar, mC, mB, mU, mTB, mAnd, mOr, mNot, mIf, mAndV, mOrV, mNotV, mChain, mNil, mCons, mTup, mLst, mSl, oNo, oE, mCB, fAbs, fMax2, fMin2, fInt, lenD, fLen, fTuple, fList, itemsD, fIsi, tyD, mAttr, mCall, mMeth, mMake, mBM, tyF, SM.bind, SM.pure, toRS, toRSA, toRST, Y.sb, List.lookup, put_f, put_n, alloc_f, alloc_n, put_put, alloc_put, okI, okB, orF, dSub, dFdiv, dMod, dPow, dShl, dShr, dAnd, dOr, dXor, dNeg, dLt, dLe, dGt, dGe, dIs, lin_P_halt, lin_P_set, lin_P_load, lin_P_store, lin_P_add, lin_P_sub, lin_P_and, lin_P_xor, lin_P_jump, lin_P_zero, lin_P_less, lin_P_out, lin_P_in, lin_P_half, lin_P_from, lin_P_to, lin_J_halt, lin_J_set, lin_J_load, lin_J_store, lin_J_add, lin_J_sub, lin_J_and, lin_J_xor, lin_J_jump, lin_J_zero, lin_J_less, lin_J_out, lin_J_in, lin_J_half, lin_J_from, lin_J_to, sz, sz3, bitsOf]
  · refine ⟨(S.alloc (.lst [.str "halt", .str "out", .str "in", .str "half"])).alloc (.lst [.str "jump", .str "zero", .str "less"]), Fr.alloc.trans Fr.alloc, ?_⟩
    simp (maxSteps := 4000000) (decide := true) [b_law_s201, mSeq, mPass, mBrk, mCnt, mDrop, mRet, mRetN, mIfS, mRaise, mSet, mAsg, mPar, mPar3, mAug, mFld, mFldAug, gNm, gSub', gFld, gNl, gCn, gTp, setA, putFD, mVar, mC, mB, mU, mTB, mAnd, mOr, mNot, mIf, mAndV, mOrV, mNotV, mChain, mNil, mCons, mTup, mLst, mSl, oNo, oE, mCB, fAbs, fMax2, fMin2, fInt, lenD, fLen, fTuple, fList, itemsD, fIsi, tyD, mAttr, mCall, mMeth, mMake, mBM, tyF, SM.bind, SM.pure, toRS, toRSA, toRST, Y.sb, List.lookup, put_f, put_n, alloc_f, alloc_n, put_put, alloc_put, okI, okB, orF, dSub, dFdiv, dMod, dPow, dShl, dShr, dAnd, dOr, dXor, dNeg, dLt, dLe, dGt, dGe, dIs, lin_P_halt, lin_P_set, lin_P_load, lin_P_store, lin_P_add, lin_P_sub, lin_P_and, lin_P_xor, lin_P_jump, lin_P_zero, lin_P_less, lin_P_out, lin_P_in, lin_P_half, lin_P_from, lin_P_to, lin_J_halt, lin_J_set, lin_J_load, lin_J_store, lin_J_add, lin_J_sub, lin_J_and, lin_J_xor, lin_J_jump, lin_J_zero, lin_J_less, lin_J_out, lin_J_in, lin_J_half, lin_J_from, lin_J_to, sz, sz3, bitsOf]
  · refine ⟨(S.alloc (.lst [.str "halt", .str "out", .str "in", .str "half"])).alloc (.lst [.str "jump", .str "zero", .str "less"]), Fr.alloc.trans Fr.alloc, ?_⟩
    simp (maxSteps := 4000000) (decide := true) [b_law_s201, mSeq, mPass, mBrk, mCnt, mDrop, mRet, mRetN, mIfS, mRaise, mSet, mAsg, mPar, mPar3, mAug, mFld, mFldAug, gNm, gSub', gFld, gNl, gCn, gTp, setA, putFD, mVar, mC, mB, mU, mTB, mAnd, mOr, mNot, mIf, mAndV, mOrV, mNotV, mChain, mNil, mCons, mTup, mLst, mSl, oNo, oE, mCB, fAbs, fMax2, fMin2, fInt, lenD, fLen, fTuple, fList, itemsD, fIsi, tyD, mAttr, mCall, mMeth, mMake, mBM, tyF, SM.bind, SM.pure, toRS, toRSA, toRST, Y.sb, List.lookup, put_f, put_n, alloc_f, alloc_n, put_put, alloc_put, okI, okB, orF, dSub, dFdiv, dMod, dPow, dShl, dShr, dAnd, dOr, dXor, dNeg, dLt, dLe, dGt, dGe, dIs, lin_P_halt, lin_P_set, lin_P_load, lin_P_store, lin_P_add, lin_P_sub, lin_P_and, lin_P_xor, lin_P_jump, lin_P_zero, lin_P_less, lin_P_out, lin_P_in, lin_P_half, lin_P_from, lin_P_to, lin_J_halt, lin_J_set, lin_J_load, lin_J_store, lin_J_add, lin_J_sub, lin_J_and, lin_J_xor, lin_J_jump, lin_J_zero, lin_J_less, lin_J_out, lin_J_in, lin_J_half, lin_J_from, lin_J_to, sz, sz3, bitsOf]
  · refine ⟨(S.alloc (.lst [.str "halt", .str "out", .str "in", .str "half"])).alloc (.lst [.str "jump", .str "zero", .str "less"]), Fr.alloc.trans Fr.alloc, ?_⟩
    simp (maxSteps := 4000000) (decide := true) [b_law_s201, mSeq, mPass, mBrk, mCnt, mDrop, mRet, mRetN, mIfS, mRaise, mSet, mAsg, mPar, mPar3, mAug, mFld, mFldAug, gNm, gSub', gFld, gNl, gCn, gTp, setA, putFD, mVar, mC, mB, mU, mTB, mAnd, mOr, mNot, mIf, mAndV, mOrV, mNotV, mChain, mNil, mCons, mTup, mLst, mSl, oNo, oE, mCB, fAbs, fMax2, fMin2, fInt, lenD, fLen, fTuple, fList, itemsD, fIsi, tyD, mAttr, mCall, mMeth, mMake, mBM, tyF, SM.bind, SM.pure, toRS, toRSA, toRST, Y.sb, List.lookup, put_f, put_n, alloc_f, alloc_n, put_put, alloc_put, okI, okB, orF, dSub, dFdiv, dMod, dPow, dShl, dShr, dAnd, dOr, dXor, dNeg, dLt, dLe, dGt, dGe, dIs, lin_P_halt, lin_P_set, lin_P_load, lin_P_store, lin_P_add, lin_P_sub, lin_P_and, lin_P_xor, lin_P_jump, lin_P_zero, lin_P_less, lin_P_out, lin_P_in, lin_P_half, lin_P_from, lin_P_to, lin_J_halt, lin_J_set, lin_J_load, lin_J_store, lin_J_add, lin_J_sub, lin_J_and, lin_J_xor, lin_J_jump, lin_J_zero, lin_J_less, lin_J_out, lin_J_in, lin_J_half, lin_J_from, lin_J_to, sz, sz3, bitsOf]
  · refine ⟨(S.alloc (.lst [.str "halt", .str "out", .str "in", .str "half"])).alloc (.lst [.str "jump", .str "zero", .str "less"]), Fr.alloc.trans Fr.alloc, ?_⟩
    simp (maxSteps := 4000000) (decide := true) [b_law_s201, mSeq, mPass, mBrk, mCnt, mDrop, mRet, mRetN, mIfS, mRaise, mSet, mAsg, mPar, mPar3, mAug, mFld, mFldAug, gNm, gSub', gFld, gNl, gCn, gTp, setA, putFD, mVar, mC, mB, mU, mTB, mAnd, mOr, mNot, mIf, mAndV, mOrV, mNotV, mChain, mNil, mCons, mTup, mLst, mSl, oNo, oE, mCB, fAbs, fMax2, fMin2, fInt, lenD, fLen, fTuple, fList, itemsD, fIsi, tyD, mAttr, mCall, mMeth, mMake, mBM, tyF, SM.bind, SM.pure, toRS, toRSA, toRST, Y.sb, List.lookup, put_f, put_n, alloc_f, alloc_n, put_put, alloc_put, okI, okB, orF, dSub, dFdiv, dMod, dPow, dShl, dShr, dAnd, dOr, dXor, dNeg, dLt, dLe, dGt, dGe, dIs, lin_P_halt, lin_P_set, lin_P_load, lin_P_store, lin_P_add, lin_P_sub, lin_P_and, lin_P_xor, lin_P_jump, lin_P_zero, lin_P_less, lin_P_out, lin_P_in, lin_P_half, lin_P_from, lin_P_to, lin_J_halt, lin_J_set, lin_J_load, lin_J_store, lin_J_add, lin_J_sub, lin_J_and, lin_J_xor, lin_J_jump, lin_J_zero, lin_J_less, lin_J_out, lin_J_in, lin_J_half, lin_J_from, lin_J_to, sz, sz3, bitsOf]
  · refine ⟨(S.alloc (.lst [.str "halt", .str "out", .str "in", .str "half"])).alloc (.lst [.str "jump", .str "zero", .str "less"]), Fr.alloc.trans Fr.alloc, ?_⟩
    simp (maxSteps := 4000000) (decide := true) [b_law_s201, mSeq, mPass, mBrk, mCnt, mDrop, mRet, mRetN, mIfS, mRaise, mSet, mAsg, mPar, mPar3, mAug, mFld, mFldAug, gNm, gSub', gFld, gNl, gCn, gTp, setA, putFD, mVar, mC, mB, mU, mTB, mAnd, mOr, mNot, mIf, mAndV, mOrV, mNotV, mChain, mNil, mCons, mTup, mLst, mSl, oNo, oE, mCB, fAbs, fMax2, fMin2, fInt, lenD, fLen, fTuple, fList, itemsD, fIsi, tyD, mAttr, mCall, mMeth, mMake, mBM, tyF, SM.bind, SM.pure, toRS, toRSA, toRST, Y.sb, List.lookup, put_f, put_n, alloc_f, alloc_n, put_put, alloc_put, okI, okB, orF, dSub, dFdiv, dMod, dPow, dShl, dShr, dAnd, dOr, dXor, dNeg, dLt, dLe, dGt, dGe, dIs, lin_P_halt, lin_P_set, lin_P_load, lin_P_store, lin_P_add, lin_P_sub, lin_P_and, lin_P_xor, lin_P_jump, lin_P_zero, lin_P_less, lin_P_out, lin_P_in, lin_P_half, lin_P_from, lin_P_to, lin_J_halt, lin_J_set, lin_J_load, lin_J_store, lin_J_add, lin_J_sub, lin_J_and, lin_J_xor, lin_J_jump, lin_J_zero, lin_J_less, lin_J_out, lin_J_in, lin_J_half, lin_J_from, lin_J_to, sz, sz3, bitsOf]
  · refine ⟨(S.alloc (.lst [.str "halt", .str "out", .str "in", .str "half"])).alloc (.lst [.str "jump", .str "zero", .str "less"]), Fr.alloc.trans Fr.alloc, ?_⟩
    simp (maxSteps := 4000000) (decide := true) [b_law_s201, mSeq, mPass, mBrk, mCnt, mDrop, mRet, mRetN, mIfS, mRaise, mSet, mAsg, mPar, mPar3, mAug, mFld, mFldAug, gNm, gSub', gFld, gNl, gCn, gTp, setA, putFD, mVar, mC, mB, mU, mTB, mAnd, mOr, mNot, mIf, mAndV, mOrV, mNotV, mChain, mNil, mCons, mTup, mLst, mSl, oNo, oE, mCB, fAbs, fMax2, fMin2, fInt, lenD, fLen, fTuple, fList, itemsD, fIsi, tyD, mAttr, mCall, mMeth, mMake, mBM, tyF, SM.bind, SM.pure, toRS, toRSA, toRST, Y.sb, List.lookup, put_f, put_n, alloc_f, alloc_n, put_put, alloc_put, okI, okB, orF, dSub, dFdiv, dMod, dPow, dShl, dShr, dAnd, dOr, dXor, dNeg, dLt, dLe, dGt, dGe, dIs, lin_P_halt, lin_P_set, lin_P_load, lin_P_store, lin_P_add, lin_P_sub, lin_P_and, lin_P_xor, lin_P_jump, lin_P_zero, lin_P_less, lin_P_out, lin_P_in, lin_P_half, lin_P_from, lin_P_to, lin_J_halt, lin_J_set, lin_J_load, lin_J_store, lin_J_add, lin_J_sub, lin_J_and, lin_J_xor, lin_J_jump, lin_J_zero, lin_J_less, lin_J_out, lin_J_in, lin_J_half, lin_J_from, lin_J_to, sz, sz3, bitsOf]
  · refine ⟨(S.alloc (.lst [.str "halt", .str "out", .str "in", .str "half"])).alloc (.lst [.str "jump", .str "zero", .str "less"]), Fr.alloc.trans Fr.alloc, ?_⟩
    simp (maxSteps := 4000000) (decide := true) [b_law_s201, mSeq, mPass, mBrk, mCnt, mDrop, mRet, mRetN, mIfS, mRaise, mSet, mAsg, mPar, mPar3, mAug, mFld, mFldAug, gNm, gSub', gFld, gNl, gCn, gTp, setA, putFD, mVar, mC, mB, mU, mTB, mAnd, mOr, mNot, mIf, mAndV, mOrV, mNotV, mChain, mNil, mCons, mTup, mLst, mSl, oNo, oE, mCB, fAbs, fMax2, fMin2, fInt, lenD, fLen, fTuple, fList, itemsD, fIsi, tyD, mAttr, mCall, mMeth, mMake, mBM, tyF, SM.bind, SM.pure, toRS, toRSA, toRST, Y.sb, List.lookup, put_f, put_n, alloc_f, alloc_n, put_put, alloc_put, okI, okB, orF, dSub, dFdiv, dMod, dPow, dShl, dShr, dAnd, dOr, dXor, dNeg, dLt, dLe, dGt, dGe, dIs, lin_P_halt, lin_P_set, lin_P_load, lin_P_store, lin_P_add, lin_P_sub, lin_P_and, lin_P_xor, lin_P_jump, lin_P_zero, lin_P_less, lin_P_out, lin_P_in, lin_P_half, lin_P_from, lin_P_to, lin_J_halt, lin_J_set, lin_J_load, lin_J_store, lin_J_add, lin_J_sub, lin_J_and, lin_J_xor, lin_J_jump, lin_J_zero, lin_J_less, lin_J_out, lin_J_in, lin_J_half, lin_J_from, lin_J_to, sz, sz3, bitsOf]
  · refine ⟨(S.alloc (.lst [.str "halt", .str "out", .str "in", .str "half"])).alloc (.lst [.str "jump", .str "zero", .str "less"]), Fr.alloc.trans Fr.alloc, ?_⟩
    simp (maxSteps := 4000000) (decide := true) [b_law_s201, mSeq, mPass, mBrk, mCnt, mDrop, mRet, mRetN, mIfS, mRaise, mSet, mAsg, mPar, mPar3, mAug, mFld, mFldAug, gNm, gSub', gFld, gNl, gCn, gTp, setA, putFD, mVar, mC, mB, mU, mTB, mAnd, mOr, mNot, mIf, mAndV, mOrV, mNotV, mChain, mNil, mCons, mTup, mLst, mSl, oNo, oE, mCB, fAbs, fMax2, fMin2, fInt, lenD, fLen, fTuple, fList, itemsD, fIsi, tyD, mAttr, mCall, mMeth, mMake, mBM, tyF, SM.bind, SM.pure, toRS, toRSA, toRST, Y.sb, List.lookup, put_f, put_n, alloc_f, alloc_n, put_put, alloc_put, okI, okB, orF, dSub, dFdiv, dMod, dPow, dShl, dShr, dAnd, dOr, dXor, dNeg, dLt, dLe, dGt, dGe, dIs, lin_P_halt, lin_P_set, lin_P_load, lin_P_store, lin_P_add, lin_P_sub, lin_P_and, lin_P_xor, lin_P_jump, lin_P_zero, lin_P_less, lin_P_out, lin_P_in, lin_P_half, lin_P_from, lin_P_to, lin_J_halt, lin_J_set, lin_J_load, lin_J_store, lin_J_add, lin_J_sub, lin_J_and, lin_J_xor, lin_J_jump, lin_J_zero, lin_J_less, lin_J_out, lin_J_in, lin_J_half, lin_J_from, lin_J_to, sz, sz3, bitsOf]
  · refine ⟨(S.alloc (.lst [.str "halt", .str "out", .str "in", .str "half"])).alloc (.lst [.str "jump", .str "zero", .str "less"]), Fr.alloc.trans Fr.alloc, ?_⟩
    simp (maxSteps := 4000000) (decide := true) [b_law_s201, mSeq, mPass, mBrk, mCnt, mDrop, mRet, mRetN, mIfS, mRaise, mSet, mAsg, mPar, mPar3, mAug, mFld, mFldAug, gNm, gSub', gFld, gNl, gCn, gTp, setA, putFD, mVar, mC, mB, mU, mTB, mAnd, mOr, mNot, mIf, mAndV, mOrV, mNotV, mChain, mNil, mCons, mTup, mLst, mSl, oNo, oE, mCB, fAbs, fMax2, fMin2, fInt, lenD, fLen, fTuple, fList, itemsD, fIsi, tyD, mAttr, mCall, mMeth, mMake, mBM, tyF, SM.bind, SM.pure, toRS, toRSA, toRST, Y.sb, List.lookup, put_f, put_n, alloc_f, alloc_n, put_put, alloc_put, okI, okB, orF, dSub, dFdiv, dMod, dPow, dShl, dShr, dAnd, dOr, dXor, dNeg, dLt, dLe, dGt, dGe, dIs, lin_P_halt, lin_P_set, lin_P_load, lin_P_store, lin_P_add, lin_P_sub, lin_P_and, lin_P_xor, lin_P_jump, lin_P_zero, lin_P_less, lin_P_out, lin_P_in, lin_P_half, lin_P_from, lin_P_to, lin_J_halt, lin_J_set, lin_J_load, lin_J_store, lin_J_add, lin_J_sub, lin_J_and, lin_J_xor, lin_J_jump, lin_J_zero, lin_J_less, lin_J_out, lin_J_in, lin_J_half, lin_J_from, lin_J_to, sz, sz3, bitsOf]
  · refine ⟨(S.alloc (.lst [.str "halt", .str "out", .str "in", .str "half"])).alloc (.lst [.str "jump", .str "zero", .str "less"]), Fr.alloc.trans Fr.alloc, ?_⟩
    simp (maxSteps := 4000000) (decide := true) [b_law_s201, mSeq, mPass, mBrk, mCnt, mDrop, mRet, mRetN, mIfS, mRaise, mSet, mAsg, mPar, mPar3, mAug, mFld, mFldAug, gNm, gSub', gFld, gNl, gCn, gTp, setA, putFD, mVar, mC, mB, mU, mTB, mAnd, mOr, mNot, mIf, mAndV, mOrV, mNotV, mChain, mNil, mCons, mTup, mLst, mSl, oNo, oE, mCB, fAbs, fMax2, fMin2, fInt, lenD, fLen, fTuple, fList, itemsD, fIsi, tyD, mAttr, mCall, mMeth, mMake, mBM, tyF, SM.bind, SM.pure, toRS, toRSA, toRST, Y.sb, List.lookup, put_f, put_n, alloc_f, alloc_n, put_put, alloc_put, okI, okB, orF, dSub, dFdiv, dMod, dPow, dShl, dShr, dAnd, dOr, dXor, dNeg, dLt, dLe, dGt, dGe, dIs, lin_P_halt, lin_P_set, lin_P_load, lin_P_store, lin_P_add, lin_P_sub, lin_P_and, lin_P_xor, lin_P_jump, lin_P_zero, lin_P_less, lin_P_out, lin_P_in, lin_P_half, lin_P_from, lin_P_to, lin_J_halt, lin_J_set, lin_J_load, lin_J_store, lin_J_add, lin_J_sub, lin_J_and, lin_J_xor, lin_J_jump, lin_J_zero, lin_J_less, lin_J_out, lin_J_in, lin_J_half, lin_J_from, lin_J_to, sz, sz3, bitsOf]
  · refine ⟨S.alloc (.lst [.str "halt", .str "out", .str "in", .str "half"]), Fr.alloc, ?_⟩
    simp (maxSteps := 4000000) (decide := true) [b_law_s201, mSeq, mPass, mBrk, mCnt, mDrop, mRet, mRetN, mIfS, mRaise, mSet, mAsg, mPar, mPar3, mAug, mFld, mFldAug, gNm, gSub', gFld, gNl, gCn, gTp, setA, putFD, mVar, mC, mB, mU, mTB, mAnd, mOr, mNot, mIf, mAndV, mOrV, mNotV, mChain, mNil, mCons, mTup, mLst, mSl, oNo, oE, mCB, fAbs, fMax2, fMin2, fInt, lenD, fLen, fTuple, fList, itemsD, fIsi, tyD, mAttr, mCall, mMeth, mMake, mBM, tyF, SM.bind, SM.pure, toRS, toRSA, toRST, Y.sb, List.lookup, put_f, put_n, alloc_f, alloc_n, put_put, alloc_put, okI, okB, orF, dSub, dFdiv, dMod, dPow, dShl, dShr, dAnd, dOr, dXor, dNeg, dLt, dLe, dGt, dGe, dIs, lin_P_halt, lin_P_set, lin_P_load, lin_P_store, lin_P_add, lin_P_sub, lin_P_and, lin_P_xor, lin_P_jump, lin_P_zero, lin_P_less, lin_P_out, lin_P_in, lin_P_half, lin_P_from, lin_P_to, lin_J_halt, lin_J_set, lin_J_load, lin_J_store, lin_J_add, lin_J_sub, lin_J_and, lin_J_xor, lin_J_jump, lin_J_zero, lin_J_less, lin_J_out, lin_J_in, lin_J_half, lin_J_from, lin_J_to, sz, sz3, bitsOf]
  · refine ⟨S.alloc (.lst [.str "halt", .str "out", .str "in", .str "half"]), Fr.alloc, ?_⟩
    simp (maxSteps := 4000000) (decide := true) [b_law_s201, mSeq, mPass, mBrk, mCnt, mDrop, mRet, mRetN, mIfS, mRaise, mSet, mAsg, mPar, mPar3, mAug, mFld, mFldAug, gNm, gSub', gFld, gNl, gCn, gTp, setA, putFD, mVar, mC, mB, mU, mTB, mAnd, mOr, mNot, mIf, mAndV, mOrV, mNotV, mChain, mNil, mCons, mTup, mLst, mSl, oNo, oE, mCB, fAbs, fMax2, fMin2, fInt, lenD, fLen, fTuple, fList, itemsD, fIsi, tyD, mAttr, mCall, mMeth, mMake, mBM, tyF, SM.bind, SM.pure, toRS, toRSA, toRST, Y.sb, List.lookup, put_f, put_n, alloc_f, alloc_n, put_put, alloc_put, okI, okB, orF, dSub, dFdiv, dMod, dPow, dShl, dShr, dAnd, dOr, dXor, dNeg, dLt, dLe, dGt, dGe, dIs, lin_P_halt, lin_P_set, lin_P_load, lin_P_store, lin_P_add, lin_P_sub, lin_P_and, lin_P_xor, lin_P_jump, lin_P_zero, lin_P_less, lin_P_out, lin_P_in, lin_P_half, lin_P_from, lin_P_to, lin_J_halt, lin_J_set, lin_J_load, lin_J_store, lin_J_add, lin_J_sub, lin_J_and, lin_J_xor, lin_J_jump, lin_J_zero, lin_J_less, lin_J_out, lin_J_in, lin_J_half, lin_J_from, lin_J_to, sz, sz3, bitsOf]
  · refine ⟨S.alloc (.lst [.str "halt", .str "out", .str "in", .str "half"]), Fr.alloc, ?_⟩
    simp (maxSteps := 4000000) (decide := true) [b_law_s201, mSeq, mPass, mBrk, mCnt, mDrop, mRet, mRetN, mIfS, mRaise, mSet, mAsg, mPar, mPar3, mAug, mFld, mFldAug, gNm, gSub', gFld, gNl, gCn, gTp, setA, putFD, mVar, mC, mB, mU, mTB, mAnd, mOr, mNot, mIf, mAndV, mOrV, mNotV, mChain, mNil, mCons, mTup, mLst, mSl, oNo, oE, mCB, fAbs, fMax2, fMin2, fInt, lenD, fLen, fTuple, fList, itemsD, fIsi, tyD, mAttr, mCall, mMeth, mMake, mBM, tyF, SM.bind, SM.pure, toRS, toRSA, toRST, Y.sb, List.lookup, put_f, put_n, alloc_f, alloc_n, put_put, alloc_put, okI, okB, orF, dSub, dFdiv, dMod, dPow, dShl, dShr, dAnd, dOr, dXor, dNeg, dLt, dLe, dGt, dGe, dIs, lin_P_halt, lin_P_set, lin_P_load, lin_P_store, lin_P_add, lin_P_sub, lin_P_and, lin_P_xor, lin_P_jump, lin_P_zero, lin_P_less, lin_P_out, lin_P_in, lin_P_half, lin_P_from, lin_P_to, lin_J_halt, lin_J_set, lin_J_load, lin_J_store, lin_J_add, lin_J_sub, lin_J_and, lin_J_xor, lin_J_jump, lin_J_zero, lin_J_less, lin_J_out, lin_J_in, lin_J_half, lin_J_from, lin_J_to, sz, sz3, bitsOf]
  · refine ⟨(S.alloc (.lst [.str "halt", .str "out", .str "in", .str "half"])).alloc (.lst [.str "jump", .str "zero", .str "less"]), Fr.alloc.trans Fr.alloc, ?_⟩
    simp (maxSteps := 4000000) (decide := true) [b_law_s201, mSeq, mPass, mBrk, mCnt, mDrop, mRet, mRetN, mIfS, mRaise, mSet, mAsg, mPar, mPar3, mAug, mFld, mFldAug, gNm, gSub', gFld, gNl, gCn, gTp, setA, putFD, mVar, mC, mB, mU, mTB, mAnd, mOr, mNot, mIf, mAndV, mOrV, mNotV, mChain, mNil, mCons, mTup, mLst, mSl, oNo, oE, mCB, fAbs, fMax2, fMin2, fInt, lenD, fLen, fTuple, fList, itemsD, fIsi, tyD, mAttr, mCall, mMeth, mMake, mBM, tyF, SM.bind, SM.pure, toRS, toRSA, toRST, Y.sb, List.lookup, put_f, put_n, alloc_f, alloc_n, put_put, alloc_put, okI, okB, orF, dSub, dFdiv, dMod, dPow, dShl, dShr, dAnd, dOr, dXor, dNeg, dLt, dLe, dGt, dGe, dIs, lin_P_halt, lin_P_set, lin_P_load, lin_P_store, lin_P_add, lin_P_sub, lin_P_and, lin_P_xor, lin_P_jump, lin_P_zero, lin_P_less, lin_P_out, lin_P_in, lin_P_half, lin_P_from, lin_P_to, lin_J_halt, lin_J_set, lin_J_load, lin_J_store, lin_J_add, lin_J_sub, lin_J_and, lin_J_xor, lin_J_jump, lin_J_zero, lin_J_less, lin_J_out, lin_J_in, lin_J_half, lin_J_from, lin_J_to, sz, sz3, bitsOf]
  · refine ⟨(S.alloc (.lst [.str "halt", .str "out", .str "in", .str "half"])).alloc (.lst [.str "jump", .str "zero", .str "less"]), Fr.alloc.trans Fr.alloc, ?_⟩
    simp (maxSteps := 4000000) (decide := true) [b_law_s201, mSeq, mPass, mBrk, mCnt, mDrop, mRet, mRetN, mIfS, mRaise, mSet, mAsg, mPar, mPar3, mAug, mFld, mFldAug, gNm, gSub', gFld, gNl, gCn, gTp, setA, putFD, mVar, mC, mB, mU, mTB, mAnd, mOr, mNot, mIf, mAndV, mOrV, mNotV, mChain, mNil, mCons, mTup, mLst, mSl, oNo, oE, mCB, fAbs, fMax2, fMin2, fInt, lenD, fLen, fTuple, fList, itemsD, fIsi, tyD, mAttr, mCall, mMeth, mMake, mBM, tyF, SM.bind, SM.pure, toRS, toRSA, toRST, Y.sb, List.lookup, put_f, put_n, alloc_f, alloc_n, put_put, alloc_put, okI, okB, orF, dSub, dFdiv, dMod, dPow, dShl, dShr, dAnd, dOr, dXor, dNeg, dLt, dLe, dGt, dGe, dIs, lin_P_halt, lin_P_set, lin_P_load, lin_P_store, lin_P_add, lin_P_sub, lin_P_and, lin_P_xor, lin_P_jump, lin_P_zero, lin_P_less, lin_P_out, lin_P_in, lin_P_half, lin_P_from, lin_P_to, lin_J_halt, lin_J_set, lin_J_load, lin_J_store, lin_J_add, lin_J_sub, lin_J_and, lin_J_xor, lin_J_jump, lin_J_zero, lin_J_less, lin_J_out, lin_J_in, lin_J_half, lin_J_from, lin_J_to, sz, sz3, bitsOf]
theorem l202 (hz : S.f iz = some (.ins "Size" (sF d k))) (hd : d ≤ 8) (hk : k ≤ 8) (hw : Word w) (h0 : 0 ≤ n) :
    b_law_s202 (x0 :: x1 :: x2 :: x3 :: some (.adr iz) :: x5 :: x6 :: x7 :: x8 :: x9 :: x10 :: x11 :: x12 :: x13 :: some (.int n) :: some (.str w) :: some (.int (bitsOf d k w : Nat)) :: t) S = .nx (x0 :: x1 :: x2 :: x3 :: some (.adr iz) :: x5 :: x6 :: x7 :: x8 :: x9 :: x10 :: x11 :: x12 :: x13 :: some (.int n) :: some (.str w) :: some (.int (bitsOf d k w : Nat)) :: t) S := by
  have sz : 2 ≤ sizeLine := by rw [sizeLine_eq]; omega
  have ec := e_check (n := n) hz hd hk hw
  have hb : bitsOf d k w ≤ 8 := by
    unfold bitsOf
    split
    · omega
    · split <;> omega
  have pm : powB 1 (bitsOf d k w : Int) = true := pw1 hb
  have en1 : dEq .non (.str "CodeError") S = .ok (.bl false) S := by
    rw [ev_eqP (a := .none) (b := .str "CodeError") rfl rfl rfl (by decide +kernel), PyData.eqv.eq_def]
  have en2 : dEq (.str "CodeError") (.str "CodeError") S = .ok (.bl true) S := by
    rw [ev_eqS (by decide +kernel) (by decide +kernel)]
    simp
  by_cases h1 : n < 2 ^ bitsOf d k w
  · rw [if_pos ⟨h0, h1⟩] at ec
    have h2 : ¬ (2 ^ bitsOf d k w ≤ n) := by omega
    simp (maxSteps := 4000000) (decide := true) [b_law_s202, mSeq, mPass, mBrk, mCnt, mDrop, mRet, mRetN, mIfS, mRaise, mSet, mAsg, mPar, mPar3, mAug, mFld, mFldAug, gNm, gSub', gFld, gNl, gCn, gTp, setA, putFD, mVar, mC, mB, mU, mTB, mAnd, mOr, mNot, mIf, mAndV, mOrV, mNotV, mChain, mNil, mCons, mTup, mLst, mSl, oNo, oE, mCB, fAbs, fMax2, fMin2, fInt, lenD, fLen, fTuple, fList, itemsD, fIsi, tyD, mAttr, mCall, mMeth, mMake, mBM, tyF, SM.bind, SM.pure, toRS, toRSA, toRST, Y.sb, List.lookup, put_f, put_n, alloc_f, alloc_n, put_put, alloc_put, okI, okB, orF, dSub, dFdiv, dMod, dPow, dShl, dShr, dAnd, dOr, dXor, dNeg, dLt, dLe, dGt, dGe, dIs, mTold, qsT, clT, subT, pickT, ec, pm, en1, ne_bl2, h2, sz]
  · rw [if_neg (fun h => h1 h.2)] at ec
    have h2 : 2 ^ bitsOf d k w ≤ n := by omega
    simp (maxSteps := 4000000) (decide := true) [b_law_s202, mSeq, mPass, mBrk, mCnt, mDrop, mRet, mRetN, mIfS, mRaise, mSet, mAsg, mPar, mPar3, mAug, mFld, mFldAug, gNm, gSub', gFld, gNl, gCn, gTp, setA, putFD, mVar, mC, mB, mU, mTB, mAnd, mOr, mNot, mIf, mAndV, mOrV, mNotV, mChain, mNil, mCons, mTup, mLst, mSl, oNo, oE, mCB, fAbs, fMax2, fMin2, fInt, lenD, fLen, fTuple, fList, itemsD, fIsi, tyD, mAttr, mCall, mMeth, mMake, mBM, tyF, SM.bind, SM.pure, toRS, toRSA, toRST, Y.sb, List.lookup, put_f, put_n, alloc_f, alloc_n, put_put, alloc_put, okI, okB, orF, dSub, dFdiv, dMod, dPow, dShl, dShr, dAnd, dOr, dXor, dNeg, dLt, dLe, dGt, dGe, dIs, mTold, qsT, clT, subT, pickT, ec, pm, en2, ne_bl2, h2, sz]
end
end K10

set_option Elab.async false
set_option linter.all false
set_option maxRecDepth 100000
set_option maxHeartbeats 4000000
namespace K10
open PySem L2 Y
section
variable {S : Sr} {i : Nat} {x0 x2 x3 x4 x5 x6 x7 x8 x9 x10 x11 x12 x13 x14 x15 x16 : Option D} {t : Gm}
theorem seq_assoc {a b c : MS} {g : Gm} {S : Sr} : mSeq a (mSeq b c) g S = mSeq (mSeq a b) c g S := by
  unfold mSeq
  cases a g S <;> rfl
theorem Fr.weak {l l' : List Nat} {S S' : Sr} (h : Fr l S S') (hl : ∀ j, j ∈ l → j ∈ l') : Fr l' S S' := ⟨h.1, fun j hj hn => h.2 j hj fun hm => hn (hl j hm)⟩
theorem Fr.at {l : List Nat} {S S' : Sr} {j : Nat} {x : MO} (h : Fr l S S') (hj : j < S.n) (hn : j ∉ l) (e : S.f j = some x) : S'.f j = some x := (h.2 j hj hn).trans e
theorem Fr.dice {l : List Nat} {S S' : Sr} {j : Nat} (h : Fr l S S') (hj : j < S.n) (hn : j ∉ l) (e : DiceAt S j) : DiceAt S' j := by
  obtain ⟨a, b, c, e⟩ := e
  exact ⟨a, b, c, h.at hj hn e⟩
theorem l170 (hd : DiceAt S i) (hi : i < S.n) :
    ∃ S' y2 y3 y4 y5 y6 y7 y8 y9 y10 y11 y12 y13 y14 y15 y16, b_law_L170 (x0 :: some (.adr i) :: x2 :: x3 :: x4 :: x5 :: x6 :: x7 :: x8 :: x9 :: x10 :: x11 :: x12 :: x13 :: x14 :: x15 :: x16 :: t) S = .nx (x0 :: some (.adr i) :: y2 :: y3 :: y4 :: y5 :: y6 :: y7 :: y8 :: y9 :: y10 :: y11 :: y12 :: y13 :: y14 :: y15 :: y16 :: t) S' ∧ DiceAt S' i ∧ Fr [i] S S' := by
  obtain ⟨d, k, hd2, hk2, S1, e1, d1, f1⟩ := l171 (x0 := x0) (x2 := x2) (x3 := x3) (t := x4 :: x5 :: x6 :: x7 :: x8 :: x9 :: x10 :: x11 :: x12 :: x13 :: x14 :: x15 :: x16 :: t) hd
  have b1 := f1.1
  obtain ⟨m, m1, m30, mk, S2, e2, d2, f2, z2, n2⟩ := l172 (x0 := x0) (x4 := x4) (x5 := x5) (t := x6 :: x7 :: x8 :: x9 :: x10 :: x11 :: x12 :: x13 :: x14 :: x15 :: x16 :: t) d1 (by omega) hd2 hk2
  have b2 := f2.1
  obtain ⟨rs, hl, hv, S3, e3, d3, f3, r3, n3⟩ := l173 (x0 := x0) (x4 := some (.adr S1.n)) (x6 := x6) (t := x7 :: x8 :: x9 :: x10 :: x11 :: x12 :: x13 :: x14 :: x15 :: x16 :: t) d2 (by omega) hd2.2 hk2.2 m30
  have b3 := f3.1
  obtain ⟨ins, li, S4, q, e4, d4, f4, q4, n4, n4'⟩ := l174 (x0 := x0) (x2 := some (.int (d : Int))) (x3 := some (.int (k : Int))) (x4 := some (.adr S1.n)) (x5 := some (.int (m : Int))) (x6 := some (.adr S2.n)) (x7 := x7) (t := x8 :: x9 :: x10 :: x11 :: x12 :: x13 :: x14 :: x15 :: x16 :: t) d3 (by omega)
  have b4 := f4.1
  obtain ⟨iz, eiz⟩ : ∃ iz, iz = S1.n := ⟨_, rfl⟩
  obtain ⟨ir, eir⟩ : ∃ ir, ir = S2.n := ⟨_, rfl⟩
  rw [← eiz] at z2 e2 e3 e4
  rw [← eir] at r3 e3 e4
  have nI : ∀ j, j ≠ i → j ∉ [i] := fun j h => by simp [h]
  have z4 : S4.f iz = some (.ins "Size" (sF d k)) := f4.at (by omega) (nI _ (by omega)) (f3.at (by omega) (nI _ (by omega)) z2)
  have r4 : S4.f ir = some (.lst (rs.map rowD)) := f4.at (by omega) (nI _ (by omega)) r3
  have hl2 : rs.length ≤ 2 ^ k := by rw [hl]; exact mk
  obtain ⟨S5, e5, a5, po, f5, n5⟩ := e_make (x0 := x0) (x1 := some (.adr i)) (x2 := some (.int (d : Int))) (x3 := some (.int (k : Int))) (x5 := some (.int (m : Int))) (t := x8 :: x9 :: x10 :: x11 :: x12 :: x13 :: x14 :: x15 :: x16 :: t) z4 r4 q4 hl2 hv hd2.2 hk2.2 (by omega) (by omega) n4'
  have b5 := f5.1
  have e5' : b_law_s175 (x0 :: some (.adr i) :: some (.int (d : Int)) :: some (.int (k : Int)) :: some (.adr iz) :: some (.int (m : Int)) :: some (.adr ir) :: some (.adr q) :: x8 :: x9 :: x10 :: x11 :: x12 :: x13 :: x14 :: x15 :: x16 :: t) S4 = .nx (x0 :: some (.adr i) :: some (.int (d : Int)) :: some (.int (k : Int)) :: some (.adr iz) :: some (.int (m : Int)) :: some (.adr ir) :: some (.adr q) :: some (.adr S4.n) :: x9 :: x10 :: x11 :: x12 :: x13 :: x14 :: x15 :: x16 :: t) S5 := by
    unfold b_law_s175 mSet toRS
    rw [e5]
    rfl
  obtain ⟨P, eP⟩ : ∃ P : Mp, P = ⟨S4.n, iz, S4.n + 3, S4.n + 1, S4.n + 4⟩ := ⟨_, rfl⟩
  rw [← eP] at a5 po
  have p1 : P.im = S4.n := by rw [eP]
  have p2 : P.iz = iz := by rw [eP]
  have p3 : P.ie = S4.n + 3 := by rw [eP]
  have p4 : P.ic = S4.n + 1 := by rw [eP]
  have p5 : P.is = S4.n + 4 := by rw [eP]
  have nN : ∀ j, j ∉ ([] : List Nat) := fun j => by simp
  have q5 : S5.f q = some (.lst (ins.map D.int)) := f5.at (by omega) (nN _) q4
  obtain ⟨S6, o, e6, o6, oo, f6, u1, u2, u3, u4⟩ := l176 (x0 := x0) (x1 := some (.adr i)) (x3 := some (.int (k : Int))) (x4 := some (.adr iz)) (x5 := some (.int (m : Int))) (x6 := some (.adr ir)) (x8 := some (.adr S4.n)) (x9 := x9) (t := x10 :: x11 :: x12 :: x13 :: x14 :: x15 :: x16 :: t) q5 (by omega) hd2.2
  have b6 := f6.1
  have z6 : S6.f iz = some (.ins "Size" (sF d k)) := f6.at (by omega) (nN _) (f5.at (by omega) (nN _) z4)
  have r6 : S6.f ir = some (.lst (rs.map rowD)) := f6.at (by omega) (nN _) (f5.at (by omega) (nN _) r4)
  have q6 : S6.f q = some (.lst (ins.map D.int)) := f6.at (by omega) (nN _) q5
  have e7 := l177 (x0 := x0) (x1 := some (.adr i)) (t := some (.int (m : Int)) :: some (.adr ir) :: some (.adr q) :: some (.adr S4.n) :: some (.adr o.io) :: x10 :: x11 :: x12 :: x13 :: x14 :: x15 :: x16 :: t) z6
  have a6 : MacAt S6 P d k (rs.map rowD) (st0 d ins) := mac_stay a5 fun j hj => f6.2 j (by
    simp only [List.mem_cons, List.not_mem_nil, or_false] at hj
    omega) (nN _)
  have d6 : DiceAt S6 i := f6.dice (by omega) (nN _) (f5.dice (by omega) (nN _) d4)
  have sep : Sep o P := fun a ha => by
    simp only [List.mem_cons, List.not_mem_nil, or_false] at ha
    omega
  obtain ⟨S7, y10, y11, e8, d7, f7⟩ := l179 (i := i) (ir := ir) (m := m) (x0 := x0) (x4 := some (.adr iz)) (x7 := some (.adr q)) (x10 := x10) (x11 := x11) (t := x12 :: x13 :: x14 :: x15 :: x16 :: t) d6 a6 (po.mono b6) o6 oo sep (by omega) (by omega) hd2.2 hk2.2 hv r6 hl (by omega) (by
    simp only [List.mem_cons, List.not_mem_nil, or_false]
    omega) (by omega) (by
    simp only [List.mem_cons, List.not_mem_nil, or_false]
    omega) (by omega)
  rw [p1] at e8
  have b7 := f7.1
  have nL : ∀ j, j ≠ i → j < S4.n → j ∉ [i, P.im, P.ie, P.ic, P.is, o.io, o.om] := fun j h1 h2 => by
    simp only [List.mem_cons, List.not_mem_nil, or_false]
    omega
  have z7 : S7.f iz = some (.ins "Size" (sF d k)) := f7.at (by omega) (nL _ (by omega) (by omega)) z6
  have r7 : S7.f ir = some (.lst (rs.map rowD)) := f7.at (by omega) (nL _ (by omega) (by omega)) r6
  have q7 : S7.f q = some (.lst (ins.map D.int)) := f7.at (by omega) (nL _ (by omega) (by omega)) q6
  obtain ⟨S8, y12, y13, e9, f8⟩ := l192 (x0 := x0) (x1 := some (.adr i)) (x2 := some (.int (d : Int))) (x3 := some (.int (k : Int))) (x5 := some (.int (m : Int))) (x8 := some (.adr S4.n)) (x9 := some (.adr o.io)) (x10 := y10) (x11 := y11) (x12 := x12) (x13 := x13) (t := x14 :: x15 :: x16 :: t) z7 r7 q7 hl2 hv hd2.2 hk2.2 (by omega) (by omega) (by omega)
  have b8 := f8.1
  have z8 : S8.f iz = some (.ins "Size" (sF d k)) := f8.at (by omega) (nN _) z7
  have r8 : S8.f ir = some (.lst (rs.map rowD)) := f8.at (by omega) (nN _) r7
  have d8 : DiceAt S8 i := f8.dice (by omega) (nN _) d7
  obtain ⟨w11, w14, e10⟩ := l196 (x0 := x0) (x1 := some (.adr i)) (x5 := some (.int (m : Int))) (x7 := some (.adr q)) (x8 := some (.adr S4.n)) (x9 := some (.adr o.io)) (x10 := y10) (x11 := y11) (x12 := y12) (x13 := y13) (x14 := x14) (t := x15 :: x16 :: t) z8 r8 hd2.2 hk2.2 hv
  obtain ⟨w, n, S9, hw, h0, h6, d9, f9, e11⟩ := l200 (x0 := x0) (x2 := some (.int (d : Int))) (x3 := some (.int (k : Int))) (x4 := some (.adr iz)) (x5 := some (.int (m : Int))) (x6 := some (.adr ir)) (x7 := some (.adr q)) (x8 := some (.adr S4.n)) (x9 := some (.adr o.io)) (x10 := y10) (x11 := w11) (x12 := y12) (x13 := y13) (x14 := w14) (x15 := x15) (t := x16 :: t) d8
  have b9 := f9.1
  obtain ⟨S10, f10, e12⟩ := l201 (S := S9) (d := d) (k := k) (x0 := x0) (x1 := some (.adr i)) (x4 := some (.adr iz)) (x5 := some (.int (m : Int))) (x6 := some (.adr ir)) (x7 := some (.adr q)) (x8 := some (.adr S4.n)) (x9 := some (.adr o.io)) (x10 := y10) (x11 := w11) (x12 := y12) (x13 := y13) (x14 := some (.int n)) (x16 := x16) (t := t) hw
  have b10 := f10.1
  have z10 : S10.f iz = some (.ins "Size" (sF d k)) := f10.at (by omega) (nN _) (f9.at (by omega) (nI _ (by omega)) z8)
  have e13 := l202 (x0 := x0) (x1 := some (.adr i)) (x2 := some (.int (d : Int))) (x3 := some (.int (k : Int))) (x5 := some (.int (m : Int))) (x6 := some (.adr ir)) (x7 := some (.adr q)) (x8 := some (.adr S4.n)) (x9 := some (.adr o.io)) (x10 := y10) (x11 := w11) (x12 := y12) (x13 := y13) (t := t) z10 hd2.2 hk2.2 hw h0
  refine ⟨S10, some (.int (d : Int)), some (.int (k : Int)), some (.adr iz), some (.int (m : Int)), some (.adr ir), some (.adr q), some (.adr S4.n), some (.adr o.io), y10, w11, y12, y13, some (.int n), some (.str w), some (.int (bitsOf d k w : Nat)), ?_, f10.dice (by omega) (nN _) d9, ?_⟩
  · unfold b_law_L170
    rw [seq_eq e1, seq_eq e2, seq_eq e3, seq_eq e4, seq_eq e5', seq_eq e6, seq_eq e7, seq_eq e8]
    rw [seq_assoc, seq_assoc]
    rw [seq_assoc] at e9
    rw [seq_eq e9, seq_eq e10, seq_eq e11, seq_eq e12]
    exact e13
  · refine ⟨by omega, fun j hj hn => ?_⟩
    have hn' : j ≠ i := fun e => hn (by simp [e])
    rw [f10.2 j (by omega) (nN _), f9.2 j (by omega) hn, f8.2 j (by omega) (nN _), f7.2 j (by omega) (nL _ hn' (by omega)), f6.2 j (by omega) (nN _), f5.2 j (by omega) (nN _), f4.2 j (by omega) hn, f3.2 j (by omega) hn, f2.2 j (by omega) hn, f1.2 j hj hn]
end
end K10

set_option Elab.async false
set_option linter.all false
set_option maxRecDepth 100000
set_option maxHeartbeats 4000000
namespace K10
open PySem L2 Y
section
variable {S : Sr} {z : Nat} {g : Gm} {x0 x1 x2 x3 x4 x5 x6 x7 x8 x9 x10 x11 x12 x13 x14 x15 x16 : Option D} {t : Gm}
structure Good (z : Nat) (g : Gm) (me : ME) : Prop where
  on : ∀ S : Sr, S.f z = some (.ins "Size" (sF 2 2)) → z < S.n → ∃ S', mTold subT qsT clT me g S = .ok (.str "CodeError") S' ∧ Fr [] S S'
theorem told_exc {me : ME} {S S' : Sr} (h : me g S = .exc "CodeError" S') : mTold subT qsT clT me g S = .ok (.str "CodeError") S' := by
  unfold mTold
  rw [h]
  rfl
theorem lam_ok : ∀ {l : List ME} {S : Sr}, (∀ me ∈ l, Good z g me) → S.f z = some (.ins "Size" (sF 2 2)) → z < S.n → ∃ S', lamTurns subT qsT clT "CodeError" g l S = .ok () S' ∧ Fr [] S S'
  | [], S, _, _, _ => ⟨S, rfl, Fr.refl⟩
  | me :: r, S, h, hz, hn => by
    obtain ⟨S1, e, f1⟩ := (h me (List.mem_cons_self ..)).on S hz hn
    obtain ⟨S2, e2, f2⟩ := lam_ok (l := r) (S := S1) (fun x hx => h x (List.mem_cons_of_mem _ hx)) (f1.at hn (by simp) hz) (Nat.lt_of_lt_of_le hn f1.1)
    refine ⟨S2, ?_, f1.trans f2⟩
    unfold lamTurns
    rw [e]
    show (if ("CodeError" : Str) = "CodeError" then _ else _) = _
    rw [if_pos rfl]
    exact e2
theorem g0 : Good z (x0 :: x1 :: x2 :: x3 :: x4 :: x5 :: x6 :: x7 :: x8 :: x9 :: x10 :: x11 :: x12 :: x13 :: x14 :: x15 :: x16 :: some (.adr z) :: t) (mMake "Size" f_Size___init__ 3 [] (mCons (mC (.int 1)) (mCons (mC (.int 4)) mNil))) := ⟨fun S hz hn => ⟨S.alloc (.ins "Size" []), told_exc (by
    simp (maxSteps := 4000000) (decide := true) [mSeq, mPass, mBrk, mCnt, mDrop, mRet, mRetN, mIfS, mRaise, mSet, mAsg, mPar, mPar3, mAug, mFld, mFldAug, gNm, gSub', gFld, gNl, gCn, gTp, setA, putFD, mVar, mC, mB, mU, mTB, mAnd, mOr, mNot, mIf, mAndV, mOrV, mNotV, mChain, mNil, mCons, mTup, mLst, mSl, oNo, oE, mCB, fAbs, fMax2, fMin2, fInt, lenD, fLen, fTuple, fList, itemsD, fIsi, tyD, mAttr, mCall, mMeth, mMake, mBM, tyF, SM.bind, SM.pure, toRS, toRSA, toRST, Y.sb, List.lookup, put_f, put_n, alloc_f, alloc_n, put_put, alloc_put, okI, okB, orF, dSub, dFdiv, dMod, dPow, dShl, dShr, dAnd, dOr, dXor, dNeg, dLt, dLe, dGt, dGe, dIs, f_Size___init__, mFun, b_Size___init__]), Fr.alloc⟩⟩
theorem g1 : Good z (x0 :: x1 :: x2 :: x3 :: x4 :: x5 :: x6 :: x7 :: x8 :: x9 :: x10 :: x11 :: x12 :: x13 :: x14 :: x15 :: x16 :: some (.adr z) :: t) (mMake "Size" f_Size___init__ 3 [] (mCons (mC (.int 9)) (mCons (mC (.int 4)) mNil))) := ⟨fun S hz hn => ⟨S.alloc (.ins "Size" []), told_exc (by
    simp (maxSteps := 4000000) (decide := true) [mSeq, mPass, mBrk, mCnt, mDrop, mRet, mRetN, mIfS, mRaise, mSet, mAsg, mPar, mPar3, mAug, mFld, mFldAug, gNm, gSub', gFld, gNl, gCn, gTp, setA, putFD, mVar, mC, mB, mU, mTB, mAnd, mOr, mNot, mIf, mAndV, mOrV, mNotV, mChain, mNil, mCons, mTup, mLst, mSl, oNo, oE, mCB, fAbs, fMax2, fMin2, fInt, lenD, fLen, fTuple, fList, itemsD, fIsi, tyD, mAttr, mCall, mMeth, mMake, mBM, tyF, SM.bind, SM.pure, toRS, toRSA, toRST, Y.sb, List.lookup, put_f, put_n, alloc_f, alloc_n, put_put, alloc_put, okI, okB, orF, dSub, dFdiv, dMod, dPow, dShl, dShr, dAnd, dOr, dXor, dNeg, dLt, dLe, dGt, dGe, dIs, f_Size___init__, mFun, b_Size___init__]), Fr.alloc⟩⟩
theorem g2 : Good z (x0 :: x1 :: x2 :: x3 :: x4 :: x5 :: x6 :: x7 :: x8 :: x9 :: x10 :: x11 :: x12 :: x13 :: x14 :: x15 :: x16 :: some (.adr z) :: t) (mMake "Size" f_Size___init__ 3 [] (mCons (mC (.int 4)) (mCons (mC (.int 1)) mNil))) := ⟨fun S hz hn => ⟨S.alloc (.ins "Size" []), told_exc (by
    simp (maxSteps := 4000000) (decide := true) [mSeq, mPass, mBrk, mCnt, mDrop, mRet, mRetN, mIfS, mRaise, mSet, mAsg, mPar, mPar3, mAug, mFld, mFldAug, gNm, gSub', gFld, gNl, gCn, gTp, setA, putFD, mVar, mC, mB, mU, mTB, mAnd, mOr, mNot, mIf, mAndV, mOrV, mNotV, mChain, mNil, mCons, mTup, mLst, mSl, oNo, oE, mCB, fAbs, fMax2, fMin2, fInt, lenD, fLen, fTuple, fList, itemsD, fIsi, tyD, mAttr, mCall, mMeth, mMake, mBM, tyF, SM.bind, SM.pure, toRS, toRSA, toRST, Y.sb, List.lookup, put_f, put_n, alloc_f, alloc_n, put_put, alloc_put, okI, okB, orF, dSub, dFdiv, dMod, dPow, dShl, dShr, dAnd, dOr, dXor, dNeg, dLt, dLe, dGt, dGe, dIs, f_Size___init__, mFun, b_Size___init__]), Fr.alloc⟩⟩
theorem g3 : Good z (x0 :: x1 :: x2 :: x3 :: x4 :: x5 :: x6 :: x7 :: x8 :: x9 :: x10 :: x11 :: x12 :: x13 :: x14 :: x15 :: x16 :: some (.adr z) :: t) (mMake "Size" f_Size___init__ 3 [] (mCons (mC (.int 4)) (mCons (mC (.int 9)) mNil))) := ⟨fun S hz hn => ⟨S.alloc (.ins "Size" []), told_exc (by
    simp (maxSteps := 4000000) (decide := true) [mSeq, mPass, mBrk, mCnt, mDrop, mRet, mRetN, mIfS, mRaise, mSet, mAsg, mPar, mPar3, mAug, mFld, mFldAug, gNm, gSub', gFld, gNl, gCn, gTp, setA, putFD, mVar, mC, mB, mU, mTB, mAnd, mOr, mNot, mIf, mAndV, mOrV, mNotV, mChain, mNil, mCons, mTup, mLst, mSl, oNo, oE, mCB, fAbs, fMax2, fMin2, fInt, lenD, fLen, fTuple, fList, itemsD, fIsi, tyD, mAttr, mCall, mMeth, mMake, mBM, tyF, SM.bind, SM.pure, toRS, toRSA, toRST, Y.sb, List.lookup, put_f, put_n, alloc_f, alloc_n, put_put, alloc_put, okI, okB, orF, dSub, dFdiv, dMod, dPow, dShl, dShr, dAnd, dOr, dXor, dNeg, dLt, dLe, dGt, dGe, dIs, f_Size___init__, mFun, b_Size___init__]), Fr.alloc⟩⟩
theorem g4 : Good z (x0 :: x1 :: x2 :: x3 :: x4 :: x5 :: x6 :: x7 :: x8 :: x9 :: x10 :: x11 :: x12 :: x13 :: x14 :: x15 :: x16 :: some (.adr z) :: t) (mMake "Machine" f_Machine___init__ 4 dd_Machine___init___1 (mCons (mVar 17) (mCons (mB dMul (mLst (mCons (mTup (mCons (mC (.str "out")) (mCons (mC (.int 0)) mNil))) mNil)) (mC (.int 5))) mNil))) := ⟨fun S hz hn => ⟨((S.alloc (.lst [.tup [.str "out", .int 0]])).alloc (.lst (List.replicate 5 (.tup [.str "out", .int 0])))).alloc (.ins "Machine" []), told_exc (by
    have n1 : z ≠ S.n := Nat.ne_of_lt hn
    have n2 : z ≠ S.n + 1 := by omega
    have n3 : z ≠ S.n + 1 + 1 := by omega
    have sz1 : 1 ≤ sizeLine := by rw [sizeLine_eq]; omega
    have sz2 : 2 ≤ sizeLine := by rw [sizeLine_eq]; omega
    have sz5 : 5 ≤ sizeLine := by rw [sizeLine_eq]; omega
    simp (maxSteps := 4000000) (decide := true) [mSeq, mPass, mBrk, mCnt, mDrop, mRet, mRetN, mIfS, mRaise, mSet, mAsg, mPar, mPar3, mAug, mFld, mFldAug, gNm, gSub', gFld, gNl, gCn, gTp, setA, putFD, mVar, mC, mB, mU, mTB, mAnd, mOr, mNot, mIf, mAndV, mOrV, mNotV, mChain, mNil, mCons, mTup, mLst, mSl, oNo, oE, mCB, fAbs, fMax2, fMin2, fInt, lenD, fLen, fTuple, fList, itemsD, fIsi, tyD, mAttr, mCall, mMeth, mMake, mBM, tyF, SM.bind, SM.pure, toRS, toRSA, toRST, Y.sb, List.lookup, put_f, put_n, alloc_f, alloc_n, put_put, alloc_put, okI, okB, orF, dSub, dFdiv, dMod, dPow, dShl, dShr, dAnd, dOr, dXor, dNeg, dLt, dLe, dGt, dGe, dIs, f_Machine___init__, mFun, b_Machine___init__, dMul, repL, dd_Machine___init___1, sz1, sz2, sz5, n1, n2, n3, hz, sF, powB, List.replicate]), Fr.alloc.trans (Fr.alloc.trans Fr.alloc)⟩⟩
theorem g5 : Good z (x0 :: x1 :: x2 :: x3 :: x4 :: x5 :: x6 :: x7 :: x8 :: x9 :: x10 :: x11 :: x12 :: x13 :: x14 :: x15 :: x16 :: some (.adr z) :: t) (mCall f_encoded 2 [] (mCons (mTup (mCons (mC (.str "fly")) (mCons (mC (.int 0)) mNil))) (mCons (mVar 17) mNil))) := ⟨fun S hz hn => ⟨S, told_exc (by
    have sz2 : 2 ≤ sizeLine := by rw [sizeLine_eq]; omega
    simp (maxSteps := 4000000) (decide := true) [mSeq, mPass, mBrk, mCnt, mDrop, mRet, mRetN, mIfS, mRaise, mSet, mAsg, mPar, mPar3, mAug, mFld, mFldAug, gNm, gSub', gFld, gNl, gCn, gTp, setA, putFD, mVar, mC, mB, mU, mTB, mAnd, mOr, mNot, mIf, mAndV, mOrV, mNotV, mChain, mNil, mCons, mTup, mLst, mSl, oNo, oE, mCB, fAbs, fMax2, fMin2, fInt, lenD, fLen, fTuple, fList, itemsD, fIsi, tyD, mAttr, mCall, mMeth, mMake, mBM, tyF, SM.bind, SM.pure, toRS, toRSA, toRST, Y.sb, List.lookup, put_f, put_n, alloc_f, alloc_n, put_put, alloc_put, okI, okB, orF, dSub, dFdiv, dMod, dPow, dShl, dShr, dAnd, dOr, dXor, dNeg, dLt, dLe, dGt, dGe, dIs, f_encoded, mFun, b_encoded, f_check_instruction, b_check_instruction, dIx, ixSeq, nin_I_fly, ev_neI, sz2, atT2]), Fr.refl⟩⟩
theorem wid (hz : S.f z = some (.ins "Size" (sF 2 2))) : f_Size_width [.adr z] S = .ok (.int 6) S := e_width hz
theorem g6 : Good z (x0 :: x1 :: x2 :: x3 :: x4 :: x5 :: x6 :: x7 :: x8 :: x9 :: x10 :: x11 :: x12 :: x13 :: x14 :: x15 :: x16 :: some (.adr z) :: t) (mCall f_decoded 2 [] (mCons (mC (.int 64)) (mCons (mVar 17) mNil))) := ⟨fun S hz hn => ⟨S, told_exc (by
    have e := wid hz
    have lk : List.lookup ("width" : Str) (sF 2 2) = none := by rfl
    simp (maxSteps := 4000000) (decide := true) [mSeq, mPass, mBrk, mCnt, mDrop, mRet, mRetN, mIfS, mRaise, mSet, mAsg, mPar, mPar3, mAug, mFld, mFldAug, gNm, gSub', gFld, gNl, gCn, gTp, setA, putFD, mVar, mC, mB, mU, mTB, mAnd, mOr, mNot, mIf, mAndV, mOrV, mNotV, mChain, mNil, mCons, mTup, mLst, mSl, oNo, oE, mCB, fAbs, fMax2, fMin2, fInt, lenD, fLen, fTuple, fList, itemsD, fIsi, tyD, mAttr, mCall, mMeth, mMake, mBM, tyF, SM.bind, SM.pure, toRS, toRSA, toRST, Y.sb, List.lookup, put_f, put_n, alloc_f, alloc_n, put_put, alloc_put, okI, okB, orF, dSub, dFdiv, dMod, dPow, dShl, dShr, dAnd, dOr, dXor, dNeg, dLt, dLe, dGt, dGe, dIs, f_decoded, mFun, b_decoded, hz, e, lk, powB]), Fr.refl⟩⟩
theorem g7 : Good z (x0 :: x1 :: x2 :: x3 :: x4 :: x5 :: x6 :: x7 :: x8 :: x9 :: x10 :: x11 :: x12 :: x13 :: x14 :: x15 :: x16 :: some (.adr z) :: t) (mCall f_decoded 2 [] (mCons (mU dNeg (mC (.int 1))) (mCons (mVar 17) mNil))) := ⟨fun S hz hn => ⟨S, told_exc (by
    have e := wid hz
    have lk : List.lookup ("width" : Str) (sF 2 2) = none := by rfl
    simp (maxSteps := 4000000) (decide := true) [mSeq, mPass, mBrk, mCnt, mDrop, mRet, mRetN, mIfS, mRaise, mSet, mAsg, mPar, mPar3, mAug, mFld, mFldAug, gNm, gSub', gFld, gNl, gCn, gTp, setA, putFD, mVar, mC, mB, mU, mTB, mAnd, mOr, mNot, mIf, mAndV, mOrV, mNotV, mChain, mNil, mCons, mTup, mLst, mSl, oNo, oE, mCB, fAbs, fMax2, fMin2, fInt, lenD, fLen, fTuple, fList, itemsD, fIsi, tyD, mAttr, mCall, mMeth, mMake, mBM, tyF, SM.bind, SM.pure, toRS, toRSA, toRST, Y.sb, List.lookup, put_f, put_n, alloc_f, alloc_n, put_put, alloc_put, okI, okB, orF, dSub, dFdiv, dMod, dPow, dShl, dShr, dAnd, dOr, dXor, dNeg, dLt, dLe, dGt, dGe, dIs, f_decoded, mFun, b_decoded, hz, e, lk, powB]), Fr.refl⟩⟩
theorem g8 : Good z (x0 :: x1 :: x2 :: x3 :: x4 :: x5 :: x6 :: x7 :: x8 :: x9 :: x10 :: x11 :: x12 :: x13 :: x14 :: x15 :: x16 :: some (.adr z) :: t) (mCall f_check_instruction 2 [] (mCons (mTup (mCons (mC (.str "set")) (mCons (mU dNeg (mC (.int 1))) mNil))) (mCons (mVar 17) mNil))) := ⟨fun S hz hn => ⟨S, told_exc (by
    have sz2 : 2 ≤ sizeLine := by rw [sizeLine_eq]; omega
    have e := e_check (w := "set") (n := -1) hz (by decide) (by decide) (by simp [Word])
    rw [if_neg (by decide)] at e
    simp (maxSteps := 4000000) (decide := true) [mSeq, mPass, mBrk, mCnt, mDrop, mRet, mRetN, mIfS, mRaise, mSet, mAsg, mPar, mPar3, mAug, mFld, mFldAug, gNm, gSub', gFld, gNl, gCn, gTp, setA, putFD, mVar, mC, mB, mU, mTB, mAnd, mOr, mNot, mIf, mAndV, mOrV, mNotV, mChain, mNil, mCons, mTup, mLst, mSl, oNo, oE, mCB, fAbs, fMax2, fMin2, fInt, lenD, fLen, fTuple, fList, itemsD, fIsi, tyD, mAttr, mCall, mMeth, mMake, mBM, tyF, SM.bind, SM.pure, toRS, toRSA, toRST, Y.sb, List.lookup, put_f, put_n, alloc_f, alloc_n, put_put, alloc_put, okI, okB, orF, dSub, dFdiv, dMod, dPow, dShl, dShr, dAnd, dOr, dXor, dNeg, dLt, dLe, dGt, dGe, dIs, sz2, e]), Fr.refl⟩⟩
theorem g9 : Good z (x0 :: x1 :: x2 :: x3 :: x4 :: x5 :: x6 :: x7 :: x8 :: x9 :: x10 :: x11 :: x12 :: x13 :: x14 :: x15 :: x16 :: some (.adr z) :: t) (mCall f_check_instruction 2 [] (mCons (mTup (mCons (mC (.str "set")) mNil)) (mCons (mVar 17) mNil))) := ⟨fun S hz hn => ⟨S, told_exc (by
    have sz1 : 1 ≤ sizeLine := by rw [sizeLine_eq]; omega
    simp (maxSteps := 4000000) (decide := true) [mSeq, mPass, mBrk, mCnt, mDrop, mRet, mRetN, mIfS, mRaise, mSet, mAsg, mPar, mPar3, mAug, mFld, mFldAug, gNm, gSub', gFld, gNl, gCn, gTp, setA, putFD, mVar, mC, mB, mU, mTB, mAnd, mOr, mNot, mIf, mAndV, mOrV, mNotV, mChain, mNil, mCons, mTup, mLst, mSl, oNo, oE, mCB, fAbs, fMax2, fMin2, fInt, lenD, fLen, fTuple, fList, itemsD, fIsi, tyD, mAttr, mCall, mMeth, mMake, mBM, tyF, SM.bind, SM.pure, toRS, toRSA, toRST, Y.sb, List.lookup, put_f, put_n, alloc_f, alloc_n, put_put, alloc_put, okI, okB, orF, dSub, dFdiv, dMod, dPow, dShl, dShr, dAnd, dOr, dXor, dNeg, dLt, dLe, dGt, dGe, dIs, f_check_instruction, mFun, b_check_instruction, ev_neI, sz1]), Fr.refl⟩⟩
theorem g10 : Good z (x0 :: x1 :: x2 :: x3 :: x4 :: x5 :: x6 :: x7 :: x8 :: x9 :: x10 :: x11 :: x12 :: x13 :: x14 :: x15 :: x16 :: some (.adr z) :: t) (mMake "Machine" f_Machine___init__ 4 dd_Machine___init___1 (mCons (mVar 17) (mCons (mLst (mCons (mTup (mCons (mC (.str "set")) (mCons (mC (.int 4)) mNil))) mNil)) mNil))) := ⟨fun S hz hn => ⟨(S.alloc (.lst [.tup [.str "set", .int 4]])).alloc (.ins "Machine" []), told_exc (by
    have n1 : z ≠ S.n := Nat.ne_of_lt hn
    have n2 : z ≠ S.n + 1 := by omega
    have sz1 : 1 ≤ sizeLine := by rw [sizeLine_eq]; omega
    have sz2 : 2 ≤ sizeLine := by rw [sizeLine_eq]; omega
    have e := e_check (S := (S.alloc (.lst [.tup [.str "set", .int 4]])).alloc (.ins "Machine" [])) (iz := z) (d := 2) (k := 2) (w := "set") (n := 4) (by rw [alloc_f, alloc_n, if_neg n2, alloc_f, if_neg n1]; exact hz) (by decide) (by decide) (by simp [Word])
    rw [if_neg (by decide)] at e
    simp (maxSteps := 4000000) (decide := true) [mSeq, mPass, mBrk, mCnt, mDrop, mRet, mRetN, mIfS, mRaise, mSet, mAsg, mPar, mPar3, mAug, mFld, mFldAug, gNm, gSub', gFld, gNl, gCn, gTp, setA, putFD, mVar, mC, mB, mU, mTB, mAnd, mOr, mNot, mIf, mAndV, mOrV, mNotV, mChain, mNil, mCons, mTup, mLst, mSl, oNo, oE, mCB, fAbs, fMax2, fMin2, fInt, lenD, fLen, fTuple, fList, itemsD, fIsi, tyD, mAttr, mCall, mMeth, mMake, mBM, tyF, SM.bind, SM.pure, toRS, toRSA, toRST, Y.sb, List.lookup, put_f, put_n, alloc_f, alloc_n, put_put, alloc_put, okI, okB, orF, dSub, dFdiv, dMod, dPow, dShl, dShr, dAnd, dOr, dXor, dNeg, dLt, dLe, dGt, dGe, dIs, f_Machine___init__, mFun, b_Machine___init__, b_Machine___init___L45, dd_Machine___init___1, sz1, sz2, n1, n2, hz, sF, powB, mFor, mSrc, mSrcD, sqa, forG, mStep, e]), Fr.alloc.trans Fr.alloc⟩⟩
end
end K10

set_option Elab.async false
set_option linter.all false
set_option maxRecDepth 100000
set_option maxHeartbeats 4000000
namespace K10
open PySem L2 Y
section
variable {S : Sr} {i z : Nat} {d k : Nat} {p : Mp} {st : Ms} {g : Gm} {x0 x1 x2 x3 x4 x5 x6 x7 x8 x9 x10 x11 x12 x13 x14 x15 x16 x18 x19 x20 : Option D} {t : Gm}
theorem e_run0 {most : Nat} (a : MacAt S p d k [] st) (po : p.Ok S.n) (hd : d ≤ 8) (hk : k ≤ 8) (ok : MsOk d k st) (hs : st.sent.length + most < 4000) (hm : 0 < most) :
    Does (f_Machine_run [.adr p.im, .int (most : Int)] S) fun r S' => r = .bl true ∧ Away p S S' := by
  have hmost : (most : Int) < 2 ^ 62 := by omega
  have e1 : (most : Int).toNat = most := Int.toNat_natCast most
  have hb : (-(2 ^ 62) ≤ (most : Int) ∧ (most : Int) < 2 ^ 62) := ⟨by omega, hmost⟩
  obtain ⟨mo, emo⟩ : ∃ mo, mo = D.int (most : Int) := ⟨_, rfl⟩
  rw [← emo]
  unfold f_Machine_run
  refine fun_post ?_
  show RP _ (b_Machine_run [some (.adr p.im), some mo, none] S)
  unfold b_Machine_run
  refine seq_rp (for_nx (sr := sqr 0 1 most) (S1 := S) ?_ ?_)
  · simp [mSeq, mPass, mBrk, mCnt, mDrop, mRet, mRetN, mIfS, mRaise, mSet, mAsg, mPar, mPar3, mAug, mFld, mFldAug, gNm, gSub', gFld, gNl, gCn, gTp, setA, putFD, mVar, mC, mB, mU, mTB, mAnd, mOr, mNot, mIf, mAndV, mOrV, mNotV, mChain, mNil, mCons, mTup, mLst, mSl, oNo, oE, mCB, fAbs, fMax2, fMin2, fInt, lenD, fLen, fTuple, fList, itemsD, fIsi, tyD, mAttr, mCall, mMeth, mMake, mBM, tyF, SM.bind, SM.pure, toRS, toRSA, toRST, Y.sb, List.lookup, put_f, put_n, alloc_f, alloc_n, put_put, alloc_put, okI, okB, orF, dSub, dFdiv, dMod, dPow, dShl, dShr, dAnd, dOr, dXor, dNeg, dLt, dLe, dGt, dGe, dIs, mRng1, hmost, emo]
    omega
  clear emo
  refine for_loop (n := most) (fun i g S' => ∃ st' x, g = [some (.adr p.im), some mo, x] ∧ MacAt S' p d k [] st' ∧ MsOk d k st' ∧ Away p S S' ∧ st'.sent.length ≤ st.sent.length + i ∧ (0 < i → st'.halted = true)) _ ?_ ?_ most 0 _ S (Nat.zero_add _) ⟨st, none, rfl, a, ok, Away.refl, Nat.le_refl _, fun h => absurd h (Nat.lt_irrefl _)⟩
  · rintro i g S' hi ⟨st', x, rfl, a', ok', aw, hl, hh⟩
    refine ⟨.int (0 + (i : Int) * 1), by simp [sqr, hi], ?_⟩
    have am := a'.m
    cases hst : st'.halted with
    | true =>
      simp (decide := true) [mStep, b_Machine_run_L103, mSeq, mPass, mBrk, mCnt, mDrop, mRet, mRetN, mIfS, mRaise, mSet, mAsg, mPar, mPar3, mAug, mFld, mFldAug, gNm, gSub', gFld, gNl, gCn, gTp, setA, putFD, mVar, mC, mB, mU, mTB, mAnd, mOr, mNot, mIf, mAndV, mOrV, mNotV, mChain, mNil, mCons, mTup, mLst, mSl, oNo, oE, mCB, fAbs, fMax2, fMin2, fInt, lenD, fLen, fTuple, fList, itemsD, fIsi, tyD, mAttr, mCall, mMeth, mMake, mBM, tyF, SM.bind, SM.pure, toRS, toRSA, toRST, Y.sb, List.lookup, put_f, put_n, alloc_f, alloc_n, put_put, alloc_put, okI, okB, orF, dSub, dFdiv, dMod, dPow, dShl, dShr, dAnd, dOr, dXor, dNeg, dLt, dLe, dGt, dGe, dIs, am, mF, hst, tn_nx, tn_bk, nx_nx, rp_rt]
      exact aw
    | false =>
      have hv : Valid d k "halt" 0 := .inl ⟨.inl rfl, rfl⟩
      have hi' : InsAt [] st'.place "halt" 0 := by
        unfold InsAt
        have := ok'.p0
        exact .inr ⟨by simp; omega, rfl, rfl⟩
      obtain ⟨r, S2, e2, rfl, a2, aw2⟩ := (e_step a' (po.mono aw.1) hd hk ok' hst hi' hv (by omega)).get
      obtain ⟨ok2, hl2⟩ := step_ok ok' hv
      have lk : List.lookup ("step" : Str) (mF p [] st') = none := by rfl
      have lk2 : List.lookup ("halted" : Str) (mF p [] st') = some (.bl st'.halted) := by rfl
      have sh : (stepP d k "halt" 0 st').halted = true := by
        unfold stepP
        rw [if_pos rfl]
      simp (decide := true) [mStep, b_Machine_run_L103, mSeq, mPass, mBrk, mCnt, mDrop, mRet, mRetN, mIfS, mRaise, mSet, mAsg, mPar, mPar3, mAug, mFld, mFldAug, gNm, gSub', gFld, gNl, gCn, gTp, setA, putFD, mVar, mC, mB, mU, mTB, mAnd, mOr, mNot, mIf, mAndV, mOrV, mNotV, mChain, mNil, mCons, mTup, mLst, mSl, oNo, oE, mCB, fAbs, fMax2, fMin2, fInt, lenD, fLen, fTuple, fList, itemsD, fIsi, tyD, mAttr, mCall, mMeth, mMake, mBM, tyF, SM.bind, SM.pure, toRS, toRSA, toRST, Y.sb, List.lookup, put_f, put_n, alloc_f, alloc_n, put_put, alloc_put, okI, okB, orF, dSub, dFdiv, dMod, dPow, dShl, dShr, dAnd, dOr, dXor, dNeg, dLt, dLe, dGt, dGe, dIs, am, lk, lk2, hst, tn_nx, tn_bk, e2]
      exact ⟨_, a2, ok2, aw.trans aw2, by omega, sh⟩
  · rintro g S' ⟨st', x, rfl, a', ok', aw, hl, hh⟩
    refine ⟨by simp [sqr], ?_⟩
    have am := a'.m
    have h1 := hh hm
    have lk2 : List.lookup ("halted" : Str) (mF p [] st') = some (.bl st'.halted) := by rfl
    rw [h1] at lk2
    simp (decide := true) [mSeq, mPass, mBrk, mCnt, mDrop, mRet, mRetN, mIfS, mRaise, mSet, mAsg, mPar, mPar3, mAug, mFld, mFldAug, gNm, gSub', gFld, gNl, gCn, gTp, setA, putFD, mVar, mC, mB, mU, mTB, mAnd, mOr, mNot, mIf, mAndV, mOrV, mNotV, mChain, mNil, mCons, mTup, mLst, mSl, oNo, oE, mCB, fAbs, fMax2, fMin2, fInt, lenD, fLen, fTuple, fList, itemsD, fIsi, tyD, mAttr, mCall, mMeth, mMake, mBM, tyF, SM.bind, SM.pure, toRS, toRSA, toRST, Y.sb, List.lookup, put_f, put_n, alloc_f, alloc_n, put_put, alloc_put, okI, okB, orF, dSub, dFdiv, dMod, dPow, dShl, dShr, dAnd, dOr, dXor, dNeg, dLt, dLe, dGt, dGe, dIs, am, lk2, nx_nx, rp_rt]
    exact aw
def lamL : List ME := [(mMake "Size" f_Size___init__ 3 [] (mCons (mC (.int 1)) (mCons (mC (.int 4)) mNil))), (mMake "Size" f_Size___init__ 3 [] (mCons (mC (.int 9)) (mCons (mC (.int 4)) mNil))), (mMake "Size" f_Size___init__ 3 [] (mCons (mC (.int 4)) (mCons (mC (.int 1)) mNil))), (mMake "Size" f_Size___init__ 3 [] (mCons (mC (.int 4)) (mCons (mC (.int 9)) mNil))), (mMake "Machine" f_Machine___init__ 4 dd_Machine___init___1 (mCons (mVar 17) (mCons (mB dMul (mLst (mCons (mTup (mCons (mC (.str "out")) (mCons (mC (.int 0)) mNil))) mNil)) (mC (.int 5))) mNil))), (mCall f_encoded 2 [] (mCons (mTup (mCons (mC (.str "fly")) (mCons (mC (.int 0)) mNil))) (mCons (mVar 17) mNil))), (mCall f_decoded 2 [] (mCons (mC (.int 64)) (mCons (mVar 17) mNil))), (mCall f_decoded 2 [] (mCons (mU dNeg (mC (.int 1))) (mCons (mVar 17) mNil))), (mCall f_check_instruction 2 [] (mCons (mTup (mCons (mC (.str "set")) (mCons (mU dNeg (mC (.int 1))) mNil))) (mCons (mVar 17) mNil))), (mCall f_check_instruction 2 [] (mCons (mTup (mCons (mC (.str "set")) mNil)) (mCons (mVar 17) mNil))), (mMake "Machine" f_Machine___init__ 4 dd_Machine___init___1 (mCons (mVar 17) (mCons (mLst (mCons (mTup (mCons (mC (.str "set")) (mCons (mC (.int 4)) mNil))) mNil)) mNil)))]
def b_end : MS := (mForget 18 (mRet (mAndV (mB dEq (mLamComp subT qsT clT "CodeError" [20] lamL) (mLst mNil)) (mAndV (mB (dIs false) (mMeth "Machine" "run" f_Machine_run 2 [] (mMake "Machine" f_Machine___init__ 4 dd_Machine___init___1 (mCons (mVar 17) (mCons (mLst mNil) mNil))) (mCons (mC (.int 5)) mNil)) (mC (.bl true))) (mB dEq (mCall f_decoded 2 [] (mCons (mB dSub (mB dMul (mC (.int 16)) (mC (.int 4))) (mC (.int 4))) (mCons (mVar 17) mNil))) (mTup (mCons (mC (.str "to")) (mCons (mC (.int 0)) mNil))))))))
theorem law_eq : b_law = mSeq b_law_s170 (mSeq b_law_s205 b_end) := rfl
theorem h_A (hz : S.f z = some (.ins "Size" (sF 2 2))) (hn : z < S.n) : ∃ S', (mB dEq (mLamComp subT qsT clT "CodeError" [20] lamL) (mLst mNil)) (x0 :: x1 :: x2 :: x3 :: x4 :: x5 :: x6 :: x7 :: x8 :: x9 :: x10 :: x11 :: x12 :: x13 :: x14 :: x15 :: x16 :: some (.adr z) :: none :: x19 :: x20 :: []) S = .ok (.bl true) S' ∧ Fr [] S S' := by
  obtain ⟨S1, e1, f1⟩ := lam_ok (l := lamL) (S := S.alloc (.lst [])) (z := z) (g := wipeD (x0 :: x1 :: x2 :: x3 :: x4 :: x5 :: x6 :: x7 :: x8 :: x9 :: x10 :: x11 :: x12 :: x13 :: x14 :: x15 :: x16 :: some (.adr z) :: none :: x19 :: x20 :: []) [20]) (fun me hm => by
    simp only [lamL, List.mem_cons, List.not_mem_nil, or_false] at hm
    rcases hm with rfl | rfl | rfl | rfl | rfl | rfl | rfl | rfl | rfl | rfl | rfl
    · exact g0
    · exact g1
    · exact g2
    · exact g3
    · exact g4
    · exact g5
    · exact g6
    · exact g7
    · exact g8
    · exact g9
    · exact g10) ((if_neg (Nat.ne_of_lt hn)).trans hz) (Nat.lt_succ_of_lt hn)
  have n1 : S.n < S1.n := f1.1
  have h1 : S1.f S.n = some (.lst []) := f1.at (Nat.lt_succ_self _) (by simp) (if_pos rfl)
  have eq : dEq (.adr S.n) (.adr S1.n) (S1.alloc (.lst [])) = .ok (.bl true) (S1.alloc (.lst [])) := eq_empty (l := []) ((if_neg (Nat.ne_of_lt n1)).trans h1) (if_pos rfl)
  have em : mLamComp subT qsT clT "CodeError" [20] lamL (x0 :: x1 :: x2 :: x3 :: x4 :: x5 :: x6 :: x7 :: x8 :: x9 :: x10 :: x11 :: x12 :: x13 :: x14 :: x15 :: x16 :: some (.adr z) :: none :: x19 :: x20 :: []) S = .ok (.adr S.n) S1 := by
    unfold mLamComp SM.bind
    rw [e1]
  refine ⟨S1.alloc (.lst []), ?_, (Fr.alloc.trans f1).trans Fr.alloc⟩
  unfold mB SM.bind
  rw [em]
  show SM.bind (mLst mNil (x0 :: x1 :: x2 :: x3 :: x4 :: x5 :: x6 :: x7 :: x8 :: x9 :: x10 :: x11 :: x12 :: x13 :: x14 :: x15 :: x16 :: some (.adr z) :: none :: x19 :: x20 :: [])) (fun y => dEq (.adr S.n) y) S1 = _
  have el : mLst mNil (x0 :: x1 :: x2 :: x3 :: x4 :: x5 :: x6 :: x7 :: x8 :: x9 :: x10 :: x11 :: x12 :: x13 :: x14 :: x15 :: x16 :: some (.adr z) :: none :: x19 :: x20 :: []) S1 = .ok (.adr S1.n) (S1.alloc (.lst [])) := by
    simp [mLst, mNil, SM.bind, SM.pure]
  unfold SM.bind
  rw [el]
  exact eq
theorem h_B (hz : S.f z = some (.ins "Size" (sF 2 2))) (hn : z < S.n) : ∃ S', (mB (dIs false) (mMeth "Machine" "run" f_Machine_run 2 [] (mMake "Machine" f_Machine___init__ 4 dd_Machine___init___1 (mCons (mVar 17) (mCons (mLst mNil) mNil))) (mCons (mC (.int 5)) mNil)) (mC (.bl true))) (x0 :: x1 :: x2 :: x3 :: x4 :: x5 :: x6 :: x7 :: x8 :: x9 :: x10 :: x11 :: x12 :: x13 :: x14 :: x15 :: x16 :: some (.adr z) :: none :: x19 :: x20 :: []) S = .ok (.bl true) S' ∧ Fr [] S S' := by
  have t1 : z ≠ S.n := Nat.ne_of_lt hn
  have t2 : z ≠ S.n + 1 := by omega
  have t3 : S.n ≠ S.n + 1 := by omega
  obtain ⟨r, S1, e1, rfl, a1, n1, fr1⟩ := (e_init (S := (S.alloc (.lst [])).alloc (.ins "Machine" [])) (im := S.n + 1) (iz := z) (ir := S.n) (rs := []) (ins := []) (d := 2) (k := 2) (co := .ktp []) (if_pos rfl) (by rw [alloc_f, alloc_n, if_neg t2, alloc_f, if_neg t1]; exact hz) (by rw [alloc_f, alloc_n, if_neg t3, alloc_f, if_pos rfl]; rfl) (by decide) (fun r h => nomatch h) (by decide) (by decide) (by simp only [alloc_n]; omega) (by simp only [alloc_n]; omega) (by simp only [alloc_n]; omega) (by omega) (by omega) (.inr ⟨rfl, rfl⟩)).get
  obtain ⟨P, eP⟩ : ∃ P : Mp, P = ⟨S.n + 1, z, ((S.alloc (.lst [])).alloc (.ins "Machine" [])).n + 2, ((S.alloc (.lst [])).alloc (.ins "Machine" [])).n, ((S.alloc (.lst [])).alloc (.ins "Machine" [])).n + 3⟩ := ⟨_, rfl⟩
  rw [← eP] at a1
  have p1 : P.im = S.n + 1 := by rw [eP]
  have p2 : P.iz = z := by rw [eP]
  have p3 : P.ie = S.n + 4 := by rw [eP]; rfl
  have p4 : P.ic = S.n + 2 := by rw [eP]; rfl
  have p5 : P.is = S.n + 5 := by rw [eP]; rfl
  simp only [alloc_n] at n1
  have po : P.Ok S1.n := by
    constructor <;> omega
  obtain ⟨r, S2, e2, rfl, aw⟩ := (e_run0 (most := 5) a1 po (by decide) (by decide) st0_ok (by simp [st0]) (by decide)).get
  have e2' : f_Machine_run [.adr (S.n + 1), .int 5] S1 = .ok (.bl true) S2 := by rw [← p1]; exact e2
  have am := a1.m
  rw [p1] at am
  have lk : List.lookup ("run" : Str) (mF P [] (st0 2 [])) = none := by rfl
  refine ⟨S2, ?_, ?_⟩
  · simp (maxSteps := 4000000) (decide := true) [mSeq, mPass, mBrk, mCnt, mDrop, mRet, mRetN, mIfS, mRaise, mSet, mAsg, mPar, mPar3, mAug, mFld, mFldAug, gNm, gSub', gFld, gNl, gCn, gTp, setA, putFD, mVar, mC, mB, mU, mTB, mAnd, mOr, mNot, mIf, mAndV, mOrV, mNotV, mChain, mNil, mCons, mTup, mLst, mSl, oNo, oE, mCB, fAbs, fMax2, fMin2, fInt, lenD, fLen, fTuple, fList, itemsD, fIsi, tyD, mAttr, mCall, mMeth, mMake, mBM, tyF, SM.bind, SM.pure, toRS, toRSA, toRST, Y.sb, List.lookup, put_f, put_n, alloc_f, alloc_n, put_put, alloc_put, okI, okB, orF, dSub, dFdiv, dMod, dPow, dShl, dShr, dAnd, dOr, dXor, dNeg, dLt, dLe, dGt, dGe, dIs, dd_Machine___init___1, e1, am, lk, e2']
  · refine ⟨by have := aw.1; omega, fun j hj _ => ?_⟩
    rw [aw.2 j (by omega) (by omega) (by omega) (by omega) (by omega), fr1 j (by simp only [alloc_n]; omega) (by omega), alloc_f, alloc_n, if_neg (by omega), alloc_f, if_neg (by omega)]
theorem h_C (hz : S.f z = some (.ins "Size" (sF 2 2))) : (mB dEq (mCall f_decoded 2 [] (mCons (mB dSub (mB dMul (mC (.int 16)) (mC (.int 4))) (mC (.int 4))) (mCons (mVar 17) mNil))) (mTup (mCons (mC (.str "to")) (mCons (mC (.int 0)) mNil)))) (x0 :: x1 :: x2 :: x3 :: x4 :: x5 :: x6 :: x7 :: x8 :: x9 :: x10 :: x11 :: x12 :: x13 :: x14 :: x15 :: x16 :: some (.adr z) :: none :: x19 :: x20 :: []) S = .ok (.bl true) S := by
  have e := e_dec (c := 60) (w := "to") (n := 0) hz (by decide) (by decide) (by simp [Word]) (by decide) (by decide) (by decide) (by decide) (by decide) (by decide)
  have sz : 2 ≤ sizeLine := by rw [sizeLine_eq]; omega
  have eq : dEq (.tup [.str "to", .int 0]) (.tup [.str "to", .int 0]) S = .ok (.bl true) S := by
    refine eq_refl' (a := .tuple [.str "to", .int 0]) rfl ?_
    simp [SeqAt.shaped, PyData.canLay0, PyData.canLayAll0, PyData.depth, PyData.depthAll, ok_to]
  have m1 : dMul (.int 16) (.int 4) S = .ok (.int 64) S := by rfl
  simp (maxSteps := 4000000) (decide := true) [mSeq, mPass, mBrk, mCnt, mDrop, mRet, mRetN, mIfS, mRaise, mSet, mAsg, mPar, mPar3, mAug, mFld, mFldAug, gNm, gSub', gFld, gNl, gCn, gTp, setA, putFD, mVar, mC, mB, mU, mTB, mAnd, mOr, mNot, mIf, mAndV, mOrV, mNotV, mChain, mNil, mCons, mTup, mLst, mSl, oNo, oE, mCB, fAbs, fMax2, fMin2, fInt, lenD, fLen, fTuple, fList, itemsD, fIsi, tyD, mAttr, mCall, mMeth, mMake, mBM, tyF, SM.bind, SM.pure, toRS, toRSA, toRST, Y.sb, List.lookup, put_f, put_n, alloc_f, alloc_n, put_put, alloc_put, okI, okB, orF, dSub, dFdiv, dMod, dPow, dShl, dShr, dAnd, dOr, dXor, dNeg, dLt, dLe, dGt, dGe, dIs, m1, e, eq, sz]
theorem h_end (hz : S.f z = some (.ins "Size" (sF 2 2))) (hn : z < S.n) : ∃ S', b_end (x0 :: x1 :: x2 :: x3 :: x4 :: x5 :: x6 :: x7 :: x8 :: x9 :: x10 :: x11 :: x12 :: x13 :: x14 :: x15 :: x16 :: some (.adr z) :: x18 :: x19 :: x20 :: []) S = .rt (.bl true) S' := by
  obtain ⟨S1, e1, f1⟩ := h_A (x0 := x0) (x1 := x1) (x2 := x2) (x3 := x3) (x4 := x4) (x5 := x5) (x6 := x6) (x7 := x7) (x8 := x8) (x9 := x9) (x10 := x10) (x11 := x11) (x12 := x12) (x13 := x13) (x14 := x14) (x15 := x15) (x16 := x16) (x19 := x19) (x20 := x20) hz hn
  have b1 := f1.1
  have z1 := f1.at hn (by simp) hz
  obtain ⟨S2, e2, f2⟩ := h_B (x0 := x0) (x1 := x1) (x2 := x2) (x3 := x3) (x4 := x4) (x5 := x5) (x6 := x6) (x7 := x7) (x8 := x8) (x9 := x9) (x10 := x10) (x11 := x11) (x12 := x12) (x13 := x13) (x14 := x14) (x15 := x15) (x16 := x16) (x19 := x19) (x20 := x20) z1 (Nat.lt_of_lt_of_le hn b1)
  have z2 := f2.at (Nat.lt_of_lt_of_le hn b1) (by simp) z1
  have e3 := h_C (x0 := x0) (x1 := x1) (x2 := x2) (x3 := x3) (x4 := x4) (x5 := x5) (x6 := x6) (x7 := x7) (x8 := x8) (x9 := x9) (x10 := x10) (x11 := x11) (x12 := x12) (x13 := x13) (x14 := x14) (x15 := x15) (x16 := x16) (x19 := x19) (x20 := x20) z2
  refine ⟨S2, ?_⟩
  have eBC : mAndV (mB (dIs false) (mMeth "Machine" "run" f_Machine_run 2 [] (mMake "Machine" f_Machine___init__ 4 dd_Machine___init___1 (mCons (mVar 17) (mCons (mLst mNil) mNil))) (mCons (mC (.int 5)) mNil)) (mC (.bl true))) (mB dEq (mCall f_decoded 2 [] (mCons (mB dSub (mB dMul (mC (.int 16)) (mC (.int 4))) (mC (.int 4))) (mCons (mVar 17) mNil))) (mTup (mCons (mC (.str "to")) (mCons (mC (.int 0)) mNil)))) (x0 :: x1 :: x2 :: x3 :: x4 :: x5 :: x6 :: x7 :: x8 :: x9 :: x10 :: x11 :: x12 :: x13 :: x14 :: x15 :: x16 :: some (.adr z) :: none :: x19 :: x20 :: []) S1 = .ok (.bl true) S2 := by
    unfold mAndV SM.bind
    rw [e2]
    exact e3
  have eAll : mAndV (mB dEq (mLamComp subT qsT clT "CodeError" [20] lamL) (mLst mNil)) (mAndV (mB (dIs false) (mMeth "Machine" "run" f_Machine_run 2 [] (mMake "Machine" f_Machine___init__ 4 dd_Machine___init___1 (mCons (mVar 17) (mCons (mLst mNil) mNil))) (mCons (mC (.int 5)) mNil)) (mC (.bl true))) (mB dEq (mCall f_decoded 2 [] (mCons (mB dSub (mB dMul (mC (.int 16)) (mC (.int 4))) (mC (.int 4))) (mCons (mVar 17) mNil))) (mTup (mCons (mC (.str "to")) (mCons (mC (.int 0)) mNil))))) (x0 :: x1 :: x2 :: x3 :: x4 :: x5 :: x6 :: x7 :: x8 :: x9 :: x10 :: x11 :: x12 :: x13 :: x14 :: x15 :: x16 :: some (.adr z) :: none :: x19 :: x20 :: []) S = .ok (.bl true) S2 := by
    unfold mAndV SM.bind
    rw [e1]
    exact eBC
  show toRS (mAndV (mB dEq (mLamComp subT qsT clT "CodeError" [20] lamL) (mLst mNil)) (mAndV (mB (dIs false) (mMeth "Machine" "run" f_Machine_run 2 [] (mMake "Machine" f_Machine___init__ 4 dd_Machine___init___1 (mCons (mVar 17) (mCons (mLst mNil) mNil))) (mCons (mC (.int 5)) mNil)) (mC (.bl true))) (mB dEq (mCall f_decoded 2 [] (mCons (mB dSub (mB dMul (mC (.int 16)) (mC (.int 4))) (mC (.int 4))) (mCons (mVar 17) mNil))) (mTup (mCons (mC (.str "to")) (mCons (mC (.int 0)) mNil))))) (x0 :: x1 :: x2 :: x3 :: x4 :: x5 :: x6 :: x7 :: x8 :: x9 :: x10 :: x11 :: x12 :: x13 :: x14 :: x15 :: x16 :: some (.adr z) :: none :: x19 :: x20 :: []) S) (fun d S' => .rt d S') = _
  rw [eAll]
  rfl
/-- the law of a script that can be cut -/
theorem law_true {script : D} {ns : List Int} (hs : slD script none (some 1) S = .ok (.adr S.n) (S.alloc (.lst ((ns.take 1).map D.int)))) : ∃ S', f_law [script] S = .ok (.bl true) S' := by
  obtain ⟨r, S1, e1, a, i, rfl, ha, di, hi, hal, hne, hn⟩ := (e_rounds hs).get
  obtain ⟨S2, y2, y3, y4, y5, y6, y7, y8, y9, y10, y11, y12, y13, y14, y15, y16, e2, d2, f2⟩ := l170 (x0 := some script) (x2 := none) (x3 := none) (x4 := none) (x5 := none) (x6 := none) (x7 := none) (x8 := none) (x9 := none) (x10 := none) (x11 := none) (x12 := none) (x13 := none) (x14 := none) (x15 := none) (x16 := none) (t := [none, none, none, none]) di hi
  have ha2 : S2.f a = some (.lst [.adr i]) := f2.at hal (by simp [hne]) ha
  obtain ⟨G0, eG⟩ : ∃ G0 : Gm, G0 = [some script, none, none, none, none, none, none, none, none, none, none, none, none, none, none, none, none, none, none, none, none] := ⟨_, rfl⟩
  have es : mSrc (mCall f__law_rounds 2 [] (mCons (mVar 0) (mCons (mC (.int 1)) mNil))) G0 S = .ok (sqa a 1) S1 := by
    rw [eG]
    simp [mSrc, mCall, mCons, mNil, mVar, mC, SM.bind, SM.pure, e1, mSrcD, ha]
  have ef : b_law_s170 G0 S = .nx (some script :: some (.adr i) :: y2 :: y3 :: y4 :: y5 :: y6 :: y7 :: y8 :: y9 :: y10 :: y11 :: y12 :: y13 :: y14 :: y15 :: y16 :: [none, none, none, none]) S2 := by
    unfold b_law_s170 mFor
    rw [es]
    show forG (sqa a 1) (mStep (gNm 1) b_law_L170) 1 0 G0 S1 = _
    have n0 : (sqa a 1).nxt 0 S1 = some (some (.adr i)) := by simp [sqa, ha]
    have n1 : (sqa a 1).nxt 1 S2 = some none := by simp [sqa, ha2]
    have em : mStep (gNm 1) b_law_L170 (.adr i) G0 S1 = .nx (some script :: some (.adr i) :: y2 :: y3 :: y4 :: y5 :: y6 :: y7 :: y8 :: y9 :: y10 :: y11 :: y12 :: y13 :: y14 :: y15 :: y16 :: [none, none, none, none]) S2 := by
      rw [eG]
      exact e2
    unfold forG
    rw [n0]
    dsimp only
    rw [em]
    dsimp only
    unfold forG
    rw [n1]
  have e0 : f_Size___init__ [.adr S2.n, .int 2, .int 2] (S2.alloc (.ins "Size" [])) = .ok .non (S2.alloc (.ins "Size" (sF 2 2))) := by
    simp (maxSteps := 4000000) (decide := true) [f_Size___init__, mFun, b_Size___init__, mSeq, mPass, mBrk, mCnt, mDrop, mRet, mRetN, mIfS, mRaise, mSet, mAsg, mPar, mPar3, mAug, mFld, mFldAug, gNm, gSub', gFld, gNl, gCn, gTp, setA, putFD, mVar, mC, mB, mU, mTB, mAnd, mOr, mNot, mIf, mAndV, mOrV, mNotV, mChain, mNil, mCons, mTup, mLst, mSl, oNo, oE, mCB, fAbs, fMax2, fMin2, fInt, lenD, fLen, fTuple, fList, itemsD, fIsi, tyD, mAttr, mCall, mMeth, mMake, mBM, tyF, SM.bind, SM.pure, toRS, toRSA, toRST, Y.sb, List.lookup, put_f, put_n, alloc_f, alloc_n, put_put, alloc_put, okI, okB, orF, dSub, dFdiv, dMod, dPow, dShl, dShr, dAnd, dOr, dXor, dNeg, dLt, dLe, dGt, dGe, dIs, sF]
  have e205 : b_law_s205 (some script :: some (.adr i) :: y2 :: y3 :: y4 :: y5 :: y6 :: y7 :: y8 :: y9 :: y10 :: y11 :: y12 :: y13 :: y14 :: y15 :: y16 :: [none, none, none, none]) S2 = .nx (some script :: some (.adr i) :: y2 :: y3 :: y4 :: y5 :: y6 :: y7 :: y8 :: y9 :: y10 :: y11 :: y12 :: y13 :: y14 :: y15 :: y16 :: [some (.adr S2.n), none, none, none]) (S2.alloc (.ins "Size" (sF 2 2))) := by
    simp (maxSteps := 4000000) (decide := true) [b_law_s205, mSeq, mPass, mBrk, mCnt, mDrop, mRet, mRetN, mIfS, mRaise, mSet, mAsg, mPar, mPar3, mAug, mFld, mFldAug, gNm, gSub', gFld, gNl, gCn, gTp, setA, putFD, mVar, mC, mB, mU, mTB, mAnd, mOr, mNot, mIf, mAndV, mOrV, mNotV, mChain, mNil, mCons, mTup, mLst, mSl, oNo, oE, mCB, fAbs, fMax2, fMin2, fInt, lenD, fLen, fTuple, fList, itemsD, fIsi, tyD, mAttr, mCall, mMeth, mMake, mBM, tyF, SM.bind, SM.pure, toRS, toRSA, toRST, Y.sb, List.lookup, put_f, put_n, alloc_f, alloc_n, put_put, alloc_put, okI, okB, orF, dSub, dFdiv, dMod, dPow, dShl, dShr, dAnd, dOr, dXor, dNeg, dLt, dLe, dGt, dGe, dIs, e0]
  obtain ⟨S3, e3⟩ := h_end (S := S2.alloc (.ins "Size" (sF 2 2))) (z := S2.n) (x0 := some script) (x1 := some (.adr i)) (x2 := y2) (x3 := y3) (x4 := y4) (x5 := y5) (x6 := y6) (x7 := y7) (x8 := y8) (x9 := y9) (x10 := y10) (x11 := y11) (x12 := y12) (x13 := y13) (x14 := y14) (x15 := y15) (x16 := y16) (x18 := none) (x19 := none) (x20 := none) (if_pos rfl) (Nat.lt_succ_self _)
  refine ⟨S3, ?_⟩
  have eb : b_law G0 S = .rt (.bl true) S3 := by
    rw [law_eq, seq_eq ef, seq_eq e205]
    exact e3
  unfold f_law mFun
  show (match b_law [some script, none, none, none, none, none, none, none, none, none, none, none, none, none, none, none, none, none, none, none, none] S with
    | .nx _ S' => R.ok D.non S'
    | .rt d S' => .ok d S'
    | .ex q S' => .exc q S'
    | _ => .bad) = _
  rw [← eG, eb]
theorem cut1 (ns : List Int) : cutD (ns.map D.int) none (some 1) = (ns.take 1).map D.int := by
  cases ns with
  | nil => rfl
  | cons a l =>
    have e : HT.sIx ((a :: l).map D.int).length ((a :: l).map D.int).length (some 1) = 1 := by
      simp [HT.sIx]
      try omega
    have e0 : HT.sIx ((a :: l).map D.int).length 0 none = 0 := rfl
    unfold cutD
    rw [e, e0]
    simp
theorem p1 (ns : List Int) : ∃ S', f_law [.fro (ns.map .int)] S0 = .ok (.bl true) S' := law_true (ns := ns) (by
  show R.ok (D.adr S0.n) (S0.alloc (.lst (cutD (ns.map D.int) none (some 1)))) = _
  rw [cut1])
theorem p2 (ns : List Int) : ∃ S', f_law [.adr 0] (S1 (ns.map .int)) = .ok (.bl true) S' := law_true (ns := ns) (by
  show R.ok (D.adr (S1 (ns.map D.int)).n) ((S1 (ns.map D.int)).alloc (.lst (cutD (ns.map D.int) none (some 1)))) = _
  rw [cut1])
end
end K10

theorem PySem.Challenge.cw_chipstack_k10_machines_step_by_step_holds : PySem.Challenge.rw_chipstack_k10_machines_step_by_step.Holds := by
  exact K10.done (fun ns _ _ => K10.p1 ns) (fun ns _ _ => K10.p2 ns)
