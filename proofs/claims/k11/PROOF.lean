import PyProof.Rows.All
import Wide.All
import OpenK.AllK
import Wide.FinOn
import HandS.ForMost
import HandS.Exc
import HandS.ExcOwn
import HandS.WordsExc
import HandS.Lambda
import HandS.Defaults
import HandS.Style
import HandS.IsInst
import HandS.Strs
import HandS.Conv
import HandS.Flow
import HandS.TryMany
import HandS.Walk
import HandS.Iter
import HandS.Zip
import HandS.Comp
import KE.GoesComp
import HandS.List
import HandS.Dict
import HandS.Ends
import HandS.EndTab
import HandS.HeadWalk
import HandS.HeadHook4
import KE.DataEq
import HandS.Text
import HandS.FStr
import HandS.AnyAll
import KE.GoesEnum
import HandS.DictComp
import HandS.More
import PyProof.StrOps2
import PySem.Challenge.RW_chipstack_k11_code_as_lines
import KE.KStateDown
import Lean
import HandS.Head0
import HandS.Head1
import HandS.Head2
import HandS.HeadEnd
import HandS.HeadHook1
import HandS.HeadHook2
import HandS.HeadHook3
set_option Elab.async false
set_option linter.all false
set_option maxRecDepth 100000
set_option maxHeartbeats 1000000
/-! Y1: data by value, objects by number; how these stand beside the abstract heap. -/
namespace Y
open PySem PySem.Spec PyProof.Rows L2

/-- a value of the mirror: tuples by value, mutable objects by their number; fro: a list that is never written; ktp: a tuple of the module's own -/
inductive D where
  | non | bl (b : Bool) | int (i : Int) | str (s : Str) | tup (l : List D) | adr (i : Nat) | fro (l : List D) | ktp (l : List D)
/-- a mutable object of the mirror -/
inductive MO where
  | lst (l : List D)
  | dic (l : List (Key × D))
  | dit (l : List (List Key × D))
  | ins (c : Str) (fs : List (Str × D))

/-- the mirror's store: objects 0 to n less 1 -/
structure Sr where
  n : Nat
  f : Nat → Option MO
def Sr.put (S : Sr) (i : Nat) (m : MO) : Sr := ⟨S.n, fun j => if j = i then some m else S.f j⟩
def Sr.alloc (S : Sr) (m : MO) : Sr := ⟨S.n + 1, fun j => if j = S.n then some m else S.f j⟩

inductive R (α : Type) where
  | ok (a : α) (S : Sr) | exc (c : Str) (S : Sr) | bad
abbrev SM (α : Type) := Sr → R α
def SM.pure {α : Type} (a : α) : SM α := fun S => .ok a S
def SM.bind {α β : Type} (m : SM α) (k : α → SM β) : SM β := fun S => match m S with
  | .ok a S' => k a S'
  | .exc c S' => .exc c S'
  | .bad => .bad
instance : Monad SM where
  pure := SM.pure
  bind := SM.bind
abbrev Gm := List (Option D)
abbrev ME := Gm → SM D
abbrev MA := Gm → SM (List D)
abbrev MT := Gm → SM Bool
inductive RS where
  | nx (g : Gm) (S : Sr) | rt (d : D) (S : Sr) | bk (g : Gm) (S : Sr) | ct (g : Gm) (S : Sr) | ex (c : Str) (S : Sr) | bad
abbrev MS := Gm → Sr → RS

/-- what is fixed: the written part, the classes by name, the tables of code objects -/
structure Ct where
  K : PySem.W.Frag
  cls : Str → Addr
  T : List (Addr × Str)

/-- a list that is never written: frozen, or of the written part -/
def SqF (K : PySem.W.Frag) (H : Hp) (a : Addr) (xs : List V) : Prop :=
  (∃ o, H a = some (.frz o (.lst xs))) ∨
    ∃ (o : Obj) (its : Array Value) (n : Nat), K.lookup a = some o ∧ o.cls = .type "list" ∧ o.dict = none ∧ o.data = .seq its n ∧ its.size ≤ sizeLine ∧ Vals xs its.toList
/-- a tuple of the written part -/
def KT (K : PySem.W.Frag) (a : Addr) (xs : List V) : Prop :=
  ∃ (o : Obj) (its : Array Value) (n : Nat), K.lookup a = some o ∧ o.cls = .type "tuple" ∧ o.dict = none ∧ o.data = .seq its n ∧ its.size ≤ sizeLine ∧ Vals xs its.toList
theorem KT.sq {K : PySem.W.Frag} {H : Hp} {a : Addr} {xs : List V} (h : KT K a xs) : SqT K H a xs := by
  obtain ⟨o, its, n, h1, h2, _, h3, h4, h5⟩ := h
  exact .inr ⟨o, its, n, h1, h2, h3, h4, h5⟩
theorem SqF.sq {K : PySem.W.Frag} {H : Hp} {a : Addr} {xs : List V} (h : SqF K H a xs) : SqL K H a xs := by
  rcases h with ⟨o, h⟩ | h
  · exact .inl (.inr ⟨o, h⟩)
  · exact .inr h

section
variable (c : Ct) (m : Nat → Addr) (n : Nat) (H : Hp)
mutual
def RelD : D → V → Prop
  | .non, v => v = .non
  | .bl b, v => v = .bl b
  | .int i, v => v = .int i
  | .str s, v => v = .str s
  | .tup ds, v => ∃ a vs, v = .ref a ∧ H a = some (.tup vs) ∧ RelDs ds vs
  | .ktp ds, v => ∃ a vs, v = .ref a ∧ KT c.K a vs ∧ RelDs ds vs
  | .adr i, v => v = .ref (m i) ∧ i < n
  | .fro ds, v => ∃ a vs, v = .ref a ∧ SqF c.K H a vs ∧ RelDs ds vs
def RelDs : List D → List V → Prop
  | [], vs => vs = []
  | d :: ds, vs => ∃ v r, vs = v :: r ∧ RelD d v ∧ RelDs ds r
end
def RelK {κ : Type} : List (κ × D) → List (κ × V) → Prop
  | [], vs => vs = []
  | p :: ds, vs => ∃ v r, vs = (p.1, v) :: r ∧ RelD c m n H p.2 v ∧ RelK ds r
def RelO : MO → HO → Prop
  | .lst ds, o => ∃ vs, o = .lst vs ∧ RelDs c m n H ds vs
  | .dic ds, o => ∃ vs, o = .dK vs ∧ RelK c m n H ds vs
  | .dit ds, o => ∃ vs, o = .dT vs ∧ RelK c m n H ds vs
  | .ins q fs, o => ∃ dx vs, o = .ins (c.cls q) dx vs ∧ RelK c m n H fs vs
def RelG (g : Gm) (σ : L2.St) : Prop := g.length = σ.length ∧ ∀ (i : Nat) (d : D), g[i]? = some (some d) → ∃ v, σ[i]? = some (some v) ∧ RelD c m n H d v
end

/-- what stays readable -/
def Kp (H H' : Hp) : Prop := (∀ a xs, H a = some (.tup xs) → H' a = some (.tup xs)) ∧ ∀ a o u, H a = some (.frz o u) → H' a = some (.frz o u)
theorem Kp.refl (H : Hp) : Kp H H := ⟨fun _ _ h => h, fun _ _ _ h => h⟩
theorem Kp.trans {H H1 H2 : Hp} (a : Kp H H1) (b : Kp H1 H2) : Kp H H2 := ⟨fun p xs h => b.1 p xs (a.1 p xs h), fun p o u h => b.2 p o u (a.2 p o u h)⟩
theorem Kp.sqT {K : PySem.W.Frag} {H H' : Hp} (k : Kp H H') {a : Addr} {xs : List V} (h : SqT K H a xs) : SqT K H' a xs := by
  rcases h with (h | ⟨o, h⟩) | h
  · exact .inl (.inl (k.1 a xs h))
  · exact .inl (.inr ⟨o, k.2 a o _ h⟩)
  · exact .inr h
theorem Kp.sqF {K : PySem.W.Frag} {H H' : Hp} (k : Kp H H') {a : Addr} {xs : List V} (h : SqF K H a xs) : SqF K H' a xs := by
  rcases h with ⟨o, h⟩ | h
  · exact .inl ⟨o, k.2 a o _ h⟩
  · exact .inr h
section
variable {c : Ct} {m m' : Nat → Addr} {n n' : Nat} {H H' : Hp}
mutual
theorem RelD.mono (hm : ∀ i, i < n → m' i = m i) (hn : n ≤ n') (k : Kp H H') : ∀ {d : D} {v : V}, RelD c m n H d v → RelD c m' n' H' d v
  | .non, _, h => h
  | .bl _, _, h => h
  | .int _, _, h => h
  | .str _, _, h => h
  | .tup ds, _, h => by
    unfold RelD at h ⊢
    obtain ⟨a, vs, e, h1, h2⟩ := h
    exact ⟨a, vs, e, k.1 a vs h1, RelDs.mono hm hn k h2⟩
  | .ktp ds, _, h => by
    unfold RelD at h ⊢
    obtain ⟨a, vs, e, h1, h2⟩ := h
    exact ⟨a, vs, e, h1, RelDs.mono hm hn k h2⟩
  | .adr i, _, h => by
    unfold RelD at h ⊢
    exact ⟨by rw [h.1, hm i h.2], Nat.lt_of_lt_of_le h.2 hn⟩
  | .fro ds, _, h => by
    unfold RelD at h ⊢
    obtain ⟨a, vs, e, h1, h2⟩ := h
    exact ⟨a, vs, e, k.sqF h1, RelDs.mono hm hn k h2⟩
theorem RelDs.mono (hm : ∀ i, i < n → m' i = m i) (hn : n ≤ n') (k : Kp H H') : ∀ {ds : List D} {vs : List V}, RelDs c m n H ds vs → RelDs c m' n' H' ds vs
  | [], _, h => h
  | d :: ds, _, h => by
    unfold RelDs at h ⊢
    obtain ⟨v, r, e, h1, h2⟩ := h
    exact ⟨v, r, e, RelD.mono hm hn k h1, RelDs.mono hm hn k h2⟩
end
theorem RelK.mono {κ : Type} (hm : ∀ i, i < n → m' i = m i) (hn : n ≤ n') (k : Kp H H') : ∀ {ds : List (κ × D)} {vs : List (κ × V)}, RelK c m n H ds vs → RelK c m' n' H' ds vs
  | [], _, h => h
  | p :: ds, _, h => by
    unfold RelK at h ⊢
    obtain ⟨v, r, e, h1, h2⟩ := h
    exact ⟨v, r, e, RelD.mono hm hn k h1, RelK.mono hm hn k h2⟩
theorem RelO.mono (hm : ∀ i, i < n → m' i = m i) (hn : n ≤ n') (k : Kp H H') : ∀ {x : MO} {o : HO}, RelO c m n H x o → RelO c m' n' H' x o
  | .lst _, _, ⟨vs, e, h⟩ => ⟨vs, e, h.mono hm hn k⟩
  | .dic _, _, ⟨vs, e, h⟩ => ⟨vs, e, h.mono hm hn k⟩
  | .dit _, _, ⟨vs, e, h⟩ => ⟨vs, e, h.mono hm hn k⟩
  | .ins _ _, _, ⟨dx, vs, e, h⟩ => ⟨dx, vs, e, h.mono hm hn k⟩
theorem RelG.mono (hm : ∀ i, i < n → m' i = m i) (hn : n ≤ n') (k : Kp H H') {g : Gm} {σ : L2.St} (h : RelG c m n H g σ) : RelG c m' n' H' g σ := ⟨h.1, fun i d e => by
  obtain ⟨v, e1, r⟩ := h.2 i d e
  exact ⟨v, e1, r.mono hm hn k⟩⟩
theorem RelO.mut {x : MO} {o : HO} (h : RelO c m n H x o) : Mut (some o) ∧ (∀ xs, o ≠ .tup xs) ∧ (∀ a u, o ≠ .frz a u) ∧ ∀ ps, o ≠ .tbl ps := by
  cases x with
  | lst _ => obtain ⟨_, e, _⟩ := h; subst e; exact ⟨trivial, (fun _ z => nomatch z), (fun _ _ z => nomatch z), (fun _ z => nomatch z)⟩
  | dic _ => obtain ⟨_, e, _⟩ := h; subst e; exact ⟨trivial, (fun _ z => nomatch z), (fun _ _ z => nomatch z), (fun _ z => nomatch z)⟩
  | dit _ => obtain ⟨_, e, _⟩ := h; subst e; exact ⟨trivial, (fun _ z => nomatch z), (fun _ _ z => nomatch z), (fun _ z => nomatch z)⟩
  | ins _ _ => obtain ⟨_, _, e, _⟩ := h; subst e; exact ⟨trivial, (fun _ z => nomatch z), (fun _ _ z => nomatch z), (fun _ z => nomatch z)⟩
end

/-- the store stands in the heap, the i-th object at m i -/
structure Sim (c : Ct) (m : Nat → Addr) (S : Sr) (H : Hp) : Prop where
  dom : ∀ i x, S.f i = some x → i < S.n
  all : ∀ i, i < S.n → ∃ x, S.f i = some x
  inj : ∀ i j, i < S.n → j < S.n → m i = m j → i = j
  at_ : ∀ i x, S.f i = some x → ∃ o, H (m i) = some o ∧ RelO c m S.n H x o
  tabs : LamX.Tabs c.T H
theorem Sim.some_ {c : Ct} {m : Nat → Addr} {S : Sr} {H : Hp} (s : Sim c m S H) {i : Nat} (h : i < S.n) : ∃ o, H (m i) = some o ∧ Mut (some o) ∧ (∀ xs, o ≠ .tup xs) ∧ (∀ a u, o ≠ .frz a u) ∧ ∀ ps, o ≠ .tbl ps := by
  obtain ⟨x, e⟩ := s.all i h
  obtain ⟨o, e1, r⟩ := s.at_ i x e
  exact ⟨o, e1, r.mut⟩
theorem Sim.ne {c : Ct} {m : Nat → Addr} {S : Sr} {H : Hp} (s : Sim c m S H) {i : Nat} (h : i < S.n) {p : Addr} (hp : H p = none) : p ≠ m i := fun e => by
  obtain ⟨o, e1, _⟩ := s.some_ h
  rw [← e, hp] at e1
  cases e1
/-- from a store in a heap to another -/
structure Nxt (c : Ct) (m : Nat → Addr) (S : Sr) (H : Hp) (m' : Nat → Addr) (S' : Sr) (H' : Hp) : Prop where
  sim : Sim c m' S' H'
  mu : ∀ i, i < S.n → m' i = m i
  le : S.n ≤ S'.n
  new : ∀ i, S.n ≤ i → i < S'.n → ∀ o, H (m' i) = some o → ∃ ps, o = .tbl ps
  kp : Kp H H'
  fr : ∀ a o, (∀ i, i < S.n → a ≠ m i) → H a = some o → (∀ ps, o ≠ .tbl ps) → H' a = some o
section
variable {c : Ct} {m m1 m2 : Nat → Addr} {S S1 S2 : Sr} {H H1 H2 : Hp}
theorem Nxt.refl (s : Sim c m S H) : Nxt c m S H m S H :=
  ⟨s, fun _ _ => rfl, Nat.le_refl _, fun i h1 h2 => absurd (Nat.lt_of_lt_of_le h2 h1) (Nat.lt_irrefl _), Kp.refl H, fun _ _ _ h _ => h⟩
theorem Nxt.trans (s : Sim c m S H) (a : Nxt c m S H m1 S1 H1) (b : Nxt c m1 S1 H1 m2 S2 H2) : Nxt c m S H m2 S2 H2 := by
  refine ⟨b.sim, fun i h => (b.mu i (Nat.lt_of_lt_of_le h a.le)).trans (a.mu i h), Nat.le_trans a.le b.le, fun i h1 h2 o q => ?_, a.kp.trans b.kp, fun p o hp e ht => ?_⟩
  · by_cases hi : i < S1.n
    · rw [b.mu i hi] at q
      exact a.new i h1 hi o q
    · have hn := b.new i (Nat.le_of_not_lt hi) h2
      by_cases ht : ∃ ps, o = .tbl ps
      · exact ht
      · by_cases hj : ∃ j, j < S.n ∧ m2 i = m j
        · exfalso
          obtain ⟨j, hj, e⟩ := hj
          rw [← a.mu j hj] at e
          obtain ⟨o', e1, _, _, _, nt⟩ := a.sim.some_ (Nat.lt_of_lt_of_le hj a.le)
          rw [← e] at e1
          obtain ⟨ps, e2⟩ := hn o' e1
          exact nt ps e2
        · exact hn o (a.fr (m2 i) o (fun j hl e => hj ⟨j, hl, e⟩) q fun ps e => ht ⟨ps, e⟩)
  · refine b.fr p o (fun i hi e1 => ?_) (a.fr p o hp e ht) ht
    by_cases h : i < S.n
    · rw [a.mu i h] at e1
      exact hp i h e1
    · rw [e1] at e
      obtain ⟨ps, e2⟩ := a.new i (Nat.le_of_not_lt h) hi o e
      exact ht ps e2
theorem Nxt.relD (a : Nxt c m S H m1 S1 H1) {d : D} {v : V} (r : RelD c m S.n H d v) : RelD c m1 S1.n H1 d v := r.mono a.mu a.le a.kp
theorem Nxt.relDs (a : Nxt c m S H m1 S1 H1) {d : List D} {v : List V} (r : RelDs c m S.n H d v) : RelDs c m1 S1.n H1 d v := r.mono a.mu a.le a.kp
theorem Nxt.relG (a : Nxt c m S H m1 S1 H1) {g : Gm} {σ : L2.St} (r : RelG c m S.n H g σ) : RelG c m1 S1.n H1 g σ := r.mono a.mu a.le a.kp
end
end Y

set_option Elab.async false
set_option linter.all false
set_option maxRecDepth 100000
set_option maxHeartbeats 1000000
/-! Y2: the mirror's readings, and how they are put together. -/
namespace Y
open PySem PySem.Spec PyProof.Rows L2
section
variable {c : Ct} {m m1 m2 : Nat → Addr} {S S1 S2 : Sr} {H H1 H2 : Hp}
theorem kp_upd {p : Addr} {o : HO} (hp : ∀ q, H p = some q → (∀ b v, q ≠ .frz b v) ∧ ∀ xs, q ≠ .tup xs) : Kp H (upd H p o) := by
  refine ⟨fun a xs e => ?_, fun a b u e => ?_⟩
  · rw [upd_ne (fun z => ?_)]
    · exact e
    · subst z
      exact (hp _ e).2 xs rfl
  · rw [upd_ne (fun z => ?_)]
    · exact e
    · subst z
      exact (hp _ e).1 b u rfl
theorem tabs_upd {T : List (Addr × Str)} {p : Addr} {o : HO} (t : LamX.Tabs T H) (hp : ∀ q, H p = some q → (∀ ps, q ≠ .tbl ps) ∧ ∀ c q', q ≠ LamX.CodeO c q') : LamX.Tabs T (upd H p o) := fun q hq => by
  obtain ⟨ps, h1, h2, h3⟩ := t q hq
  refine ⟨ps, ?_, h2, fun pos cv hc => ?_⟩
  · rw [upd_ne (fun z => ?_)]
    · exact h1
    · rw [z] at h1
      exact (hp _ h1).1 ps rfl
  · obtain ⟨b, e1, e2⟩ := h3 pos cv hc
    refine ⟨b, e1, ?_⟩
    rw [upd_ne (fun z => ?_)]
    · exact e2
    · rw [z] at e2
      exact (hp _ e2).2 _ _ rfl
theorem none_any {p : Addr} (h : H p = none) {P : HO → Prop} : ∀ q, H p = some q → P q := fun q e => by
  rw [h] at e
  cases e
/-- a new object -/
def ext (m : Nat → Addr) (n : Nat) (p : Addr) : Nat → Addr := fun i => if i = n then p else m i
theorem ext_lt {n i : Nat} {p : Addr} (h : i < n) : ext m n p i = m i := if_neg (Nat.ne_of_lt h)
theorem ext_same {n : Nat} {p : Addr} : ext m n p n = p := if_pos rfl
theorem Nxt.alloc (s : Sim c m S H) {p : Addr} {x : MO} {o : HO} (hp : H p = none) (r : RelO c m S.n H x o) : Nxt c m S H (ext m S.n p) (S.alloc x) (upd H p o) := by
  have k : Kp H (upd H p o) := kp_upd (none_any hp)
  have mu : ∀ i, i < S.n → ext m S.n p i = m i := fun i h => ext_lt h
  refine ⟨⟨fun i y e => ?_, fun i h => ?_, fun i j hi hj e => ?_, fun i y e => ?_, tabs_upd s.tabs (none_any hp)⟩, mu, Nat.le_succ _, fun i h1 h2 u e => ?_, k, fun a u ha e _ => ?_⟩
  · show i < S.n + 1
    by_cases h : i = S.n
    · omega
    · have e' : S.f i = some y := (if_neg h).symm.trans e
      have := s.dom i y e'
      omega
  · have h : i < S.n + 1 := h
    by_cases q : i = S.n
    · exact ⟨x, if_pos q⟩
    · obtain ⟨y, e⟩ := s.all i (by omega)
      exact ⟨y, (if_neg q).trans e⟩
  · have hi : i < S.n + 1 := hi
    have hj : j < S.n + 1 := hj
    by_cases qi : i = S.n
    · by_cases qj : j = S.n
      · omega
      · rw [qi, ext_same, ext_lt (show j < S.n by omega)] at e
        exact absurd e (s.ne (by omega) hp)
    · by_cases qj : j = S.n
      · rw [qj, ext_same, ext_lt (show i < S.n by omega)] at e
        exact absurd e.symm (s.ne (by omega) hp)
      · rw [ext_lt (show i < S.n by omega), ext_lt (show j < S.n by omega)] at e
        exact s.inj i j (by omega) (by omega) e
  · by_cases h : i = S.n
    · have e' : some x = some y := (if_pos h).symm.trans e
      cases e'
      refine ⟨o, ?_, r.mono mu (Nat.le_succ _) k⟩
      rw [h, ext_same]
      exact upd_same
    · have e' : S.f i = some y := (if_neg h).symm.trans e
      have hi := s.dom i y e'
      obtain ⟨u, e1, r1⟩ := s.at_ i y e'
      refine ⟨u, ?_, r1.mono mu (Nat.le_succ _) k⟩
      rw [ext_lt hi, upd_ne (Ne.symm (s.ne hi hp))]
      exact e1
  · have h2 : i < S.n + 1 := h2
    have h : i = S.n := by omega
    rw [h, ext_same, hp] at e
    cases e
  · rw [upd_ne (ne_of_none e hp)]
    exact e
/-- a new tuple, or anything else that is new and no object of the store -/
theorem Nxt.fresh (s : Sim c m S H) {p : Addr} {o : HO} (hp : H p = none) : Nxt c m S H m S (upd H p o) := by
  have k : Kp H (upd H p o) := kp_upd (none_any hp)
  refine ⟨⟨s.dom, s.all, s.inj, fun i y e => ?_, tabs_upd s.tabs (none_any hp)⟩, fun _ _ => rfl, Nat.le_refl _, fun i h1 h2 => absurd (Nat.lt_of_lt_of_le h2 h1) (Nat.lt_irrefl _), k, fun a u _ e _ => ?_⟩
  · obtain ⟨u, e1, r1⟩ := s.at_ i y e
    refine ⟨u, ?_, r1.mono (fun _ _ => rfl) (Nat.le_refl _) k⟩
    rw [upd_ne (ne_of_none e1 hp)]
    exact e1
  · rw [upd_ne (ne_of_none e hp)]
    exact e
theorem codeO_not {x : MO} {o : HO} {n : Nat} (r : RelO c m n H x o) : ∀ b q, o ≠ LamX.CodeO b q := by
  intro b q z
  unfold LamX.CodeO at z
  cases x <;> (obtain ⟨_, r⟩ := r; first | (obtain ⟨e, _⟩ := r; rw [e] at z; cases z) | (obtain ⟨_, e, _⟩ := r; rw [e] at z; cases z))
/-- an object is changed -/
theorem Nxt.put (s : Sim c m S H) {i : Nat} {x0 x : MO} {o : HO} (hi : S.f i = some x0) (r : RelO c m S.n H x o) : Nxt c m S H m (S.put i x) (upd H (m i) o) := by
  have hl := s.dom i x0 hi
  obtain ⟨o0, e0, r0⟩ := s.at_ i x0 hi
  have q0 : ∀ q, H (m i) = some q → q = o0 := fun q e => by
    rw [e0] at e
    exact (Option.some.inj e).symm
  have k : Kp H (upd H (m i) o) := kp_upd fun q e => by
    rw [q0 q e]
    exact ⟨r0.mut.2.2.1, r0.mut.2.1⟩
  refine ⟨⟨fun j y e => ?_, fun j h => ?_, s.inj, fun j y e => ?_, tabs_upd s.tabs fun q e => by rw [q0 q e]; exact ⟨r0.mut.2.2.2, codeO_not r0⟩⟩, fun _ _ => rfl, Nat.le_refl _, fun i h1 h2 => absurd (Nat.lt_of_lt_of_le h2 h1) (Nat.lt_irrefl _), k, fun a u ha e _ => ?_⟩
  · show j < S.n
    by_cases h : j = i
    · rw [h]; exact hl
    · have e' : S.f j = some y := (if_neg h).symm.trans e
      exact s.dom j y e'
  · by_cases q : j = i
    · exact ⟨x, if_pos q⟩
    · obtain ⟨y, e⟩ := s.all j h
      exact ⟨y, (if_neg q).trans e⟩
  · by_cases h : j = i
    · have e' : some x = some y := (if_pos h).symm.trans e
      cases e'
      rw [h]
      exact ⟨o, upd_same, r.mono (fun _ _ => rfl) (Nat.le_refl _) k⟩
    · have e' : S.f j = some y := (if_neg h).symm.trans e
      obtain ⟨u, e1, r1⟩ := s.at_ j y e'
      refine ⟨u, ?_, r1.mono (fun _ _ => rfl) (Nat.le_refl _) k⟩
      rw [upd_ne (fun z => h (s.inj j i (s.dom j y e') hl z))]
      exact e1
  · rw [upd_ne (ha i hl)]
    exact e
/-- all but the tables stay -/
theorem Nxt.extN (s : Sim c m S H) (e : LamX.ExtN H H1) (t : LamX.Tabs c.T H1) : Nxt c m S H m S H1 := by
  have k : Kp H H1 := ⟨fun a xs h => e a _ h (fun _ z => nomatch z), fun a o u h => e a _ h (fun _ z => nomatch z)⟩
  refine ⟨⟨s.dom, s.all, s.inj, fun i y h => ?_, t⟩, fun _ _ => rfl, Nat.le_refl _, fun i h1 h2 => absurd (Nat.lt_of_lt_of_le h2 h1) (Nat.lt_irrefl _), k, fun a u _ h n => e a u h n⟩
  obtain ⟨o, e1, r⟩ := s.at_ i y h
  exact ⟨o, e (m i) o e1 r.mut.2.2.2, r.mono (fun _ _ => rfl) (Nat.le_refl _) k⟩
end

/-! ### what follows -/
section
variable (c : Ct) (E : XK) (m : Nat → Addr) (S : Sr) (H : Hp)
def PoE (Q : VK) : R D → Prop
  | .ok d S' => ∀ m' H' v, Nxt c m S H m' S' H' → RelD c m' S'.n H' d v → Q v H'
  | .exc q S' => ∀ m' H', Nxt c m S H m' S' H' → E (.ref (c.cls q)) none H'
  | .bad => False
def PoA (Q : List V → Hp → Prop) : R (List D) → Prop
  | .ok d S' => ∀ m' H' v, Nxt c m S H m' S' H' → RelDs c m' S'.n H' d v → Q v H'
  | .exc q S' => ∀ m' H', Nxt c m S H m' S' H' → E (.ref (c.cls q)) none H'
  | .bad => False
def PoT (Q : Bool → Hp → Prop) : R Bool → Prop
  | .ok b S' => ∀ m' H', Nxt c m S H m' S' H' → Q b H'
  | .exc q S' => ∀ m' H', Nxt c m S H m' S' H' → E (.ref (c.cls q)) none H'
  | .bad => False
def PoS (Z : Ends) : RS → Prop
  | .nx g S' => ∀ m' H' σ', Nxt c m S H m' S' H' → RelG c m' S'.n H' g σ' → Z.nx σ' H'
  | .rt d S' => ∀ m' H' v, Nxt c m S H m' S' H' → RelD c m' S'.n H' d v → Z.rt v H'
  | .bk g S' => ∀ m' H' σ', Nxt c m S H m' S' H' → RelG c m' S'.n H' g σ' → Z.bk σ' H'
  | .ct g S' => ∀ m' H' σ', Nxt c m S H m' S' H' → RelG c m' S'.n H' g σ' → Z.ct σ' H'
  | .ex q S' => ∀ m' H', Nxt c m S H m' S' H' → E (.ref (c.cls q)) none H'
  | .bad => False
end
section
variable {c : Ct} {E : XK} {m m1 : Nat → Addr} {S S1 : Sr} {H H1 : Hp}
theorem PoE.go (s : Sim c m S H) (a : Nxt c m S H m1 S1 H1) {Q : VK} {r : R D} (h : PoE c E m S H Q r) : PoE c E m1 S1 H1 Q r := by
  cases r with
  | ok d S' => exact fun m' H' v b r => h m' H' v (a.trans s b) r
  | exc q S' => exact fun m' H' b => h m' H' (a.trans s b)
  | bad => exact h
theorem PoA.go (s : Sim c m S H) (a : Nxt c m S H m1 S1 H1) {Q : List V → Hp → Prop} {r : R (List D)} (h : PoA c E m S H Q r) : PoA c E m1 S1 H1 Q r := by
  cases r with
  | ok d S' => exact fun m' H' v b r => h m' H' v (a.trans s b) r
  | exc q S' => exact fun m' H' b => h m' H' (a.trans s b)
  | bad => exact h
theorem PoT.go (s : Sim c m S H) (a : Nxt c m S H m1 S1 H1) {Q : Bool → Hp → Prop} {r : R Bool} (h : PoT c E m S H Q r) : PoT c E m1 S1 H1 Q r := by
  cases r with
  | ok d S' => exact fun m' H' b => h m' H' (a.trans s b)
  | exc q S' => exact fun m' H' b => h m' H' (a.trans s b)
  | bad => exact h
theorem PoS.go (s : Sim c m S H) (a : Nxt c m S H m1 S1 H1) {Z : Ends} {r : RS} (h : PoS c E m S H Z r) : PoS c E m1 S1 H1 Z r := by
  cases r with
  | nx g S' => exact fun m' H' v b r => h m' H' v (a.trans s b) r
  | rt d S' => exact fun m' H' v b r => h m' H' v (a.trans s b) r
  | bk g S' => exact fun m' H' v b r => h m' H' v (a.trans s b) r
  | ct g S' => exact fun m' H' v b r => h m' H' v (a.trans s b) r
  | ex q S' => exact fun m' H' b => h m' H' (a.trans s b)
  | bad => exact h
end
/-! ### readings of the mirror -/
section
variable (c : Ct) (E : XK)
def rdE (x : ME) : TE := fun σ H Q => ∃ m S g, Sim c m S H ∧ RelG c m S.n H g σ ∧ PoE c E m S H Q (x g S)
def rdA (x : MA) : TA := fun σ H Q => ∃ m S g, Sim c m S H ∧ RelG c m S.n H g σ ∧ PoA c E m S H Q (x g S)
def rdT (x : MT) : TT := fun σ H Q => ∃ m S g, Sim c m S H ∧ RelG c m S.n H g σ ∧ PoT c E m S H Q (x g S)
def rdS (x : MS) : TS := fun Z σ H => ∃ m S g, Sim c m S H ∧ RelG c m S.n H g σ ∧ PoS c E m S H Z (x g S)
end
/-! ### one after another -/
def mE (x : ME) (k : D → ME) : ME := fun g => SM.bind (x g) fun d => k d g
section
variable {c : Ct} {E : XK} {m : Nat → Addr} {S : Sr} {H : Hp} {g : Gm} {σ : L2.St}
theorem PoE.bind {α : Type} {Q : VK} {r : R α} {k : α → SM D} {d : α} {S1 : Sr} (e : r = .ok d S1) (h : PoE c E m S H Q (match r with | .ok a S' => k a S' | .exc q S' => .exc q S' | .bad => .bad)) : PoE c E m S H Q (k d S1) := by
  subst e
  exact h
/-- an expression, then what its value makes -/
theorem seqE {x : ME} {k : D → SM D} {Q QQ : VK} (s : Sim c m S H) (rg : RelG c m S.n H g σ) (h : PoE c E m S H Q (SM.bind (x g) k S))
    (hk : ∀ m1 S1 H1 d v, Nxt c m S H m1 S1 H1 → RelD c m1 S1.n H1 d v → PoE c E m1 S1 H1 Q (k d S1) → QQ v H1) : rdE c E x σ H QQ := by
  refine ⟨m, S, g, s, rg, ?_⟩
  unfold SM.bind at h
  cases e : x g S with
  | ok d S1 =>
    rw [e] at h
    exact fun m1 H1 v a r => hk m1 S1 H1 d v a r (PoE.go s a h)
  | exc q S1 =>
    rw [e] at h
    exact h
  | bad =>
    rw [e] at h
    exact h
theorem seqEA {x : MA} {k : List D → SM D} {Q : VK} {QQ : List V → Hp → Prop} (s : Sim c m S H) (rg : RelG c m S.n H g σ) (h : PoE c E m S H Q (SM.bind (x g) k S))
    (hk : ∀ m1 S1 H1 d v, Nxt c m S H m1 S1 H1 → RelDs c m1 S1.n H1 d v → PoE c E m1 S1 H1 Q (k d S1) → QQ v H1) : rdA c E x σ H QQ := by
  refine ⟨m, S, g, s, rg, ?_⟩
  unfold SM.bind at h
  cases e : x g S with
  | ok d S1 =>
    rw [e] at h
    exact fun m1 H1 v a r => hk m1 S1 H1 d v a r (PoE.go s a h)
  | exc q S1 =>
    rw [e] at h
    exact h
  | bad =>
    rw [e] at h
    exact h
theorem seqET {x : MT} {k : Bool → SM D} {Q : VK} {QQ : Bool → Hp → Prop} (s : Sim c m S H) (rg : RelG c m S.n H g σ) (h : PoE c E m S H Q (SM.bind (x g) k S))
    (hk : ∀ m1 S1 H1 b, Nxt c m S H m1 S1 H1 → PoE c E m1 S1 H1 Q (k b S1) → QQ b H1) : rdT c E x σ H QQ := by
  refine ⟨m, S, g, s, rg, ?_⟩
  unfold SM.bind at h
  cases e : x g S with
  | ok d S1 =>
    rw [e] at h
    exact fun m1 H1 a => hk m1 S1 H1 d a (PoE.go s a h)
  | exc q S1 =>
    rw [e] at h
    exact h
  | bad =>
    rw [e] at h
    exact h
theorem seqAE {x : ME} {k : D → SM (List D)} {Q : List V → Hp → Prop} {QQ : VK} (s : Sim c m S H) (rg : RelG c m S.n H g σ) (h : PoA c E m S H Q (SM.bind (x g) k S))
    (hk : ∀ m1 S1 H1 d v, Nxt c m S H m1 S1 H1 → RelD c m1 S1.n H1 d v → PoA c E m1 S1 H1 Q (k d S1) → QQ v H1) : rdE c E x σ H QQ := by
  refine ⟨m, S, g, s, rg, ?_⟩
  unfold SM.bind at h
  cases e : x g S with
  | ok d S1 =>
    rw [e] at h
    exact fun m1 H1 v a r => hk m1 S1 H1 d v a r (PoA.go s a h)
  | exc q S1 =>
    rw [e] at h
    exact h
  | bad =>
    rw [e] at h
    exact h
theorem seqAA {x : MA} {k : List D → SM (List D)} {Q : List V → Hp → Prop} {QQ : List V → Hp → Prop} (s : Sim c m S H) (rg : RelG c m S.n H g σ) (h : PoA c E m S H Q (SM.bind (x g) k S))
    (hk : ∀ m1 S1 H1 d v, Nxt c m S H m1 S1 H1 → RelDs c m1 S1.n H1 d v → PoA c E m1 S1 H1 Q (k d S1) → QQ v H1) : rdA c E x σ H QQ := by
  refine ⟨m, S, g, s, rg, ?_⟩
  unfold SM.bind at h
  cases e : x g S with
  | ok d S1 =>
    rw [e] at h
    exact fun m1 H1 v a r => hk m1 S1 H1 d v a r (PoA.go s a h)
  | exc q S1 =>
    rw [e] at h
    exact h
  | bad =>
    rw [e] at h
    exact h
theorem seqTE {x : ME} {k : D → SM Bool} {Q : Bool → Hp → Prop} {QQ : VK} (s : Sim c m S H) (rg : RelG c m S.n H g σ) (h : PoT c E m S H Q (SM.bind (x g) k S))
    (hk : ∀ m1 S1 H1 d v, Nxt c m S H m1 S1 H1 → RelD c m1 S1.n H1 d v → PoT c E m1 S1 H1 Q (k d S1) → QQ v H1) : rdE c E x σ H QQ := by
  refine ⟨m, S, g, s, rg, ?_⟩
  unfold SM.bind at h
  cases e : x g S with
  | ok d S1 =>
    rw [e] at h
    exact fun m1 H1 v a r => hk m1 S1 H1 d v a r (PoT.go s a h)
  | exc q S1 =>
    rw [e] at h
    exact h
  | bad =>
    rw [e] at h
    exact h
theorem seqTT {x : MT} {k : Bool → SM Bool} {Q : Bool → Hp → Prop} {QQ : Bool → Hp → Prop} (s : Sim c m S H) (rg : RelG c m S.n H g σ) (h : PoT c E m S H Q (SM.bind (x g) k S))
    (hk : ∀ m1 S1 H1 d, Nxt c m S H m1 S1 H1 → PoT c E m1 S1 H1 Q (k d S1) → QQ d H1) : rdT c E x σ H QQ := by
  refine ⟨m, S, g, s, rg, ?_⟩
  unfold SM.bind at h
  cases e : x g S with
  | ok d S1 =>
    rw [e] at h
    exact fun m1 H1 a => hk m1 S1 H1 d a (PoT.go s a h)
  | exc q S1 =>
    rw [e] at h
    exact h
  | bad =>
    rw [e] at h
    exact h
/-- .. within a statement -/
def toRS (r : R D) (k : D → Sr → RS) : RS := match r with
  | .ok d S => k d S
  | .exc q S => .ex q S
  | .bad => .bad
def toRSA (r : R (List D)) (k : List D → Sr → RS) : RS := match r with
  | .ok d S => k d S
  | .exc q S => .ex q S
  | .bad => .bad
def toRST (r : R Bool) (k : Bool → Sr → RS) : RS := match r with
  | .ok d S => k d S
  | .exc q S => .ex q S
  | .bad => .bad
theorem seqSE {x : ME} {k : D → Sr → RS} {Z : Ends} {QQ : VK} (s : Sim c m S H) (rg : RelG c m S.n H g σ) (h : PoS c E m S H Z (toRS (x g S) k))
    (hk : ∀ m1 S1 H1 d v, Nxt c m S H m1 S1 H1 → RelD c m1 S1.n H1 d v → PoS c E m1 S1 H1 Z (k d S1) → QQ v H1) : rdE c E x σ H QQ := by
  refine ⟨m, S, g, s, rg, ?_⟩
  cases e : x g S with
  | ok d S1 =>
    rw [e] at h
    exact fun m1 H1 v a r => hk m1 S1 H1 d v a r (PoS.go s a h)
  | exc q S1 =>
    rw [e] at h
    exact h
  | bad =>
    rw [e] at h
    exact h
theorem seqSA {x : MA} {k : List D → Sr → RS} {Z : Ends} {QQ : List V → Hp → Prop} (s : Sim c m S H) (rg : RelG c m S.n H g σ) (h : PoS c E m S H Z (toRSA (x g S) k))
    (hk : ∀ m1 S1 H1 d v, Nxt c m S H m1 S1 H1 → RelDs c m1 S1.n H1 d v → PoS c E m1 S1 H1 Z (k d S1) → QQ v H1) : rdA c E x σ H QQ := by
  refine ⟨m, S, g, s, rg, ?_⟩
  cases e : x g S with
  | ok d S1 =>
    rw [e] at h
    exact fun m1 H1 v a r => hk m1 S1 H1 d v a r (PoS.go s a h)
  | exc q S1 =>
    rw [e] at h
    exact h
  | bad =>
    rw [e] at h
    exact h
theorem seqST {x : MT} {k : Bool → Sr → RS} {Z : Ends} {QQ : Bool → Hp → Prop} (s : Sim c m S H) (rg : RelG c m S.n H g σ) (h : PoS c E m S H Z (toRST (x g S) k))
    (hk : ∀ m1 S1 H1 d, Nxt c m S H m1 S1 H1 → PoS c E m1 S1 H1 Z (k d S1) → QQ d H1) : rdT c E x σ H QQ := by
  refine ⟨m, S, g, s, rg, ?_⟩
  cases e : x g S with
  | ok d S1 =>
    rw [e] at h
    exact fun m1 H1 a => hk m1 S1 H1 d a (PoS.go s a h)
  | exc q S1 =>
    rw [e] at h
    exact h
  | bad =>
    rw [e] at h
    exact h
end
/-! ### a judgement's reading may be told otherwise -/
theorem PE.imp {X : Cx} {e : Expr} {t t' : TE} (h : PE X e t) (i : ∀ σ H Q, t' σ H Q → t σ H Q) : PE X e t' := ⟨fun pins s σ H Q I q => h.run pins s σ H Q I (i σ H Q q)⟩
theorem PT.imp {X : Cx} {e : Expr} {t t' : TT} (h : PT X e t) (i : ∀ σ H Q, t' σ H Q → t σ H Q) : PT X e t' := ⟨fun pins s σ H Q I q => h.run pins s σ H Q I (i σ H Q q)⟩
theorem PW.imp {X : Cx} {e : Expr} {t t' : TT} (h : PW X e t) (i : ∀ σ H Q, t' σ H Q → t σ H Q) : PW X e t' := ⟨fun wh pins s σ H Q I q => h.run wh pins s σ H Q I (i σ H Q q)⟩
theorem PA.imp {X : Cx} {e : List Expr} {t t' : TA} (h : PA X e t) (i : ∀ σ H Q, t' σ H Q → t σ H Q) : PA X e t' := ⟨fun pos pins s σ H Q I q => h.run pos pins s σ H Q I (i σ H Q q)⟩
theorem PS.imp {X : Cx} {e : Stmt} {t t' : TS} (h : PS X e t) (i : ∀ Z σ H, t' Z σ H → t Z σ H) : PS X e t' := ⟨fun pins s σ H Z I q => h.run pins s σ H Z I (i Z σ H q)⟩
theorem PSs.imp {X : Cx} {e : List Stmt} {t t' : TS} (h : PSs X e t) (i : ∀ Z σ H, t' Z σ H → t Z σ H) : PSs X e t' := ⟨fun pins s σ H Z I q => h.run pins s σ H Z I (i Z σ H q)⟩
end Y

set_option Elab.async false
set_option linter.all false
set_option maxRecDepth 100000
set_option maxHeartbeats 1000000
/-! Y3: rules of the mirror for expressions. -/
namespace Y
open PySem PySem.Spec PyProof.Rows L2
section
variable {c : Ct} {m : Nat → Addr} {n : Nat} {H : Hp} {v : V} {vs : List V}
theorem rd_non (h : RelD c m n H .non v) : v = .non := by unfold RelD at h; exact h
theorem rd_bl {b : Bool} (h : RelD c m n H (.bl b) v) : v = .bl b := by unfold RelD at h; exact h
theorem rd_int {i : Int} (h : RelD c m n H (.int i) v) : v = .int i := by unfold RelD at h; exact h
theorem rd_str {s : Str} (h : RelD c m n H (.str s) v) : v = .str s := by unfold RelD at h; exact h
theorem rd_adr {i : Nat} (h : RelD c m n H (.adr i) v) : v = .ref (m i) ∧ i < n := by unfold RelD at h; exact h
theorem rd_tup {l : List D} (h : RelD c m n H (.tup l) v) : ∃ a vs, v = .ref a ∧ H a = some (.tup vs) ∧ RelDs c m n H l vs := by unfold RelD at h; exact h
theorem rd_ktp {l : List D} (h : RelD c m n H (.ktp l) v) : ∃ a vs, v = .ref a ∧ KT c.K a vs ∧ RelDs c m n H l vs := by unfold RelD at h; exact h
theorem rd_fro {l : List D} (h : RelD c m n H (.fro l) v) : ∃ a vs, v = .ref a ∧ SqF c.K H a vs ∧ RelDs c m n H l vs := by unfold RelD at h; exact h
theorem rd_nil (h : RelDs c m n H [] vs) : vs = [] := by unfold RelDs at h; exact h
theorem rd_cons {d : D} {l : List D} (h : RelDs c m n H (d :: l) vs) : ∃ v r, vs = v :: r ∧ RelD c m n H d v ∧ RelDs c m n H l r := by unfold RelDs at h; exact h
theorem mk_non : RelD c m n H .non .non := by unfold RelD; rfl
theorem mk_bl {b : Bool} : RelD c m n H (.bl b) (.bl b) := by unfold RelD; rfl
theorem mk_int {i : Int} : RelD c m n H (.int i) (.int i) := by unfold RelD; rfl
theorem mk_str {s : Str} : RelD c m n H (.str s) (.str s) := by unfold RelD; rfl
theorem mk_adr {i : Nat} (h : i < n) : RelD c m n H (.adr i) (.ref (m i)) := by unfold RelD; exact ⟨rfl, h⟩
theorem mk_tup {l : List D} {a : Addr} (h : H a = some (.tup vs)) (r : RelDs c m n H l vs) : RelD c m n H (.tup l) (.ref a) := by unfold RelD; exact ⟨a, vs, rfl, h, r⟩
theorem mk_ktp {l : List D} {a : Addr} (h : KT c.K a vs) (r : RelDs c m n H l vs) : RelD c m n H (.ktp l) (.ref a) := by unfold RelD; exact ⟨a, vs, rfl, h, r⟩
theorem mk_nil : RelDs c m n H [] [] := by unfold RelDs; rfl
theorem mk_cons {d : D} {l : List D} (h : RelD c m n H d v) (r : RelDs c m n H l vs) : RelDs c m n H (d :: l) (v :: vs) := by unfold RelDs; exact ⟨v, vs, rfl, h, r⟩
theorem RelDs.length : ∀ {l : List D} {vs : List V}, RelDs c m n H l vs → l.length = vs.length
  | [], _, h => by rw [rd_nil h] <;> rfl
  | d :: l, _, h => by
    obtain ⟨v, r, e, _, h2⟩ := rd_cons h
    rw [e, List.length_cons, List.length_cons, RelDs.length h2]
theorem RelDs.get : ∀ {l : List D} {vs : List V} {i : Nat} {d : D}, RelDs c m n H l vs → l[i]? = some d → ∃ v, vs[i]? = some v ∧ RelD c m n H d v
  | [], _, _, _, _, e => by simp at e
  | x :: l, _, 0, d, h, e => by
    obtain ⟨v, r, e1, h1, h2⟩ := rd_cons h
    have e2 : x = d := by simpa using e
    subst e2
    exact ⟨v, by rw [e1]; rfl, h1⟩
  | x :: l, _, i + 1, d, h, e => by
    obtain ⟨v, r, e1, h1, h2⟩ := rd_cons h
    obtain ⟨w, e2, h3⟩ := RelDs.get (i := i) (d := d) h2 (by simpa using e)
    exact ⟨w, by rw [e1]; simpa using e2, h3⟩
theorem RelDs.getV : ∀ {l : List D} {vs : List V} {i : Nat} {v : V}, RelDs c m n H l vs → vs[i]? = some v → ∃ d, l[i]? = some d ∧ RelD c m n H d v
  | [], _, _, _, h, e => by rw [rd_nil h] at e; simp at e
  | x :: l, _, 0, v, h, e => by
    obtain ⟨w, r, e1, h1, h2⟩ := rd_cons h
    rw [e1] at e
    have e2 : w = v := by simpa using e
    subst e2
    exact ⟨x, rfl, h1⟩
  | x :: l, _, i + 1, v, h, e => by
    obtain ⟨w, r, e1, h1, h2⟩ := rd_cons h
    rw [e1] at e
    obtain ⟨d, e2, h3⟩ := RelDs.getV (i := i) (v := v) h2 (by simpa using e)
    exact ⟨d, by simpa using e2, h3⟩
theorem RelDs.append : ∀ {l k : List D} {vs ws : List V}, RelDs c m n H l vs → RelDs c m n H k ws → RelDs c m n H (l ++ k) (vs ++ ws)
  | [], _, _, _, h, q => by rw [rd_nil h]; exact q
  | x :: l, _, _, _, h, q => by
    obtain ⟨v, r, e1, h1, h2⟩ := rd_cons h
    rw [e1]
    exact mk_cons h1 (RelDs.append h2 q)
theorem RelDs.set : ∀ {l : List D} {vs : List V} {d : D} {v : V} (i : Nat), RelDs c m n H l vs → RelD c m n H d v → RelDs c m n H (l.set i d) (vs.set i v)
  | [], _, _, _, _, h, _ => by rw [rd_nil h]; exact mk_nil
  | x :: l, _, _, _, 0, h, q => by
    obtain ⟨v, r, e1, h1, h2⟩ := rd_cons h
    rw [e1]
    exact mk_cons q h2
  | x :: l, _, _, _, i + 1, h, q => by
    obtain ⟨v, r, e1, h1, h2⟩ := rd_cons h
    rw [e1]
    exact mk_cons h1 (RelDs.set i h2 q)
theorem RelDs.drop : ∀ {l : List D} {vs : List V} (i : Nat), RelDs c m n H l vs → RelDs c m n H (l.drop i) (vs.drop i)
  | _, _, 0, h => h
  | [], _, _ + 1, h => by rw [rd_nil h]; exact mk_nil
  | x :: l, _, i + 1, h => by
    obtain ⟨v, r, e1, h1, h2⟩ := rd_cons h
    rw [e1]
    exact RelDs.drop i h2
theorem RelDs.take : ∀ {l : List D} {vs : List V} (i : Nat), RelDs c m n H l vs → RelDs c m n H (l.take i) (vs.take i)
  | _, _, 0, _ => mk_nil
  | [], _, _ + 1, h => by rw [rd_nil h]; exact mk_nil
  | x :: l, _, i + 1, h => by
    obtain ⟨v, r, e1, h1, h2⟩ := rd_cons h
    rw [e1]
    exact mk_cons h1 (RelDs.take i h2)
theorem RelDs.eraseIdx : ∀ {l : List D} {vs : List V} (i : Nat), RelDs c m n H l vs → RelDs c m n H (l.eraseIdx i) (vs.eraseIdx i)
  | [], _, _, h => by rw [rd_nil h]; exact mk_nil
  | x :: l, _, 0, h => by
    obtain ⟨v, r, e1, h1, h2⟩ := rd_cons h
    rw [e1]
    exact h2
  | x :: l, _, i + 1, h => by
    obtain ⟨v, r, e1, h1, h2⟩ := rd_cons h
    rw [e1]
    exact mk_cons h1 (RelDs.eraseIdx i h2)
theorem RelDs.rep (k : Nat) {l : List D} {vs : List V} (h : RelDs c m n H l vs) : RelDs c m n H (List.replicate k l).flatten (List.replicate k vs).flatten := by
  induction k with
  | zero => exact mk_nil
  | succ k ih =>
    rw [List.replicate_succ, List.flatten_cons, List.replicate_succ, List.flatten_cons]
    exact h.append ih
theorem RelDs.reverse : ∀ {l : List D} {vs : List V}, RelDs c m n H l vs → RelDs c m n H l.reverse vs.reverse
  | [], _, h => by rw [rd_nil h]; exact mk_nil
  | x :: l, _, h => by
    obtain ⟨v, r, e1, h1, h2⟩ := rd_cons h
    rw [e1, List.reverse_cons, List.reverse_cons]
    exact (RelDs.reverse h2).append (mk_cons h1 mk_nil)
end
section
variable {c : Ct} {m : Nat → Addr} {S : Sr} {H : Hp}
theorem Sim.lst (s : Sim c m S H) {i : Nat} {l : List D} (e : S.f i = some (.lst l)) : ∃ vs, H (m i) = some (.lst vs) ∧ RelDs c m S.n H l vs := by
  obtain ⟨o, h1, vs, e1, h2⟩ := s.at_ i _ e
  subst e1
  exact ⟨vs, h1, h2⟩
theorem Sim.dic (s : Sim c m S H) {i : Nat} {l : List (Key × D)} (e : S.f i = some (.dic l)) : ∃ vs, H (m i) = some (.dK vs) ∧ RelK c m S.n H l vs := by
  obtain ⟨o, h1, vs, e1, h2⟩ := s.at_ i _ e
  subst e1
  exact ⟨vs, h1, h2⟩
theorem Sim.dit (s : Sim c m S H) {i : Nat} {l : List (List Key × D)} (e : S.f i = some (.dit l)) : ∃ vs, H (m i) = some (.dT vs) ∧ RelK c m S.n H l vs := by
  obtain ⟨o, h1, vs, e1, h2⟩ := s.at_ i _ e
  subst e1
  exact ⟨vs, h1, h2⟩
theorem Sim.ins (s : Sim c m S H) {i : Nat} {q : Str} {l : List (Str × D)} (e : S.f i = some (.ins q l)) : ∃ dx vs, H (m i) = some (.ins (c.cls q) dx vs) ∧ RelK c m S.n H l vs := by
  obtain ⟨o, h1, dx, vs, e1, h2⟩ := s.at_ i _ e
  subst e1
  exact ⟨dx, vs, h1, h2⟩
end
/-! ### names, constants -/
def mVar (i : Nat) : ME := fun g S => match g[i]? with
  | some (some d) => .ok d S
  | _ => .bad
def mC (d : D) : ME := fun _ S => .ok d S
section
variable {X : Cx} {c : Ct} {E : XK}
theorem qe_var {i : Nat} {e : Expr} (h : PE X e (tVar i)) : PE X e (rdE c E (mVar i)) := PE.imp h fun σ H Q ⟨m, S, g, s, rg, q⟩ => by
  unfold mVar at q
  cases e : g[i]? with
  | none => rw [e] at q; exact q.elim
  | some o =>
    rw [e] at q
    cases o with
    | none => exact q.elim
    | some d =>
      obtain ⟨v, e1, r⟩ := rg.2 i d e
      exact ⟨v, e1, q m H v (Nxt.refl s) r⟩
theorem qe_k {e : Expr} {v : V} {d : D} (h : PE X e (tC v)) (r : ∀ m n H, RelD c m n H d v) : PE X e (rdE c E (mC d)) := PE.imp h fun σ H Q ⟨m, S, g, s, rg, q⟩ => q m H v (Nxt.refl s) (r _ _ _)
theorem qe_int {i : Int} {j pos} : PE X (.Constant (.int i) j pos) (rdE c E (mC (.int i))) := qe_k pe_int fun _ _ _ => mk_int
theorem qe_bl {b : Bool} {j pos} : PE X (.Constant (.bool b) j pos) (rdE c E (mC (.bl b))) := qe_k pe_bl fun _ _ _ => mk_bl
theorem qe_non {j pos} : PE X (.Constant .none j pos) (rdE c E (mC .non)) := qe_k pe_non fun _ _ _ => mk_non
theorem qe_str {x : Str} {j pos} : PE X (.Constant (.str x) j pos) (rdE c E (mC (.str x))) := qe_k pe_str fun _ _ _ => mk_str
end
/-! ### operators -/
def mB (f : D → D → SM D) (a b : ME) : ME := fun g => SM.bind (a g) fun x => SM.bind (b g) fun y => f x y
def mU (f : D → SM D) (a : ME) : ME := fun g => SM.bind (a g) f
/-- a two-place operation, a one-place one, a call by values: sound -/
def Snd2 (c : Ct) (r : R2) (f : D → D → SM D) : Prop := ∀ (E : XK) (m : Nat → Addr) (S : Sr) (H : Hp) (Q : VK) (x y : D) (v w : V), Sim c m S H → RelD c m S.n H x v → RelD c m S.n H y w → PoE c E m S H Q (f x y S) → r v w H Q
def Snd1 (c : Ct) (r : V → Hp → VK → Prop) (f : D → SM D) : Prop := ∀ (E : XK) (m : Nat → Addr) (S : Sr) (H : Hp) (Q : VK) (x : D) (v : V), Sim c m S H → RelD c m S.n H x v → PoE c E m S H Q (f x S) → r v H Q
def SndA (c : Ct) (r : List V → Hp → VK → Prop) (f : List D → SM D) : Prop := ∀ (E : XK) (m : Nat → Addr) (S : Sr) (H : Hp) (Q : VK) (x : List D) (v : List V), Sim c m S H → RelDs c m S.n H x v → PoE c E m S H Q (f x S) → r v H Q
section
variable {X : Cx} {c : Ct} {E : XK}
theorem tOp_of {r : R2} {f : D → D → SM D} {ma mb : ME} (hs : Snd2 c r f) (σ : L2.St) (H : Hp) (Q : VK) (h : rdE c E (mB f ma mb) σ H Q) : tOp r (rdE c E ma) (rdE c E mb) σ H Q := by
  obtain ⟨m, S, g, s, rg, q⟩ := h
  refine seqE s rg q fun m1 S1 H1 x v a rx q1 => ?_
  refine seqE a.sim (a.relG rg) q1 fun m2 S2 H2 y w b ry q2 => ?_
  exact hs E m2 S2 H2 Q x y v w b.sim (b.relD rx) ry q2
theorem qe_bin {op : Operator} {r : R2} {f : D → D → SM D} {a b : Expr} {ma mb : ME} {pos : Pos} (ho : OpR X (binaryOp op) r) (hs : Snd2 c r f) (ha : PE X a (rdE c E ma)) (hb : PE X b (rdE c E mb)) : PE X (.BinOp a op b pos) (rdE c E (mB f ma mb)) :=
  PE.imp (pe_op ho ha hb) (tOp_of hs)
theorem qe_un {op : UnaryOp} {r : V → Hp → VK → Prop} {f : D → SM D} {a : Expr} {ma : ME} {pos : Pos} (ho : UnR X (unaryOp op) r) (hs : Snd1 c r f) (ha : PE X a (rdE c E ma)) : PE X (.UnaryOp op a pos) (rdE c E (mU f ma)) :=
  PE.imp (pe_un ho ha) fun σ H Q ⟨m, S, g, s, rg, q⟩ => seqE s rg q fun m1 S1 H1 x v a rx q1 => hs E m1 S1 H1 Q x v a.sim rx q1
theorem qe_cmp {op : CmpOp} {r : R2} {f : D → D → SM D} {a b : Expr} {ma mb : ME} {pos : Pos} (ho : OpR X (compareOp op) r) (hs : Snd2 c r f) (ha : PE X a (rdE c E ma)) (hb : PE X b (rdE c E mb)) (hm : behindInMarks op b = false) : PE X (.Compare a [op] [b] pos) (rdE c E (mB f ma mb)) :=
  PE.imp (pe_cmpR ho ha hb hm) (tOp_of hs)
theorem qe_ix {r : R2} {f : D → D → SM D} {a b : Expr} {ma mb : ME} {pos : Pos} (hr : IxR X r) (hs : Snd2 c r f) (ha : PE X a (rdE c E ma)) (hb : PE X b (rdE c E mb)) (hp : PlainIx b) : PE X (.Subscript a b pos) (rdE c E (mB f ma mb)) :=
  PE.imp (pe_ix hr ha hb hp) (tOp_of hs)
/-- a value as a test -/
def mTB (a : ME) : MT := fun g => SM.bind (a g) fun d S => match d with
  | .bl b => .ok b S
  | _ => .bad
theorem tTest_of {ma : ME} (σ : L2.St) (H : Hp) (Q : Bool → Hp → Prop) (h : rdT c E (mTB ma) σ H Q) : rdE c E ma σ H fun x H' => ∃ k, x = .bl k ∧ Q k H' := by
  obtain ⟨m, S, g, s, rg, q⟩ := h
  refine seqTE s rg q fun m1 S1 H1 d v a r q1 => ?_
  cases d <;> first | exact (show False from q1).elim | skip
  exact ⟨_, rd_bl r, q1 m1 H1 (Nxt.refl a.sim)⟩
theorem qt_cmp {op : CmpOp} {r : R2} {f : D → D → SM D} {a b : Expr} {ma mb : ME} {pos : Pos} (ho : OpR X (compareOp op) r) (hs : Snd2 c r f) (ha : PE X a (rdE c E ma)) (hb : PE X b (rdE c E mb)) (hm : behindInMarks op b = false) : PT X (.Compare a [op] [b] pos) (rdT c E (mTB (mB f ma mb))) :=
  PT.imp (pt_cmpR ho ha hb hm) fun σ H Q h => by
    obtain ⟨m, S, g, s, rg, q⟩ := tTest_of σ H Q h
    exact tOp_of hs σ H _ ⟨m, S, g, s, rg, q⟩
theorem qt_val {e : Expr} {ma : ME} (h : PE X e (rdE c E ma)) (he : ∀ whole, isTrue e X.env whole = (do let v ← whole; standAt e.pos; holding [v] (truthy v)) := by intro _; rfl) : PT X e (rdT c E (mTB ma)) :=
  PT.imp (pt_val h he) fun σ H Q q => tTest_of σ H Q q
/-! ### and, or, not, if -/
def mAnd (a b : MT) : MT := fun g => SM.bind (a g) fun k => if k = true then b g else SM.pure false
def mOr (a b : MT) : MT := fun g => SM.bind (a g) fun k => if k = true then SM.pure true else b g
def mNot (a : MT) : MT := fun g => SM.bind (a g) fun k => SM.pure (!k)
def mIf (t : MT) (a b : ME) : ME := fun g => SM.bind (t g) fun k => if k = true then a g else b g
/-- .. as a value -/
def mV (t : MT) : ME := fun g => SM.bind (t g) fun k => SM.pure (.bl k)
theorem qw_and1 {a : Expr} {ma : MT} {pos : Pos} (ha : PT X a (rdT c E ma)) : PW X (.BoolOp .And [a] pos) (rdT c E ma) := pw_and1 ha
theorem qw_or1 {a : Expr} {ma : MT} {pos : Pos} (ha : PT X a (rdT c E ma)) : PW X (.BoolOp .Or [a] pos) (rdT c E ma) := pw_or1 ha
theorem qw_and {a b : Expr} {rest : List Expr} {ma mb : MT} {pos : Pos} (ha : PT X a (rdT c E ma)) (hb : PW X (.BoolOp .And (b :: rest) pos) (rdT c E mb)) : PW X (.BoolOp .And (a :: b :: rest) pos) (rdT c E (mAnd ma mb)) :=
  PW.imp (pw_and ha hb) fun σ H Q ⟨m, S, g, s, rg, q⟩ => seqTT s rg q fun m1 S1 H1 k a q1 => by
    cases k with
    | true => exact ⟨m1, S1, g, a.sim, a.relG rg, q1⟩
    | false => exact q1 m1 H1 (Nxt.refl a.sim)
theorem qw_or {a b : Expr} {rest : List Expr} {ma mb : MT} {pos : Pos} (ha : PT X a (rdT c E ma)) (hb : PW X (.BoolOp .Or (b :: rest) pos) (rdT c E mb)) : PW X (.BoolOp .Or (a :: b :: rest) pos) (rdT c E (mOr ma mb)) :=
  PW.imp (pw_or ha hb) fun σ H Q ⟨m, S, g, s, rg, q⟩ => seqTT s rg q fun m1 S1 H1 k a q1 => by
    cases k with
    | true => exact q1 m1 H1 (Nxt.refl a.sim)
    | false => exact ⟨m1, S1, g, a.sim, a.relG rg, q1⟩
theorem qt_not {a : Expr} {ma : MT} {pos : Pos} (ha : PT X a (rdT c E ma)) : PT X (.UnaryOp .Not a pos) (rdT c E (mNot ma)) :=
  PT.imp (pt_not ha) fun σ H Q ⟨m, S, g, s, rg, q⟩ => seqTT s rg q fun m1 S1 H1 k a q1 => q1 m1 H1 (Nxt.refl a.sim)
theorem qe_if {t a b : Expr} {mt : MT} {ma mb : ME} {pos : Pos} (ht : PT X t (rdT c E mt)) (ha : PE X a (rdE c E ma)) (hb : PE X b (rdE c E mb)) : PE X (.IfExp t a b pos) (rdE c E (mIf mt ma mb)) :=
  PE.imp (pe_ifExp ht ha hb) fun σ H Q ⟨m, S, g, s, rg, q⟩ => seqET s rg q fun m1 S1 H1 k a q1 => by
    cases k with
    | true => exact ⟨m1, S1, g, a.sim, a.relG rg, q1⟩
    | false => exact ⟨m1, S1, g, a.sim, a.relG rg, q1⟩
/-- and, or, not of bools, as values -/
def mAndV (a b : ME) : ME := fun g => SM.bind (a g) fun d S => match d with
  | .bl true => b g S
  | .bl false => .ok (.bl false) S
  | _ => .bad
def mOrV (a b : ME) : ME := fun g => SM.bind (a g) fun d S => match d with
  | .bl true => .ok (.bl true) S
  | .bl false => b g S
  | _ => .bad
def mNotV (a : ME) : ME := fun g => SM.bind (a g) fun d S => match d with
  | .bl k => .ok (.bl (!k)) S
  | _ => .bad
theorem qe_one {op} {a : Expr} {ma : ME} {pos : Pos} (ha : PE X a (rdE c E ma)) : PE X (.BoolOp op [a] pos) (rdE c E ma) := pe_one ha
theorem qe_and {a b : Expr} {rest : List Expr} {ma mb : ME} {pos : Pos} (ha : PE X a (rdE c E ma)) (hb : PE X (.BoolOp .And (b :: rest) pos) (rdE c E mb)) : PE X (.BoolOp .And (a :: b :: rest) pos) (rdE c E (mAndV ma mb)) :=
  PE.imp (pe_and ha hb) fun σ H Q ⟨m, S, g, s, rg, q⟩ => seqE s rg q fun m1 S1 H1 d v a r q1 => by
    cases d <;> first | exact (show False from q1).elim | skip
    rename_i k
    refine ⟨k, rd_bl r, ?_⟩
    cases k with
    | true => exact ⟨m1, S1, g, a.sim, a.relG rg, q1⟩
    | false => exact q1 m1 H1 _ (Nxt.refl a.sim) mk_bl
theorem qe_or {a b : Expr} {rest : List Expr} {ma mb : ME} {pos : Pos} (ha : PE X a (rdE c E ma)) (hb : PE X (.BoolOp .Or (b :: rest) pos) (rdE c E mb)) : PE X (.BoolOp .Or (a :: b :: rest) pos) (rdE c E (mOrV ma mb)) :=
  PE.imp (pe_or ha hb) fun σ H Q ⟨m, S, g, s, rg, q⟩ => seqE s rg q fun m1 S1 H1 d v a r q1 => by
    cases d <;> first | exact (show False from q1).elim | skip
    rename_i k
    refine ⟨k, rd_bl r, ?_⟩
    cases k with
    | true => exact q1 m1 H1 _ (Nxt.refl a.sim) mk_bl
    | false => exact ⟨m1, S1, g, a.sim, a.relG rg, q1⟩
theorem qe_not {a : Expr} {ma : ME} {pos : Pos} (ha : PE X a (rdE c E ma)) : PE X (.UnaryOp .Not a pos) (rdE c E (mNotV ma)) :=
  PE.imp (pe_not ha) fun σ H Q ⟨m, S, g, s, rg, q⟩ => seqE s rg q fun m1 S1 H1 d v a r q1 => by
    cases d <;> first | exact (show False from q1).elim | skip
    exact ⟨_, rd_bl r, q1 m1 H1 _ (Nxt.refl a.sim) mk_bl⟩
/-- a < b < c -/
def mChain (f f' : D → D → SM D) (a b e : ME) : ME := fun g => SM.bind (a g) fun x => SM.bind (b g) fun y => SM.bind (f x y) fun z S => match z with
  | .bl true => SM.bind (e g) (fun w => f' y w) S
  | .bl false => .ok (.bl false) S
  | _ => .bad
def Pure2 (f : D → D → SM D) : Prop := ∀ x y S, (∃ z, f x y S = .ok z S) ∨ f x y S = .bad
theorem tChain_of {r r' : R2} {f f' : D → D → SM D} {ma mb me : ME} (hs : Snd2 c r f) (hs' : Snd2 c r' f') (hp : Pure2 f) (σ : L2.St) (H : Hp) (Q : VK) (h : rdE c E (mChain f f' ma mb me) σ H Q) : tChain r r' (rdE c E ma) (rdE c E mb) (rdE c E me) σ H Q := by
  obtain ⟨m, S, g, s, rg, q⟩ := h
  refine seqE s rg q fun m1 S1 H1 x v a rx q1 => ?_
  refine seqE a.sim (a.relG rg) q1 fun m2 S2 H2 y w b ry q2 => ?_
  have rx2 := b.relD rx
  unfold SM.bind at q2
  rcases hp x y S2 with ⟨z, e⟩ | e
  · rw [e] at q2
    refine hs E m2 S2 H2 _ x y v w b.sim rx2 ry ?_
    rw [e]
    intro m3 H3 u d ru
    cases z <;> first | exact (show False from q2).elim | skip
    rename_i k
    refine ⟨k, rd_bl ru, ?_⟩
    cases k with
    | true =>
      rw [if_pos rfl]
      refine seqE d.sim (d.relG (b.relG (a.relG rg))) (PoE.go b.sim d q2) fun m4 S4 H4 x4 v4 d4 r4 q4 => ?_
      exact hs' E m4 S4 H4 Q y x4 w v4 d4.sim (d4.relD (d.relD ry)) r4 q4
    | false =>
      rw [if_neg Bool.false_ne_true]
      exact q2 m3 H3 _ d mk_bl
  · rw [e] at q2
    exact q2.elim
theorem qe_chain {op op' : CmpOp} {r r' : R2} {f f' : D → D → SM D} {a b e : Expr} {ma mb me : ME} {pos : Pos} (ho : OpR X (compareOp op) r) (hs : Snd2 c r f) (ho' : OpR X (compareOp op') r') (hs' : Snd2 c r' f') (hp : Pure2 f)
    (ha : PE X a (rdE c E ma)) (hb : PE X b (rdE c E mb)) (he : PE X e (rdE c E me)) (hm : lastMarks [op, op'] [b, e] = false := by rfl) : PE X (.Compare a [op, op'] [b, e] pos) (rdE c E (mChain f f' ma mb me)) := PE.imp (pe_chain ho ho' ha hb he hm) (tChain_of hs hs' hp)
theorem qt_chain {op op' : CmpOp} {r r' : R2} {f f' : D → D → SM D} {a b e : Expr} {ma mb me : ME} {pos : Pos} (ho : OpR X (compareOp op) r) (hs : Snd2 c r f) (ho' : OpR X (compareOp op') r') (hs' : Snd2 c r' f') (hp : Pure2 f)
    (ha : PE X a (rdE c E ma)) (hb : PE X b (rdE c E mb)) (he : PE X e (rdE c E me)) (hm : lastMarks [op, op'] [b, e] = false := by rfl) : PT X (.Compare a [op, op'] [b, e] pos) (rdT c E (mTB (mChain f f' ma mb me))) := PT.imp (pt_chain ho ho' ha hb he hm) fun σ H Q h => by
    obtain ⟨m, S, g, s, rg, q⟩ := tTest_of σ H Q h
    exact tChain_of hs hs' hp σ H _ ⟨m, S, g, s, rg, q⟩
/-! ### arguments, displays -/
def mNil : MA := fun _ S => .ok [] S
def mCons (a : ME) (r : MA) : MA := fun g => SM.bind (a g) fun d => SM.bind (r g) fun l => SM.pure (d :: l)
theorem qa_nil : PA X [] (rdA c E mNil) := PA.imp pa_nil fun σ H Q ⟨m, S, g, s, rg, q⟩ => q m H [] (Nxt.refl s) mk_nil
theorem qa_cons {e : Expr} {es : List Expr} {ma : ME} {mr : MA} (h : PE X e (rdE c E ma)) (t : PA X es (rdA c E mr)) (he : starEach (e :: es) X.env = (false, eval e X.env) :: starEach es X.env := by rfl) : PA X (e :: es) (rdA c E (mCons ma mr)) :=
  PA.imp (pa_cons h t he) fun σ H Q ⟨m, S, g, s, rg, q⟩ => seqAE s rg q fun m1 S1 H1 d v a r q1 => seqAA a.sim (a.relG rg) q1 fun m2 S2 H2 l vs b rs q2 => q2 m2 H2 _ (Nxt.refl b.sim) (mk_cons (b.relD r) rs)
def mTup (a : MA) : ME := fun g => SM.bind (a g) fun l S => if l.length ≤ sizeLine then .ok (.tup l) S else .bad
def mLst (a : MA) : ME := fun g => SM.bind (a g) fun l S => if l.length ≤ sizeLine then .ok (.adr S.n) (S.alloc (.lst l)) else .bad
theorem po_if {m : Nat → Addr} {S : Sr} {H : Hp} {Q : VK} {p : Prop} [Decidable p] {r : R D} (h : PoE c E m S H Q (if p then r else .bad)) : p ∧ PoE c E m S H Q r := by
  by_cases hp : p
  · rw [if_pos hp] at h
    exact ⟨hp, h⟩
  · rw [if_neg hp] at h
    exact h.elim
/-- a new tuple, a new list handed on -/
theorem giveT {m : Nat → Addr} {S : Sr} {H : Hp} {Q : VK} {l : List D} {vs : List V} (s : Sim c m S H) (r : RelDs c m S.n H l vs) (q : PoE c E m S H Q (.ok (.tup l) S)) : ∀ p, H p = none → Q (.ref p) (upd H p (.tup vs)) := fun p hp => by
  have a := Nxt.fresh (o := .tup vs) s hp
  exact q m _ _ a (mk_tup upd_same (a.relDs r))
theorem giveO {m : Nat → Addr} {S : Sr} {H : Hp} {Q : VK} {x : MO} {o : HO} (s : Sim c m S H) (r : RelO c m S.n H x o) (q : PoE c E m S H Q (.ok (.adr S.n) (S.alloc x))) : ∀ p, H p = none → Q (.ref p) (upd H p o) := fun p hp => by
  have a := Nxt.alloc s hp r
  have e := mk_adr (c := c) (m := ext m S.n p) (n := S.n + 1) (H := upd H p o) (i := S.n) (Nat.lt_succ_self _)
  rw [ext_same] at e
  exact q _ _ _ a e
theorem qe_tup {es : List Expr} {k : Nat} {ma : MA} {pos : Pos} (h : PA X es (rdA c E ma)) : PE X (.Tuple es k pos) (rdE c E (mTup ma)) :=
  PE.imp (pe_tup h) fun σ H Q ⟨m, S, g, s, rg, q⟩ => seqEA s rg q fun m1 S1 H1 l vs a rs q1 => by
    obtain ⟨hl, q1⟩ := po_if q1
    exact ⟨by rw [← rs.length]; exact hl, giveT a.sim rs q1⟩
theorem qe_lst {es : List Expr} {ma : MA} {pos : Pos} (h : PA X es (rdA c E ma)) : PE X (.List es pos) (rdE c E (mLst ma)) :=
  PE.imp (pe_lst h) fun σ H Q ⟨m, S, g, s, rg, q⟩ => seqEA s rg q fun m1 S1 H1 l vs a rs q1 => by
    obtain ⟨hl, q1⟩ := po_if q1
    exact ⟨by rw [← rs.length]; exact hl, giveO (x := .lst l) a.sim ⟨vs, rfl, rs⟩ q1⟩
end
end Y

set_option Elab.async false
set_option linter.all false
set_option maxRecDepth 100000
set_option maxHeartbeats 1000000
/-! Y4: operations on values. -/
namespace Y
open PySem PySem.Spec PyProof.Rows L2
def okI (f : Int → Int → Int) (C : Int → Int → Bool) : D → D → SM D := fun x y S => match x, y with
  | .int i, .int j => if C i j = true then .ok (.int (f i j)) S else .bad
  | _, _ => .bad
def okB (f : Int → Int → Bool) : D → D → SM D := fun x y S => match x, y with
  | .int i, .int j => .ok (.bl (f i j)) S
  | _, _ => .bad
section
variable {c : Ct} {X : Cx}
theorem snd_okI {f : Int → Int → Int} {C : Int → Int → Bool} {P : Int → Int → Prop} (h : ∀ i j, C i j = true → P i j) : Snd2 c (rI P fun i j => .int (f i j)) (okI f C) := by
  intro E m S H Q x y v w s rx ry q
  cases x <;> first | exact (show False from q).elim | skip
  cases y <;> first | exact (show False from q).elim | skip
  obtain ⟨hc, q⟩ := po_if (c := c) (E := E) q
  exact ⟨_, _, rd_int rx, rd_int ry, h _ _ hc, q m H _ (Nxt.refl s) mk_int⟩
theorem snd_okI0 {f : Int → Int → Int} {C : Int → Int → Bool} : Snd2 c (rI0 fun i j => .int (f i j)) (okI f C) := by
  intro E m S H Q x y v w s rx ry q
  cases x <;> first | exact (show False from q).elim | skip
  cases y <;> first | exact (show False from q).elim | skip
  obtain ⟨hc, q⟩ := po_if (c := c) (E := E) q
  exact ⟨_, _, rd_int rx, rd_int ry, q m H _ (Nxt.refl s) mk_int⟩
theorem snd_okB {f : Int → Int → Bool} : Snd2 c (rI0 fun i j => .bl (f i j)) (okB f) := by
  intro E m S H Q x y v w s rx ry q
  cases x <;> first | exact (show False from q).elim | skip
  cases y <;> first | exact (show False from q).elim | skip
  exact ⟨_, _, rd_int rx, rd_int ry, q m H _ (Nxt.refl s) mk_bl⟩
/-- where the first falls, the second -/
def orF (f f' : D → D → SM D) : D → D → SM D := fun x y S => match f x y S with
  | .bad => f' x y S
  | r => r
theorem snd_or {r r' : R2} {f f' : D → D → SM D} (h : Snd2 c r f) (h' : Snd2 c r' f') : Snd2 c (fun x y H Q => r x y H Q ∨ r' x y H Q) (orF f f') := by
  intro E m S H Q x y v w s rx ry q
  unfold orF at q
  cases e : f x y S with
  | ok d S' =>
    rw [e] at q
    exact .inl (h E m S H Q x y v w s rx ry (by rw [e]; exact q))
  | exc p S' =>
    rw [e] at q
    exact .inl (h E m S H Q x y v w s rx ry (by rw [e]; exact q))
  | bad =>
    rw [e] at q
    exact .inr (h' E m S H Q x y v w s rx ry q)
theorem pure_okB {f : Int → Int → Bool} : Pure2 (okB f) := fun x y S => by
  cases x <;> cases y <;> first | exact .inr rfl | exact .inl ⟨_, rfl⟩
/-! ### + -/
def addS : D → D → SM D := fun x y S => match x, y with
  | .str a, .str b => if a.length + b.length ≤ sizeLine then .ok (.str (a ++ b)) S else .bad
  | _, _ => .bad
def catL : D → D → SM D := fun x y S => match x, y with
  | .adr i, .adr j => (match S.f i, S.f j with
    | some (.lst a), some (.lst b) => if a.length + b.length ≤ sizeLine then .ok (.adr S.n) (S.alloc (.lst (a ++ b))) else .bad
    | _, _ => .bad)
  | _, _ => .bad
def catT : D → D → SM D := fun x y S => match x, y with
  | .tup a, .tup b => if a ≠ [] ∧ a.length + b.length ≤ sizeLine then .ok (.tup (a ++ b)) S else .bad
  | _, _ => .bad
theorem snd_addS : Snd2 c (fun x y H Q => ∃ i j, x = .str i ∧ y = .str j ∧ i.length + j.length ≤ sizeLine ∧ Q (.str (i ++ j)) H) addS := by
  intro E m S H Q x y v w s rx ry q
  cases x <;> first | exact (show False from q).elim | skip
  cases y <;> first | exact (show False from q).elim | skip
  obtain ⟨hc, q⟩ := po_if (c := c) (E := E) q
  exact ⟨_, _, rd_str rx, rd_str ry, hc, q m H _ (Nxt.refl s) mk_str⟩
theorem snd_catL : Snd2 c rCat catL := by
  intro E m S H Q x y v w s rx ry q
  cases x <;> first | exact (show False from q).elim | skip
  cases y <;> first | exact (show False from q).elim | skip
  rename_i i j
  have q : PoE c E m S H Q (match S.f i, S.f j with
    | some (.lst a), some (.lst b) => if a.length + b.length ≤ sizeLine then .ok (.adr S.n) (S.alloc (.lst (a ++ b))) else .bad
    | _, _ => .bad) := q
  obtain ⟨rfl, hi⟩ := rd_adr rx
  obtain ⟨rfl, hj⟩ := rd_adr ry
  split at q
  · rename_i a b ea eb
    obtain ⟨hc, q⟩ := po_if q
    obtain ⟨va, h1, r1⟩ := s.lst ea
    obtain ⟨vb, h2, r2⟩ := s.lst eb
    exact ⟨m i, m j, va, vb, rfl, rfl, h1, h2, by rw [← r1.length, ← r2.length]; exact hc, giveO (x := .lst (a ++ b)) s ⟨va ++ vb, rfl, r1.append r2⟩ q⟩
  · exact q.elim
theorem snd_catT : Snd2 c (rCatT c.K) catT := by
  intro E m S H Q x y v w s rx ry q
  cases x <;> first | exact (show False from q).elim | skip
  cases y <;> first | exact (show False from q).elim | skip
  rename_i a b
  obtain ⟨⟨h0, hl⟩, q⟩ := po_if (c := c) (E := E) q
  obtain ⟨p, va, rfl, h1, r1⟩ := rd_tup rx
  obtain ⟨p', vb, rfl, h2, r2⟩ := rd_tup ry
  refine ⟨p, p', va, vb, rfl, rfl, .inl (.inl h1), .inl (.inl h2), fun z => ?_, by rw [← r1.length, ← r2.length]; exact hl, fun z => ?_, fun _ => giveT s (r1.append r2) q⟩
  · subst z
    exact h0 (List.eq_nil_of_length_eq_zero r1.length)
  · subst z
    have eb : b = [] := List.eq_nil_of_length_eq_zero r2.length
    subst eb
    rw [List.append_nil] at q
    exact q m H _ (Nxt.refl s) rx
def dAdd : D → D → SM D := orF (okI (fun i j => i + j) fun _ _ => true) (orF addS (orF catL catT))
abbrev rAddA (K : PySem.W.Frag) : R2 := fun x y H Q => (rI0 fun i j => .int (i + j)) x y H Q ∨ (fun x y H Q => (fun x y H Q => ∃ i j, x = .str i ∧ y = .str j ∧ i.length + j.length ≤ sizeLine ∧ Q (.str (i ++ j)) H) x y H Q ∨ (fun x y H Q => rCat x y H Q ∨ rCatT K x y H Q) x y H Q) x y H Q
theorem op_addA : OpR X (binaryOp .Add) (rAddA X.K) := OpR.or op_add (OpR.or op_add_str (OpR.or op_cat op_catT))
theorem snd_add : Snd2 c (rAddA c.K) dAdd := snd_or snd_okI0 (snd_or snd_addS (snd_or snd_catL snd_catT))
/-! ### - * // % ** << >> & | ^ -/
def dSub : D → D → SM D := okI (fun i j => i - j) fun _ _ => true
theorem snd_sub : Snd2 c (rI0 fun i j => .int (i - j)) dSub := snd_okI0
def mulB (i j : Int) : Bool := decide (-(2 ^ 64) < i ∧ i < 2 ^ 64) || decide (-(2 ^ 64) < j ∧ j < 2 ^ 64)
def repL : D → D → SM D := fun x y S => match x, y with
  | .adr i, .int k => (match S.f i with
    | some (.lst a) => if -(2 ^ 63) ≤ k ∧ k < 2 ^ 63 ∧ a.length * k.toNat ≤ sizeLine then .ok (.adr S.n) (S.alloc (.lst (List.replicate k.toNat a).flatten)) else .bad
    | _ => .bad)
  | _, _ => .bad
theorem snd_repL : Snd2 c rRep repL := by
  intro E m S H Q x y v w s rx ry q
  cases x <;> first | exact (show False from q).elim | skip
  cases y <;> first | exact (show False from q).elim | skip
  rename_i i k
  have q : PoE c E m S H Q (match S.f i with
    | some (.lst a) => if -(2 ^ 63) ≤ k ∧ k < 2 ^ 63 ∧ a.length * k.toNat ≤ sizeLine then .ok (.adr S.n) (S.alloc (.lst (List.replicate k.toNat a).flatten)) else .bad
    | _ => .bad) := q
  obtain ⟨rfl, hi⟩ := rd_adr rx
  split at q
  · rename_i a ea
    obtain ⟨⟨h1, h2, h3⟩, q⟩ := po_if q
    obtain ⟨va, e1, r1⟩ := s.lst ea
    exact ⟨m i, k, va, rfl, rd_int ry, e1, h1, h2, by rw [← r1.length]; exact h3, giveO (x := .lst (List.replicate k.toNat a).flatten) s ⟨_, rfl, r1.rep k.toNat⟩ q⟩
  · exact q.elim
def dMul : D → D → SM D := orF (okI (fun i j => i * j) mulB) repL
abbrev rMulA : R2 := fun x y H Q => (rI CMul fun i j => .int (i * j)) x y H Q ∨ rRep x y H Q
theorem op_mulA : OpR X (binaryOp .Mult) rMulA := OpR.or op_mul op_rep
theorem snd_mul : Snd2 c rMulA dMul := snd_or (snd_okI fun i j h => by
  unfold mulB at h
  rcases Bool.or_eq_true_iff.mp h with h | h
  · exact .inl (of_decide_eq_true h)
  · exact .inr (of_decide_eq_true h)) snd_repL
def dFdiv : D → D → SM D := okI (fun i j => i / j) fun _ j => decide (0 < j ∧ j < 1073741824)
theorem snd_fdiv : Snd2 c (rI CDiv fun i j => .int (i / j)) dFdiv := snd_okI fun i j h => (show 0 < j ∧ j < 1073741824 from of_decide_eq_true h)
def dMod : D → D → SM D := okI (fun i j => i % j) fun _ j => decide (0 < j)
theorem snd_mod : Snd2 c (rI (fun _ j => 0 < j) fun i j => .int (i % j)) dMod := snd_okI fun i j h => of_decide_eq_true h
def powB (i j : Int) : Bool := decide (0 ≤ j ∧ j ≤ 1000000 ∧ i.natAbs < 2 ^ 64)
def dPow : D → D → SM D := okI (fun i j => i ^ j.toNat) powB
theorem snd_pow : Snd2 c (rI CPow fun i j => .int (i ^ j.toNat)) dPow := snd_okI fun i j h => (show 0 ≤ j ∧ j ≤ 1000000 ∧ i.natAbs < 2 ^ 64 from of_decide_eq_true h)
def dShl : D → D → SM D := okI (fun i j => i * 2 ^ j.toNat) powB
theorem snd_shl : Snd2 c (rI CPow fun i j => .int (i * 2 ^ j.toNat)) dShl := snd_okI fun i j h => (show 0 ≤ j ∧ j ≤ 1000000 ∧ i.natAbs < 2 ^ 64 from of_decide_eq_true h)
def dShr : D → D → SM D := okI (fun i j => i / 2 ^ j.toNat) fun _ j => decide (0 ≤ j)
theorem snd_shr : Snd2 c (rI (fun _ j => 0 ≤ j) fun i j => .int (i / 2 ^ j.toNat)) dShr := snd_okI fun i j h => of_decide_eq_true h
def dAnd : D → D → SM D := okI Builtin.bitAnd fun _ _ => true
def dOr : D → D → SM D := okI Builtin.bitOr fun _ _ => true
def dXor : D → D → SM D := okI Builtin.bitXor fun _ _ => true
theorem snd_and : Snd2 c (rI0 fun i j => .int (Builtin.bitAnd i j)) dAnd := snd_okI0
theorem snd_bor : Snd2 c (rI0 fun i j => .int (Builtin.bitOr i j)) dOr := snd_okI0
theorem snd_xor : Snd2 c (rI0 fun i j => .int (Builtin.bitXor i j)) dXor := snd_okI0
def dNeg : D → SM D := fun x S => match x with
  | .int i => .ok (.int (-i)) S
  | _ => .bad
theorem snd_neg : Snd1 c (rU fun i => .int (-i)) dNeg := by
  intro E m S H Q x v s rx q
  cases x <;> first | exact (show False from q).elim | skip
  exact ⟨_, rd_int rx, q m H _ (Nxt.refl s) mk_int⟩
/-! ### < <= > >= -/
def dLt : D → D → SM D := okB fun i j => decide (i < j)
def dLe : D → D → SM D := okB fun i j => decide (i ≤ j)
def dGt : D → D → SM D := okB fun i j => decide (j < i)
def dGe : D → D → SM D := okB fun i j => decide (j ≤ i)
theorem snd_lt : Snd2 c (rI0 fun i j => .bl (decide (i < j))) dLt := snd_okB
theorem snd_le : Snd2 c (rI0 fun i j => .bl (decide (i ≤ j))) dLe := snd_okB
theorem snd_gt : Snd2 c (rI0 fun i j => .bl (decide (j < i))) dGt := snd_okB
theorem snd_ge : Snd2 c (rI0 fun i j => .bl (decide (j ≤ i))) dGe := snd_okB
/-! ### == -/
def mapO {α β : Type} (f : α → Option β) : List α → Option (List β)
  | [] => some []
  | d :: l => (match f d, mapO f l with
    | some a, some b => some (a :: b)
    | _, _ => none)
/-- what is compared: the lists in it read off the store, to a depth -/
def toPy (S : Sr) : Nat → D → Option PyData
  | 0, d => (match d with
    | .non => some .none
    | .bl b => some (.bool b)
    | .int i => some (.int i)
    | .str x => some (.str x)
    | _ => none)
  | k + 1, d => (match d with
    | .non => some .none
    | .bl b => some (.bool b)
    | .int i => some (.int i)
    | .str x => some (.str x)
    | .tup l => (mapO (toPy S k) l).map .tuple
    | .ktp l => (mapO (toPy S k) l).map .tuple
    | .fro l => (mapO (toPy S k) l).map .list
    | .adr i => (match S.f i with
      | some (.lst l) => (mapO (toPy S k) l).map .list
      | _ => none))
theorem dpAll_of {m : Nat → Addr} {n : Nat} {H : Hp} {f : D → Option PyData} (h : ∀ d v p, RelD c m n H d v → f d = some p → Dp c.K H v p) : ∀ {l : List D} {vs : List V} {ps : List PyData}, RelDs c m n H l vs → mapO f l = some ps → DpAll c.K H vs ps
  | [], _, _, r, e => by
    rw [rd_nil r]
    cases e
    exact .nil
  | d :: l, _, _, r, e => by
    obtain ⟨v, w, e1, r1, r2⟩ := rd_cons r
    rw [e1]
    unfold mapO at e
    split at e
    · rename_i a b ea eb
      cases e
      exact .cons (h d v a r1 ea) (dpAll_of h r2 eb)
    · cases e
theorem dp_of {m : Nat → Addr} {S : Sr} {H : Hp} (s : Sim c m S H) : ∀ (k : Nat) (d : D) (v : V) (p : PyData), RelD c m S.n H d v → toPy S k d = some p → Dp c.K H v p
  | 0, d, v, p, r, e => by
    cases d with
    | non => cases e; rw [rd_non r]; exact .non
    | bl b => cases e; rw [rd_bl r]; exact .bl b
    | int i => cases e; rw [rd_int r]; exact .int i
    | str x => cases e; rw [rd_str r]; exact .str x
    | _ => cases e
  | k + 1, d, v, p, r, e => by
    have ih := dp_of s k
    cases d with
    | non => cases e; rw [rd_non r]; exact .non
    | bl b => cases e; rw [rd_bl r]; exact .bl b
    | int i => cases e; rw [rd_int r]; exact .int i
    | str x => cases e; rw [rd_str r]; exact .str x
    | tup l =>
      obtain ⟨a, vs, rfl, h, rs⟩ := rd_tup r
      have e : (mapO (toPy S k) l).map PyData.tuple = some p := e
      obtain ⟨ps, e1, rfl⟩ := Option.map_eq_some_iff.mp e
      exact .tup (.inl (.inl h)) (dpAll_of ih rs e1)
    | ktp l =>
      obtain ⟨a, vs, rfl, h, rs⟩ := rd_ktp r
      have e : (mapO (toPy S k) l).map PyData.tuple = some p := e
      obtain ⟨ps, e1, rfl⟩ := Option.map_eq_some_iff.mp e
      exact .tup h.sq (dpAll_of ih rs e1)
    | fro l =>
      obtain ⟨a, vs, rfl, h, rs⟩ := rd_fro r
      have e : (mapO (toPy S k) l).map PyData.list = some p := e
      obtain ⟨ps, e1, rfl⟩ := Option.map_eq_some_iff.mp e
      exact .lst h.sq (dpAll_of ih rs e1)
    | adr i =>
      obtain ⟨rfl, hi⟩ := rd_adr r
      have e : (match S.f i with
        | some (.lst l) => (mapO (toPy S k) l).map .list
        | _ => none) = some p := e
      split at e
      · rename_i l el
        obtain ⟨vs, h, rs⟩ := s.lst el
        obtain ⟨ps, e1, rfl⟩ := Option.map_eq_some_iff.mp e
        exact .lst (.inl (.inl h)) (dpAll_of ih rs e1)
      · cases e
def eqD (neg : Bool) : D → D → SM D := fun x y S => match toPy S 9 x, toPy S 9 y with
  | some a, some b => if SeqAt.shaped a = true ∧ SeqAt.shaped b = true then .ok (.bl (if neg = true then !PyData.eqv a b else PyData.eqv a b)) S else .bad
  | _, _ => .bad
def dEq : D → D → SM D := eqD false
def dNe : D → D → SM D := eqD true
theorem snd_eq : Snd2 c (rEqD c.K) dEq := by
  intro E m S H Q x y v w s rx ry q
  unfold dEq eqD at q
  split at q
  · rename_i a b ea eb
    obtain ⟨⟨h1, h2⟩, q⟩ := po_if q
    exact ⟨a, b, dp_of s 9 x v a rx ea, dp_of s 9 y w b ry eb, h1, h2, q m H _ (Nxt.refl s) mk_bl⟩
  · exact q.elim
theorem snd_ne : Snd2 c (rNeD c.K) dNe := by
  intro E m S H Q x y v w s rx ry q
  unfold dNe eqD at q
  split at q
  · rename_i a b ea eb
    obtain ⟨⟨h1, h2⟩, q⟩ := po_if q
    exact ⟨a, b, dp_of s 9 x v a rx ea, dp_of s 9 y w b ry eb, h1, h2, q m H _ (Nxt.refl s) mk_bl⟩
  · exact q.elim
/-! ### is -/
def dIs (neg : Bool) : D → D → SM D := fun x y S => match x, y with
  | .bl a, .bl b => .ok (.bl (if neg = true then !decide (a = b) else decide (a = b))) S
  | .non, .non => .ok (.bl (!neg)) S
  | _, .non => .ok (.bl neg) S
  | _, _ => .bad
abbrev rIsA : R2 := fun x y H Q => (fun x y H Q => y = .non ∧ Q (.bl (decide (x = .non))) H) x y H Q ∨ rIsB x y H Q
abbrev rNotA : R2 := fun x y H Q => (fun x y H Q => y = .non ∧ Q (.bl (!decide (x = .non))) H) x y H Q ∨ rNotB x y H Q
theorem op_isA : OpR X (compareOp .Is) rIsA := OpR.or op_isN op_isBl
theorem op_notA : OpR X (compareOp .IsNot) rNotA := OpR.or op_notN op_notBl
theorem rd_notnon {m : Nat → Addr} {n : Nat} {H : Hp} {x : D} {v : V} (r : RelD c m n H x v) (hx : x ≠ .non) : decide (v = .non) = false := by
  apply decide_eq_false
  intro z
  subst z
  cases x with
  | non => exact hx rfl
  | bl b => cases rd_bl r
  | int i => cases rd_int r
  | str i => cases rd_str r
  | tup l => obtain ⟨a, vs, e, _⟩ := rd_tup r; cases e
  | ktp l => obtain ⟨a, vs, e, _⟩ := rd_ktp r; cases e
  | fro l => obtain ⟨a, vs, e, _⟩ := rd_fro r; cases e
  | adr i => cases (rd_adr r).1
theorem snd_is : Snd2 c rIsA (dIs false) := by
  intro E m S H Q x y v w s rx ry q
  cases y <;> (try (cases x <;> exact (show False from q).elim))
  · have e := rd_non ry
    cases x
    · have e2 := rd_non rx
      subst e2
      exact .inl ⟨e, q m H _ (Nxt.refl s) mk_bl⟩
    all_goals (refine .inl ⟨e, ?_⟩; rw [rd_notnon rx (fun z => nomatch z)]; exact q m H _ (Nxt.refl s) mk_bl)
  · cases x <;> first | exact (show False from q).elim | skip
    exact .inr ⟨_, _, rd_bl rx, rd_bl ry, q m H _ (Nxt.refl s) mk_bl⟩
theorem snd_isnot : Snd2 c rNotA (dIs true) := by
  intro E m S H Q x y v w s rx ry q
  cases y <;> (try (cases x <;> exact (show False from q).elim))
  · have e := rd_non ry
    cases x
    · have e2 := rd_non rx
      subst e2
      exact .inl ⟨e, q m H _ (Nxt.refl s) mk_bl⟩
    all_goals (refine .inl ⟨e, ?_⟩; rw [rd_notnon rx (fun z => nomatch z)]; exact q m H _ (Nxt.refl s) mk_bl)
  · cases x <;> first | exact (show False from q).elim | skip
    exact .inr ⟨_, _, rd_bl rx, rd_bl ry, q m H _ (Nxt.refl s) mk_bl⟩
end
end Y

set_option Elab.async false
set_option linter.all false
set_option maxRecDepth 100000
set_option maxHeartbeats 1000000
/-! Y5: in, dicts, places, slices, calls of built-ins. -/
namespace Y
open PySem PySem.Spec PyProof.Rows L2
/-! ### flat values, keys -/
def flatD : D → Option V
  | .non => some .non
  | .bl b => some (.bl b)
  | .int i => some (.int i)
  | .str x => some (.str x)
  | _ => none
def keyD : D → Option Key
  | .int i => some (.inl i)
  | .str x => some (.inr x)
  | _ => none
def lookD {κ : Type} [DecidableEq κ] (l : List (κ × D)) (k : κ) : Option D := (l.find? fun q => decide (q.1 = k)).map (·.2)
def putD {κ : Type} [DecidableEq κ] (l : List (κ × D)) (k : κ) (v : D) : List (κ × D) :=
  if (l.any fun q => decide (q.1 = k)) = true then l.map (fun q => if q.1 = k then (q.1, v) else q) else l ++ [(k, v)]
def dropD {κ : Type} [DecidableEq κ] (l : List (κ × D)) (k : κ) : List (κ × D) := l.filter fun q => decide (q.1 ≠ k)
section
variable {c : Ct} {m : Nat → Addr} {n : Nat} {H : Hp}
theorem flat_of {d : D} {v w : V} (r : RelD c m n H d v) (e : flatD d = some w) : v = w ∧ flatV v = true := by
  cases d <;> cases e
  · rw [rd_non r]; exact ⟨rfl, rfl⟩
  · rw [rd_bl r]; exact ⟨rfl, rfl⟩
  · rw [rd_int r]; exact ⟨rfl, rfl⟩
  · rw [rd_str r]; exact ⟨rfl, rfl⟩
theorem flats_of : ∀ {l : List D} {vs ws : List V}, RelDs c m n H l vs → mapO flatD l = some ws → vs = ws ∧ vs.all flatV = true
  | [], _, _, r, e => by cases e; rw [rd_nil r]; exact ⟨rfl, rfl⟩
  | d :: l, _, _, r, e => by
    obtain ⟨v, w, e1, r1, r2⟩ := rd_cons r
    unfold mapO at e
    split at e
    · rename_i a b ea eb
      cases e
      obtain ⟨h1, h2⟩ := flat_of r1 ea
      obtain ⟨h3, h4⟩ := flats_of r2 eb
      rw [e1, List.all_cons, h2, h4, h1, h3]
      exact ⟨rfl, rfl⟩
    · cases e
theorem key_of {d : D} {v : V} {k : Key} (r : RelD c m n H d v) (e : keyD d = some k) : v = kV k := by
  cases d <;> cases e
  · exact rd_int r
  · exact rd_str r
theorem keys_of : ∀ {l : List D} {vs : List V} {ks : List Key}, RelDs c m n H l vs → mapO keyD l = some ks → vs = ks.map kV
  | [], _, _, r, e => by cases e; exact rd_nil r
  | d :: l, _, _, r, e => by
    obtain ⟨v, w, e1, r1, r2⟩ := rd_cons r
    unfold mapO at e
    split at e
    · rename_i a b ea eb
      cases e
      rw [e1, key_of r1 ea, keys_of r2 eb] <;> rfl
    · cases e
section
variable {κ : Type} [DecidableEq κ]
theorem rk_cons {p : κ × D} {l : List (κ × D)} {vs : List (κ × V)} (h : RelK c m n H (p :: l) vs) : ∃ v r, vs = (p.1, v) :: r ∧ RelD c m n H p.2 v ∧ RelK c m n H l r := by unfold RelK at h; exact h
theorem rk_nil {vs : List (κ × V)} (h : RelK c m n H ([] : List (κ × D)) vs) : vs = [] := by unfold RelK at h; exact h
theorem mkk_nil : RelK c m n H ([] : List (κ × D)) [] := by unfold RelK; rfl
theorem mkk_cons {p : κ × D} {l : List (κ × D)} {v : V} {vs : List (κ × V)} (h : RelD c m n H p.2 v) (r : RelK c m n H l vs) : RelK c m n H (p :: l) ((p.1, v) :: vs) := by unfold RelK; exact ⟨v, vs, rfl, h, r⟩
theorem RelK.length : ∀ {l : List (κ × D)} {vs : List (κ × V)}, RelK c m n H l vs → l.length = vs.length
  | [], _, h => by rw [rk_nil h] <;> rfl
  | d :: l, _, h => by
    obtain ⟨v, r, e, _, h2⟩ := rk_cons h
    rw [e, List.length_cons, List.length_cons, RelK.length h2]
theorem RelK.look (k : κ) : ∀ {l : List (κ × D)} {vs : List (κ × V)}, RelK c m n H l vs → (lookD l k = none ∧ valV vs k = none) ∨ ∃ d v, lookD l k = some d ∧ valV vs k = some v ∧ RelD c m n H d v
  | [], _, h => by rw [rk_nil h]; exact .inl ⟨rfl, rfl⟩
  | p :: l, _, h => by
    obtain ⟨v, r, e, h1, h2⟩ := rk_cons h
    rw [e]
    by_cases q : p.1 = k
    · refine .inr ⟨p.2, v, ?_, ?_, h1⟩
      · unfold lookD
        rw [List.find?_cons, decide_eq_true q] <;> rfl
      · exact valV_pos (p := (p.1, v)) q
    · have e1 : lookD (p :: l) k = lookD l k := by
        unfold lookD
        rw [List.find?_cons, decide_eq_false q]
      rw [e1, valV_neg (p := (p.1, v)) q]
      exact RelK.look k h2
theorem RelK.any (k : κ) : ∀ {l : List (κ × D)} {vs : List (κ × V)}, RelK c m n H l vs → (l.any fun q => decide (q.1 = k)) = (vs.any fun q => decide (q.1 = k))
  | [], _, h => by rw [rk_nil h] <;> rfl
  | p :: l, _, h => by
    obtain ⟨v, r, e, h1, h2⟩ := rk_cons h
    rw [e, List.any_cons, List.any_cons, RelK.any k h2]
theorem RelK.mapPut (k : κ) {d : D} {w : V} (hd : RelD c m n H d w) : ∀ {l : List (κ × D)} {vs : List (κ × V)}, RelK c m n H l vs → RelK c m n H (l.map fun q => if q.1 = k then (q.1, d) else q) (vs.map fun q => if q.1 = k then (q.1, w) else q)
  | [], _, h => by rw [rk_nil h]; exact mkk_nil
  | p :: l, _, h => by
    obtain ⟨v, r, e, h1, h2⟩ := rk_cons h
    rw [e, List.map_cons, List.map_cons]
    by_cases q : p.1 = k
    · rw [if_pos q, if_pos q]
      exact mkk_cons (p := (p.1, d)) hd (RelK.mapPut k hd h2)
    · rw [if_neg q, if_neg q]
      exact mkk_cons h1 (RelK.mapPut k hd h2)
theorem RelK.append : ∀ {l l' : List (κ × D)} {vs ws : List (κ × V)}, RelK c m n H l vs → RelK c m n H l' ws → RelK c m n H (l ++ l') (vs ++ ws)
  | [], _, _, _, h, q => by rw [rk_nil h]; exact q
  | p :: l, _, _, _, h, q => by
    obtain ⟨v, r, e, h1, h2⟩ := rk_cons h
    rw [e]
    exact mkk_cons h1 (RelK.append h2 q)
theorem RelK.put (k : κ) {d : D} {w : V} {l : List (κ × D)} {vs : List (κ × V)} (hd : RelD c m n H d w) (h : RelK c m n H l vs) : RelK c m n H (putD l k d) (putK vs k w) := by
  unfold putD putK
  rw [RelK.any k h]
  split
  · exact RelK.mapPut k hd h
  · exact RelK.append h (mkk_cons (p := (k, d)) hd mkk_nil)
theorem RelK.drop (k : κ) : ∀ {l : List (κ × D)} {vs : List (κ × V)}, RelK c m n H l vs → RelK c m n H (dropD l k) (dropK vs k)
  | [], _, h => by rw [rk_nil h]; exact mkk_nil
  | p :: l, _, h => by
    obtain ⟨v, r, e, h1, h2⟩ := rk_cons h
    have ih := RelK.drop k h2
    unfold dropD dropK at ih ⊢
    rw [e, List.filter_cons, List.filter_cons]
    by_cases q : p.1 = k
    · rw [decide_eq_false (fun z => z q), if_neg Bool.false_ne_true, if_neg Bool.false_ne_true]
      exact ih
    · rw [decide_eq_true q, if_pos rfl, if_pos rfl]
      exact mkk_cons h1 ih
end
end
/-! ### in -/
def itemsD (S : Sr) : D → Option (List D)
  | .tup l => some l
  | .ktp l => some l
  | .fro l => some l
  | .adr i => (match S.f i with
    | some (.lst l) => some l
    | _ => none)
  | _ => none
theorem items_of {c : Ct} {m : Nat → Addr} {S : Sr} {H : Hp} {d : D} {v : V} {l : List D} (s : Sim c m S H) (r : RelD c m S.n H d v) (e : itemsD S d = some l) : ∃ a vs, v = .ref a ∧ (SqL c.K H a vs ∨ SqT c.K H a vs) ∧ RelDs c m S.n H l vs := by
  cases d with
  | tup k =>
    cases e
    obtain ⟨a, vs, rfl, h, rs⟩ := rd_tup r
    exact ⟨a, vs, rfl, .inr (.inl (.inl h)), rs⟩
  | ktp k =>
    cases e
    obtain ⟨a, vs, rfl, h, rs⟩ := rd_ktp r
    exact ⟨a, vs, rfl, .inr h.sq, rs⟩
  | fro k =>
    cases e
    obtain ⟨a, vs, rfl, h, rs⟩ := rd_fro r
    exact ⟨a, vs, rfl, .inl h.sq, rs⟩
  | adr i =>
    obtain ⟨rfl, hi⟩ := rd_adr r
    have e : (match S.f i with
      | some (.lst l) => some l
      | _ => none) = some l := e
    split at e
    · rename_i k ek
      cases e
      obtain ⟨vs, h, rs⟩ := s.lst ek
      exact ⟨_, vs, rfl, .inl (.inl (.inl h)), rs⟩
    · cases e
  | _ => cases e
def inSeq (neg : Bool) : D → D → SM D := fun x y S => match itemsD S y with
  | some l => (match flatD x, mapO flatD l with
    | some v, some vs => .ok (.bl (if neg = true then !inV v vs else inV v vs)) S
    | _, _ => .bad)
  | none => .bad
def inTxt (neg : Bool) : D → D → SM D := fun x y S => match x, y with
  | .str i, .str j => .ok (.bl (if neg = true then !(!(Builtin.Str.occurrences j i 0 j.length 1).isEmpty) else !(Builtin.Str.occurrences j i 0 j.length 1).isEmpty)) S
  | _, _ => .bad
/-- what a dict has at a key -/
def dicAt (S : Sr) (d k : D) : Option (Option D) := match d with
  | .adr i => (match S.f i with
    | some (.dic l) => (keyD k).map fun k => lookD l k
    | some (.dit l) => (match k with
      | .tup ks => (mapO keyD ks).map fun k => lookD l k
      | _ => none)
    | _ => none)
  | _ => none
theorem dicAt_of {c : Ct} {m : Nat → Addr} {S : Sr} {H : Hp} {d k : D} {v w : V} {o : Option D} (s : Sim c m S H) (r : RelD c m S.n H d v) (rk : RelD c m S.n H k w) (e : dicAt S d k = some o) :
    ∃ a u, v = .ref a ∧ DGet H a w u ∧ ((o = none ∧ u = none) ∨ ∃ x y, o = some x ∧ u = some y ∧ RelD c m S.n H x y) := by
  cases d <;> try cases e
  rename_i i
  obtain ⟨rfl, hi⟩ := rd_adr r
  unfold dicAt at e
  dsimp only at e
  split at e
  · rename_i l el
    obtain ⟨q, eq, rfl⟩ := Option.map_eq_some_iff.mp e
    obtain ⟨vs, h, rs⟩ := s.dic el
    have ew := key_of rk eq
    subst ew
    refine ⟨_, _, rfl, DGet.k h, ?_⟩
    rcases rs.look q with ⟨e1, e2⟩ | ⟨x, y, e1, e2, e3⟩
    · exact .inl ⟨e1, e2⟩
    · exact .inr ⟨x, y, e1, e2, e3⟩
  · rename_i l el
    split at e
    · rename_i ks
      obtain ⟨q, eq, rfl⟩ := Option.map_eq_some_iff.mp e
      obtain ⟨vs, h, rs⟩ := s.dit el
      obtain ⟨b, ws, rfl, hb, rb⟩ := rd_tup rk
      have ew := keys_of rb eq
      subst ew
      refine ⟨_, _, rfl, DGet.t h hb, ?_⟩
      rcases rs.look q with ⟨e1, e2⟩ | ⟨x, y, e1, e2, e3⟩
      · exact .inl ⟨e1, e2⟩
      · exact .inr ⟨x, y, e1, e2, e3⟩
    · cases e
  · cases e
def inDic (neg : Bool) : D → D → SM D := fun x y S => match dicAt S y x with
  | some o => .ok (.bl (if neg = true then !o.isSome else o.isSome)) S
  | none => .bad
def rInD (neg : Bool) : R2 := fun y x H Q => ∃ a o, x = .ref a ∧ DGet H a y o ∧ Q (.bl (if neg = true then !o.isSome else o.isSome)) H
def rInT (neg : Bool) : R2 := fun x y H Q => ∃ i j, x = .str i ∧ y = .str j ∧ Q (.bl (if neg = true then !(!(Builtin.Str.occurrences j i 0 j.length 1).isEmpty) else !(Builtin.Str.occurrences j i 0 j.length 1).isEmpty)) H
section
variable {c : Ct} {X : Cx}
theorem snd_inSeq {neg : Bool} : Snd2 c (rIn c.K neg) (inSeq neg) := by
  intro E m S H Q x y v w s rx ry q
  unfold inSeq at q
  split at q
  · rename_i l el
    split at q
    · rename_i xv vs e1 e2
      obtain ⟨a, ws, rfl, hq, rs⟩ := items_of s ry el
      obtain ⟨rfl, hf⟩ := flat_of rx e1
      obtain ⟨rfl, hfs⟩ := flats_of rs e2
      refine ⟨a, ws, rfl, hq, hf, hfs, ?_⟩
      exact q m H _ (Nxt.refl s) mk_bl
    · exact q.elim
  · exact q.elim
theorem snd_inTxt {neg : Bool} : Snd2 c (rInT neg) (inTxt neg) := by
  intro E m S H Q x y v w s rx ry q
  cases x <;> first | exact (show False from q).elim | skip
  cases y <;> first | exact (show False from q).elim | skip
  exact ⟨_, _, rd_str rx, rd_str ry, q m H _ (Nxt.refl s) mk_bl⟩
theorem snd_inDic {neg : Bool} : Snd2 c (rInD neg) (inDic neg) := by
  intro E m S H Q x y v w s rx ry q
  unfold inDic at q
  split at q
  · rename_i o eo
    obtain ⟨a, u, rfl, g, h⟩ := dicAt_of s ry rx eo
    have e : o.isSome = u.isSome := by
      rcases h with ⟨e1, e2⟩ | ⟨_, _, e1, e2, _⟩ <;> rw [e1, e2] <;> rfl
    rw [e] at q
    exact ⟨a, u, rfl, g, q m H _ (Nxt.refl s) mk_bl⟩
  · exact q.elim
theorem op_inD (hu : X.A.units + 1 < cLine) : OpR X (compareOp .In) (rInD false) := by
  intro pins s σ H x y v u Q I rx ry h
  obtain ⟨a, o, rfl, g, q⟩ := h
  obtain rfl : u = Value.ref a := ry
  exact d_in hu I g rx fun s3 I3 => ⟨.bl o.isSome, H, I3, rfl, q⟩
theorem op_notinD (hu : X.A.units + 1 < cLine) : OpR X (compareOp .NotIn) (rInD true) := by
  intro pins s σ H x y v u Q I rx ry h
  obtain ⟨a, o, rfl, g, q⟩ := h
  obtain rfl : u = Value.ref a := ry
  exact d_notIn hu I g rx fun s3 I3 => ⟨.bl (!o.isSome), H, I3, rfl, q⟩
theorem op_inT : OpR X (compareOp .In) (rInT false) := op_in_str
theorem op_notinT : OpR X (compareOp .NotIn) (rInT true) := op_notin_str
abbrev rInA (K : PySem.W.Frag) (neg : Bool) : R2 := fun x y H Q => rIn K neg x y H Q ∨ (fun x y H Q => rInT neg x y H Q ∨ rInD neg x y H Q) x y H Q
def dIn (neg : Bool) : D → D → SM D := orF (inSeq neg) (orF (inTxt neg) (inDic neg))
theorem op_inA (hu : X.A.units + 1 < cLine) : OpR X (compareOp .In) (rInA X.K false) := OpR.or op_in_seq (OpR.or op_inT (op_inD hu))
theorem op_notinA (hu : X.A.units + 1 < cLine) : OpR X (compareOp .NotIn) (rInA X.K true) := OpR.or op_notIn_seq (OpR.or op_notinT (op_notinD hu))
theorem snd_in {neg : Bool} : Snd2 c (rInA c.K neg) (dIn neg) := snd_or snd_inSeq (snd_or snd_inTxt snd_inDic)
/-! ### places -/
def ixSeq : D → D → SM D := fun x y S => match itemsD S x, y with
  | some l, .int i => (match atI l i with
    | some d => .ok d S
    | none => .bad)
  | _, _ => .bad
def ixTxt : D → D → SM D := fun x y S => match x, y with
  | .str z, .int i => if z.length ≤ sizeLine then (match atI z.cps.toList i with
    | some ch => .ok (.str ⟨#[ch]⟩) S
    | none => .bad) else .bad
  | _, _ => .bad
def ixDic : D → D → SM D := fun x y S => match dicAt S x y with
  | some (some d) => .ok d S
  | _ => .bad
def rIxD : R2 := fun x y H Q => ∃ a v, x = .ref a ∧ DGet H a y (some v) ∧ Q v H
theorem ix_dic (hu : X.A.units + 1 < cLine) : IxR X rIxD := by
  intro value slice pins s σ H x y v u Q I rx ry h hs
  obtain ⟨a, z, rfl, g, q⟩ := h
  obtain rfl : v = Value.ref a := rx
  exact tail_any (dict_typeIs I g) PySem.F.slot_dict_getitem.lookup (d_getItem hu I g ry fun w' s3 I3 rw' => ⟨z, H, I3, rw', q⟩) hs
theorem atI_rel {m : Nat → Addr} {n : Nat} {H : Hp} {l : List D} {vs : List V} {i : Int} {d : D} (r : RelDs c m n H l vs) (e : atI l i = some d) : ∃ v, atI vs i = some v ∧ RelD c m n H d v := by
  unfold atI at e ⊢
  rw [← r.length]
  cases q : ixN l.length i with
  | none => rw [q] at e; cases e
  | some j =>
    rw [q] at e
    exact r.get e
theorem snd_ixSeq : Snd2 c (fun x y H Q => rIxL c.K x y H Q ∨ rIxT c.K x y H Q) ixSeq := by
  intro E m S H Q x y v w s rx ry q
  unfold ixSeq at q
  split at q
  · rename_i l i el
    split at q
    · rename_i d ed
      obtain ⟨a, vs, rfl, hq, rs⟩ := items_of s rx el
      obtain ⟨u, eu, ru⟩ := atI_rel rs ed
      have fin := q m H u (Nxt.refl s) ru
      rcases hq with hq | hq
      · exact .inl ⟨a, vs, i, u, rfl, rd_int ry, hq, eu, fin⟩
      · exact .inr ⟨a, vs, i, u, rfl, rd_int ry, hq, eu, fin⟩
    · exact q.elim
  · exact q.elim
theorem snd_ixTxt : Snd2 c rIxS ixTxt := by
  intro E m S H Q x y v w s rx ry q
  cases x <;> first | exact (show False from q).elim | skip
  cases y <;> first | exact (show False from q).elim | skip
  obtain ⟨hz, q⟩ := po_if (c := c) (E := E) q
  split at q
  · rename_i ch ec
    exact ⟨_, _, ch, rd_str rx, rd_int ry, hz, ec, q m H _ (Nxt.refl s) mk_str⟩
  · exact q.elim
theorem snd_ixDic : Snd2 c rIxD ixDic := by
  intro E m S H Q x y v w s rx ry q
  unfold ixDic at q
  split at q
  · rename_i d ed
    obtain ⟨a, u, rfl, g, h⟩ := dicAt_of s rx ry ed
    rcases h with ⟨e1, _⟩ | ⟨d', y', e1, e2, e3⟩
    · cases e1
    · cases e1
      subst e2
      exact ⟨a, y', rfl, g, q m H _ (Nxt.refl s) e3⟩
  · exact q.elim
def dIx : D → D → SM D := orF ixSeq (orF ixTxt ixDic)
abbrev rIxA (K : PySem.W.Frag) : R2 := fun x y H Q => (fun x y H Q => rIxL K x y H Q ∨ rIxT K x y H Q) x y H Q ∨ (fun x y H Q => rIxS x y H Q ∨ rIxD x y H Q) x y H Q
theorem ix_A (hu : X.A.units + 1 < cLine) : IxR X (rIxA X.K) := IxR.or (IxR.or ix_list ix_tup) (IxR.or ix_str (ix_dic hu))
theorem snd_ix : Snd2 c (rIxA c.K) dIx := snd_or snd_ixSeq (snd_or snd_ixTxt snd_ixDic)
/-! ### stores to places -/
def putSeq : D → D → D → Sr → Option Sr := fun o i v S => match o, i with
  | .adr a, .int k => (match S.f a with
    | some (.lst l) => (ixN l.length k).map fun j => S.put a (.lst (l.set j v))
    | _ => none)
  | _, _ => none
def putDic : D → D → D → Sr → Option Sr := fun o i v S => match o with
  | .adr a => (match S.f a with
    | some (.dic l) => if l.length < sizeLine then (keyD i).map fun k => S.put a (.dic (putD l k v)) else none
    | some (.dit l) => if l.length < sizeLine then (match i with
      | .tup ks => (mapO keyD ks).map fun k => S.put a (.dit (putD l k v))
      | _ => none) else none
    | _ => none)
  | _ => none
def putAt : D → D → D → Sr → Option Sr := fun o i v S => match putSeq o i v S with
  | some S' => some S'
  | none => putDic o i v S
def rSetD : TSet := fun o i v H Q => ∃ a H', o = .ref a ∧ DPut H a i v H' ∧ Q H'
theorem set_dic (hu : X.A.units + 1 < cLine) : PSet X rSetD := by
  intro pins s σ H o i v ov iv u Q I ro ri rv h
  obtain ⟨a, H', rfl, g, q⟩ := h
  obtain rfl : ov = Value.ref a := ro
  exact d_setItem hu I g ri rv fun s4 I4 => ⟨H', I4, q⟩
def rSetA : TSet := fun o i v H Q => rSetL o i v H Q ∨ rSetD o i v H Q
theorem set_A (hu : X.A.units + 1 < cLine) : PSet X rSetA := by
  intro pins s σ H o i v ov iv u Q I ro ri rv h
  rcases h with h | h
  · exact set_list pins s σ H o i v ov iv u Q I ro ri rv h
  · exact set_dic hu pins s σ H o i v ov iv u Q I ro ri rv h
theorem setA_of {m : Nat → Addr} {S S' : Sr} {H : Hp} {o i v : D} {ov iv w : V} {Q : Hp → Prop} (s : Sim c m S H) (ro : RelD c m S.n H o ov) (ri : RelD c m S.n H i iv) (rv : RelD c m S.n H v w) (e : putAt o i v S = some S')
    (q : ∀ H', Nxt c m S H m S' H' → Q H') : rSetA ov iv w H Q := by
  unfold putAt at e
  cases e1 : putSeq o i v S with
  | some S1 =>
    rw [e1] at e
    have e : S1 = S' := Option.some.inj e
    subst e
    left
    cases o <;> try cases e1
    cases i <;> try cases e1
    rename_i a k
    obtain ⟨rfl, ha⟩ := rd_adr ro
    have e1 : (match S.f a with
      | some (.lst l) => (ixN l.length k).map fun j => S.put a (.lst (l.set j v))
      | _ => none) = some S1 := e1
    split at e1
    · rename_i l el
      obtain ⟨j, ej, rfl⟩ := Option.map_eq_some_iff.mp e1
      obtain ⟨vs, h, rs⟩ := s.lst el
      exact ⟨m a, vs, k, j, rfl, rd_int ri, h, by rw [← rs.length]; exact ej, q _ (Nxt.put (x := .lst (l.set j v)) s el ⟨_, rfl, rs.set j rv⟩)⟩
    · cases e1
  | none =>
    rw [e1] at e
    have e2 : putDic o i v S = some S' := e
    clear e e1
    right
    cases o <;> try cases e2
    rename_i a
    obtain ⟨rfl, ha⟩ := rd_adr ro
    unfold putDic at e2
    dsimp only at e2
    have e := e2
    clear e2
    split at e
    · rename_i l el
      split at e
      · rename_i hl
        obtain ⟨k, ek, rfl⟩ := Option.map_eq_some_iff.mp e
        obtain ⟨vs, h, rs⟩ := s.dic el
        have ew := key_of ri ek
        subst ew
        exact ⟨m a, _, rfl, DPut.k h (by rw [← rs.length]; exact hl), q _ (Nxt.put (x := .dic (putD l k v)) s el ⟨_, rfl, rs.put k rv⟩)⟩
      · cases e
    · rename_i l el
      split at e
      · rename_i hl
        split at e
        · rename_i ks ri
          obtain ⟨k, ek, rfl⟩ := Option.map_eq_some_iff.mp e
          obtain ⟨vs, h, rs⟩ := s.dit el
          obtain ⟨b, ws, rfl, hb, rb⟩ := rd_tup ri
          have ew := keys_of rb ek
          subst ew
          exact ⟨m a, _, rfl, DPut.t h hb (by rw [← rs.length]; exact hl), q _ (Nxt.put (x := .dit (putD l k v)) s el ⟨_, rfl, rs.put k rv⟩)⟩
        · cases e
      · cases e
    · cases e
end
end Y

set_option Elab.async false
set_option linter.all false
set_option maxRecDepth 100000
set_option maxHeartbeats 1000000
/-! Y6: slices, calls of built-ins, attributes, calls of own defs. -/
namespace Y
open PySem PySem.Spec PyProof.Rows L2
/-! ### slices -/
def cutD (xs : List D) (lo hi : Option Int) : List D := (xs.drop (HT.sIx xs.length 0 lo)).take (HT.sIx xs.length xs.length hi - HT.sIx xs.length 0 lo)
abbrev MO' := Gm → SM (Option Int)
def oNo : MO' := fun _ S => .ok none S
def oE (a : ME) : MO' := fun g => SM.bind (a g) fun d S => match d with
  | .int i => .ok (some i) S
  | _ => .bad
def mSl (f : D → Option Int → Option Int → SM D) (a : ME) (l u : MO') : ME := fun g => SM.bind (a g) fun x => SM.bind (l g) fun lo => SM.bind (u g) fun hi => f x lo hi
def slD : D → Option Int → Option Int → SM D := fun x lo hi S => match x with
  | .str z => if z.length ≤ sizeLine then .ok (.str (cutS z lo hi)) S else .bad
  | .tup l => if HT.sIx l.length 0 lo = 0 ∧ HT.sIx l.length l.length hi = l.length then .bad else .ok (.tup (cutD l lo hi)) S
  | .fro l => .ok (.adr S.n) (S.alloc (.lst (cutD l lo hi)))
  | .adr i => (match S.f i with
    | some (.lst l) => .ok (.adr S.n) (S.alloc (.lst (cutD l lo hi)))
    | _ => .bad)
  | _ => .bad
abbrev rSlA (K : PySem.W.Frag) : V → Option Int → Option Int → Hp → VK → Prop := fun x lo hi H Q => rSlL K x lo hi H Q ∨ (fun x lo hi H Q => rSlT K x lo hi H Q ∨ rSlS x lo hi H Q) x lo hi H Q
theorem sl_A {X : Cx} : SlR X (rSlA X.K) := SlR.or sl_list (SlR.or sl_tup sl_str)
theorem cut_rel {c : Ct} {m : Nat → Addr} {n : Nat} {H : Hp} {l : List D} {vs : List V} (r : RelDs c m n H l vs) (lo hi : Option Int) : RelDs c m n H (cutD l lo hi) (cutV vs lo hi) := by
  unfold cutD cutV
  rw [r.length]
  exact (r.drop _).take _
theorem sl_of {c : Ct} {E : XK} {m : Nat → Addr} {S : Sr} {H : Hp} {Q : VK} {x : D} {v : V} {lo hi : Option Int} (s : Sim c m S H) (rx : RelD c m S.n H x v) (q : PoE c E m S H Q (slD x lo hi S)) : rSlA c.K v lo hi H Q := by
  cases x with
  | str z =>
    obtain ⟨hz, q⟩ := po_if (c := c) (E := E) q
    exact .inr (.inr ⟨z, rd_str rx, hz, q m H _ (Nxt.refl s) mk_str⟩)
  | tup l =>
    obtain ⟨a, vs, rfl, h, rs⟩ := rd_tup rx
    have q : PoE c E m S H Q (if HT.sIx l.length 0 lo = 0 ∧ HT.sIx l.length l.length hi = l.length then .bad else .ok (.tup (cutD l lo hi)) S) := q
    split at q
    · exact q.elim
    · rename_i hn
      exact .inr (.inl ⟨a, vs, rfl, .inl (.inl h), by rw [← rs.length]; exact hn, giveT s (cut_rel rs lo hi) q⟩)
  | fro l =>
    obtain ⟨a, vs, rfl, h, rs⟩ := rd_fro rx
    exact .inl ⟨a, vs, rfl, h.sq, giveO (x := .lst (cutD l lo hi)) s ⟨_, rfl, cut_rel rs lo hi⟩ q⟩
  | adr i =>
    obtain ⟨rfl, hi'⟩ := rd_adr rx
    have q : PoE c E m S H Q (match S.f i with
      | some (.lst l) => .ok (.adr S.n) (S.alloc (.lst (cutD l lo hi)))
      | _ => .bad) := q
    split at q
    · rename_i l el
      obtain ⟨vs, h, rs⟩ := s.lst el
      exact .inl ⟨_, vs, rfl, .inl (.inl h), giveO (x := .lst (cutD l lo hi)) s ⟨_, rfl, cut_rel rs lo hi⟩ q⟩
    · exact q.elim
  | _ => exact (show False from q).elim
section
variable {X : Cx} {c : Ct} {E : XK}
def PoO (c : Ct) (E : XK) (m : Nat → Addr) (S : Sr) (H : Hp) (Q : Option Int → Hp → Prop) : R (Option Int) → Prop
  | .ok o S' => ∀ m' H', Nxt c m S H m' S' H' → Q o H'
  | .exc q S' => ∀ m' H', Nxt c m S H m' S' H' → E (.ref (c.cls q)) none H'
  | .bad => False
def rdO (c : Ct) (E : XK) (x : MO') : TO := fun σ H Q => ∃ m S g, Sim c m S H ∧ RelG c m S.n H g σ ∧ PoO c E m S H Q (x g S)
theorem qo_no : PO X none (rdO c E oNo) := ⟨fun pins s σ H Q I ⟨m, S, g, si, rg, q⟩ => po_none.run pins s σ H Q I (q m H (Nxt.refl si))⟩
theorem seqO {x : ME} {k : D → SM (Option Int)} {m : Nat → Addr} {S : Sr} {H : Hp} {g : Gm} {σ : L2.St} {Q : Option Int → Hp → Prop} {QQ : VK} (s : Sim c m S H) (rg : RelG c m S.n H g σ) (h : PoO c E m S H Q (SM.bind (x g) k S))
    (hk : ∀ m1 S1 H1 d v, Nxt c m S H m1 S1 H1 → RelD c m1 S1.n H1 d v → PoO c E m1 S1 H1 Q (k d S1) → QQ v H1) : rdE c E x σ H QQ := by
  refine ⟨m, S, g, s, rg, ?_⟩
  unfold SM.bind at h
  cases e : x g S with
  | ok d S1 =>
    rw [e] at h
    refine fun m1 H1 v a r => hk m1 S1 H1 d v a r ?_
    cases e2 : k d S1 with
    | ok o S2 => rw [show PoO c E m S H Q (k d S1) = PoO c E m S H Q (.ok o S2) by rw [e2]] at h; exact fun m' H' b => h m' H' (a.trans s b)
    | exc o S2 => rw [show PoO c E m S H Q (k d S1) = PoO c E m S H Q (.exc o S2) by rw [e2]] at h; exact fun m' H' b => h m' H' (a.trans s b)
    | bad => rw [show PoO c E m S H Q (k d S1) = PoO c E m S H Q .bad by rw [e2]] at h; exact h
  | exc q S1 =>
    rw [e] at h
    exact h
  | bad =>
    rw [e] at h
    exact h
theorem qo_e {e : Expr} {ma : ME} (h : PE X e (rdE c E ma)) : PO X (some e) (rdO c E (oE ma)) := by
  refine ⟨fun pins s σ H Q I q => (po_some h).run pins s σ H Q I ?_⟩
  obtain ⟨m, S, g, si, rg, q⟩ := q
  refine seqO si rg q fun m1 S1 H1 d v a r q1 => ?_
  cases d <;> first | exact (show False from q1).elim | skip
  exact ⟨_, rd_int r, q1 m1 H1 (Nxt.refl a.sim)⟩
theorem seqEO {x : MO'} {k : Option Int → SM D} {m : Nat → Addr} {S : Sr} {H : Hp} {g : Gm} {σ : L2.St} {Q : VK} {QQ : Option Int → Hp → Prop} (s : Sim c m S H) (rg : RelG c m S.n H g σ) (h : PoE c E m S H Q (SM.bind (x g) k S))
    (hk : ∀ m1 S1 H1 b, Nxt c m S H m1 S1 H1 → PoE c E m1 S1 H1 Q (k b S1) → QQ b H1) : rdO c E x σ H QQ := by
  refine ⟨m, S, g, s, rg, ?_⟩
  unfold SM.bind at h
  cases e : x g S with
  | ok d S1 =>
    rw [e] at h
    exact fun m1 H1 a => hk m1 S1 H1 d a (PoE.go s a h)
  | exc q S1 =>
    rw [e] at h
    exact h
  | bad =>
    rw [e] at h
    exact h
theorem qe_sl {e : Expr} {l u : Option Expr} {ma : ME} {ml mu : MO'} {p2 pos : Pos} (hK : X.K = c.K) (ha : PE X e (rdE c E ma)) (hl : PO X l (rdO c E ml)) (hu : PO X u (rdO c E mu)) : PE X (.Subscript e (.Slice l u none p2) pos) (rdE c E (mSl slD ma ml mu)) :=
  PE.imp (pe_slice sl_A ha hl hu) fun σ H Q ⟨m, S, g, s, rg, q⟩ => seqE s rg q fun m1 S1 H1 x v a rx q1 => seqEO a.sim (a.relG rg) q1 fun m2 S2 H2 lo b q2 => seqEO b.sim (b.relG (a.relG rg)) q2 fun m3 S3 H3 hi d q3 => by
    have z := sl_of d.sim (d.relD (b.relD rx)) q3
    rw [hK]
    exact z
/-! ### calls of built-ins -/
def mCB (f : List D → SM D) (a : MA) : ME := fun g => SM.bind (a g) f
theorem tCB_of {r : List V → Hp → VK → Prop} {f : List D → SM D} {ma : MA} (hs : SndA c r f) (σ : L2.St) (H : Hp) (Q : VK) (h : rdE c E (mCB f ma) σ H Q) : tCB r (rdA c E ma) σ H Q := by
  obtain ⟨m, S, g, s, rg, q⟩ := h
  exact seqEA s rg q fun m1 S1 H1 l vs a rs q1 => hs E m1 S1 H1 Q l vs a.sim rs q1
theorem qe_cb {e : Expr} {r : List V → Hp → VK → Prop} {f : List D → SM D} {ma : MA} (h : PE X e (tCB r (rdA c E ma))) (hs : SndA c r f) : PE X e (rdE c E (mCB f ma)) := PE.imp h (tCB_of hs)
def fAbs : List D → SM D := fun l S => match l with
  | [.int i] => .ok (.int (if i < 0 then -i else i)) S
  | _ => .bad
def fMax2 : List D → SM D := fun l S => match l with
  | [.int i, .int j] => .ok (.int (if j > i then j else i)) S
  | _ => .bad
def fMin2 : List D → SM D := fun l S => match l with
  | [.int i, .int j] => .ok (.int (if j < i then j else i)) S
  | _ => .bad
def fInt : List D → SM D := fun l S => match l with
  | [.int i] => .ok (.int i) S
  | [.bl k] => .ok (.int (if k = true then 1 else 0)) S
  | [.str x] => (match PySem.intText? x with
    | some n => if x.length ≤ 640 then .ok (.int n) S else .bad
    | none => .bad)
  | _ => .bad
def fStr : List D → SM D := fun l S => match l with
  | [.int i] => if i.natAbs.log2 < 1920 then .ok (.str (toString i)) S else .bad
  | _ => .bad
def lenD (S : Sr) : D → Option Nat
  | .str x => if x.length ≤ sizeLine then some x.length else none
  | .tup l => some l.length
  | .ktp l => some l.length
  | .fro l => some l.length
  | .adr i => (match S.f i with
    | some (.lst l) => some l.length
    | some (.dic l) => some l.length
    | _ => none)
  | _ => none
def fLen : List D → SM D := fun l S => match l with
  | [d] => (match lenD S d with
    | some n => .ok (.int (n : Int)) S
    | none => .bad)
  | _ => .bad
def fTuple : List D → SM D := fun l S => match l with
  | [.tup l] => .ok (.tup l) S
  | [.ktp l] => .ok (.ktp l) S
  | [.fro l] => .ok (.tup l) S
  | [.adr i] => (match S.f i with
    | some (.lst l) => .ok (.tup l) S
    | _ => .bad)
  | _ => .bad
def fList : List D → SM D := fun l S => match l with
  | [d] => (match itemsD S d with
    | some l => .ok (.adr S.n) (S.alloc (.lst l))
    | none => .bad)
  | _ => .bad
theorem one_of {m : Nat → Addr} {n : Nat} {H : Hp} {d : D} {vs : List V} (r : RelDs c m n H [d] vs) : ∃ v, vs = [v] ∧ RelD c m n H d v := by
  obtain ⟨v, w, rfl, h, r2⟩ := rd_cons r
  rw [rd_nil r2]
  exact ⟨v, rfl, h⟩
theorem two_of {m : Nat → Addr} {n : Nat} {H : Hp} {d d' : D} {vs : List V} (r : RelDs c m n H [d, d'] vs) : ∃ v v', vs = [v, v'] ∧ RelD c m n H d v ∧ RelD c m n H d' v' := by
  obtain ⟨v, w, rfl, h, r2⟩ := rd_cons r
  obtain ⟨v', rfl, h2⟩ := one_of r2
  exact ⟨v, v', rfl, h, h2⟩
theorem snd_abs : SndA c (fun xs H Q => ∃ i, xs = [.int i] ∧ Q (.int (if i < 0 then -i else i)) H) fAbs := by
  intro E m S H Q l vs s r q
  unfold fAbs at q
  split at q
  · obtain ⟨v, rfl, h⟩ := one_of r
    rw [rd_int h]
    exact ⟨_, rfl, q m H _ (Nxt.refl s) mk_int⟩
  · exact q.elim
theorem snd_max2 : SndA c (fun xs H Q => ∃ i j, xs = [.int i, .int j] ∧ Q (.int (if j > i then j else i)) H) fMax2 := by
  intro E m S H Q l vs s r q
  unfold fMax2 at q
  split at q
  · obtain ⟨v, v', rfl, h, h'⟩ := two_of r
    rw [rd_int h, rd_int h']
    exact ⟨_, _, rfl, q m H _ (Nxt.refl s) mk_int⟩
  · exact q.elim
theorem snd_min2 : SndA c (fun xs H Q => ∃ i j, xs = [.int i, .int j] ∧ Q (.int (if j < i then j else i)) H) fMin2 := by
  intro E m S H Q l vs s r q
  unfold fMin2 at q
  split at q
  · obtain ⟨v, v', rfl, h, h'⟩ := two_of r
    rw [rd_int h, rd_int h']
    exact ⟨_, _, rfl, q m H _ (Nxt.refl s) mk_int⟩
  · exact q.elim
abbrev rIntA : List V → Hp → VK → Prop := fun xs H Q => (fun xs H Q => (∃ i, xs = [V.int i] ∧ Q (.int i) H) ∨ ∃ k, xs = [V.bl k] ∧ Q (.int (if k then 1 else 0)) H) xs H Q ∨ (fun xs H Q => ∃ (a : Str) (n : Int), xs = [V.str a] ∧ PySem.intText? a = some n ∧ a.length ≤ 640 ∧ Q (.int n) H) xs H Q
theorem call_intA : CallR X (.type "int") rIntA := CallR.or call_int1 call_int_str
theorem snd_int : SndA c rIntA fInt := by
  intro E m S H Q l vs s r q
  unfold fInt at q
  split at q
  · obtain ⟨v, rfl, h⟩ := one_of r
    rw [rd_int h]
    exact .inl (.inl ⟨_, rfl, q m H _ (Nxt.refl s) mk_int⟩)
  · obtain ⟨v, rfl, h⟩ := one_of r
    rw [rd_bl h]
    exact .inl (.inr ⟨_, rfl, q m H _ (Nxt.refl s) mk_int⟩)
  · obtain ⟨v, rfl, h⟩ := one_of r
    rw [rd_str h]
    split at q
    · rename_i n en
      obtain ⟨hl, q⟩ := po_if q
      exact .inr ⟨_, n, rfl, en, hl, q m H _ (Nxt.refl s) mk_int⟩
    · exact q.elim
  · exact q.elim
theorem snd_str : SndA c (fun xs H Q => ∃ i : Int, xs = [V.int i] ∧ i.natAbs.log2 < 1920 ∧ Q (.str (toString i)) H) fStr := by
  intro E m S H Q l vs s r q
  unfold fStr at q
  split at q
  · obtain ⟨v, rfl, h⟩ := one_of r
    rw [rd_int h]
    obtain ⟨hl, q⟩ := po_if q
    exact ⟨_, rfl, hl, q m H _ (Nxt.refl s) mk_str⟩
  · exact q.elim
abbrev rLenA (K : PySem.W.Frag) : List V → Hp → VK → Prop := fun xs H Q => (fun xs H Q => ∃ z : Str, xs = [V.str z] ∧ z.length ≤ sizeLine ∧ Q (.int z.length) H) xs H Q ∨ (fun xs H Q => (fun xs H Q => ∃ p ys, xs = [V.ref p] ∧ (SqL K H p ys ∨ SqT K H p ys) ∧ Q (.int ys.length) H) xs H Q ∨ (fun xs H Q => ∃ a kvs, xs = [V.ref a] ∧ H a = some (.dK kvs) ∧ Q (.int kvs.length) H) xs H Q) xs H Q
theorem call_lenA : CallR X (.builtin "len") (rLenA X.K) := CallR.or call_len_str (CallR.or call_len_seq call_lenD)
theorem snd_len : SndA c (rLenA c.K) fLen := by
  intro E m S H Q l vs s r q
  unfold fLen at q
  split at q
  · rename_i d
    obtain ⟨v, rfl, h⟩ := one_of r
    split at q
    · rename_i n en
      have fin := q m H _ (Nxt.refl s) mk_int
      cases d with
      | str x =>
        have en : (if x.length ≤ sizeLine then some x.length else none) = some n := en
        split at en
        · rename_i hl
          cases en
          rw [rd_str h]
          exact .inl ⟨_, rfl, hl, fin⟩
        · cases en
      | tup l =>
        cases en
        obtain ⟨a, vs, rfl, hh, rs⟩ := rd_tup h
        rw [rs.length] at fin
        exact .inr (.inl ⟨a, vs, rfl, .inr (.inl (.inl hh)), fin⟩)
      | ktp l =>
        cases en
        obtain ⟨a, vs, rfl, hh, rs⟩ := rd_ktp h
        rw [rs.length] at fin
        exact .inr (.inl ⟨a, vs, rfl, .inr hh.sq, fin⟩)
      | fro l =>
        cases en
        obtain ⟨a, vs, rfl, hh, rs⟩ := rd_fro h
        rw [rs.length] at fin
        exact .inr (.inl ⟨a, vs, rfl, .inl hh.sq, fin⟩)
      | adr i =>
        obtain ⟨rfl, hi⟩ := rd_adr h
        have en : (match S.f i with
          | some (.lst l) => some l.length
          | some (.dic l) => some l.length
          | _ => none) = some n := en
        split at en
        · rename_i l el
          cases en
          obtain ⟨vs, hh, rs⟩ := s.lst el
          rw [rs.length] at fin
          exact .inr (.inl ⟨_, vs, rfl, .inl (.inl (.inl hh)), fin⟩)
        · rename_i l el
          cases en
          obtain ⟨vs, hh, rs⟩ := s.dic el
          rw [rs.length] at fin
          exact .inr (.inr ⟨_, vs, rfl, hh, fin⟩)
        · cases en
      | _ => cases en
    · exact q.elim
  · exact q.elim
theorem snd_tuple : SndA c (fun xs H Q => ∃ p ys, xs = [V.ref p] ∧ ((SqL c.K H p ys ∧ ∀ l, H l = none → Q (.ref l) (upd H l (.tup ys))) ∨ (SqT c.K H p ys ∧ Q (.ref p) H))) fTuple := by
  intro E m S H Q l vs s r q
  unfold fTuple at q
  split at q
  · obtain ⟨v, rfl, h⟩ := one_of r
    have fin := q m H _ (Nxt.refl s) h
    obtain ⟨a, vs, rfl, hh, rs⟩ := rd_tup h
    exact ⟨a, vs, rfl, .inr ⟨.inl (.inl hh), fin⟩⟩
  · obtain ⟨v, rfl, h⟩ := one_of r
    have fin := q m H _ (Nxt.refl s) h
    obtain ⟨a, vs, rfl, hh, rs⟩ := rd_ktp h
    exact ⟨a, vs, rfl, .inr ⟨hh.sq, fin⟩⟩
  · obtain ⟨v, rfl, h⟩ := one_of r
    obtain ⟨a, vs, rfl, hh, rs⟩ := rd_fro h
    exact ⟨a, vs, rfl, .inl ⟨hh.sq, giveT s rs q⟩⟩
  · obtain ⟨v, rfl, h⟩ := one_of r
    obtain ⟨rfl, hi⟩ := rd_adr h
    split at q
    · rename_i l el
      obtain ⟨vs, hh, rs⟩ := s.lst el
      exact ⟨_, vs, rfl, .inl ⟨.inl (.inl hh), giveT s rs q⟩⟩
    · exact q.elim
  · exact q.elim
theorem snd_list : SndA c (fun xs H Q => ∃ p ys, xs = [V.ref p] ∧ (SqL c.K H p ys ∨ SqT c.K H p ys) ∧ ∀ l, H l = none → Q (.ref l) (upd H l (.lst ys))) fList := by
  intro E m S H Q l vs s r q
  unfold fList at q
  split at q
  · obtain ⟨v, rfl, h⟩ := one_of r
    split at q
    · rename_i l el
      obtain ⟨a, vs, rfl, hq, rs⟩ := items_of s h el
      exact ⟨a, vs, rfl, hq, giveO (x := .lst l) s ⟨_, rfl, rs⟩ q⟩
    · exact q.elim
  · exact q.elim
/-- isinstance(e, T), T a built-in class's name -/
def tyD (S : Sr) : D → Option String
  | .non => some "NoneType"
  | .bl _ => some "bool"
  | .int _ => some "int"
  | .str _ => some "str"
  | .tup _ => some "tuple"
  | .adr i => (match S.f i with
    | some (.lst _) => some "list"
    | some (.dic _) => some "dict"
    | some (.dit _) => some "dict"
    | _ => none)
  | _ => none
def fIsi (T : String) : D → SM D := fun d S => match tyD S d with
  | some t => (match kitB t T with
    | some b => .ok (.bl b) S
    | none => .bad)
  | none => .bad
theorem tyD_of {m : Nat → Addr} {S : Sr} {H : Hp} {d : D} {v : V} {t : String} (s : Sim c m S H) (r : RelD c m S.n H d v) (e : tyD S d = some t) : TyX c.K H v (.type t) := by
  cases d with
  | non => cases e; rw [rd_non r]; exact .base .non
  | bl b => cases e; rw [rd_bl r]; exact .base (.bl b)
  | int b => cases e; rw [rd_int r]; exact .base (.int b)
  | str b => cases e; rw [rd_str r]; exact .base (.str b)
  | tup l => cases e; obtain ⟨a, vs, rfl, h, _⟩ := rd_tup r; exact .base (.tup h)
  | adr i =>
    obtain ⟨rfl, hi⟩ := rd_adr r
    have e : (match S.f i with
      | some (.lst _) => some "list"
      | some (.dic _) => some "dict"
      | some (.dit _) => some "dict"
      | _ => none) = some t := e
    split at e
    · rename_i l el
      cases e
      obtain ⟨vs, h, _⟩ := s.lst el
      exact .base (.lst h)
    · rename_i l el
      cases e
      obtain ⟨vs, h, _⟩ := s.dic el
      exact .base (.dK h)
    · rename_i l el
      cases e
      obtain ⟨vs, h, _⟩ := s.dit el
      exact .base (.dT h)
    · cases e
  | _ => cases e
theorem qe_isi {a b : Expr} {ma : ME} {T : String} {x : Str} {p pos : Pos} (hK : X.K = c.K) (hg : Gl X x) (hm : X.mg x = none) (hv : bootBuiltins x = some (.builtin "isinstance")) (ha : PE X a (rdE c E ma)) (hb : PE X b (tC (.ty T)))
    (hn : x ≠ "__name__" := by decide) (hdb : (x == ("__debug__" : Str)) = false := by decide)
    (he : starEach (a :: [b]) X.env = (false, eval a X.env) :: starEach [b] X.env := by rfl) (he2 : starEach [b] X.env = (false, eval b X.env) :: starEach [] X.env := by rfl) (hpl : (backTo pos (starEach [b] X.env)).any (·.1) = false := by rfl) : PE X (.Call (.Name x p) [a, b] [] pos) (rdE c E (mU (fIsi T) ma)) :=
  PE.imp (pe_callB call_isi hg hm hv (pa_cons ha (pa_cons hb pa_nil he2) he) hn hdb he hpl) fun σ H Q ⟨m, S, g, s, rg, q⟩ => seqE s rg q fun m1 S1 H1 d v a r q1 => by
    unfold fIsi at q1
    split at q1
    · rename_i t et
      split at q1
      · rename_i k ek
        refine ⟨v, .ty T, .type t, .type T, k, rfl, .ty T, ?_, kit_ty ek, q1 m1 H1 _ (Nxt.refl a.sim) mk_bl⟩
        rw [hK]
        exact tyD_of a.sim r et
      · exact q1.elim
    · exact q1.elim
/-! ### attributes -/
structure Att (c : Ct) (K : PySem.W.Frag) (qs : List Str) (f : Str) : Prop where
  cl : ∀ q ∈ qs, Cls K (c.cls q)
  no : ∀ q ∈ qs, NoAttr K (c.cls q) f
def mAttr (qs : List Str) (f : Str) (a : ME) : ME := fun g => SM.bind (a g) fun d S => match d with
  | .adr i => (match S.f i with
    | some (.ins q fs) => if q ∈ qs then (match fs.lookup f with
      | some d => .ok d S
      | none => .bad) else .bad
    | _ => .bad)
  | _ => .bad
theorem RelK.lookup {m : Nat → Addr} {n : Nat} {H : Hp} (f : Str) : ∀ {l : List (Str × D)} {vs : List (Str × V)}, RelK c m n H l vs → (l.lookup f = none ∧ vs.lookup f = none) ∨ ∃ d v, l.lookup f = some d ∧ vs.lookup f = some v ∧ RelD c m n H d v
  | [], _, h => by rw [rk_nil h]; exact .inl ⟨rfl, rfl⟩
  | p :: l, _, h => by
    obtain ⟨v, r, rfl, h1, h2⟩ := rk_cons h
    by_cases e : f = p.1
    · have hb : (f == p.1) = true := beq_iff_eq.mpr e
      refine .inr ⟨p.2, v, ?_, ?_, h1⟩
      · obtain ⟨p1, p2⟩ := p
        simp only [List.lookup, hb]
      · simp only [List.lookup, hb]
    · have hb : (f == p.1) = false := beq_eq_false_iff_ne.mpr e
      have e1 : (p :: l).lookup f = l.lookup f := by
        obtain ⟨p1, p2⟩ := p
        simp only [List.lookup, hb]
      have e2 : ((p.1, v) :: r).lookup f = r.lookup f := by
        simp only [List.lookup, hb]
      rw [e1, e2]
      exact RelK.lookup f h2
theorem qe_attr {e : Expr} {f : Str} {qs : List Str} {ma : ME} {pos : Pos} (A : Att c X.K qs f) (h : PE X e (rdE c E ma)) (hb : attributeBase e f X.env (eval e X.env) = eval e X.env) : PE X (.Attribute e f pos) (rdE c E (mAttr qs f ma)) :=
  PE.imp (pe_fld h hb) fun σ H Q ⟨m, S, g, s, rg, q⟩ => seqE s rg q fun m1 S1 H1 d v a r q1 => by
    cases d <;> first | exact (show False from q1).elim | skip
    obtain ⟨rfl, hi⟩ := rd_adr r
    dsimp only at q1
    split at q1
    · rename_i q fs ef
      obtain ⟨hq, q1⟩ := po_if q1
      obtain ⟨dx, vs, hh, rk⟩ := a.sim.ins ef
      rcases rk.lookup f with ⟨e1, _⟩ | ⟨d, v, e1, e2, r1⟩
      · rw [e1] at q1
        exact q1.elim
      · rw [e1] at q1
        exact ⟨_, _, dx, vs, v, rfl, hh, A.cl q hq, A.no q hq, e2, q1 m1 H1 v (Nxt.refl a.sim) r1⟩
    · exact q1.elim
/-! ### calls of own defs -/
/-- what a def of so many parameters promises: the mirror's answer -/
def spOf (c : Ct) (n : Nat) (f : List D → SM D) : Sp := fun vs H Q E => vs.length = n ∧ ∃ m S l, Sim c m S H ∧ RelDs c m S.n H l vs ∧ PoE c E m S H Q (f l S)
/-- a def: the module's name x, its parameters, the mirror's defaults that fill up -/
structure Gfn (P : Program) (w : World) (K : PySem.W.Frag) (mg : Str → Option Value) (base : Heap) (c : Ct) (k : Nat) (x : Str) (n : Nat) (dd : List D) (mf : List D → SM D) : Prop where
  ex : ∃ f fd ps ds dvs, FnOk P w K mg base (L2.CX P w) k f fd ps (spOf c n mf) ∧ mg x = some (.ref f) ∧ PySem.W.keepIn K (.ref f) = true ∧ Binds K fd ps ds ∧ Vals dvs ds ∧ ∀ m n H, RelDs c m n H dd dvs
def mCall (mf : List D → SM D) (n : Nat) (dd : List D) (a : MA) : ME := fun g => SM.bind (a g) fun l => if l.length + dd.length = n then mf (l ++ dd) else fun _ => .bad
theorem tCall_of {n : Nat} {mf : List D → SM D} {dd : List D} {dvs : List V} {ma : MA} (hd : ∀ m n H, RelDs c m n H dd dvs) (σ : L2.St) (H : Hp) (Q : VK) (h : rdE c E (mCall mf n dd ma) σ H Q) : tCall (spOf c n mf) dvs E (rdA c E ma) σ H Q := by
  obtain ⟨m, S, g, s, rg, q⟩ := h
  refine seqEA s rg q fun m1 S1 H1 l vs a rs q1 => ?_
  by_cases hl : l.length + dd.length = n
  · rw [if_pos hl] at q1
    have rd := hd m1 S1.n H1
    exact ⟨by rw [List.length_append, ← rs.length, ← rd.length]; exact hl, m1, S1, l ++ dd, a.sim, rs.append rd, q1⟩
  · rw [if_neg hl] at q1
    exact q1.elim
theorem qe_call {k n : Nat} {x : Str} {dd : List D} {mf : List D → SM D} {p pos : Pos} {e : Expr} {es : List Expr} {ma : MA} (G : Gfn X.prog X.w X.K X.mg X.base c k x n dd mf) (hr : Room k X.A) (hg : Gl X x) (hx : Passes (L2.CX X.prog X.w) X E) (ha : PA X (e :: es) (rdA c E ma))
    (hdb : (x == ("__debug__" : Str)) = false := by decide) (he : starEach (e :: es) X.env = (false, eval e X.env) :: starEach es X.env := by rfl) (hpl : (backTo pos (starEach es X.env)).any (·.1) = false := by rfl) : PE X (.Call (.Name x p) (e :: es) [] pos) (rdE c E (mCall mf n dd ma)) := by
  obtain ⟨f, fd, ps, ds, dvs, F, h1, h2, h3, h4, h5⟩ := G.ex
  exact PE.imp (pe_call F hr hg h1 h2 h3 h4 hx ha hdb he hpl) (tCall_of h5)
/-- a class's method -/
structure Gm' (P : Program) (w : World) (K : PySem.W.Frag) (mg : Str → Option Value) (base : Heap) (c : Ct) (k : Nat) (q x : Str) (n : Nat) (dd : List D) (mf : List D → SM D) : Prop where
  cl : Cls K (c.cls q)
  ex : ∃ f fd ps ds dvs, FnOk P w K mg base (L2.CX P w) k f fd ps (spOf c n mf) ∧ Meth K (c.cls q) x f ∧ Binds K fd ps ds ∧ Vals dvs ds ∧ ∀ m n H, RelDs c m n H dd dvs
def mMeth (q x : Str) (mf : List D → SM D) (n : Nat) (dd : List D) (o : ME) (a : MA) : ME := fun g => SM.bind (o g) fun d S => match d with
  | .adr i => (match S.f i with
    | some (.ins q' fs) => if q' = q ∧ fs.lookup x = none then SM.bind (a g) (fun l => if 1 + l.length + dd.length = n then mf (.adr i :: (l ++ dd)) else fun _ => .bad) S else .bad
    | _ => .bad)
  | _ => .bad
theorem tMeth_of {n : Nat} {q x : Str} {mf : List D → SM D} {dd : List D} {dvs : List V} {mo : ME} {ma : MA} (hd : ∀ m n H, RelDs c m n H dd dvs) (σ : L2.St) (H : Hp) (Q : VK) (h : rdE c E (mMeth q x mf n dd mo ma) σ H Q) : tMeth (c.cls q) x (spOf c n mf) dvs E (rdE c E mo) (rdA c E ma) σ H Q := by
  obtain ⟨m, S, g, s, rg, q0⟩ := h
  refine seqE s rg q0 fun m1 S1 H1 d v a r q1 => ?_
  cases d <;> first | exact (show False from q1).elim | skip
  rename_i i
  have r0 := r
  obtain ⟨rfl, hi⟩ := rd_adr r
  dsimp only at q1
  split at q1
  · rename_i q' fs ef
    obtain ⟨hq, q5⟩ := po_if q1
    obtain ⟨rfl, hl⟩ := hq
    obtain ⟨dx, vs, hh, rk⟩ := a.sim.ins ef
    refine ⟨m1 i, dx, vs, rfl, hh, ?_, ?_⟩
    · rcases rk.lookup x with ⟨_, e2⟩ | ⟨d, v, e1, _, _⟩
      · exact e2
      · rw [hl] at e1
        cases e1
    · refine seqEA a.sim (a.relG rg) q5 fun m2 S2 H2 l ws b rs q2 => ?_
      by_cases hl : 1 + l.length + dd.length = n
      · rw [if_pos hl] at q2
        have rd := hd m2 S2.n H2
        exact ⟨by rw [List.length_cons, List.length_append, ← rs.length, ← rd.length]; omega, m2, S2, _, b.sim, mk_cons (b.relD r0) (rs.append rd), q2⟩
      · rw [if_neg hl] at q2
        exact q2.elim
  · exact q1.elim
theorem qe_meth {k n : Nat} {q x : Str} {dd : List D} {mf : List D → SM D} {apos pos : Pos} {o e : Expr} {es : List Expr} {mo : ME} {ma : MA} {pl : Sem Bool} (G : Gm' X.prog X.w X.K X.mg X.base c k q x n dd mf) (hr : Room k X.A) (hx : Passes (L2.CX X.prog X.w) X E) (ho : PE X o (rdE c E mo)) (ha : PA X (e :: es) (rdA c E ma))
    (hst : starEach (e :: es) X.env = (false, eval e X.env) :: starEach es X.env := by rfl) (hpl : (backTo pos (starEach es X.env)).any (·.1) = false := by rfl)
    (ht : eval (.Call (.Attribute o x apos) (e :: es) [] pos) X.env = (do
      let ov ← eval o X.env
      standAt apos.atName
      let (f, first) ← holding [ov] (getMethod ov x pl)
      callWith pos f first (backTo pos (starEach (e :: es) X.env)) (backToKw pos (keywordEach [] X.env))) := by rfl) :
    PE X (.Call (.Attribute o x apos) (e :: es) [] pos) (rdE c E (mMeth q x mf n dd mo ma)) := by
  obtain ⟨f, fd, ps, ds, dvs, F, h1, h3, h4, h5⟩ := G.ex
  exact PE.imp (pe_meth ho G.cl h1 F hr h3 h4 hx ha hst hpl ht) (tMeth_of h5)
theorem qe_meth0 {k n : Nat} {q x : Str} {dd : List D} {mf : List D → SM D} {apos pos : Pos} {o : Expr} {mo : ME} {pl : Sem Bool} (G : Gm' X.prog X.w X.K X.mg X.base c k q x n dd mf) (hr : Room k X.A) (hx : Passes (L2.CX X.prog X.w) X E) (ho : PE X o (rdE c E mo))
    (ht : eval (.Call (.Attribute o x apos) [] [] pos) X.env = (do
      let ov ← eval o X.env
      standAt apos.atName
      let (f, first) ← holding [ov] (getMethod ov x pl)
      callWith pos f first (backTo pos (starEach [] X.env)) (backToKw pos (keywordEach [] X.env))) := by rfl) :
    PE X (.Call (.Attribute o x apos) [] [] pos) (rdE c E (mMeth q x mf n dd mo mNil)) := by
  obtain ⟨f, fd, ps, ds, dvs, F, h1, h3, h4, h5⟩ := G.ex
  refine PE.imp (pe_meth0 ho G.cl h1 F hr h3 h4 hx ht) fun σ H Q h => ?_
  have z := tMeth_of h5 σ H Q h
  unfold tMeth at z ⊢
  obtain ⟨m, S, g, s, rg, q0⟩ := z
  refine ⟨m, S, g, s, rg, ?_⟩
  cases e : mo g S with
  | ok d S1 =>
    rw [e] at q0
    intro m1 H1 v a r
    obtain ⟨p, dx, fs, e1, e2, e3, mm, SS, gg, ss, rr, q3⟩ := q0 m1 H1 v a r
    exact ⟨p, dx, fs, e1, e2, e3, q3 mm H1 [] (Nxt.refl ss) mk_nil⟩
  | exc p S1 =>
    rw [e] at q0
    exact q0
  | bad =>
    rw [e] at q0
    exact q0
/-- a class made -/
structure Gk (P : Program) (w : World) (K : PySem.W.Frag) (mg : Str → Option Value) (base : Heap) (c : Ct) (k : Nat) (q : Str) (n : Nat) (dd : List D) (mf : List D → SM D) : Prop where
  gl : mg q = some (.ref (c.cls q))
  ex : ∃ f fd ps ds dvs, FnOk P w K mg base (L2.CX P w) k f fd ps (spOf c n mf) ∧ Mk K (c.cls q) f ∧ Binds K fd ps ds ∧ Vals dvs ds ∧ ∀ m n H, RelDs c m n H dd dvs
def mMake (q : Str) (mf : List D → SM D) (n : Nat) (dd : List D) (a : MA) : ME := fun g => SM.bind (a g) fun l S => if 1 + l.length + dd.length = n then SM.bind (mf (.adr S.n :: (l ++ dd))) (fun r S' => match r with
  | .non => .ok (.adr S.n) S'
  | _ => .bad) (S.alloc (.ins q [])) else .bad
theorem tMake_of {n : Nat} {q : Str} {mf : List D → SM D} {dd : List D} {dvs : List V} {ma : MA} (hd : ∀ m n H, RelDs c m n H dd dvs) (σ : L2.St) (H : Hp) (Q : VK) (h : rdE c E (mMake q mf n dd ma) σ H Q) : tMake (c.cls q) (spOf c n mf) dvs E (rdA c E ma) σ H Q := by
  obtain ⟨m, S, g, s, rg, q0⟩ := h
  refine seqEA s rg q0 fun m1 S1 H1 l vs a rs q1 => ?_
  obtain ⟨hl, q1⟩ := po_if q1
  intro x dx hx hdx ne
  have a1 : Nxt c m1 S1 H1 m1 S1 (upd H1 dx (.own x)) := Nxt.fresh a.sim hdx
  have hx' : (upd H1 dx (.own x)) x = none := by rw [upd_ne (Ne.symm ne)]; exact hx
  have a2 := Nxt.alloc (x := .ins q []) (o := .ins (c.cls q) dx []) a1.sim hx' ⟨dx, [], rfl, mkk_nil⟩
  have a3 := a1.trans a.sim a2
  have q2 := PoE.go a.sim a3 q1
  have rs' := a3.relDs rs
  have rd := hd (ext m1 S1.n x) (S1.n + 1) (upd (upd H1 dx (.own x)) x (.ins (c.cls q) dx []))
  have e0 := mk_adr (c := c) (m := ext m1 S1.n x) (n := S1.n + 1) (H := upd (upd H1 dx (.own x)) x (.ins (c.cls q) dx [])) (i := S1.n) (Nat.lt_succ_self _)
  rw [ext_same] at e0
  refine ⟨by rw [List.length_cons, List.length_append, ← rs.length, ← rd.length]; omega, ext m1 S1.n x, S1.alloc (.ins q []), _, a2.sim, mk_cons e0 (rs'.append rd), ?_⟩
  unfold SM.bind at q2
  cases e : mf (.adr S1.n :: (l ++ dd)) (S1.alloc (.ins q [])) with
  | ok r S2 =>
    rw [e] at q2
    intro m3 H3 v b rv
    cases r <;> first | exact (show False from q2).elim | skip
    refine ⟨rd_non rv, q2 m3 H3 _ b ?_⟩
    exact b.relD e0
  | exc p S2 =>
    rw [e] at q2
    exact q2
  | bad =>
    rw [e] at q2
    exact q2
theorem qe_make {k n : Nat} {q : Str} {dd : List D} {mf : List D → SM D} {p pos : Pos} {e : Expr} {es : List Expr} {ma : MA} (G : Gk X.prog X.w X.K X.mg X.base c k q n dd mf) (hr : Room (k + 1) X.A) (hg : Gl X q) (hx : Passes (L2.CX X.prog X.w) X E) (ha : PA X (e :: es) (rdA c E ma))
    (hdb : (q == ("__debug__" : Str)) = false := by decide) (he : starEach (e :: es) X.env = (false, eval e X.env) :: starEach es X.env := by rfl) (hpl : (backTo pos (starEach es X.env)).any (·.1) = false := by rfl) : PE X (.Call (.Name q p) (e :: es) [] pos) (rdE c E (mMake q mf n dd ma)) := by
  obtain ⟨f, fd, ps, ds, dvs, F, h2, h3, h4, h5⟩ := G.ex
  exact PE.imp (pe_make h2 F hr hg G.gl h3 h4 hx ha hdb he hpl) (tMake_of h5)
theorem qe_make0 {k n : Nat} {q : Str} {dd : List D} {mf : List D → SM D} {p pos : Pos} (G : Gk X.prog X.w X.K X.mg X.base c k q n dd mf) (hr : Room (k + 1) X.A) (hg : Gl X q) (hx : Passes (L2.CX X.prog X.w) X E)
    (hdb : (q == ("__debug__" : Str)) = false := by decide) : PE X (.Call (.Name q p) [] [] pos) (rdE c E (mMake q mf n dd mNil)) := by
  obtain ⟨f, fd, ps, ds, dvs, F, h2, h3, h4, h5⟩ := G.ex
  refine PE.imp (pe_make0 h2 F hr hg G.gl h3 h4 hx hdb) fun σ H Q h => ?_
  obtain ⟨m, S, g, s, rg, q3⟩ := tMake_of h5 σ H Q h
  exact q3 m H [] (Nxt.refl s) mk_nil
end
end Y

set_option Elab.async false
set_option linter.all false
set_option maxRecDepth 100000
set_option maxHeartbeats 1000000
/-! Y7: statements, loops, comprehensions. -/
namespace Y
open PySem PySem.Spec PyProof.Rows L2
/-! ### blocks -/
def mSeq (a b : MS) : MS := fun g S => match a g S with
  | .nx g' S' => b g' S'
  | r => r
def mPass : MS := fun g S => .nx g S
def mBrk : MS := fun g S => .bk g S
def mCnt : MS := fun g S => .ct g S
def mDrop (a : ME) : MS := fun g S => toRS (a g S) fun _ S' => .nx g S'
def mRet (a : ME) : MS := fun g S => toRS (a g S) fun d S' => .rt d S'
def mRetN : MS := fun _ S => .rt .non S
def mIfS (t : MT) (a b : MS) : MS := fun g S => toRST (t g S) fun k S' => if k = true then a g S' else b g S'
def mRaise (q : Str) : MS := fun _ S => .ex q S
def mSet (i : Nat) (a : ME) : MS := fun g S => toRS (a g S) fun d S' => .nx (g.set i (some d)) S'
section
variable {X : Cx} {c : Ct} {E : XK} {m : Nat → Addr} {S : Sr} {H : Hp} {g : Gm} {σ : L2.St}
theorem PoS.seq {a b : MS} {Z : Ends} (s : Sim c m S H) (h : PoS c E m S H Z (mSeq a b g S)) : PoS c E m S H { Z with nx := rdS c E b Z } (a g S) := by
  unfold mSeq at h
  cases e : a g S with
  | nx g' S' =>
    rw [e] at h
    exact fun m' H' σ' n r => ⟨m', S', g', n.sim, r, PoS.go s n h⟩
  | rt d S' => rw [e] at h; exact h
  | bk g' S' => rw [e] at h; exact h
  | ct g' S' => rw [e] at h; exact h
  | ex q S' => rw [e] at h; exact h
  | bad => rw [e] at h; exact h
theorem qss_nil : PSs X [] (rdS c E mPass) := PSs.imp pss_nil fun Z σ H ⟨m, S, g, s, rg, q⟩ => q m H σ (Nxt.refl s) rg
theorem qss_cons {st : Stmt} {rest : List Stmt} {a b : MS} (h1 : PS X st (rdS c E a)) (h2 : PSs X rest (rdS c E b)) : PSs X (st :: rest) (rdS c E (mSeq a b)) :=
  PSs.imp (pss_cons h1 h2) fun Z σ H ⟨m, S, g, s, rg, q⟩ => ⟨m, S, g, s, rg, PoS.seq s q⟩
theorem qss_one {st : Stmt} {a : MS} (h1 : PS X st (rdS c E a)) : PSs X [st] (rdS c E a) := pss_one h1
theorem qs_pass {pos : Pos} : PS X (.Pass pos) (rdS c E mPass) := PS.imp ps_pass fun Z σ H ⟨m, S, g, s, rg, q⟩ => q m H σ (Nxt.refl s) rg
theorem qs_brk {pos : Pos} : PS X (.Break pos) (rdS c E mBrk) := PS.imp ps_break fun Z σ H ⟨m, S, g, s, rg, q⟩ => q m H σ (Nxt.refl s) rg
theorem qs_cnt {pos : Pos} : PS X (.Continue pos) (rdS c E mCnt) := PS.imp ps_continue fun Z σ H ⟨m, S, g, s, rg, q⟩ => q m H σ (Nxt.refl s) rg
theorem qs_expr {e : Expr} {ma : ME} {pos : Pos} (h : PE X e (rdE c E ma)) (hs : swapsWith e none pos.line X.env = pure false := by rfl) : PS X (.Expr e pos) (rdS c E (mDrop ma)) :=
  PS.imp (ps_expr h hs) fun Z σ H ⟨m, S, g, s, rg, q⟩ => seqSE s rg q fun m1 S1 H1 d v a r q1 => q1 m1 H1 σ (Nxt.refl a.sim) (a.relG rg)
theorem qs_ret {e : Expr} {ma : ME} {pos : Pos} (h : PE X e (rdE c E ma)) : PS X (.Return (some e) pos) (rdS c E (mRet ma)) :=
  PS.imp (ps_ret h) fun Z σ H ⟨m, S, g, s, rg, q⟩ => seqSE s rg q fun m1 S1 H1 d v a r q1 => q1 m1 H1 v (Nxt.refl a.sim) r
theorem qs_retN {pos : Pos} : PS X (.Return none pos) (rdS c E mRetN) := PS.imp ps_retN fun Z σ H ⟨m, S, g, s, rg, q⟩ => q m H _ (Nxt.refl s) mk_non
theorem qs_if {t : Expr} {a b : List Stmt} {mt : MT} {ma mb : MS} {pos : Pos} (ht : PT X t (rdT c E mt)) (ha : PSs X a (rdS c E ma)) (hb : PSs X b (rdS c E mb)) : PS X (.If t a b pos) (rdS c E (mIfS mt ma mb)) :=
  PS.imp (ps_if ht ha hb) fun Z σ H ⟨m, S, g, s, rg, q⟩ => seqST s rg q fun m1 S1 H1 k a q1 => by
    cases k with
    | true => exact ⟨m1, S1, g, a.sim, a.relG rg, q1⟩
    | false => exact ⟨m1, S1, g, a.sim, a.relG rg, q1⟩
/-- raise X('..') -/
structure Exo (K : PySem.W.Frag) (mg : Str → Option Value) (c : Ct) (q : Str) : Prop where
  gl : mg q = some (.ref (c.cls q))
  ex : PySem.W.excIn K (c.cls q) [.type "ValueError", .type "Exception", .type "BaseException", .type "object"] "ValueError.__new__" = true
  kp : PySem.W.keepIn K (.ref (c.cls q)) = true
  sb : PySem.W.subIn K (.ref (c.cls q)) (.type "BaseException") = some true
  ty : PySem.W.typeIn K (.ref (c.cls q)) = some (.type "type")
theorem qs_raise {q x : Str} {j : Nat} {p p2 p3 pos : Pos} (F : Exo X.K X.mg c q) (hc : X.calm = true) (tk : Takes X (fun cls d _ H => E cls d H)) (hg : Gl X q) (hdb : (q == ("__debug__" : Str)) = false := by decide) : PS X (.Raise (some (.Call (.Name q p) [.Constant (.str x) j p2] [] p3)) none pos) (rdS c E (mRaise q)) :=
  PS.imp (ps_raise hc tk (pmk_own PySem.F.excBase_ValueError F.ex F.gl F.kp (raises_own F.sb F.ty) hg hdb)) fun Z σ H ⟨m, S, g, s, rg, h⟩ => h m H (Nxt.refl s)
/-! ### assignments -/
theorem RelG.set {n : Nat} {d : D} {v : V} (i : Nat) (rg : RelG c m n H g σ) (r : RelD c m n H d v) : RelG c m n H (g.set i (some d)) (σ.set i (some v)) := by
  refine ⟨by rw [List.length_set, List.length_set]; exact rg.1, fun j x e => ?_⟩
  by_cases h : i = j
  · subst h
    by_cases hl : i < g.length
    · rw [List.getElem?_set_self hl] at e
      have e2 : d = x := Option.some.inj (Option.some.inj e)
      subst e2
      exact ⟨v, List.getElem?_set_self (by rw [← rg.1]; exact hl), r⟩
    · rw [List.getElem?_eq_none (by rw [List.length_set]; omega)] at e
      cases e
  · rw [List.getElem?_set_ne h] at e
    obtain ⟨w, e1, r1⟩ := rg.2 j x e
    exact ⟨w, by rw [List.getElem?_set_ne h]; exact e1, r1⟩
theorem qs_set {i : Nat} {x : Str} {e : Expr} {ma : ME} {pos pos' : Pos} (hN : X.N.Nodup) (hi : X.N[i]? = some x) (hx : Loc X.env.scope x) (h : PE X e (rdE c E ma)) (hs : swapsWith e (some (.Name x pos')) pos.line X.env = pure false := by rfl) (hf : X.fn x = true ∨ X.env.scope.names.lookup x = some .local := by first | exact .inl rfl | exact .inr rfl | assumption) :
    PS X (.Assign [.Name x pos'] e pos) (rdS c E (mSet i ma)) :=
  PS.imp (ps_set hN hi hx h hs hf) fun Z σ H ⟨m, S, g, s, rg, q⟩ => seqSE s rg q fun m1 S1 H1 d v a r q1 => q1 m1 H1 _ (Nxt.refl a.sim) ((a.relG rg).set i r)
/-- targets in general -/
abbrev MG := D → MS
def PoG (c : Ct) (E : XK) (m : Nat → Addr) (S : Sr) (H : Hp) (Q : L2.St → Hp → Prop) : RS → Prop
  | .nx g S' => ∀ m' H' σ', Nxt c m S H m' S' H' → RelG c m' S'.n H' g σ' → Q σ' H'
  | .ex q S' => ∀ m' H', Nxt c m S H m' S' H' → E (.ref (c.cls q)) none H'
  | _ => False
def rdG (c : Ct) (E : XK) (x : MG) : TG := fun v σ H Q => ∃ m S g d, Sim c m S H ∧ RelG c m S.n H g σ ∧ RelD c m S.n H d v ∧ PoG c E m S H Q (x d g S)
def rdGs (c : Ct) (E : XK) (x : List D → MS) : TGs := fun vs σ H Q => ∃ m S g l, Sim c m S H ∧ RelG c m S.n H g σ ∧ RelDs c m S.n H l vs ∧ PoG c E m S H Q (x l g S)
theorem PG.imp {e : Expr} {t t' : TG} (h : PG X e t) (i : ∀ v σ H Q, t' v σ H Q → t v σ H Q) : PG X e t' := ⟨fun pins s σ H v u Q I r q => h.run pins s σ H v u Q I r (i v σ H Q q)⟩
theorem PGs.imp {e : List Expr} {t t' : TGs} (h : PGs X e t) (i : ∀ v σ H Q, t' v σ H Q → t v σ H Q) : PGs X e t' := ⟨fun pins s σ H v u Q I r q => h.run pins s σ H v u Q I r (i v σ H Q q)⟩
theorem PoG.go {m1 : Nat → Addr} {S1 : Sr} {H1 : Hp} (s : Sim c m S H) (a : Nxt c m S H m1 S1 H1) {Q : L2.St → Hp → Prop} {r : RS} (h : PoG c E m S H Q r) : PoG c E m1 S1 H1 Q r := by
  cases r with
  | nx g S' => exact fun m' H' v b r => h m' H' v (a.trans s b) r
  | ex q S' => exact fun m' H' b => h m' H' (a.trans s b)
  | _ => exact h
def gNm (i : Nat) : MG := fun d g S => .nx (g.set i (some d)) S
theorem qg_name {i : Nat} {x : Str} {pos : Pos} (hN : X.N.Nodup) (hi : X.N[i]? = some x) (hx : Loc X.env.scope x) (hf : X.fn x = true ∨ X.env.scope.names.lookup x = some .local := by first | exact .inl rfl | exact .inr rfl | assumption) : PG X (.Name x pos) (rdG c E (gNm i)) :=
  PG.imp (pg_name hN hi hx hf) fun v σ H Q ⟨m, S, g, d, s, rg, r, q⟩ => q m H _ (Nxt.refl s) (rg.set i r)
theorem seqGE {x : ME} {k : D → Sr → RS} {Q : L2.St → Hp → Prop} {QQ : VK} (s : Sim c m S H) (rg : RelG c m S.n H g σ) (h : PoG c E m S H Q (toRS (x g S) k))
    (hk : ∀ m1 S1 H1 d v, Nxt c m S H m1 S1 H1 → RelD c m1 S1.n H1 d v → PoG c E m1 S1 H1 Q (k d S1) → QQ v H1) : rdE c E x σ H QQ := by
  refine ⟨m, S, g, s, rg, ?_⟩
  cases e : x g S with
  | ok d S1 =>
    rw [e] at h
    exact fun m1 H1 v a r => hk m1 S1 H1 d v a r (PoG.go s a h)
  | exc q S1 =>
    rw [e] at h
    exact h
  | bad =>
    rw [e] at h
    exact h
def gSub' (o i : ME) : MG := fun d g S => toRS (o g S) fun ov S1 => toRS (i g S1) fun iv S2 => match putAt ov iv d S2 with
  | some S3 => .nx g S3
  | none => .bad
theorem qg_sub {o i : Expr} {mo mi : ME} {pos : Pos} (hu : X.A.units + 1 < cLine) (ho : PE X o (rdE c E mo)) (hi : PE X i (rdE c E mi)) (ha : ∀ v, assign (.Subscript o i pos) X.env v = (do
      let ov ← holding [v] (eval o X.env)
      let iv ← holding [v, ov] (eval i X.env)
      standAt pos
      holding [v, ov, iv] (setItem ov iv v)
      release [v, ov, iv] []) := by intro _; rfl) : PG X (.Subscript o i pos) (rdG c E (gSub' mo mi)) :=
  PG.imp (pg_sub ho hi (set_A hu) ha) fun v σ H Q ⟨m, S, g, d, s, rg, r, q⟩ => seqGE s rg q fun m1 S1 H1 od ov a ro q1 => seqGE a.sim (a.relG rg) q1 fun m2 S2 H2 id iv b ri q2 => by
    cases e : putAt od id d S2 with
    | none => rw [e] at q2; exact q2.elim
    | some S3 =>
      rw [e] at q2
      exact setA_of b.sim (b.relD ro) ri (b.relD (a.relD r)) e fun H' n => q2 m2 H' σ n (n.relG (b.relG (a.relG rg)))
def putFD (f : Str) (v : D) : List (Str × D) → List (Str × D)
  | [] => [(f, v)]
  | (g, x) :: r => if g = f then (g, v) :: r else (g, x) :: putFD f v r
theorem RelK.putF {n : Nat} (f : Str) {d : D} {w : V} (hd : RelD c m n H d w) : ∀ {l : List (Str × D)} {vs : List (Str × V)}, RelK c m n H l vs → RelK c m n H (putFD f d l) (putF f w vs)
  | [], _, h => by rw [rk_nil h]; exact mkk_cons (p := (f, d)) hd mkk_nil
  | (g, x) :: l, _, h => by
    obtain ⟨v, r, rfl, h1, h2⟩ := rk_cons h
    unfold putFD L2.putF
    by_cases e : g = f
    · rw [if_pos e, if_pos e]
      exact mkk_cons (p := (g, d)) hd h2
    · rw [if_neg e, if_neg e]
      exact mkk_cons h1 (RelK.putF f hd h2)
def setA (qs : List Str) (f : Str) (o d : D) (S : Sr) : Option Sr := match o with
  | .adr i => (match S.f i with
    | some (.ins q fs) => if q ∈ qs ∧ fs.length < 1000 then some (S.put i (.ins q (putFD f d fs))) else none
    | _ => none)
  | _ => none
theorem setA_ok {qs : List Str} {f : Str} {o d : D} {ov w : V} {S' : Sr} (s : Sim c m S H) (ro : RelD c m S.n H o ov) (rd : RelD c m S.n H d w) (e : setA qs f o d S = some S') :
    ∃ a q dx fs, q ∈ qs ∧ ov = .ref a ∧ H a = some (.ins (c.cls q) dx fs) ∧ fs.length < 1000 ∧ Nxt c m S H m S' (upd H a (.ins (c.cls q) dx (putF f w fs))) := by
  cases o <;> try cases e
  rename_i i
  obtain ⟨rfl, hi⟩ := rd_adr ro
  unfold setA at e
  dsimp only at e
  split at e
  · rename_i q fs ef
    split at e
    · rename_i hq
      cases e
      obtain ⟨dx, vs, hh, rk⟩ := s.ins ef
      exact ⟨m i, q, dx, vs, hq.1, rfl, hh, by rw [← rk.length]; exact hq.2, Nxt.put (x := .ins q (putFD f d fs)) s ef ⟨dx, _, rfl, rk.putF f rd⟩⟩
    · cases e
  · cases e
def mFld (qs : List Str) (f : Str) (o v : ME) : MS := fun g S => toRS (v g S) fun d S1 => toRS (o g S1) fun ov S2 => match setA qs f ov d S2 with
  | some S3 => .nx g S3
  | none => .bad
theorem qs_fld {o value : Expr} {f : Str} {qs : List Str} {mo mv : ME} {pos pos' : Pos} (A : Att c X.K qs f) (ho : PE X o (rdE c E mo)) (hv : PE X value (rdE c E mv)) (hs : swapsWith value (some (.Attribute o f pos')) pos.line X.env = pure false) : PS X (.Assign [.Attribute o f pos'] value pos) (rdS c E (mFld qs f mo mv)) :=
  PS.imp (ps_fld ho hv hs) fun Z σ H ⟨m, S, g, s, rg, q⟩ => seqSE s rg q fun m1 S1 H1 d v a r q1 => seqSE a.sim (a.relG rg) q1 fun m2 S2 H2 od ov b ro q2 => by
    cases e : setA qs f od d S2 with
    | none => rw [e] at q2; exact q2.elim
    | some S3 =>
      rw [e] at q2
      obtain ⟨p, q, dx, fs, hq, rfl, hh, hl, n⟩ := setA_ok b.sim ro (b.relD r) e
      exact ⟨p, _, dx, fs, rfl, hh, A.cl q hq, A.no q hq, hl, q2 m2 _ σ n (n.relG (b.relG (a.relG rg)))⟩
/-- an attribute as a target among others -/
def gAttr (K : PySem.W.Frag) (f : Str) (ta : TE) : TG := fun v σ H Q => ta σ H fun x H1 => ∃ a C dx fs, x = .ref a ∧ H1 a = some (.ins C dx fs) ∧ Cls K C ∧ NoAttr K C f ∧ fs.length < 1000 ∧ Q σ (upd H1 a (.ins C dx (putF f v fs)))
theorem pg_attr {o : Expr} {f : Str} {ta : TE} {pos : Pos} (ho : PE X o ta) : PG X (.Attribute o f pos) (gAttr X.K f ta) := by
  refine ⟨fun pins s σ H v u Q I r h => ?_⟩
  rw [assign_Attribute]
  refine wpAny_bind (wpAny_holding (thn (ho.run pins s σ H _ I h) fun ov s1 ⟨x, H1, I1, rx, a, C, dx, fs, ex, ea, cl, n, l, q⟩ => ?_))
  subst ex
  obtain rfl : ov = Value.ref a := rx
  refine wpAny_bind (wpAny_standAt (wpAny_bind (wpAny_holding (setattr_ok I1 ea cl n l r fun s3 I3 => ?_))))
  exact wpAny_release ⟨σ, _, I3, q⟩
def gFld (qs : List Str) (f : Str) (o : ME) : MG := fun d g S => toRS (o g S) fun ov S2 => match setA qs f ov d S2 with
  | some S3 => .nx g S3
  | none => .bad
theorem qg_attr {o : Expr} {f : Str} {qs : List Str} {mo : ME} {pos : Pos} (A : Att c X.K qs f) (ho : PE X o (rdE c E mo)) : PG X (.Attribute o f pos) (rdG c E (gFld qs f mo)) :=
  PG.imp (pg_attr ho) fun v σ H Q ⟨m, S, g, d, s, rg, r, q⟩ => seqGE s rg q fun m1 S1 H1 od ov a ro q1 => by
    cases e : setA qs f od d S1 with
    | none => rw [e] at q1; exact q1.elim
    | some S3 =>
      rw [e] at q1
      obtain ⟨p, q, dx, fs, hq, rfl, hh, hl, n⟩ := setA_ok a.sim ro (a.relD r) e
      exact ⟨p, _, dx, fs, rfl, hh, A.cl q hq, A.no q hq, hl, q1 m1 _ σ n (n.relG (a.relG rg))⟩
def gNl : List D → MS := fun l g S => match l with
  | [] => .nx g S
  | _ => .bad
def gCn (t : MG) (r : List D → MS) : List D → MS := fun l g S => match l with
  | d :: l => (match t d g S with
    | .nx g' S' => r l g' S'
    | .ex q S' => .ex q S'
    | _ => .bad)
  | [] => .bad
def gTp (n : Nat) (t : List D → MS) : MG := fun d g S => match d with
  | .tup l => if l.length = n then t l g S else .bad
  | .ktp l => if l.length = n then t l g S else .bad
  | _ => .bad
theorem qgs_nil : PGs X [] (rdGs c E gNl) := PGs.imp pgs_nil fun vs σ H Q ⟨m, S, g, l, s, rg, r, q⟩ => by
  cases l with
  | nil => exact ⟨rd_nil r, q m H σ (Nxt.refl s) rg⟩
  | cons d l => exact (show False from q).elim
theorem qgs_cons {e : Expr} {es : List Expr} {t : MG} {u : List D → MS} (h1 : PG X e (rdG c E t)) (h2 : PGs X es (rdGs c E u)) (hs : (assignEach (e :: es) X.env).map (·.2) = assign e X.env :: (assignEach es X.env).map (·.2) := by rfl) : PGs X (e :: es) (rdGs c E (gCn t u)) :=
  PGs.imp (pgs_cons h1 h2 hs) fun vs σ H Q ⟨m, S, g, l, s, rg, r, q⟩ => by
    cases l with
    | nil => exact (show False from q).elim
    | cons d l =>
      obtain ⟨v, w, rfl, r1, r2⟩ := rd_cons r
      refine ⟨v, w, rfl, m, S, g, d, s, rg, r1, ?_⟩
      unfold gCn at q
      dsimp only at q
      cases e : t d g S with
      | nx g' S' =>
        rw [e] at q
        exact fun m' H' σ' n rg' => ⟨m', S', g', l, n.sim, rg', n.relDs r2, PoG.go s n q⟩
      | ex p S' => rw [e] at q; exact q
      | rt d S' => rw [e] at q; exact q.elim
      | bk d S' => rw [e] at q; exact q.elim
      | ct d S' => rw [e] at q; exact q.elim
      | bad => rw [e] at q; exact q.elim
theorem pog_if {p : Prop} [Decidable p] {Q : L2.St → Hp → Prop} {r : RS} (h : PoG c E m S H Q (if p then r else .bad)) : p ∧ PoG c E m S H Q r := by
  by_cases hp : p
  · rw [if_pos hp] at h
    exact ⟨hp, h⟩
  · rw [if_neg hp] at h
    exact h.elim
theorem qg_tup {es : List Expr} {k n : Nat} {u : List D → MS} {pos : Pos} (hK : X.K = c.K) (hc : X.calm = true) (h : PGs X es (rdGs c E u)) (hn : (assignEach es X.env).length = n := by rfl) (hst : (assignEach es X.env).findIdx? (·.1) = none := by rfl) : PG X (.Tuple es k pos) (rdG c E (gTp n u)) :=
  PG.imp (pg_tup hc h hn hst) fun v σ H Q ⟨m, S, g, d, s, rg, r, q⟩ => by
    rw [hK]
    cases d <;> first | exact (show False from q).elim | skip
    · obtain ⟨a, vs, rfl, hh, rs⟩ := rd_tup r
      obtain ⟨hl, q⟩ := pog_if (c := c) (E := E) q
      exact ⟨a, vs, rfl, .inl (.inl hh), by rw [← rs.length]; exact hl, m, S, g, _, s, rg, rs, q⟩
    · obtain ⟨a, vs, rfl, hh, rs⟩ := rd_ktp r
      obtain ⟨hl, q⟩ := pog_if (c := c) (E := E) q
      exact ⟨a, vs, rfl, hh.sq, by rw [← rs.length]; exact hl, m, S, g, _, s, rg, rs, q⟩
def mAsg (a : ME) (t : MG) : MS := fun g S => toRS (a g S) fun d S1 => match t d g S1 with
  | .nx g' S' => .nx g' S'
  | .ex q S' => .ex q S'
  | _ => .bad
theorem qs_asg {tg e : Expr} {ma : ME} {t : MG} {pos : Pos} (he : PE X e (rdE c E ma)) (hg : PG X tg (rdG c E t)) (hs : swapsWithSole [tg] e pos.line X.env = pure false := by rfl) (hw : swappedStores [tg] e X.env = pure none := by rfl)
    (h1 : (assignEach [tg] X.env).map (·.2) = [assign tg X.env] := by rfl) : PS X (.Assign [tg] e pos) (rdS c E (mAsg ma t)) :=
  PS.imp (ps_asg he hg hs hw h1) fun Z σ H ⟨m, S, g, s, rg, q⟩ => seqSE s rg q fun m1 S1 H1 d v a r q1 => by
    refine ⟨m1, S1, g, d, a.sim, a.relG rg, r, ?_⟩
    cases e : t d g S1 with
    | nx g' S' => rw [e] at q1; exact q1
    | ex p S' => rw [e] at q1; exact q1
    | rt d S' => rw [e] at q1; exact q1.elim
    | bk d S' => rw [e] at q1; exact q1.elim
    | ct d S' => rw [e] at q1; exact q1.elim
    | bad => rw [e] at q1; exact q1.elim
/-- a, b = x, y of local names -/
def mPar (i j : Nat) (a : MA) : MS := fun g S => toRSA (a g S) fun l S1 => match l with
  | [x, y] => .nx ((g.set i (some x)).set j (some y)) S1
  | _ => .bad
theorem qs_par {i j : Nat} {x y : Str} {a b : Expr} {ma : MA} {px py pt pos : Pos} {kt k2 pt2} (hc : X.calm = true) (hN : X.N.Nodup) (hi : X.N[i]? = some x) (hj : X.N[j]? = some y) (hij : i ≠ j)
    (hx : X.env.scope.names.lookup x = some .local) (hy : X.env.scope.names.lookup y = some .local) (ha : PA X [a, b] (rdA c E ma))
    (hw : swappedStores [.Tuple [.Name x px, .Name y py] kt pt] (.Tuple [a, b] k2 pt2) X.env = pure (some [x, y]))
    (hs : swapsWithSole [.Tuple [.Name x px, .Name y py] kt pt] (.Tuple [a, b] k2 pt2) pos.line X.env = pure false := by rfl) :
    PS X (.Assign [.Tuple [.Name x px, .Name y py] kt pt] (.Tuple [a, b] k2 pt2) pos) (rdS c E (mPar i j ma)) :=
  PS.imp (ps_par hc hN hi hj hij hx hy ha hw hs) fun Z σ H ⟨m, S, g, s, rg, q⟩ => seqSA s rg q fun m1 S1 H1 l vs a rs q1 => by
    split at q1
    · obtain ⟨v, w, rfl, r1, r2⟩ := two_of rs
      exact ⟨v, w, rfl, q1 m1 H1 _ (Nxt.refl a.sim) (((a.relG rg).set i r1).set j r2)⟩
    · exact q1.elim
def mPar3 (i j k : Nat) (a : MA) : MS := fun g S => toRSA (a g S) fun l S1 => match l with
  | [x, y, z] => .nx (((g.set i (some x)).set j (some y)).set k (some z)) S1
  | _ => .bad
theorem qs_par3 {i j k : Nat} {x y z : Str} {a b e : Expr} {ma : MA} {px py pz pt pos : Pos} {kt k2 pt2} (hc : X.calm = true) (hN : X.N.Nodup) (hi : X.N[i]? = some x) (hj : X.N[j]? = some y) (hk : X.N[k]? = some z) (hij : i ≠ j) (hik : i ≠ k) (hjk : j ≠ k)
    (hx : X.env.scope.names.lookup x = some .local) (hy : X.env.scope.names.lookup y = some .local) (hz : X.env.scope.names.lookup z = some .local) (ha : PA X [a, b, e] (rdA c E ma))
    (hw : swappedStores [.Tuple [.Name x px, .Name y py, .Name z pz] kt pt] (.Tuple [a, b, e] k2 pt2) X.env = pure (some [x, y, z]))
    (hs : swapsWithSole [.Tuple [.Name x px, .Name y py, .Name z pz] kt pt] (.Tuple [a, b, e] k2 pt2) pos.line X.env = pure false := by rfl) :
    PS X (.Assign [.Tuple [.Name x px, .Name y py, .Name z pz] kt pt] (.Tuple [a, b, e] k2 pt2) pos) (rdS c E (mPar3 i j k ma)) :=
  PS.imp (ps_par3 hc hN hi hj hk hij hik hjk hx hy hz ha hw hs) fun Z σ H ⟨m, S, g, s, rg, q⟩ => seqSA s rg q fun m1 S1 H1 l vs a rs q1 => by
    split at q1
    · obtain ⟨v, w, rfl, r1, r2⟩ := rd_cons rs
      obtain ⟨v2, w2, rfl, r3, r4⟩ := two_of r2
      exact ⟨v, v2, w2, rfl, q1 m1 H1 _ (Nxt.refl a.sim) ((((a.relG rg).set i r1).set j r3).set k r4)⟩
    · exact q1.elim
/-- x op= e -/
def mAug (i : Nat) (f : D → D → SM D) (a : ME) : MS := fun g S => match g[i]? with
  | some (some x) => toRS (a g S) fun y S1 => toRS (f x y S1) fun z S2 => .nx (g.set i (some z)) S2
  | _ => .bad
theorem qs_aug {i : Nat} {x : Str} {e : Expr} {ma : ME} {op : Operator} {r : R2} {f : D → D → SM D} {pos pos' : Pos} (hN : X.N.Nodup) (hi : X.N[i]? = some x) (hx : Loc X.env.scope x) (he : PE X e (rdE c E ma)) (ho : OpR X (inplaceOp op) r) (hs : Snd2 c r f) (hf : X.fn x = true ∨ X.env.scope.names.lookup x = some .local := by first | exact .inl rfl | exact .inr rfl | assumption) :
    PS X (.AugAssign (.Name x pos') op e pos) (rdS c E (mAug i f ma)) :=
  PS.imp (ps_aug (ti := r) hN hi hx he (fun pins s σ H x y v u Q I rx ry h => ho pins s σ H x y v u Q I rx ry h) hf) fun Z σ H ⟨m, S, g, s, rg, q⟩ => by
    unfold mAug at q
    split at q
    · rename_i d ed
      obtain ⟨v, ev, rv⟩ := rg.2 i d ed
      refine ⟨v, ev, seqSE s rg q fun m1 S1 H1 y w a rw' q1 => ?_⟩
      cases e : f d y S1 with
      | ok z S2 =>
        rw [e] at q1
        refine hs E m1 S1 H1 _ d y v w a.sim (a.relD rv) rw' ?_
        rw [e]
        exact fun m2 H2 u b ru => q1 m2 H2 _ b ((b.relG (a.relG rg)).set i ru)
      | exc p S2 =>
        rw [e] at q1
        refine hs E m1 S1 H1 _ d y v w a.sim (a.relD rv) rw' ?_
        rw [e]
        exact q1
      | bad => rw [e] at q1; exact q1.elim
    · exact q.elim
/-- o.f op= e -/
def mFldAug (qs : List Str) (fl : Str) (f : D → D → SM D) (o v : ME) : MS := fun g S => toRS (o g S) fun ov S1 => match ov with
  | .adr i => (match S1.f i with
    | some (.ins q fs) => if q ∈ qs then (match fs.lookup fl with
      | some x => toRS (v g S1) fun y S2 => toRS (f x y S2) fun z S3 => match setA [q] fl (.adr i) z S3 with
        | some S4 => .nx g S4
        | none => .bad
      | none => .bad) else .bad
    | _ => .bad)
  | _ => .bad
theorem pos_if {p : Prop} [Decidable p] {Z : Ends} {r : RS} (h : PoS c E m S H Z (if p then r else .bad)) : p ∧ PoS c E m S H Z r := by
  by_cases hp : p
  · rw [if_pos hp] at h
    exact ⟨hp, h⟩
  · rw [if_neg hp] at h
    exact h.elim
theorem qs_fldaug {o value : Expr} {fl : Str} {qs : List Str} {mo mv : ME} {op : Operator} {r : R2} {f : D → D → SM D} {pos tpos : Pos} (A : Att c X.K qs fl) (ho : PE X o (rdE c E mo)) (hv : PE X value (rdE c E mv)) (hop : OpR X (inplaceOp op) r) (hs : Snd2 c r f) : PS X (.AugAssign (.Attribute o fl tpos) op value pos) (rdS c E (mFldAug qs fl f mo mv)) :=
  PS.imp (ps_fldaug (rd := r) ho hv (fun pins s σ H x y v u Q I rx ry h => hop pins s σ H x y v u Q I rx ry h)) fun Z σ H ⟨m, S, g, s, rg, q⟩ => seqSE s rg q fun m1 S1 H1 od ov a ro q1 => by
    cases od <;> first | exact (show False from q1).elim | skip
    rename_i i
    have ro0 := ro
    obtain ⟨rfl, hi⟩ := rd_adr ro
    dsimp only at q1
    split at q1
    · rename_i p fs ef
      obtain ⟨hq, q2⟩ := pos_if q1
      obtain ⟨dx, vs, hh, rk⟩ := a.sim.ins ef
      rcases rk.lookup fl with ⟨e1, _⟩ | ⟨x, v, e1, e2, r1⟩
      · rw [e1] at q2
        exact q2.elim
      · rw [e1] at q2
        refine ⟨_, _, dx, vs, v, rfl, hh, A.cl p hq, A.no p hq, e2, seqSE a.sim (a.relG rg) q2 fun m2 S2 H2 y w b ry q3 => ?_⟩
        cases e : f x y S2 with
        | ok z S3 =>
          rw [e] at q3
          refine hs E m2 S2 H2 _ x y v w b.sim (b.relD r1) ry ?_
          rw [e]
          intro m3 H3 u d ru
          have q5 : PoS c E m2 S2 H2 Z (match setA [p] fl (.adr i) z S3 with
            | some S4 => .nx g S4
            | none => .bad) := q3
          clear q3
          cases e4 : setA [p] fl (.adr i) z S3 with
          | none => rw [e4] at q5; exact q5.elim
          | some S4 =>
            rw [e4] at q5
            have bd := b.trans a.sim d
            obtain ⟨p', q', dx', fs', hq', ep, hh', hl, n⟩ := setA_ok d.sim (bd.relD ro0) ru e4
            have eq' : q' = p := by simpa using hq'
            subst eq'
            have eq2 : p' = m1 i := by
              have := (rd_adr (bd.relD ro0)).1
              injection ep with ep
              exact ep.symm
            rw [eq2] at hh' n
            exact ⟨dx', fs', hh', hl, q5 m3 _ σ (d.trans b.sim n) (n.relG (d.relG (b.relG (a.relG rg))))⟩
        | exc z S3 =>
          rw [e] at q3
          refine hs E m2 S2 H2 _ x y v w b.sim (b.relD r1) ry ?_
          rw [e]
          exact q3
        | bad => rw [e] at q3; exact q3.elim
    · exact q1.elim
end
end Y

set_option Elab.async false
set_option linter.all false
set_option maxRecDepth 100000
set_option maxHeartbeats 1000000
/-! Y8: loops, comprehensions. -/
namespace Y
open PySem PySem.Spec PyProof.Rows L2
/-! ### what is walked -/
/-- n: a bound of the turns; nxt: some none: the end; none: not told -/
structure Src where
  n : Nat
  nxt : Nat → Sr → Option (Option D)
def sqn (l : List D) : Src := ⟨l.length, fun i _ => some l[i]?⟩
def sqa (j n : Nat) : Src := ⟨n, fun i S => match S.f j with
  | some (.lst l) => some l[i]?
  | _ => none⟩
def sqr (lo k : Int) (n : Nat) : Src := ⟨n, fun i _ => some (if i < n then some (.int (lo + (i : Int) * k)) else none)⟩
def sqs (x : Str) : Src := ⟨x.cps.size, fun i _ => some (x.cps[i]?.map fun c => .str ⟨#[c]⟩)⟩
def sqe (s : Src) : Src := ⟨s.n, fun i S => match s.nxt i S with
  | some (some d) => some (some (.tup [.int (i : Int), d]))
  | some none => some none
  | none => none⟩
def sqz (a b : Src) : Src := ⟨a.n, fun i S => match a.nxt i S, b.nxt i S with
  | some (some x), some (some y) => some (some (.tup [x, y]))
  | some none, some _ => some none
  | some (some _), some none => some none
  | _, _ => none⟩
structure ItOk (c : Ct) (J : It) (sr : Src) (m0 : Nat → Addr) (S0 : Sr) (H0 : Hp) : Prop where
  go : ∀ i m S H d, Nxt c m0 S0 H0 m S H → sr.nxt i S = some (some d) → J.go i H ∧ ∀ x H', J.yld i H x H' → Nxt c m S H m S H' ∧ RelD c m S.n H' d x
  stop : ∀ i m S H, Nxt c m0 S0 H0 m S H → sr.nxt i S = some none → J.stop i H
abbrev MI := Gm → SM Src
section
variable {X : Cx} {c : Ct} {E : XK} {m : Nat → Addr} {S : Sr} {H : Hp} {g : Gm} {σ : L2.St}
def PoI (c : Ct) (E : XK) (m : Nat → Addr) (S : Sr) (H : Hp) (Q : It → Hp → Prop) : R Src → Prop
  | .ok sr S' => ∀ m' H' J, Nxt c m S H m' S' H' → ItOk c J sr m' S' H' → Q J H'
  | .exc q S' => ∀ m' H', Nxt c m S H m' S' H' → E (.ref (c.cls q)) none H'
  | .bad => False
def rdI (c : Ct) (E : XK) (x : MI) : TI := fun σ H Q => ∃ m S g, Sim c m S H ∧ RelG c m S.n H g σ ∧ PoI c E m S H Q (x g S)
theorem PI.imp {tg it : Expr} {t t' : TI} (h : PI X tg it t) (i : ∀ σ H Q, t' σ H Q → t σ H Q) : PI X tg it t' := ⟨fun pins s σ H Q I q => h.run pins s σ H Q I (i σ H Q q)⟩
theorem PI.or {tg it : Expr} {t t' : TI} (h : PI X tg it t) (h' : PI X tg it t') : PI X tg it fun σ H Q => t σ H Q ∨ t' σ H Q := ⟨fun pins s σ H Q I q => q.elim (h.run pins s σ H Q I) (h'.run pins s σ H Q I)⟩
theorem PoI.go {m1 : Nat → Addr} {S1 : Sr} {H1 : Hp} (s : Sim c m S H) (a : Nxt c m S H m1 S1 H1) {Q : It → Hp → Prop} {r : R Src} (h : PoI c E m S H Q r) : PoI c E m1 S1 H1 Q r := by
  cases r with
  | ok d S' => exact fun m' H' J b i => h m' H' J (a.trans s b) i
  | exc q S' => exact fun m' H' b => h m' H' (a.trans s b)
  | bad => exact h
def mSrcD (ar : Bool) (d : D) (S : Sr) : R Src := match d with
  | .tup l => if ar then .ok (sqn l) S else .bad
  | .ktp l => if ar then .ok (sqn l) S else .bad
  | .fro l => .ok (sqn l) S
  | .str x => if ar then .ok (sqs x) S else .bad
  | .adr i => (match S.f i with
    | some (.lst l) => .ok (sqa i l.length) S
    | _ => .bad)
  | _ => .bad
def mSrc (a : ME) : MI := fun g => SM.bind (a g) (mSrcD true)
/-- the reading of a mirror's outcome -/
theorem rdE_of {x : ME} {QQ : VK} (s : Sim c m S H) (rg : RelG c m S.n H g σ) (h : PoE c E m S H QQ (x g S)) : rdE c E x σ H QQ := ⟨m, S, g, s, rg, h⟩
theorem it_fro {l : List D} {a : Addr} {vs : List V} {n : Nat} (hn : n ≤ S.n) (h : SqF c.K H a vs) (rs : RelDs c m n H l vs) : ItOk c (Itl c.K a) (sqn l) m S H := by
  refine ⟨fun i m1 S1 H1 d a1 e => ?_, fun i m1 S1 H1 a1 e => ?_⟩
  · have e : l[i]? = some d := Option.some.inj e
    have rs := rs.mono (fun j hj => a1.mu j (Nat.lt_of_lt_of_le hj hn)) (Nat.le_trans hn a1.le) a1.kp
    obtain ⟨v, e1, r1⟩ := rs.get e
    have hq := (a1.kp.sqF h).sq
    exact ⟨⟨vs, v, hq, e1⟩, fun x H' ⟨e2, y⟩ => by
      subst e2
      have := y vs hq
      rw [e1] at this
      cases this
      exact ⟨Nxt.refl a1.sim, r1⟩⟩
  · have e : l[i]? = none := Option.some.inj e
    refine ⟨vs, (a1.kp.sqF h).sq, ?_⟩
    rw [← rs.length]
    exact List.getElem?_eq_none_iff.mp e
theorem it_tup {l : List D} {a : Addr} {vs : List V} {n : Nat} (hn : n ≤ S.n) (h : SqT c.K H a vs) (rs : RelDs c m n H l vs) : ItOk c (Itt c.K a) (sqn l) m S H := by
  refine ⟨fun i m1 S1 H1 d a1 e => ?_, fun i m1 S1 H1 a1 e => ?_⟩
  · have e : l[i]? = some d := Option.some.inj e
    have rs := rs.mono (fun j hj => a1.mu j (Nat.lt_of_lt_of_le hj hn)) (Nat.le_trans hn a1.le) a1.kp
    obtain ⟨v, e1, r1⟩ := rs.get e
    have hq := a1.kp.sqT h
    exact ⟨⟨vs, v, hq, e1⟩, fun x H' ⟨e2, y⟩ => by
      subst e2
      have := y vs hq
      rw [e1] at this
      cases this
      exact ⟨Nxt.refl a1.sim, r1⟩⟩
  · have e : l[i]? = none := Option.some.inj e
    refine ⟨vs, a1.kp.sqT h, ?_⟩
    rw [← rs.length]
    exact List.getElem?_eq_none_iff.mp e
theorem it_str {x : Str} : ItOk c (Its x) (sqs x) m S H := by
  refine ⟨fun i m1 S1 H1 d a1 e => ?_, fun i m1 S1 H1 a1 e => ?_⟩
  · have e : (x.cps[i]?.map fun c => D.str ⟨#[c]⟩) = some d := Option.some.inj e
    obtain ⟨k, e1, e2⟩ := Option.map_eq_some_iff.mp e
    refine ⟨(Array.getElem?_eq_some_iff.mp e1).1, fun v H' ⟨e3, k', e4, e5⟩ => ?_⟩
    subst e3 e2
    rw [e1] at e4
    cases e4
    subst e5
    exact ⟨Nxt.refl a1.sim, mk_str⟩
  · have e : (x.cps[i]?.map fun c => D.str ⟨#[c]⟩) = none := Option.some.inj e
    have e1 := Option.map_eq_none_iff.mp e
    exact Array.getElem?_eq_none_iff.mp e1
theorem it_adr {j n : Nat} (hj : j < S.n) : ItOk c (Itl c.K (m j)) (sqa j n) m S H := by
  refine ⟨fun i m1 S1 H1 d a1 e => ?_, fun i m1 S1 H1 a1 e => ?_⟩
  · have e : (match S1.f j with
      | some (.lst l) => some l[i]?
      | _ => none) = some (some d) := e
    split at e
    · rename_i l el
      have e : l[i]? = some d := Option.some.inj e
      obtain ⟨vs, h, rs⟩ := a1.sim.lst el
      rw [a1.mu j hj] at h
      obtain ⟨v, e1, r1⟩ := rs.get e
      have hq : SqL c.K H1 (m j) vs := .inl (.inl h)
      exact ⟨⟨vs, v, hq, e1⟩, fun x H' ⟨e2, y⟩ => by
        subst e2
        have := y vs hq
        rw [e1] at this
        cases this
        exact ⟨Nxt.refl a1.sim, r1⟩⟩
    · cases e
  · have e : (match S1.f j with
      | some (.lst l) => some l[i]?
      | _ => none) = some none := e
    split at e
    · rename_i l el
      have e : l[i]? = none := Option.some.inj e
      obtain ⟨vs, h, rs⟩ := a1.sim.lst el
      rw [a1.mu j hj] at h
      refine ⟨vs, .inl (.inl h), ?_⟩
      rw [← rs.length]
      exact List.getElem?_eq_none_iff.mp e
    · cases e
theorem seqIE {x : ME} {k : D → SM Src} {Q : It → Hp → Prop} {QQ : VK} (s : Sim c m S H) (rg : RelG c m S.n H g σ) (h : PoI c E m S H Q (SM.bind (x g) k S))
    (hk : ∀ m1 S1 H1 d v, Nxt c m S H m1 S1 H1 → RelD c m1 S1.n H1 d v → PoI c E m1 S1 H1 Q (k d S1) → QQ v H1) : rdE c E x σ H QQ := by
  refine ⟨m, S, g, s, rg, ?_⟩
  unfold SM.bind at h
  cases e : x g S with
  | ok d S1 =>
    rw [e] at h
    exact fun m1 H1 v a r => hk m1 S1 H1 d v a r (PoI.go s a h)
  | exc q S1 =>
    rw [e] at h
    exact h
  | bad =>
    rw [e] at h
    exact h
theorem seqIA {x : MA} {k : List D → SM Src} {Q : It → Hp → Prop} {QQ : List V → Hp → Prop} (s : Sim c m S H) (rg : RelG c m S.n H g σ) (h : PoI c E m S H Q (SM.bind (x g) k S))
    (hk : ∀ m1 S1 H1 d v, Nxt c m S H m1 S1 H1 → RelDs c m1 S1.n H1 d v → PoI c E m1 S1 H1 Q (k d S1) → QQ v H1) : rdA c E x σ H QQ := by
  refine ⟨m, S, g, s, rg, ?_⟩
  unfold SM.bind at h
  cases e : x g S with
  | ok d S1 =>
    rw [e] at h
    exact fun m1 H1 v a r => hk m1 S1 H1 d v a r (PoI.go s a h)
  | exc q S1 =>
    rw [e] at h
    exact h
  | bad =>
    rw [e] at h
    exact h
theorem pi_if {p : Prop} [Decidable p] {Q : It → Hp → Prop} {r : R Src} (h : PoI c E m S H Q (if p then r else .bad)) : p ∧ PoI c E m S H Q r := by
  by_cases hp : p
  · rw [if_pos hp] at h
    exact ⟨hp, h⟩
  · rw [if_neg hp] at h
    exact h.elim
theorem qi_seq {tg e : Expr} {ma : ME} (hK : X.K = c.K) (h : PE X e (rdE c E ma)) : PI X tg e (rdI c E (mSrc ma)) :=
  PI.imp (PI.or (pi_list h) (PI.or (pi_tup h) (pi_str h))) fun σ H Q ⟨m, S, g, s, rg, q⟩ => by
    unfold mSrc SM.bind at q
    rw [hK]
    cases e0 : ma g S with
    | bad =>
      rw [e0] at q
      exact q.elim
    | exc p S1 =>
      rw [e0] at q
      exact .inl (rdE_of s rg (by rw [e0]; exact q))
    | ok d S1 =>
      rw [e0] at q
      cases d with
      | fro l => exact .inl (rdE_of s rg (by
          rw [e0]
          intro m1 H1 v a r
          obtain ⟨p, vs, rfl, hh, rs⟩ := rd_fro r
          exact ⟨p, rfl, ⟨vs, hh.sq⟩, q m1 H1 _ a (it_fro (Nat.le_refl _) hh rs)⟩))
      | tup l => exact .inr (.inl (rdE_of s rg (by
          rw [e0]
          intro m1 H1 v a r
          obtain ⟨p, vs, rfl, hh, rs⟩ := rd_tup r
          exact ⟨p, rfl, ⟨vs, .inl (.inl hh)⟩, q m1 H1 _ a (it_tup (Nat.le_refl _) (.inl (.inl hh)) rs)⟩)))
      | ktp l => exact .inr (.inl (rdE_of s rg (by
          rw [e0]
          intro m1 H1 v a r
          obtain ⟨p, vs, rfl, hh, rs⟩ := rd_ktp r
          exact ⟨p, rfl, ⟨vs, hh.sq⟩, q m1 H1 _ a (it_tup (Nat.le_refl _) hh.sq rs)⟩)))
      | str x => exact .inr (.inr (rdE_of s rg (by
          rw [e0]
          intro m1 H1 v a r
          exact ⟨x, rd_str r, q m1 H1 _ a it_str⟩)))
      | adr j =>
        refine .inl (rdE_of s rg ?_)
        rw [e0]
        intro m1 H1 v a r
        obtain ⟨rfl, hj⟩ := rd_adr r
        unfold mSrcD at q
        dsimp only at q
        split at q
        · rename_i l el
          obtain ⟨vs, hh, rs⟩ := a.sim.lst el
          exact ⟨_, rfl, ⟨vs, .inl (.inl hh)⟩, q m1 H1 _ a (it_adr hj)⟩
        · exact q.elim
      | _ => exact q.elim
def mRng1 (a : MA) : MI := fun g => SM.bind (a g) fun l S => match l with
  | [.int j] => if -(2 ^ 62) ≤ j ∧ j < 2 ^ 62 then .ok (sqr 0 1 j.toNat) S else .bad
  | _ => .bad
def mRng2 (a : MA) : MI := fun g => SM.bind (a g) fun l S => match l with
  | [.int i, .int j] => if -(2 ^ 62) ≤ i ∧ i < 2 ^ 62 ∧ -(2 ^ 62) ≤ j ∧ j < 2 ^ 62 then .ok (sqr i 1 (j - i).toNat) S else .bad
  | _ => .bad
/-- down by one -/
def mRng3 (a : MA) : MI := fun g => SM.bind (a g) fun l S => match l with
  | [.int i, .int j, .int k] => if (-(2 ^ 62) ≤ i ∧ i < 2 ^ 62 ∧ -(2 ^ 62) ≤ j ∧ j < 2 ^ 62) ∧ k = -1 then .ok (sqr i (-1) (i - j).toNat) S else .bad
  | _ => .bad
theorem it_rng {lo k : Int} {n : Nat} {J : It} (h1 : ∀ i H, J.go i H ↔ i < n) (h2 : ∀ i H x H', J.yld i H x H' → H' = H ∧ x = .int (lo + (i : Int) * k)) (h3 : ∀ i H, J.stop i H ↔ n ≤ i) : ItOk c J (sqr lo k n) m S H := by
  refine ⟨fun i m1 S1 H1 d a1 e => ?_, fun i m1 S1 H1 a1 e => ?_⟩
  · have e : (if i < n then some (D.int (lo + (i : Int) * k)) else none) = some d := Option.some.inj e
    split at e
    · rename_i hl
      cases e
      refine ⟨(h1 i H1).mpr hl, fun x H' y => ?_⟩
      obtain ⟨rfl, rfl⟩ := h2 i H1 x H' y
      exact ⟨Nxt.refl a1.sim, mk_int⟩
    · cases e
  · have e : (if i < n then some (D.int (lo + (i : Int) * k)) else none) = none := Option.some.inj e
    split at e
    · cases e
    · rename_i hl
      exact (h3 i H1).mpr (Nat.le_of_not_lt hl)
theorem qi_rng1 {tg a : Expr} {ma : MA} {p pos : Pos} (hg : Gl X "range") (hm : X.mg "range" = none) (ha : PA X [a] (rdA c E ma)) (hs : starEach [a] X.env = [(false, eval a X.env)] := by rfl) : PI X tg (.Call (.Name "range" p) [a] [] pos) (rdI c E (mRng1 ma)) :=
  PI.imp (pi_range1 hg hm ha hs) fun σ H Q ⟨m, S, g, s, rg, q⟩ => seqIA s rg q fun m1 S1 H1 l vs a rs q1 => by
    split at q1
    · rename_i j
      obtain ⟨v, w, rfl, r1, r2⟩ := rd_cons rs
      rw [rd_int r1, rd_nil r2]
      obtain ⟨hl, q2⟩ := pi_if (c := c) (E := E) q1
      exact ⟨j, rfl, hl.1, hl.2, q2 m1 H1 _ (Nxt.refl a.sim) (it_rng (fun _ _ => Iff.rfl) (fun i H x H' y => ⟨y.1, by rw [y.2, Int.mul_one]⟩) fun _ _ => Iff.rfl)⟩
    · exact q1.elim
theorem qi_rng2 {tg a b : Expr} {ma : MA} {p pos : Pos} (hg : Gl X "range") (hm : X.mg "range" = none) (ha : PA X [a, b] (rdA c E ma)) (hs : starEach [a, b] X.env = [(false, eval a X.env), (false, eval b X.env)] := by rfl) (hs2 : starEach [b] X.env = [(false, eval b X.env)] := by rfl) : PI X tg (.Call (.Name "range" p) [a, b] [] pos) (rdI c E (mRng2 ma)) :=
  PI.imp (pi_range2 hg hm ha hs hs2) fun σ H Q ⟨m, S, g, s, rg, q⟩ => seqIA s rg q fun m1 S1 H1 l vs a rs q1 => by
    split at q1
    · rename_i i j
      obtain ⟨v, w, rfl, r1, r2⟩ := rd_cons rs
      obtain ⟨v, w, rfl, r3, r4⟩ := rd_cons r2
      rw [rd_int r1, rd_int r3, rd_nil r4]
      obtain ⟨hl, q2⟩ := pi_if (c := c) (E := E) q1
      exact ⟨i, j, rfl, hl, q2 m1 H1 _ (Nxt.refl a.sim) (it_rng (fun _ _ => Iff.rfl) (fun i H x H' y => ⟨y.1, by rw [y.2, Int.mul_one]⟩) fun _ _ => Iff.rfl)⟩
    · exact q1.elim
theorem qi_rng3 {tg a b d : Expr} {ma : MA} {p pos : Pos} (hg : Gl X "range") (hm : X.mg "range" = none) (ha : PA X [a, b, d] (rdA c E ma)) (hs : starEach [a, b, d] X.env = (false, eval a X.env) :: starEach [b, d] X.env := by rfl) (hpl : (backTo pos (starEach [b, d] X.env)).any (·.1) = false := by rfl) : PI X tg (.Call (.Name "range" p) [a, b, d] [] pos) (rdI c E (mRng3 ma)) :=
  PI.imp (pi_range3 hg hm ha hs hpl) fun σ H Q ⟨m, S, g, s, rg, q⟩ => seqIA s rg q fun m1 S1 H1 l vs a rs q1 => by
    split at q1
    · rename_i i j k
      obtain ⟨v, w, rfl, r1, r2⟩ := rd_cons rs
      obtain ⟨v, w, rfl, r3, r4⟩ := rd_cons r2
      obtain ⟨v, w, rfl, r5, r6⟩ := rd_cons r4
      rw [rd_int r1, rd_int r3, rd_int r5, rd_nil r6]
      obtain ⟨⟨hl, rfl⟩, q2⟩ := pi_if (c := c) (E := E) q1
      exact ⟨i, j, -1, _, rfl, RgC.neg hl.1 hl.2.1 hl.2.2.1 hl.2.2.2, q2 m1 H1 _ (Nxt.refl a.sim) (it_rng (fun _ _ => Iff.rfl) (fun i H x H' y => y) fun _ _ => Iff.rfl)⟩
    · exact q1.elim
/-! ### enumerate, zip -/
/-- a list's place and its walk -/
def SqOk (c : Ct) (sr : Src) (a : Addr) (m0 : Nat → Addr) (S0 : Sr) (H0 : Hp) : Prop :=
  ∀ i m S H, Nxt c m0 S0 H0 m S H → (∀ o, sr.nxt i S = some o → ∃ vs, SqL c.K H a vs ∧ (match o with
    | some d => ∃ v, vs[i]? = some v ∧ RelD c m S.n H d v
    | none => vs.length ≤ i))
theorem sq_of {d : D} {v : V} {sr : Src} {S' : Sr} (s : Sim c m S H) (r : RelD c m S.n H d v) (e : mSrcD false d S = .ok sr S') : S' = S ∧ ∃ a, v = .ref a ∧ SqOk c sr a m S H ∧ ∃ vs, SqL c.K H a vs := by
  cases d with
  | fro l =>
    cases e
    obtain ⟨a, vs, rfl, hh, rs⟩ := rd_fro r
    refine ⟨rfl, a, rfl, fun i m1 S1 H1 a1 o e => ⟨vs, (a1.kp.sqF hh).sq, ?_⟩, vs, hh.sq⟩
    have e : l[i]? = o := Option.some.inj e
    cases o with
    | none =>
      show vs.length ≤ i
      rw [← rs.length]
      exact List.getElem?_eq_none_iff.mp e
    | some d => exact (a1.relDs rs).get e
  | adr j =>
    obtain ⟨rfl, hj⟩ := rd_adr r
    unfold mSrcD at e
    dsimp only at e
    split at e
    · rename_i l el
      cases e
      obtain ⟨vs, hh, rs⟩ := s.lst el
      refine ⟨rfl, _, rfl, fun i m1 S1 H1 a1 o e => ?_, vs, .inl (.inl hh)⟩
      have e : (match S1.f j with
        | some (.lst l) => some l[i]?
        | _ => none) = some o := e
      split at e
      · rename_i l2 el2
        have e : l2[i]? = o := Option.some.inj e
        obtain ⟨vs2, h2, rs2⟩ := a1.sim.lst el2
        rw [a1.mu j hj] at h2
        refine ⟨vs2, .inl (.inl h2), ?_⟩
        cases o with
        | none =>
          show vs2.length ≤ i
          rw [← rs2.length]
          exact List.getElem?_eq_none_iff.mp e
        | some d => exact rs2.get e
      · cases e
    · cases e
  | _ => cases e
theorem it_enum {sr : Src} {a : Addr} (h : SqOk c sr a m S H) : ItOk c (Ite c.K a) (sqe sr) m S H := by
  refine ⟨fun i m1 S1 H1 d a1 e => ?_, fun i m1 S1 H1 a1 e => ?_⟩
  · unfold sqe at e
    dsimp only at e
    split at e
    · rename_i d0 e0
      cases e
      obtain ⟨vs, hq, v, e1, r⟩ := h i m1 S1 H1 a1 _ e0
      refine ⟨⟨vs, v, hq, e1⟩, fun x H' ⟨T, y, e2, hT, e3, hy⟩ => ?_⟩
      subst e2 e3
      have e4 := hy vs hq
      rw [e1] at e4
      cases e4
      have n : Nxt c m1 S1 H1 m1 S1 (upd H1 T (.tup [.int (i : Nat), v])) := Nxt.fresh a1.sim hT
      exact ⟨n, mk_tup upd_same (mk_cons mk_int (mk_cons (n.relD r) mk_nil))⟩
    · cases e
    · cases e
  · unfold sqe at e
    dsimp only at e
    split at e
    · cases e
    · rename_i e0
      obtain ⟨vs, hq, hl⟩ := h i m1 S1 H1 a1 _ e0
      exact ⟨vs, hq, hl⟩
    · cases e
theorem it_zip {sr sr2 : Src} {a b : Addr} (h : SqOk c sr a m S H) (h2 : SqOk c sr2 b m S H) : ItOk c (Itz c.K a b) (sqz sr sr2) m S H := by
  refine ⟨fun i m1 S1 H1 d a1 e => ?_, fun i m1 S1 H1 a1 e => ?_⟩
  · unfold sqz at e
    dsimp only at e
    split at e
    · rename_i d0 d1 e0 e1
      cases e
      obtain ⟨vs, hq, v, e2, r⟩ := h i m1 S1 H1 a1 _ e0
      obtain ⟨ws, hq2, w, e3, r2⟩ := h2 i m1 S1 H1 a1 _ e1
      refine ⟨⟨vs, ws, v, w, hq, hq2, e2, e3⟩, fun x H' ⟨T, y, z, e4, hT, e5, hy, hz⟩ => ?_⟩
      subst e4 e5
      have e6 := hy vs hq
      have e7 := hz ws hq2
      rw [e2] at e6
      rw [e3] at e7
      cases e6
      cases e7
      have n : Nxt c m1 S1 H1 m1 S1 (upd H1 T (.tup [v, w])) := Nxt.fresh a1.sim hT
      exact ⟨n, mk_tup upd_same (mk_cons (n.relD r) (mk_cons (n.relD r2) mk_nil))⟩
    · cases e
    · cases e
    · cases e
  · unfold sqz at e
    dsimp only at e
    split at e
    · cases e
    · rename_i o e0 e1
      obtain ⟨vs, hq, hl⟩ := h i m1 S1 H1 a1 _ e0
      obtain ⟨ws, hq2, _⟩ := h2 i m1 S1 H1 a1 _ e1
      exact ⟨vs, ws, hq, hq2, .inl hl⟩
    · rename_i d0 e0 e1
      obtain ⟨vs, hq, _⟩ := h i m1 S1 H1 a1 _ e0
      obtain ⟨ws, hq2, hl⟩ := h2 i m1 S1 H1 a1 _ e1
      exact ⟨vs, ws, hq, hq2, .inr hl⟩
    · cases e
def itSrc : R Src → (Src → Src) → R Src
  | .ok s S, f => .ok (f s) S
  | .exc q S, _ => .exc q S
  | .bad, _ => .bad
def mEnum (a : MA) : MI := fun g => SM.bind (a g) fun l S => match l with
  | [d] => (match mSrcD false d S with
    | .ok s S' => .ok (sqe s) S'
    | _ => .bad)
  | _ => .bad
theorem qi_enum {e : Expr} {ma : MA} {p pos tpos : Pos} {elts : List Expr} {kk : Nat} (hK : X.K = c.K) (hg : Gl X "enumerate") (hm : X.mg "enumerate" = none) (ha : PA X [e] (rdA c E ma)) (hs : starEach [e] X.env = [(false, eval e X.env)] := by rfl) :
    PI X (.Tuple elts kk tpos) (.Call (.Name "enumerate" p) [e] [] pos) (rdI c E (mEnum ma)) :=
  PI.imp (pi_enum hg hm ha hs) fun σ H Q ⟨m, S, g, s, rg, q⟩ => seqIA s rg q fun m1 S1 H1 l vs a rs q1 => by
    rw [hK]
    split at q1
    · obtain ⟨v, w, rfl, r1, r2⟩ := rd_cons rs
      rw [rd_nil r2]
      split at q1
      · rename_i sr S' e1
        obtain ⟨rfl, p, rfl, hq, vs, hv⟩ := sq_of a.sim r1 e1
        exact ⟨p, vs, rfl, hv, q1 m1 H1 _ (Nxt.refl a.sim) (it_enum hq)⟩
      · exact q1.elim
    · exact q1.elim
def mZip (a : MA) : MI := fun g => SM.bind (a g) fun l S => match l with
  | [d, e] => (match mSrcD false d S, mSrcD false e S with
    | .ok s _, .ok t _ => .ok (sqz s t) S
    | _, _ => .bad)
  | _ => .bad
theorem qi_zip {e e2 : Expr} {ma : MA} {p pos tpos : Pos} {elts : List Expr} {kk : Nat} (hK : X.K = c.K) (hg : Gl X "zip") (hm : X.mg "zip" = none) (ha : PA X [e, e2] (rdA c E ma)) (hs : starEach [e, e2] X.env = (false, eval e X.env) :: starEach [e2] X.env := by rfl)
    (hpl : (backTo pos (starEach [e2] X.env)).any (·.1) = false := by rfl) :
    PI X (.Tuple elts kk tpos) (.Call (.Name "zip" p) [e, e2] [] pos) (rdI c E (mZip ma)) :=
  PI.imp (pi_zip hg hm ha hs hpl) fun σ H Q ⟨m, S, g, s, rg, q⟩ => seqIA s rg q fun m1 S1 H1 l vs a rs q1 => by
    rw [hK]
    split at q1
    · obtain ⟨v, w, rfl, r1, r2⟩ := rd_cons rs
      obtain ⟨v2, w2, rfl, r3, r4⟩ := rd_cons r2
      rw [rd_nil r4]
      split at q1
      · rename_i sr _ sr2 _ e1 e2
        obtain ⟨_, p, rfl, hq, vs, hv⟩ := sq_of a.sim r1 e1
        obtain ⟨_, p2, rfl, hq2, vs2, hv2⟩ := sq_of a.sim r3 e2
        exact ⟨p, p2, vs, vs2, rfl, hv, hv2, q1 m1 H1 _ (Nxt.refl a.sim) (it_zip hq hq2)⟩
      · exact q1.elim
    · exact q1.elim
/-! ### for -/
def forG (sr : Src) (step : D → MS) : Nat → Nat → MS
  | 0, i => fun g S => match sr.nxt i S with
    | some none => .nx g S
    | _ => .bad
  | r + 1, i => fun g S => match sr.nxt i S with
    | some none => .nx g S
    | some (some d) => (match step d g S with
      | .nx g' S' => forG sr step r (i + 1) g' S'
      | .ct g' S' => forG sr step r (i + 1) g' S'
      | .bk g' S' => .nx g' S'
      | .rt v S' => .rt v S'
      | .ex q S' => .ex q S'
      | .bad => .bad)
    | none => .bad
def mStep (t : MG) (b : MS) : D → MS := fun d g S => match t d g S with
  | .nx g' S' => b g' S'
  | .ex q S' => .ex q S'
  | _ => .bad
def mFor (src : MI) (t : MG) (b : MS) : MS := fun g S => match src g S with
  | .ok sr S' => forG sr (mStep t b) sr.n 0 g S'
  | .exc q S' => .ex q S'
  | .bad => .bad
theorem qs_for {tg iter : Expr} {body : List Stmt} {mi : MI} {t : MG} {b : MS} {pos : Pos} (hp : PassesOwn (model X.prog X.w) X.A X.env X.xe) (hc : X.calm = true) (hi : PI X tg iter (rdI c E mi)) (hg : PG X tg (rdG c E t)) (hb : PSs X body (rdS c E b))
    (hs : ∀ x, foldedSetIterable iter X.env x = pure x := by intro _; rfl) : PS X (.For tg iter body [] pos) (rdS c E (mFor mi t b)) :=
  PS.imp (ps_for hp hc hi hg hb hs) fun Z σ H ⟨m, S, g, s, rg, q⟩ => by
    refine ⟨m, S, g, s, rg, ?_⟩
    unfold mFor at q
    cases e : mi g S with
    | exc p S1 => rw [e] at q; exact q
    | bad => rw [e] at q; exact q.elim
    | ok sr S1 =>
      rw [e] at q
      intro m1 H1 J a io
      refine ⟨fun i k σ H => ∃ m S g, Nxt c m1 S1 H1 m S H ∧ RelG c m S.n H g σ ∧ PoS c E m S H Z (forG sr (mStep t b) k i g S), ⟨sr.n, m1, S1, g, Nxt.refl a.sim, a.relG rg, PoS.go s a q⟩, ?_⟩
      rintro i k σ2 H2 ⟨m2, S2, g2, n2, rg2, q2⟩
      cases hn : sr.nxt i S2 with
      | none => cases k <;> (unfold forG at q2; rw [hn] at q2; exact q2.elim)
      | some o =>
        cases o with
        | none =>
          refine .inl ⟨io.stop i m2 S2 H2 n2 hn, ?_⟩
          cases k <;> (unfold forG at q2; rw [hn] at q2; exact q2 m2 H2 σ2 (Nxt.refl n2.sim) rg2)
        | some d =>
          cases k with
          | zero => unfold forG at q2; rw [hn] at q2; exact q2.elim
          | succ k =>
            unfold forG at q2
            rw [hn] at q2
            dsimp only at q2
            obtain ⟨h1, h2⟩ := io.go i m2 S2 H2 d n2 hn
            refine .inr ⟨h1, fun σ' H' => ∃ m S g, Nxt c m1 S1 H1 m S H' ∧ RelG c m S.n H' g σ' ∧ PoS c E m S H' Z (forG sr (mStep t b) k (i + 1) g S), fun σ' H' w => ⟨k, Nat.lt_succ_self k, w⟩, fun x H' y => ?_⟩
            obtain ⟨n3, r3⟩ := h2 x H' y
            have q3 := PoS.go n2.sim n3 q2
            have n23 := n2.trans a.sim n3
            refine ⟨m2, S2, g2, d, n3.sim, n3.relG rg2, r3, ?_⟩
            unfold mStep at q3
            cases e3 : t d g2 S2 with
            | nx g4 S4 =>
              rw [e3] at q3
              intro m4 H4 σ4 n4 rg4
              refine ⟨m4, S4, g4, n4.sim, rg4, ?_⟩
              have q4 := PoS.go n3.sim n4 q3
              have n24 := n23.trans a.sim n4
              dsimp only at q4
              cases e4 : b g4 S4 with
              | nx g5 S5 => rw [e4] at q4; exact fun m5 H5 σ5 n5 rg5 => ⟨m5, S5, g5, n24.trans a.sim n5, rg5, PoS.go n4.sim n5 q4⟩
              | ct g5 S5 => rw [e4] at q4; exact fun m5 H5 σ5 n5 rg5 => ⟨m5, S5, g5, n24.trans a.sim n5, rg5, PoS.go n4.sim n5 q4⟩
              | bk g5 S5 => rw [e4] at q4; exact q4
              | rt v S5 => rw [e4] at q4; exact q4
              | ex p S5 => rw [e4] at q4; exact q4
              | bad => rw [e4] at q4; exact q4.elim
            | ex p S4 => rw [e3] at q3; exact q3
            | rt _ _ => rw [e3] at q3; exact q3.elim
            | bk _ _ => rw [e3] at q3; exact q3.elim
            | ct _ _ => rw [e3] at q3; exact q3.elim
            | bad => rw [e3] at q3; exact q3.elim
/-! ### while -/
def whileG (t : MT) (b : MS) : Nat → MS
  | 0 => fun _ _ => .bad
  | k + 1 => fun g S => toRST (t g S) fun v S1 => if v = true then (match b g S1 with
      | .nx g' S' => whileG t b k g' S'
      | .ct g' S' => whileG t b k g' S'
      | .bk g' S' => .nx g' S'
      | .rt v S' => .rt v S'
      | .ex q S' => .ex q S'
      | .bad => .bad) else .nx g S1
theorem qs_while {t : Expr} {body : List Stmt} {mt : MT} {b : MS} {pos : Pos} (k : Nat) (hp : PassesOwn (model X.prog X.w) X.A X.env X.xe) (ht : PT X t (rdT c E mt)) (hb : PSs X body (rdS c E b)) : PS X (.While t body [] pos) (rdS c E (whileG mt b k)) :=
  PS.imp (ps_while hp ht hb) fun Z σ H ⟨m, S, g, s, rg, q⟩ => by
    refine ⟨fun k σ H => ∃ m S g, Sim c m S H ∧ RelG c m S.n H g σ ∧ PoS c E m S H Z (whileG mt b k g S), ⟨k, m, S, g, s, rg, q⟩, ?_⟩
    rintro k σ1 H1 ⟨m1, S1, g1, s1, rg1, q1⟩
    cases k with
    | zero => exact q1.elim
    | succ k =>
      unfold whileG at q1
      refine seqST s1 rg1 q1 fun m2 S2 H2 v a2 q2 => ?_
      cases v with
      | false => exact q2 m2 H2 σ1 (Nxt.refl a2.sim) (a2.relG rg1)
      | true =>
        refine ⟨fun σ' H' => ∃ m S g, Sim c m S H' ∧ RelG c m S.n H' g σ' ∧ PoS c E m S H' Z (whileG mt b k g S), fun σ' H' w => ⟨k, Nat.lt_succ_self k, w⟩, m2, S2, g1, a2.sim, a2.relG rg1, ?_⟩
        rw [if_pos rfl] at q2
        cases e4 : b g1 S2 with
        | nx g5 S5 => rw [e4] at q2; exact fun m5 H5 σ5 n5 rg5 => ⟨m5, S5, g5, n5.sim, rg5, PoS.go a2.sim n5 q2⟩
        | ct g5 S5 => rw [e4] at q2; exact fun m5 H5 σ5 n5 rg5 => ⟨m5, S5, g5, n5.sim, rg5, PoS.go a2.sim n5 q2⟩
        | bk g5 S5 => rw [e4] at q2; exact q2
        | rt v S5 => rw [e4] at q2; exact q2
        | ex p S5 => rw [e4] at q2; exact q2
        | bad => rw [e4] at q2; exact q2.elim
end
end Y

set_option Elab.async false
set_option linter.all false
set_option maxRecDepth 100000
set_option maxHeartbeats 2000000
/-! Y8b: comprehensions whose parts may raise. -/
namespace Y
open PySem PySem.Spec PyProof.Rows L2
theorem note_env {u : Value} {env env' : Env} (h : env.frame = env'.frame) : noteFrame u env = noteFrame u env' := by
  unfold noteFrame PySem.frameOf
  rw [h]
theorem ns_of {h h' : Heap} {g : Addr} {ms : Str → Option Value} (n : h.Ns g ms) (k : ∀ o, h.get? g = some o → h'.get? g = some o) : h'.Ns g ms := by
  obtain ⟨ob, es, ep, ho, r⟩ := n
  exact ⟨ob, es, ep, k ob ho, r⟩
/-- an exception that X's frame, at L, has noted -/
def HE (X : Cx) (L : Addr) (E : XK) (u : Value) (s' : Shared) : Prop :=
  ∃ (a : Addr) (B : Heap) (sI : Shared) (pins : List (Addr × Obj)) (σ : L2.St) (H : Hp) (cls : Value) (d : Option Addr), u = .ref a ∧ Inv X pins σ H sI ∧
    (∀ b o, sI.heap.get? b = some o → b ∉ frs X.stack → B.get? b = some o) ∧ sI.heap.UpToSlots s'.heap ∧ HandSPX.HeldZ B X.stack a (Zc cls d) L s'.heap ∧ H a = none ∧ s'.os = sI.os ∧ AllBare s'.gens ∧ E cls d H
/-- such an exception may leave X -/
structure Fl (X : Cx) (E : XK) : Prop where
  fr : ∃ e0 r L, X.stack = e0 :: r ∧ e0.frame = some L ∧ X.env.frame = some L
  go : ∀ L, X.env.frame = some L → ∀ u s', HE X L E u s' → X.xe u s'
theorem fl_of {X : Cx} {E : XK} (hs : X.stack = X.env :: X.outer) (hf : X.env.frame = some X.env.locals) (tk : Takes X (fun cls d _ H => E cls d H)) : Fl X E := by
  refine ⟨⟨X.env, X.outer, X.env.locals, hs, hf, hf⟩, fun L eL u s' ⟨a, B, sI, pins, σ, H, cls, d, h1, h2, h3, h4, h5, h6, h7, h8, h9⟩ => ?_⟩
  rw [hf] at eL
  cases eL
  exact tk u s' ⟨a, B, sI, pins, σ, H, cls, d, h1, h2, h3, h4, .inr (.inr h5), h6, h7, h8, h9⟩
/-- the block's context where exceptions go on out of it -/
abbrev blkX (X : Cx) (s : Shared) (H : Hp) (scope : Scope) (cenv : Env) (fp : List Addr) : Cx := { X.blk s H scope cenv fp with xe := notedBy (model X.prog X.w) X.A cenv (CompFails (model X.prog X.w) X.A X.xe cenv) }
section
variable {X : Cx} {pins : List (Addr × Obj)} {σ : L2.St} {H : Hp} {s : Shared}
theorem inv_xe {xe : Value → Shared → Prop} (I : Inv X pins σ H s) : Inv { X with xe := xe } pins σ H s :=
  ⟨⟨I.ok.mod, I.ok.kind, I.ok.glob, I.ok.blt, I.ok.above, I.ok.inj, I.ok.has, I.ok.cab, I.ok.hd, I.ok.frames, I.ok.stk, I.ok.exf, I.ok.bs, I.ok.bsz, I.ok.noex, I.ok.exfs, I.ok.funs, I.ok.frf⟩, I.os, I.bare, I.base, I.loc, I.cell, I.free, I.freeC, I.pin, I.hok, I.len⟩
end
theorem frames_but {B B' h h' : Heap} {C : Addr} (nb : ∀ b, b ≠ C → B'.get? b = B.get? b) (sb : ∀ b, b ≠ C → h'.get? b = h.get? b) : ∀ {l : List Env}, C ∉ frs l → h.FunFrames B l → h'.FunFrames B' l
  | [], _, _ => trivial
  | env :: r, hC, ⟨hk, ⟨L, o, hf, hn, ho, hd⟩, hr⟩ => by
    have hm : L ≠ C := fun z => hC (List.mem_filterMap.mpr ⟨env, List.mem_cons_self, by rw [hf, z]⟩)
    refine ⟨hk, ⟨L, o, hf, by rw [nb L hm]; exact hn, by rw [sb L hm]; exact ho, hd⟩, frames_but nb sb (fun z => hC ?_) hr⟩
    obtain ⟨e, h1, h2⟩ := List.mem_filterMap.mp z
    exact List.mem_filterMap.mpr ⟨e, List.mem_cons_of_mem _ h1, h2⟩
theorem held_but {B h h' : Heap} {l : List Env} {a L C : Addr} {Z : Obj → Prop} {ob ob' : Obj} (held : HandSPX.HeldZ B l a Z L h) (eB : B.get? C = some ob) (e' : h'.get? C = some ob') (hf' : ob'.isFreed = false) (hC : C ∉ frs l) (sb : ∀ b, b ≠ C → h'.get? b = h.get? b) :
    HandSPX.HeldZ (B.update C fun _ => ob') l a Z L h' := by
  obtain ⟨k1, k2, k3, oe, vs, T, oT, ts, t1, t2, t3, t4, t5, t6, t7, t8, t9⟩ := held
  have nb : ∀ b, b ≠ C → (B.update C fun _ => ob').get? b = B.get? b := fun b hb => Heap.get?_update_other _ _ (Ne.symm hb)
  have atC : (B.update C fun _ => ob').get? C = some ob' := Heap.get?_update_self _ eB hf'
  have aC : a ≠ C := fun z => by rw [z, eB] at k2; cases k2
  have TC : T ≠ C := fun z => by rw [z, eB] at t5; cases t5
  refine ⟨fun b o e => ?_, by rw [nb a aC]; exact k2, frames_but nb sb hC k3, oe, vs, T, oT, ts, by rw [sb a aC]; exact t1, t2, t3, t4, by rw [nb T TC]; exact t5, t6, by rw [sb T TC]; exact t7, t8, t9⟩
  by_cases hb : b = C
  · subst hb
    rw [atC] at e
    cases e
    exact e'
  · rw [nb b hb] at e
    rw [sb b hb]
    exact k1 b o e
section
variable {X : Cx} {E : XK} {pz : List (Addr × Obj)} {z : L2.St} {HB : Hp} {sB : Shared} {scope : Scope} {clB : List (Str × Addr)} {fB : List Addr}
/-- what a noted exception does behind the block -/
theorem fails_of {L : Addr} (F : Fl X E) (IB : Inv X pz z HB sB) (fpB : ∀ b ∈ fB, FpOk X pz HB b ∧ b < sB.heap.objs.size) (hL : X.env.frame = some L) {u : Value} {s' : Shared}
    (x : HE (blkX X sB HB scope (compEnvC scope clB sB.heap.objs.size X.env) fB) L E u s') : CompFails (model X.prog X.w) X.A X.xe (compEnvC scope clB sB.heap.objs.size X.env) u s' := by
  obtain ⟨a, B, sI, pins, σ, H, cls, d, rfl, I, nb, up, held, na, os, ag, hE⟩ := x
  obtain ⟨C, eC⟩ : ∃ C, C = sB.heap.objs.size := ⟨_, rfl⟩
  have nfr : C ∉ frs X.stack := fun hm => by
    obtain ⟨_, o, ho, _⟩ := IB.stack.mem hm
    have := Heap.lt_size ho
    rw [eC] at this
    exact Nat.lt_irrefl _ this
  obtain ⟨m, ns0, _⟩ := I.loc
  have ns : sI.heap.Ns C m := by rw [eC]; exact ns0
  have nC : H C = none := by rw [eC]; exact I.free
  obtain ⟨ob, es, ep, ho, hrest⟩ := id ns
  have oB : B.get? C = some ob := nb C ob ho nfr
  have ns1 : s'.heap.Ns C m := ns_of ns fun o e => held.1 C o (nb C o e nfr)
  have ns2 : s'.heap.Ns (compEnvC scope clB sB.heap.objs.size X.env).locals m := by
    show s'.heap.Ns sB.heap.objs.size m
    rw [← eC]
    exact ns1
  refine ⟨m, ns2, fun h' m' hn' sb0 => ?_⟩
  have sb : ∀ b, b ≠ C → h'.get? b = s'.heap.get? b := fun b hb => sb0.2 b (by rw [eC] at hb; exact hb)
  have hn : h'.Ns C m' := by rw [eC]; exact hn'
  obtain ⟨ob', es', ep', ho', hrest'⟩ := id hn
  have fr' : ob'.isFreed = false := (Heap.get?_some_iff.mp ho').2
  have held' := held_but held oB ho' fr' nfr sb
  have IO : Inv X pz z H sI := IB.call' (ch := fB) I.os I.base I.hok I.bare fun b hb => ⟨(fpB b hb).1.2.2.2.1, (fpB b hb).1.2.1, (fpB b hb).1.2.2.2.2.1, (fpB b hb).1.2.2.2.2.2⟩
  obtain ⟨f0, f1, f2, f3, f4, f5⟩ := IB.fpOk (b := C) (H' := H) (by rw [eC]; exact Nat.le_refl _) nC
  have nI : ∀ b, b ≠ C → (sI.heap.update C fun _ => ob').get? b = sI.heap.get? b := fun b hb => Heap.get?_update_other _ _ (Ne.symm hb)
  have IT := IO.turned (t' := sI.toks) (h' := sI.heap.update C fun _ => ob') (it := C) (fun b o hb e => by rw [nI b hb]; exact e) f0 f1 f3 f4 f5
  obtain ⟨k1, k2, k3, oe, vs, T, oT, ts, t1, t2, t3, t4, t5⟩ := id held'
  unfold PySem.passOn
  refine wpAny_bind (wpAny_field t1 t3 t4 ?_)
  rw [if_neg (show ¬ ((Value.ref T == Value.none) = true) from by simp)]
  have fin : wpAny (model X.prog X.w) X.A (setFlight (.ref a) (compEnvC scope clB sB.heap.objs.size X.env).frame) (fun _ s₂ => wpAny (model X.prog X.w) X.A (throw (.ref a) : Sem Value) (fun _ _ => False) X.xe s₂) X.xe { s' with heap := h' } := by
    show wpAny _ _ (setFlight (.ref a) X.env.frame) _ _ _
    rw [hL]
    refine HandSPX.setFlight_onZ held' fun h2 held2 up2 => wpAny_throw (F.go L hL _ _ ?_)
    refine ⟨a, _, _, pz, z, H, cls, d, rfl, IT, fun b o e hb => ?_, fun b o e hd => ?_, held2, na, os, ag, hE⟩
    · by_cases hC : b = C
      · subst hC
        have e : (sI.heap.update b fun _ => ob').get? b = some o := e
        rw [Heap.get?_update_self _ ho fr'] at e
        rw [Heap.get?_update_self _ oB fr']
        exact e
      · have e : (sI.heap.update C fun _ => ob').get? b = some o := e
        rw [nI b hC] at e
        rw [Heap.get?_update_other _ _ (Ne.symm hC)]
        exact nb b o e hb
    · by_cases hC : b = C
      · subst hC
        have e : (sI.heap.update b fun _ => ob').get? b = some o := e
        rw [Heap.get?_update_self _ ho fr'] at e
        cases e
        exact up2 b _ ho' hd
      · have e : (sI.heap.update C fun _ => ob').get? b = some o := e
        rw [nI b hC] at e
        obtain ⟨sl, e1⟩ := up b o e hd
        rw [← sb b hC] at e1
        obtain ⟨sl2, e2⟩ := up2 b _ e1 hd
        exact ⟨sl2, e2⟩
  first
    | exact wpAny_bind (wpAny_pure (wpAny_bind fin))
    | exact wpAny_bind fin
theorem fl_blk (F : Fl X E) (IB : Inv X pz z HB sB) (fpB : ∀ b ∈ fB, FpOk X pz HB b ∧ b < sB.heap.objs.size) : Fl (blkX X sB HB scope (compEnvC scope clB sB.heap.objs.size X.env) fB) E := by
  obtain ⟨e0, r, L, h1, h2, h3⟩ := F.fr
  refine ⟨⟨e0, r, L, h1, h2, h3⟩, fun L' hL u s' x => ?_⟩
  have hL : X.env.frame = some L' := hL
  have y := fails_of F IB fpB hL x
  obtain ⟨a, B, sI, pins, σ, H, cls, d, rfl, I, nb, up, held, na, os, ag, hE⟩ := x
  exact HandSPX.againZ (env := compEnvC scope clB sB.heap.objs.size X.env) hL held.2.2.2 y
theorem passes_blk (F : Fl X E) (IB : Inv X pz z HB sB) (fpB : ∀ b ∈ fB, FpOk X pz HB b ∧ b < sB.heap.objs.size) :
    Passes (L2.CX X.prog X.w) (blkX X sB HB scope (compEnvC scope clB sB.heap.objs.size X.env) fB) E := by
  obtain ⟨e0, r, L, h1, h2, h3⟩ := F.fr
  intro pins σ H s u s' I c
  have cc := c
  obtain ⟨a0, B0, H0, cls0, d0, eu, fl0, _⟩ := cc
  subst eu
  obtain ⟨_, _, _, oe0, vs0, T0, oT0, ts0, q1, q2, q3, q4, q5, q6, q7, q8, q9⟩ := fl0
  have x := XE.of_call (W := fun cls d _ H => E cls d H) I (fun _ _ _ h => h) c
  obtain ⟨a, B, sI, pins, σ, H, cls, d, ea, I, nb, up, sky, na, os, ag, hE⟩ := x
  cases ea
  have fly : HandSPX.FlyingZ B X.stack a0 (Zc cls d) s'.heap := by
    rcases sky with ⟨_, _, _, oe, vs, he, _, hd, hv⟩ | fl | ⟨k1, k2, k3, oe, vs, T, oT, ts, t1, t2, t3, t4, t5, t6, t7, t8, t9⟩
    · rw [q1] at he
      cases he
      rw [q3] at hd
      cases hd
      rw [q4] at hv
      cases hv
    · exact fl
    · rw [q1] at t1
      cases t1
      rw [q3] at t3
      cases t3
      rw [q4] at t4
      cases t4
      rw [q7] at t7
      cases t7
      rw [q8] at t8
      cases t8
      rw [q9] at t9
      cases t9
  have hfr : X.A.frames = some (e0 :: r) := by rw [IB.ok.frames, h1]
  show wpAny _ _ (noteFrame (.ref a0) (compEnvC scope clB sB.heap.objs.size X.env)) _ _ _
  rw [note_env (env' := e0) (show (compEnvC scope clB sB.heap.objs.size X.env).frame = e0.frame from h3.trans h2.symm)]
  refine HandSPX.looks_onZ Zc.steady hfr h2 (by rw [← h1]; exact fly) fun h' held up' => ?_
  refine fails_of F IB fpB h3 ⟨a0, B, sI, pins, σ, H, cls, d, rfl, I, nb, up.trans up', by show HandSPX.HeldZ B X.stack _ _ _ _; rw [h1]; exact held, na, os, ag, hE⟩
end
end Y

set_option Elab.async false
set_option linter.all false
set_option maxRecDepth 100000
set_option maxHeartbeats 2000000
/-! Y8c: list comprehensions whose parts may raise: as a value, as an assignment. -/
namespace Y
open PySem PySem.Spec PyProof.Rows L2
section
variable {X : Cx}
theorem noted_ends {M : Model} {A : Around} {E : Value → Shared → Prop} {use : Option (Value → Sem Unit)} {Qf : Value → Shared → Prop} {acc u : Value} {ce : Env} {s' : Shared} (h : notedBy M A ce (CompFails M A E ce) u s') : notedBy M A ce (fun e s2 => compEnds M A E use Qf acc ce (.error e) s2) u s' := by
  cases use <;> exact h
/-- what the parts of a comprehension are shown of -/
abbrev PartsX (X : Cx) (scope : Scope) (R : Cx → Prop) : Prop := ∀ (pz : List (Addr × Obj)) (z : L2.St) (sB : Shared) (HB : Hp) (clB : List (Str × Addr)) (fB : List Addr), Inv X pz z HB sB → (∀ b ∈ fB, FpOk X pz HB b ∧ b < sB.heap.objs.size) → R (blkX X sB HB scope (compEnvC scope clB sB.heap.objs.size X.env) fB)
theorem lcx_core {own : List (Str × Nat)} {wi : TI} {g : TG} {tt : TT} {te : TE} {elt tg iter : Expr} {ifs : List Expr} {scope : Scope} {cpos ipos : Pos} {use : Option (Value → Sem Unit)} {Qf : Value → Shared → Prop} {pz : List (Addr × Obj)} {z : L2.St} {HA : Hp} {sA : Shared} {Q : VK}
    (calm : X.calm = true) (nd : X.N.Nodup) (IA : Inv X pz z HA sA) (hit : PI X tg iter wi) (bok : BlkOk X.N X.env.scope scope own)
    (parts : PartsX X scope fun BX => PG BX tg g ∧ PTs BX ifs tt ∧ PE BX elt te)
    (fold : ∀ x, foldedSetIterable iter X.env x = pure x) (rdg : tLc wi g tt te (own.map (·.2)) z HA Q)
    (fin : ∀ (D : Addr) (ce : Env) (s' : Shared) (m : Str → Option Value) (H' : Hp), Inv X pz z H' s' → Q (.ref D) H' → s'.heap.Ns ce.locals m → FpOk X pz H' ce.locals → compEnds (model X.prog X.w) X.A X.xe use Qf (.ref D) ce (.ok .next) s') :
    wpAny (model X.prog X.w) X.A (comprehension (.ListComp elt [⟨tg, iter, ifs, 0⟩] scope cpos) scope X.env ipos (newList []) false (eval iter X.env) use) Qf X.xe sA := by
  have clo : ∀ y ∈ scope.names, y.2 = .free → ∃ d, X.env.cells.lookup y.1 = some d := by
    intro y hy fr
    exact IA.ok.has _ (bok.free y hy fr)
  refine comprehension_at rfl fold (closure_ok clo) bok.kind (fun y hy l => (bok.uniq y hy).trans (congrArg some l)) ?_
  refine thn (hit.run pz sA z HA _ IA rdg) fun xv sX lv => ?_
  refine thn lv fun iv sI got => ?_
  obtain ⟨ia, fB, tn, J, HI, rfl, II, TT, tn0, fpI, more⟩ := got
  refine wpAny_newObj_type (newEnv_comp ?_) (Nat.zero_le _)
  obtain ⟨DD, eD⟩ : ∃ d, d = sI.heap.objs.size := ⟨_, rfl⟩
  obtain ⟨sB, eB⟩ : ∃ s, s = ({ sI with heap := sI.heap.push { cls := .type "list", data := .seq ([] : List Value).toArray } } : Shared) := ⟨_, rfl⟩
  obtain ⟨HB, eH⟩ : ∃ h, h = upd HI DD (.lst []) := ⟨_, rfl⟩
  have freshD : HI DD = none := II.hok.fresh (Nat.le_of_eq eD.symm)
  have hpB : sB.heap = sI.heap.push { cls := .type "list", data := .seq ([] : List Value).toArray } := by rw [eB]
  have IB : Inv X pz z HB sB := by
    rw [eB, eH]
    refine II.laid (t' := sI.toks) (fun _ _ k => Heap.get?_push_of_some _ k) (Nat.le_of_eq eD.symm) ⟨Nat.zero_le _, [], 0, .nil, ?_⟩
    rw [eD]
    exact Heap.get?_push_size _ rfl
  have fpB : ∀ b ∈ fB, FpOk X pz HB b ∧ b < sB.heap.objs.size := by
    intro b hb
    obtain ⟨ob, eo, _⟩ := TT.obj _ _ tn0 b hb
    have lt := Heap.lt_size eo
    refine ⟨⟨?_, (fpI b hb).2⟩, ?_⟩
    · rw [eH, upd_ne (by rw [eD]; exact Nat.ne_of_lt lt)]
      exact (fpI b hb).1
    · rw [hpB, Heap.size_push]
      exact Nat.lt_succ_of_lt lt
  have tnB : tn 0 sB.heap := TT.keep _ _ _ tn0 fun b _ ob k => by
    rw [hpB]
    exact Heap.get?_push_of_some _ k
  have blk0 := block_start IB bok nd fpB
  obtain ⟨pg, pt, pe⟩ := parts pz z sB HB (cellsFrom (sB.heap.objs.size + 1) scope.names (cloFrom X.env.cells scope.names [])) fB IB fpB
  obtain ⟨W, ⟨k0, w0⟩, turn⟩ := more DD freshD
  rw [← eH] at w0
  rw [← eB, ← eD]
  show codeAny _ _ (.compStart (.ListComp elt [⟨tg, iter, ifs, 0⟩] scope cpos) 0 (.ref ia) (.ref DD) (compEnvC scope (cellsFrom (sB.heap.objs.size + 1) scope.names (cloFrom X.env.cells scope.names [])) sB.heap.objs.size X.env)) (compEnds (model X.prog X.w) X.A X.xe use Qf (.ref DD) (compEnvC scope (cellsFrom (sB.heap.objs.size + 1) scope.names (cloFrom X.env.cells scope.names [])) sB.heap.objs.size X.env)) { sB with heap := pushCells (sB.heap.push { cls := .type "dict", data := .dict #[] }) scope.names }
  obtain ⟨ce, ece⟩ : ∃ e, e = compEnvC scope (cellsFrom (sB.heap.objs.size + 1) scope.names (cloFrom X.env.cells scope.names [])) sB.heap.objs.size X.env := ⟨_, rfl⟩
  rw [← ece] at blk0 pg pt pe ⊢
  have ceL : ce.locals = sB.heap.objs.size := by rw [ece] <;> rfl
  obtain ⟨sC, eC⟩ : ∃ s, s = ({ sB with heap := pushCells (sB.heap.push { cls := .type "dict", data := .dict #[] }) scope.names } : Shared) := ⟨_, rfl⟩
  rw [← eC] at blk0 ⊢
  have blk : Inv (blkX X sB HB scope ce fB) [] (wipe z (own.map (·.2))) HB sC := inv_xe blk0
  have tnC : tn 0 sC.heap := TT.keep _ _ _ tnB fun b _ ob k => by
    rw [eC]
    exact pushCells_keeps _ _ _ _ (Heap.get?_push_of_some _ k)
  have fpIn : ∀ {zz : L2.St} {HH : Hp} {ss : Shared}, Inv (blkX X sB HB scope ce fB) [] zz HH ss → (∀ b ∈ fB, HH b = none) → ∀ b ∈ fB, FpOk (blkX X sB HB scope ce fB) [] HH b := by
    intro zz HH ss II nn b hb
    exact ⟨nn b hb, (II.ok.exf b hb).1, II.ok.exfs b hb, .inl hb, fun x d e => (II.ok.exf b hb).2 x d e, fun p hp => nomatch (show p ∈ ([] : List (Addr × Obj)) from hp)⟩
  have walk : codeAny (model X.prog X.w) X.A (.compLoop (.ListComp elt [⟨tg, iter, ifs, 0⟩] scope cpos) 0 (.ref ia) (.ref DD) ce) (compEnds (model X.prog X.w) X.A X.xe use Qf (.ref DD) ce) sC := by
    refine compLoop_any (fun k st => ∃ i HH, Inv (blkX X sB HB scope ce fB) [] (wipe z (own.map (·.2))) HH st ∧ tn i st.heap ∧ (∀ b ∈ fB, HH b = none) ∧ W i k HH) ?_ k0 ⟨0, HB, blk, tnC, fun b hb => (fpB b hb).1.1, w0⟩
    rintro k st ⟨i, HH, IH, tnH, nnH, wH⟩
    rcases turn i k HH wH with ⟨stop, qq⟩ | ⟨go, Nx, hNx, step⟩
    · refine thnF (TT.done (blkX X sB HB scope ce fB) rfl rfl rfl calm i [] st _ HH (fun _ _ => False) IH (fpIn IH nnH) tnH stop) fun r sE ⟨er, IE⟩ => ?_
      subst er
      have IO : Inv X pz z HH sE := IB.call' (ch := fB) IE.os IE.base IE.hok IE.bare fun b hb => ⟨(fpB b hb).1.2.2.2.1, (fpB b hb).1.2.1, (fpB b hb).1.2.2.2.2.1, (fpB b hb).1.2.2.2.2.2⟩
      have nn : HH ce.locals = none := IE.free
      obtain ⟨mm, ns, _⟩ := IE.loc
      have ns : sE.heap.Ns ce.locals mm := ns
      exact fin DD ce sE mm HH IO qq ns (IB.fpOk (by rw [ceL]; exact Nat.le_refl _) nn)
    · refine thnF (TT.item (blkX X sB HB scope ce fB) rfl rfl rfl calm i [] st _ HH (fun _ _ => False) IH (fpIn IH nnH) tnH go) fun r s6 ⟨u, er, h6⟩ => ?_
      subst er
      refine thnF h6 fun _ s7 ⟨x, H7, I7, r7, y7, tn7, n7⟩ => ?_
      have P7 := I7.pinned (fpIn I7 n7) (TT.obj _ _ tn7)
      refine wpAny_mono (pg.run _ s7 _ H7 x u _ P7 r7 (step x H7 y7)) (fun _ s8 ⟨z8, H8, I8, ez, q8⟩ => ?_) fun _ _ h => noted_ends h
      have again : ∀ {ss : Shared} {HX : Hp}, Inv (blkX X sB HB scope ce fB) ([] ++ pinsAt fB s7.heap) z8 HX ss → Nx HX → ∃ j, j < k ∧ ∃ i HX, Inv (blkX X sB HB scope ce fB) [] (wipe z (own.map (·.2))) HX ss ∧ tn i ss.heap ∧ (∀ b ∈ fB, HX b = none) ∧ W i j HX := by
        intro ss HX IX nx
        obtain ⟨j, lt, wX⟩ := hNx HX nx
        have same : ∀ b ∈ fB, ∀ ob, s7.heap.get? b = some ob → ss.heap.get? b = some ob ∧ HX b = none := by
          intro b hb ob k
          have pp := IX.pin (b, ob) (List.mem_append_right _ (List.mem_append_right _ (mem_pinsAt hb k)))
          exact ⟨pp.1, pp.2.1⟩
        refine ⟨j, lt, i + 1, HX, (IX.unpinned (pins := [])).weak (by rw [← ez, wipe_length]) (fun n v e => (wipe_some (by rw [ez]; exact e)).1), TT.keep _ _ _ tn7 fun b hb ob k => (same b hb ob k).1, fun b hb => ?_, wX⟩
        obtain ⟨ob, k, _⟩ := TT.obj _ _ tn7 b hb
        exact (same b hb ob k).2
      refine wpAny_mono (pt.run _ s8 z8 H8 _ I8 q8) (fun b s9 ⟨H9, I9, q9⟩ => ?_) fun _ _ h => noted_ends h
      cases b with
      | false =>
        rw [if_neg Bool.false_ne_true] at q9 ⊢
        exact again I9 q9
      | true =>
        rw [if_pos rfl] at q9 ⊢
        refine wpAny_mono (pe.run _ s9 z8 H9 _ I9 q9) (fun v sV ⟨yv, HV, IV, rV, acc, eV, lV, nx⟩ => ?_) fun _ _ h => noted_ends h
        exact app_ok (X := blkX X sB HB scope ce fB) IV eV lV rV fun sW IW => again IW nx
  exact codeAny_compStart_list walk (TT.self X.A 0 _ _ _ tnC walk)
theorem lcx_pe {own : List (Str × Nat)} {wi : TI} {g : TG} {tt : TT} {te : TE} {elt tg iter : Expr} {ifs : List Expr} {scope : Scope} {cpos : Pos} (calm : X.calm = true) (nd : X.N.Nodup) (hit : PI X tg iter wi) (bok : BlkOk X.N X.env.scope scope own)
    (parts : PartsX X scope fun BX => PG BX tg g ∧ PTs BX ifs tt ∧ PE BX elt te) (fold : ∀ x, foldedSetIterable iter X.env x = pure x := by intro _; rfl) :
    PE X (.ListComp elt [⟨tg, iter, ifs, 0⟩] scope cpos) (tLc wi g tt te (own.map (·.2))) := by
  refine ⟨fun pz sA z HA Q IA rdg => ?_⟩
  rw [eval_ListComp]
  refine lcx_core calm nd IA hit bok parts fold rdg fun D ce s' m H' I' q ns ⟨f0, f1, f2, f3, f4, f5⟩ => ⟨m, ns, fun h3 sb => ?_⟩
  exact ⟨.ref D, H', I'.turned (t' := s'.toks) (fun b o hb k => (sb.2 b hb).trans k) f0 f1 f3 f4 f5, rfl, q⟩
theorem lcx_set {i : Nat} {y : Str} {py spos : Pos} {own : List (Str × Nat)} {wi : TI} {g : TG} {tt : TT} {te : TE} {elt tg iter : Expr} {ifs : List Expr} {scope : Scope} {cpos : Pos} (calm : X.calm = true) (nd : X.N.Nodup) (hy : X.N[i]? = some y) (loc : X.env.scope.names.lookup y = some .local)
    (sw : swapsWith (.ListComp elt [⟨tg, iter, ifs, 0⟩] scope cpos) (some (.Name y py)) spos.line X.env = pure true) (hit : PI X tg iter wi) (bok : BlkOk X.N X.env.scope scope own)
    (parts : PartsX X scope fun BX => PG BX tg g ∧ PTs BX ifs tt ∧ PE BX elt te) (fold : ∀ x, foldedSetIterable iter X.env x = pure x := by intro _; rfl) :
    PS X (.Assign [.Name y py] (.ListComp elt [⟨tg, iter, ifs, 0⟩] scope cpos) spos) (tAsg (tLc wi g tt te (own.map (·.2))) (gName i)) := by
  refine ⟨fun pz sA z HA D IA rdg => ?_⟩
  rw [exec_Assign_Name_used _ _ _ _ sw]
  refine wpAny_bind (wpAny_standAt (wpAny_bind ?_))
  have rdg : tLc wi g tt te (own.map (·.2)) z HA (fun x H1 => gName i x z H1 D.nx) := rdg
  have main := lcx_core (ipos := firstIterPos [⟨tg, iter, ifs, 0⟩] cpos) (cpos := cpos) (use := some (assign (.Name y py) X.env)) (Qf := fun _ s' => SP X pz D .next s') calm nd IA hit bok parts fold rdg fun L ce s' m H' I' q ns fp => by
    refine wpAny_assign_Name (store_ok2 (v := V.ref L) I' nd hy (.inl loc) rfl (fun s2 I2 ⟨a, sb, ha⟩ => ?_) (.inr loc))
    obtain ⟨f0, f1, f2, f3, f4, f5⟩ := fp
    have apart : ce.locals ≠ a := by
      rcases ha with k | k
      · rw [k]
        exact f1
      · intro e
        exact f4 y a k e.symm
    exact ⟨m, ns.sameBut sb apart, fun h3 sb3 => ⟨_, H', I2.turned (t' := s2.toks) (fun b o hb k => (sb3.2 b hb).trans k) f0 f1 f3 f4 f5, q⟩⟩
  show wpAny _ X.A (do let _ ← comprehension (.ListComp elt [⟨tg, iter, ifs, 0⟩] scope cpos) scope X.env (firstIterPos [⟨tg, iter, ifs, 0⟩] cpos) (newList []) false (eval iter X.env) (some (assign (.Name y py) X.env))) _ _ sA
  exact wpAny_bind (thn main fun _ _ q => wpAny_pure (wpAny_pure q))
end
end Y

set_option Elab.async false
set_option linter.all false
set_option maxRecDepth 100000
set_option maxHeartbeats 1000000
/-! Y9: list comprehensions. -/
namespace Y
open PySem PySem.Spec PyProof.Rows L2
/-- a target of names -/
inductive Tg where
  | nm (i : Nat) | tp (l : List Nat)
def setsV : List Nat → List V → L2.St → L2.St
  | i :: is, v :: vs, σ => setsV is vs (σ.set i (some v))
  | _, _, σ => σ
def setsD : List Nat → List D → Gm → Gm
  | i :: is, v :: vs, σ => setsD is vs (σ.set i (some v))
  | _, _, σ => σ
def gTg (K : PySem.W.Frag) : Tg → TG
  | .nm i => fun v σ H Q => Q (σ.set i (some v)) H
  | .tp is => fun v σ H Q => ∃ a vs, v = .ref a ∧ SqT K H a vs ∧ vs.length = is.length ∧ Q (setsV is vs σ) H
def gNms (is : List Nat) : TGs := fun vs σ H Q => vs.length = is.length ∧ Q (setsV is vs σ) H
def Tg.put : Tg → D → Gm → Option Gm
  | .nm i, d, g => some (g.set i (some d))
  | .tp is, .tup l, g => if l.length = is.length then some (setsD is l g) else none
  | .tp is, .ktp l, g => if l.length = is.length then some (setsD is l g) else none
  | _, _, _ => none
def Tg.ix : Tg → List Nat
  | .nm i => [i]
  | .tp l => l
def wipeD (g : Gm) : List Nat → Gm
  | [] => g
  | v :: vs => (wipeD g vs).set v none
section
variable {X : Cx} {c : Ct} {E : XK} {m : Nat → Addr} {S : Sr} {H : Hp} {g : Gm} {σ : L2.St}
theorem qt_name {i : Nat} {x : Str} {pos : Pos} (hN : X.N.Nodup) (hi : X.N[i]? = some x) (hx : Loc X.env.scope x) (hf : X.fn x = true ∨ X.env.scope.names.lookup x = some .local := by first | exact .inl rfl | exact .inr rfl | assumption) : PG X (.Name x pos) (gTg X.K (.nm i)) :=
  PG.imp (pg_name hN hi hx hf) fun v σ H Q q => q
theorem qt_nil : PGs X [] (gNms []) := PGs.imp pgs_nil fun vs σ H Q ⟨h, q⟩ => by
  cases vs with
  | nil => exact ⟨rfl, q⟩
  | cons v vs => exact absurd h (by simp)
theorem qt_cons {i : Nat} {is : List Nat} {x : Str} {pos : Pos} {es : List Expr} (hN : X.N.Nodup) (hi : X.N[i]? = some x) (hx : Loc X.env.scope x) (h2 : PGs X es (gNms is)) (hf : X.fn x = true ∨ X.env.scope.names.lookup x = some .local := by first | exact .inl rfl | exact .inr rfl | assumption)
    (hs : (assignEach (.Name x pos :: es) X.env).map (·.2) = assign (.Name x pos) X.env :: (assignEach es X.env).map (·.2) := by rfl) : PGs X (.Name x pos :: es) (gNms (i :: is)) :=
  PGs.imp (pgs_cons (pg_name hN hi hx hf) h2 hs) fun vs σ H Q ⟨h, q⟩ => by
    cases vs with
    | nil => exact absurd h (by simp)
    | cons v vs => exact ⟨v, vs, rfl, by simpa using h, q⟩
theorem qt_tup {es : List Expr} {k : Nat} {is : List Nat} {pos : Pos} (hc : X.calm = true) (h : PGs X es (gNms is)) (hn : (assignEach es X.env).length = is.length := by rfl) (hst : (assignEach es X.env).findIdx? (·.1) = none := by rfl) : PG X (.Tuple es k pos) (gTg X.K (.tp is)) :=
  PG.imp (pg_tup hc h hn hst) fun v σ H Q ⟨a, vs, e, hq, hl, q⟩ => ⟨a, vs, e, hq, hl, hl, q⟩
theorem wipe_set {i : Nat} {o : Option V} (σ : L2.St) : ∀ {vs : List Nat}, i ∈ vs → wipe (σ.set i o) vs = wipe σ vs
  | v :: vs, h => by
    unfold wipe
    by_cases hi : i ∈ vs
    · rw [wipe_set σ hi]
    · have e : i = v := by
        rcases List.mem_cons.mp h with e | e
        · exact e
        · exact absurd e hi
      subst e
      have : ∀ (vs : List Nat), i ∉ vs → wipe (σ.set i o) vs = (wipe σ vs).set i o := by
        intro vs
        induction vs with
        | nil => intro _; rfl
        | cons w ws ih =>
          intro hn
          have h1 : i ∉ ws := fun z => hn (List.mem_cons_of_mem _ z)
          have h2 : i ≠ w := fun z => hn (by rw [z]; exact List.mem_cons_self)
          unfold wipe
          rw [ih h1, List.set_comm _ _ h2]
      rw [this vs hi, List.set_set]
theorem wipe_idem (σ : L2.St) : ∀ (vs ws : List Nat), (∀ i ∈ ws, i ∈ vs) → wipe (wipe σ ws) vs = wipe σ vs
  | vs, [], _ => rfl
  | vs, w :: ws, h => by
    show L2.wipe ((L2.wipe σ ws).set w none) vs = L2.wipe σ vs
    rw [wipe_set _ (h w List.mem_cons_self)]
    exact wipe_idem σ vs ws fun i hi => h i (List.mem_cons_of_mem _ hi)
theorem wipe_sets : ∀ {is : List Nat} {xs : List V} {σ : L2.St} {vs : List Nat}, (∀ i ∈ is, i ∈ vs) → wipe (setsV is xs σ) vs = wipe σ vs
  | [], _, _, _, _ => rfl
  | i :: is, [], _, _, _ => rfl
  | i :: is, x :: xs, σ, vs, h => by
    unfold setsV
    rw [wipe_sets fun j hj => h j (List.mem_cons_of_mem _ hj)]
    exact wipe_set σ (h i List.mem_cons_self)
theorem RelG.wipe {n : Nat} (rg : RelG c m n H g σ) : ∀ (vs : List Nat), RelG c m n H (wipeD g vs) (L2.wipe σ vs)
  | [] => rg
  | v :: vs => by
    have ih := RelG.wipe rg vs
    unfold wipeD L2.wipe
    refine ⟨by rw [List.length_set, List.length_set]; exact ih.1, fun j x e => ?_⟩
    by_cases h : v = j
    · subst h
      by_cases hl : v < (wipeD g vs).length
      · rw [List.getElem?_set_self hl] at e
        cases e
      · rw [List.getElem?_eq_none (by rw [List.length_set]; omega)] at e
        cases e
    · rw [List.getElem?_set_ne h] at e
      obtain ⟨w, e1, r1⟩ := ih.2 j x e
      exact ⟨w, by rw [List.getElem?_set_ne h]; exact e1, r1⟩
theorem RelG.sets {n : Nat} : ∀ {is : List Nat} {ds : List D} {vs : List V} {g : Gm} {σ : L2.St}, RelG c m n H g σ → RelDs c m n H ds vs → RelG c m n H (setsD is ds g) (setsV is vs σ)
  | [], _, _, _, _, rg, _ => rg
  | i :: is, [], vs, _, _, rg, r => by rw [rd_nil r]; exact rg
  | i :: is, d :: ds, _, _, _, rg, r => by
    obtain ⟨v, w, rfl, r1, r2⟩ := rd_cons r
    exact RelG.sets (is := is) (ds := ds) (rg.set i r1) r2
/-- the turns -/
def lcG (sr : Src) (t : Tg) (mt : MT) (me : ME) (g0 : Gm) (D0 : Nat) : Nat → Nat → SM Unit
  | 0, i => fun S => match sr.nxt i S with
    | some none => .ok () S
    | _ => .bad
  | r + 1, i => fun S => match sr.nxt i S with
    | some none => .ok () S
    | some (some d) => (match t.put d g0 with
      | none => .bad
      | some g => (match mt g S with
        | .ok false S1 => lcG sr t mt me g0 D0 r (i + 1) S1
        | .ok true S1 => (match me g S1 with
          | .ok y S2 => (match S2.f D0 with
            | some (.lst acc) => if acc.length < sizeLine then lcG sr t mt me g0 D0 r (i + 1) (S2.put D0 (.lst (acc ++ [y]))) else .bad
            | _ => .bad)
          | .exc q S2 => .exc q S2
          | .bad => .bad)
        | .exc q S1 => .exc q S1
        | .bad => .bad))
    | none => .bad
def mLc (src : MI) (t : Tg) (mt : MT) (me : ME) (vs : List Nat) : ME := fun g => SM.bind (src g) fun sr S1 => SM.bind (lcG sr t mt me (wipeD g vs) S1.n sr.n 0) (fun _ S' => .ok (.adr S1.n) S') (S1.alloc (.lst []))
def mYes : MT := fun _ S => .ok true S
theorem qy_nil : PTs X [] (rdT c E mYes) := ⟨fun pins s σ H Q I ⟨m, S, g, si, rg, q⟩ => pts_nil.run pins s σ H Q I (q m H (Nxt.refl si))⟩
/-- an exception leaves no element -/
abbrev noX : XK := fun _ _ _ => False
theorem lc_of {mi : MI} {t : Tg} {mt : MT} {me : ME} {vs : List Nat} (ht : ∀ i ∈ t.ix, i ∈ vs) (σ : L2.St) (H : Hp) (Q : VK) (h : rdE c E (mLc mi t mt me vs) σ H Q) :
    tLc (rdI c E mi) (gTg c.K t) (rdT c E mt) (rdE c E me) vs σ H Q := by
  obtain ⟨m, S, g, s, rg, q⟩ := h
  refine ⟨m, S, g, s, rg, ?_⟩
  unfold mLc SM.bind at q
  cases e : mi g S with
  | exc p S1 => rw [e] at q; exact q
  | bad => rw [e] at q; exact q.elim
  | ok sr S1 =>
    rw [e] at q
    intro m1 H1 J a io DD hD
    have al := Nxt.alloc (x := .lst []) (o := .lst []) a.sim hD ⟨[], rfl, mk_nil⟩
    have n0 := a.trans s al
    have q1 := PoE.go s n0 q
    -- a word that goes from turn to turn
    have gm : ext m1 S1.n DD S1.n = DD := ext_same
    refine ⟨fun i k H => ∃ m S, Nxt c (ext m1 S1.n DD) (S1.alloc (.lst [])) (upd H1 DD (.lst [])) m S H ∧ PoE c E m S H Q (SM.bind (lcG sr t mt me (wipeD g vs) S1.n k i) (fun _ S' => .ok (.adr S1.n) S') S), ⟨sr.n, _, _, Nxt.refl al.sim, q1⟩, ?_⟩
    rintro i k H2 ⟨m2, S2, n2, q2⟩
    have hm2 : m2 S1.n = DD := by rw [n2.mu S1.n (Nat.lt_succ_self _), gm]
    have hlt2 : S1.n < S2.n := Nat.lt_of_lt_of_le (Nat.lt_succ_self _) n2.le
    cases hn : sr.nxt i S2 with
    | none => cases k <;> (unfold SM.bind lcG at q2; rw [hn] at q2; exact q2.elim)
    | some o =>
      have nn := al.trans a.sim n2
      cases o with
      | none =>
        refine .inl ⟨io.stop i m2 S2 H2 nn hn, ?_⟩
        cases k <;> (unfold SM.bind lcG at q2; rw [hn] at q2; refine q2 m2 H2 _ (Nxt.refl n2.sim) ?_; rw [← hm2]; exact mk_adr hlt2)
      | some d =>
        cases k with
        | zero => unfold SM.bind lcG at q2; rw [hn] at q2; exact q2.elim
        | succ k =>
          unfold SM.bind lcG at q2
          rw [hn] at q2
          dsimp only at q2
          obtain ⟨h1, h2⟩ := io.go i m2 S2 H2 d nn hn
          refine .inr ⟨h1, fun H' => ∃ m S, Nxt c (ext m1 S1.n DD) (S1.alloc (.lst [])) (upd H1 DD (.lst [])) m S H' ∧ PoE c E m S H' Q (SM.bind (lcG sr t mt me (wipeD g vs) S1.n k (i + 1)) (fun _ S' => .ok (.adr S1.n) S') S), fun H' w => ⟨k, Nat.lt_succ_self k, w⟩, fun x H3 y => ?_⟩
          obtain ⟨n3, r3⟩ := h2 x H3 y
          have n23 := n2.trans al.sim n3
          have rg3 : RelG c m2 S2.n H3 (wipeD g vs) (L2.wipe σ vs) := n23.relG (al.relG ((a.relG rg).wipe vs))
          have q3 := PoE.go n2.sim n3 q2
          cases ep : t.put d (wipeD g vs) with
          | none => rw [ep] at q3; exact q3.elim
          | some g4 =>
            rw [ep] at q3
            dsimp only at q3
            -- the turn's own part
            have core : ∀ σ4 : L2.St, RelG c m2 S2.n H3 g4 σ4 → rdT c E mt σ4 H3 fun b H4 => if b = true then rdE c E me σ4 H4 fun y H5 => ∃ acc, H5 DD = some (.lst acc) ∧ acc.length < sizeLine ∧ (∃ m S, Nxt c (ext m1 S1.n DD) (S1.alloc (.lst [])) (upd H1 DD (.lst [])) m S (upd H5 DD (.lst (acc ++ [y]))) ∧ PoE c E m S (upd H5 DD (.lst (acc ++ [y]))) Q (SM.bind (lcG sr t mt me (wipeD g vs) S1.n k (i + 1)) (fun _ S' => .ok (.adr S1.n) S') S)) else (∃ m S, Nxt c (ext m1 S1.n DD) (S1.alloc (.lst [])) (upd H1 DD (.lst [])) m S H4 ∧ PoE c E m S H4 Q (SM.bind (lcG sr t mt me (wipeD g vs) S1.n k (i + 1)) (fun _ S' => .ok (.adr S1.n) S') S)) := by
              intro σ4 rg4
              refine ⟨m2, S2, g4, n3.sim, rg4, ?_⟩
              cases et : mt g4 S2 with
              | exc p S3 => rw [et] at q3; exact q3
              | bad => rw [et] at q3; exact q3.elim
              | ok b S3 =>
                rw [et] at q3
                intro m3 H4 n4
                have q4 := PoE.go n3.sim n4 q3
                have n24 := n23.trans al.sim n4
                cases b with
                | false => exact ⟨m3, S3, n24, q4⟩
                | true =>
                  rw [if_pos rfl]
                  dsimp only at q4
                  refine ⟨m3, S3, g4, n4.sim, n4.relG rg4, ?_⟩
                  cases ee : me g4 S3 with
                  | exc p S4 => rw [ee] at q4; exact q4
                  | bad => rw [ee] at q4; exact q4.elim
                  | ok yd S4 =>
                    rw [ee] at q4
                    dsimp only at q4
                    intro m5 H5 yv n5 ry
                    have q5 := PoE.go n4.sim n5 q4
                    have n25 := n24.trans al.sim n5
                    have hm5 : m5 S1.n = DD := by rw [n25.mu S1.n (Nat.lt_succ_self _), gm]
                    cases ea : S4.f S1.n with
                    | none => rw [ea] at q5; exact q5.elim
                    | some mo =>
                      rw [ea] at q5
                      cases mo with
                      | lst acc =>
                        dsimp only at q5
                        by_cases hz : acc.length < sizeLine
                        · rw [if_pos hz] at q5
                          obtain ⟨vs', hh, rs⟩ := n5.sim.lst ea
                          rw [hm5] at hh
                          have pu := Nxt.put (x := .lst (acc ++ [yd])) (o := .lst (vs' ++ [yv])) n5.sim ea ⟨_, rfl, rs.append (mk_cons ry mk_nil)⟩
                          rw [hm5] at pu
                          exact ⟨vs', hh, by rw [← rs.length]; exact hz, m5, _, n25.trans al.sim pu, PoE.go n5.sim pu q5⟩
                        · rw [if_neg hz] at q5
                          exact q5.elim
                      | _ => exact q5.elim
            cases t with
            | nm j =>
              cases ep
              exact ⟨by rw [wipe_set _ (ht j (List.mem_singleton.mpr rfl))]; exact wipe_idem σ vs vs fun _ h => h, core _ (rg3.set j r3)⟩
            | tp is =>
              cases d with
              | tup l =>
                dsimp only [Tg.put] at ep
                split at ep
                · rename_i hl
                  cases ep
                  obtain ⟨p, ws, rfl, hh, rs⟩ := rd_tup r3
                  exact ⟨p, ws, rfl, .inl (.inl hh), by rw [← rs.length]; exact hl, by rw [wipe_sets (is := is) ht]; exact wipe_idem σ vs vs fun _ h => h, core _ (rg3.sets rs)⟩
                · cases ep
              | ktp l =>
                dsimp only [Tg.put] at ep
                split at ep
                · rename_i hl
                  cases ep
                  obtain ⟨p, ws, rfl, hh, rs⟩ := rd_ktp r3
                  exact ⟨p, ws, rfl, hh.sq, by rw [← rs.length]; exact hl, by rw [wipe_sets (is := is) ht]; exact wipe_idem σ vs vs fun _ h => h, core _ (rg3.sets rs)⟩
                · cases ep
              | _ => cases ep
/-- what a block's parts may lean on -/
abbrev BlkP (X : Cx) (E : XK) (scope : Scope) (R : Cx → Prop) : Prop := ∀ (s : Shared) (H : Hp) (cl : List (Str × Addr)) (fp : List Addr), Passes (L2.CX X.prog X.w) (blkX X s H scope (compEnvC scope cl s.heap.objs.size X.env) fp) E → Fl (blkX X s H scope (compEnvC scope cl s.heap.objs.size X.env) fp) E → R (blkX X s H scope (compEnvC scope cl s.heap.objs.size X.env) fp)
theorem parts_of {scope : Scope} {R1 R2 R3 : Cx → Prop} (F : Fl X E) (h1 : BlkP X E scope R1) (h2 : BlkP X E scope R2) (h3 : BlkP X E scope R3) : PartsX X scope fun BX => R1 BX ∧ R2 BX ∧ R3 BX := fun pz z sB HB clB fB IB fpB => by
  have p := passes_blk (scope := scope) (clB := clB) F IB fpB
  have f := fl_blk (scope := scope) (clB := clB) F IB fpB
  exact ⟨h1 sB HB clB fB p f, h2 sB HB clB fB p f, h3 sB HB clB fB p f⟩
theorem qe_lc {elt tg iter : Expr} {ifs : List Expr} {scope : Scope} {own : List (Str × Nat)} {pos : Pos} {mi : MI} {t : Tg} {mt : MT} {me : ME} (F : Fl X E) (hK : X.K = c.K) (hc : X.calm = true) (hN : X.N.Nodup) (hi : PI X tg iter (rdI c E mi)) (ok : BlkOk X.N X.env.scope scope own)
    (hg : BlkP X E scope fun BX => PG BX tg (gTg X.K t)) (ht : BlkP X E scope fun BX => PTs BX ifs (rdT c E mt)) (he : BlkP X E scope fun BX => PE BX elt (rdE c E me))
    (hv : ∀ i ∈ t.ix, i ∈ own.map (·.2) := by decide) (hs : ∀ x, foldedSetIterable iter X.env x = pure x := by intro _; rfl) :
    PE X (.ListComp elt [⟨tg, iter, ifs, 0⟩] scope pos) (rdE c E (mLc mi t mt me (own.map (·.2)))) :=
  PE.imp (lcx_pe hc hN hi ok (parts_of F hg ht he) hs) fun σ H Q h => by
    rw [hK]
    exact lc_of hv σ H Q h
theorem qs_setLc {i : Nat} {y : Str} {py : Pos} {elt tg iter : Expr} {ifs : List Expr} {scope : Scope} {own : List (Str × Nat)} {pos spos : Pos} {mi : MI} {t : Tg} {mt : MT} {me : ME} (F : Fl X E) (hK : X.K = c.K) (hc : X.calm = true) (hN : X.N.Nodup) (hy : X.N[i]? = some y) (hyl : X.env.scope.names.lookup y = some .local)
    (hsw : swapsWith (.ListComp elt [⟨tg, iter, ifs, 0⟩] scope pos) (some (.Name y py)) spos.line X.env = pure true) (hi : PI X tg iter (rdI c E mi)) (ok : BlkOk X.N X.env.scope scope own)
    (hg : BlkP X E scope fun BX => PG BX tg (gTg X.K t)) (ht : BlkP X E scope fun BX => PTs BX ifs (rdT c E mt)) (he : BlkP X E scope fun BX => PE BX elt (rdE c E me))
    (hv : ∀ i ∈ t.ix, i ∈ own.map (·.2) := by decide) (hs : ∀ x, foldedSetIterable iter X.env x = pure x := by intro _; rfl) :
    PS X (.Assign [.Name y py] (.ListComp elt [⟨tg, iter, ifs, 0⟩] scope pos) spos) (rdS c E (mSet i (mLc mi t mt me (own.map (·.2))))) :=
  PS.imp (lcx_set hc hN hy hyl hsw hi ok (parts_of F hg ht he) hs) fun Z σ H ⟨m, S, g, s, rg, q⟩ => by
    have z : rdE c E (mLc mi t mt me (own.map (·.2))) σ H fun v H1 => Z.nx (σ.set i (some v)) H1 := by
      refine seqSE s rg q fun m1 S1 H1 d v a r q1 => q1 m1 H1 _ (Nxt.refl a.sim) ((a.relG rg).set i r)
    have z2 := lc_of hv σ H _ z
    rw [hK]
    exact z2
end
end Y

set_option Elab.async false
set_option linter.all false
set_option maxRecDepth 100000
set_option maxHeartbeats 1000000
/-! Y10: methods of built-in types, dicts written out. -/
namespace Y
open PySem PySem.Spec PyProof.Rows L2
def tyF (T : String) (d : D) (S : Sr) : Bool := match d with
  | .str _ => T == "str"
  | .fro _ => T == "list"
  | .ktp _ => T == "tuple"
  | .adr i => (match S.f i with
    | some (.lst _) => T == "list"
    | some (.dic _) => T == "dict"
    | some (.dit _) => T == "dict"
    | _ => false)
  | _ => false
section
variable {X : Cx} {c : Ct} {E : XK} {m : Nat → Addr} {S : Sr} {H : Hp} {g : Gm} {σ : L2.St}
theorem tyF_ok {T : String} {d : D} {v : V} (s : Sim c m S H) (r : RelD c m S.n H d v) (h : tyF T d S = true) : tyV c.K T v H := by
  cases d with
  | str z => rw [rd_str r]; exact eq_of_beq h
  | fro l =>
    obtain ⟨a, vs, rfl, hh, rs⟩ := rd_fro r
    exact .inl ⟨eq_of_beq h, vs, hh.sq⟩
  | ktp l =>
    obtain ⟨a, vs, rfl, ⟨o, its, n, h1, h2, h3, h4⟩, rs⟩ := rd_ktp r
    exact .inr (.inl ⟨eq_of_beq h, o, h1, h2, h3⟩)
  | adr i =>
    obtain ⟨rfl, hi⟩ := rd_adr r
    unfold tyF at h
    dsimp only at h
    split at h
    · rename_i l el
      obtain ⟨vs, hh, rs⟩ := s.lst el
      exact .inl ⟨eq_of_beq h, vs, .inl (.inl hh)⟩
    · rename_i l el
      obtain ⟨vs, hh, rs⟩ := s.dic el
      exact .inr (.inr (.inl ⟨eq_of_beq h, .inl ⟨vs, hh⟩⟩))
    · rename_i l el
      obtain ⟨vs, hh, rs⟩ := s.dit el
      exact .inr (.inr (.inl ⟨eq_of_beq h, .inr ⟨vs, hh⟩⟩))
    · cases h
  | _ => cases h
/-- what a method answers -/
abbrev FM := D → List D → SM D
def SndM (c : Ct) (r : V → List V → Hp → VK → Prop) (f : FM) : Prop := ∀ (E : XK) (m : Nat → Addr) (S : Sr) (H : Hp) (Q : VK) (x : D) (v : V) (l : List D) (vs : List V), Sim c m S H → RelD c m S.n H x v → RelDs c m S.n H l vs → PoE c E m S H Q (f x l S) → r v vs H Q
def mBM (T : String) (f : FM) (o : ME) (a : MA) : ME := fun g => SM.bind (o g) fun x S1 => if tyF T x S1 = true then SM.bind (a g) (f x) S1 else .bad
theorem tBM_of {T : String} {r : V → List V → Hp → VK → Prop} {f : FM} {mo : ME} {ma : MA} (hs : SndM c r f) (σ : L2.St) (H : Hp) (Q : VK) (h : rdE c E (mBM T f mo ma) σ H Q) : tBM c.K T r (rdE c E mo) (rdA c E ma) σ H Q := by
  obtain ⟨m, S, g, s, rg, q⟩ := h
  refine seqE s rg q fun m1 S1 H1 x v a r q1 => ?_
  obtain ⟨ht, q2⟩ := po_if q1
  exact ⟨tyF_ok a.sim r ht, seqEA a.sim (a.relG rg) q2 fun m2 S2 H2 l vs b rs q3 => hs E m2 S2 H2 Q x v l vs b.sim (b.relD r) rs q3⟩
theorem qe_bm {o e : Expr} {es : List Expr} {mo : ME} {ma : MA} {name : Str} {apos cpos : Pos} {T id : String} {r : V → List V → Hp → VK → Prop} {f : FM} (hK : X.K = c.K) (pa : PlainAttrs T) (slot : Slot T name id) (hty : typeOf (.builtin id) = pure (.type "method_descriptor")) (hm : MtR X id r) (hs : SndM c r f)
    (ho : PE X o (rdE c E mo)) (ha : PA X (e :: es) (rdA c E ma))
    (hbase : attributeBase o name X.env (eval o X.env) = eval o X.env := by rfl)
    (hfew : ((backTo cpos (starEach (e :: es) X.env)).all (fun x => !x.1) && (backToKw cpos (keywordEach [] X.env)).all (fun x => x.1.isSome)
      && decide ((e :: es).length + ([] : List Keyword).length + (if ([] : List Keyword).isEmpty then 0 else 1) < 30)) = true := by rfl)
    (hline : (apos.endLine == cpos.line) = true := by rfl) (hst : starEach (e :: es) X.env = (false, eval e X.env) :: starEach es X.env := by rfl) (hplain : (backTo cpos (starEach es X.env)).any (·.1) = false := by rfl) :
    PE X (.Call (.Attribute o name apos) (e :: es) [] cpos) (rdE c E (mBM T f mo ma)) :=
  PE.imp (pe_bm pa slot hty hm ho ha hbase hfew hline hst hplain) fun σ H Q h => by
    rw [hK]
    exact tBM_of hs σ H Q h
theorem qe_bm0 {o : Expr} {mo : ME} {name : Str} {apos cpos : Pos} {T id : String} {r : V → List V → Hp → VK → Prop} {f : FM} (hK : X.K = c.K) (pa : PlainAttrs T) (slot : Slot T name id) (hty : typeOf (.builtin id) = pure (.type "method_descriptor")) (hm : MtR X id r) (hs : SndM c r f)
    (ho : PE X o (rdE c E mo)) (hbase : attributeBase o name X.env (eval o X.env) = eval o X.env := by rfl) (hline : (apos.endLine == cpos.line) = true := by rfl) :
    PE X (.Call (.Attribute o name apos) [] [] cpos) (rdE c E (mBM T f mo mNil)) :=
  PE.imp (pe_bm0 pa slot hty hm ho hbase hline) fun σ H Q h => by
    rw [hK]
    obtain ⟨m, S, g, s, rg, q⟩ := h
    refine seqE s rg q fun m1 S1 H1 x v a r q1 => ?_
    obtain ⟨ht, q2⟩ := po_if q1
    exact ⟨tyF_ok a.sim r ht, hs E m1 S1 H1 Q x v [] [] a.sim r mk_nil q2⟩
/-! ### lists -/
def fApp : FM := fun x l S => match x, l with
  | .adr i, [d] => (match S.f i with
    | some (.lst xs) => if xs.length < sizeLine then .ok .non (S.put i (.lst (xs ++ [d]))) else .bad
    | _ => .bad)
  | _, _ => .bad
theorem snd_append : SndM c rAppend fApp := fun E m S H Q x v l vs s rx rs q => by
  unfold fApp at q
  split at q
  · rename_i i d
    obtain ⟨rfl, hi⟩ := rd_adr rx
    obtain ⟨w, t, rfl, r1, r2⟩ := rd_cons rs
    rw [rd_nil r2]
    split at q
    · rename_i xs ex
      obtain ⟨hz, q⟩ := po_if q
      obtain ⟨ys, hh, rs⟩ := s.lst ex
      have pu := Nxt.put (x := .lst (xs ++ [d])) (o := .lst (ys ++ [w])) s ex ⟨_, rfl, rs.append (mk_cons r1 mk_nil)⟩
      exact ⟨_, ys, w, rfl, rfl, hh, by rw [← rs.length]; exact hz, q m _ _ pu mk_non⟩
    · exact q.elim
  · exact q.elim
def fPop : FM := fun x l S => match x, l with
  | .adr i, [] => (match S.f i with
    | some (.lst xs) => (match xs[xs.length - 1]? with
      | some d => .ok d (S.put i (.lst xs.dropLast))
      | none => .bad)
    | _ => .bad)
  | _, _ => .bad
theorem RelDs.dropLast {n : Nat} : ∀ {l : List D} {vs : List V}, RelDs c m n H l vs → RelDs c m n H l.dropLast vs.dropLast
  | [], _, h => by rw [rd_nil h]; exact mk_nil
  | [d], _, h => by
    obtain ⟨w, t, rfl, r1, r2⟩ := rd_cons h
    rw [rd_nil r2]
    exact mk_nil
  | d :: e :: l, _, h => by
    obtain ⟨w, t, rfl, r1, r2⟩ := rd_cons h
    obtain ⟨w2, t2, rfl, r3, r4⟩ := rd_cons r2
    exact mk_cons r1 (RelDs.dropLast (l := e :: l) r2)
theorem snd_pop : SndM c rPop fPop := fun E m S H Q x v l vs s rx rs q => by
  unfold fPop at q
  split at q
  · rename_i i
    obtain ⟨rfl, hi⟩ := rd_adr rx
    rw [rd_nil rs]
    split at q
    · rename_i xs ex
      split at q
      · rename_i d ed
        obtain ⟨ys, hh, rs⟩ := s.lst ex
        obtain ⟨w, e1, r1⟩ := rs.get ed
        have pu := Nxt.put (x := .lst xs.dropLast) (o := .lst ys.dropLast) s ex ⟨_, rfl, rs.dropLast⟩
        exact ⟨_, ys, w, rfl, rfl, hh, by rw [← rs.length]; exact e1, q m _ _ pu (pu.relD r1)⟩
      · exact q.elim
    · exact q.elim
  · exact q.elim
theorem RelDs.erase {n : Nat} : ∀ {l : List D} {vs : List V} (k : Nat), RelDs c m n H l vs → RelDs c m n H (l.eraseIdx k) (vs.eraseIdx k)
  | [], _, k, h => by rw [rd_nil h]; exact mk_nil
  | d :: l, _, 0, h => by
    obtain ⟨w, t, rfl, r1, r2⟩ := rd_cons h
    exact r2
  | d :: l, _, k + 1, h => by
    obtain ⟨w, t, rfl, r1, r2⟩ := rd_cons h
    exact mk_cons r1 (RelDs.erase k r2)
def fPopAt : FM := fun x l S => match x, l with
  | .adr i, [.int j] => (match S.f i with
    | some (.lst xs) => if -(2 ^ 63) ≤ j ∧ j < 2 ^ 63 then (match seqIndex? j xs.length with
      | some k => (match xs[k]? with
        | some d => .ok d (S.put i (.lst (xs.eraseIdx k)))
        | none => .bad)
      | none => .bad) else .bad
    | _ => .bad)
  | _, _ => .bad
theorem snd_popAt : SndM c rPopAt fPopAt := fun E m S H Q x v l vs s rx rs q => by
  unfold fPopAt at q
  split at q
  · rename_i i j
    obtain ⟨rfl, hi⟩ := rd_adr rx
    obtain ⟨w, t, rfl, r1, r2⟩ := rd_cons rs
    rw [rd_int r1, rd_nil r2]
    split at q
    · rename_i xs ex
      obtain ⟨hj, q⟩ := po_if q
      split at q
      · rename_i k ek
        split at q
        · rename_i d ed
          obtain ⟨ys, hh, rs⟩ := s.lst ex
          obtain ⟨w, e1, r1⟩ := rs.get ed
          have pu := Nxt.put (x := .lst (xs.eraseIdx k)) (o := .lst (ys.eraseIdx k)) s ex ⟨_, rfl, rs.erase k⟩
          exact ⟨_, ys, j, k, w, rfl, rfl, hh, hj.1, hj.2, by rw [← rs.length]; exact ek, e1, q m _ _ pu (pu.relD r1)⟩
        · exact q.elim
      · exact q.elim
    · exact q.elim
  · exact q.elim
/-- a tuple of texts of the module's own -/
def strsOf : List D → Option (List Str)
  | [] => some []
  | .str z :: l => (strsOf l).map fun r => z :: r
  | _ => none
theorem strs_rel {n : Nat} : ∀ {l : List D} {ys : List Str} {vs : List V}, strsOf l = some ys → RelDs c m n H l vs → vs = ys.map V.str
  | [], ys, vs, e, r => by
    cases e
    rw [rd_nil r]
    rfl
  | d :: l, ys, vs, e, r => by
    obtain ⟨w, t, rfl, r1, r2⟩ := rd_cons r
    cases d with
    | str z =>
      obtain ⟨zs, e1, e2⟩ := Option.map_eq_some_iff.mp e
      subst e2
      rw [strs_rel e1 r2, rd_str r1]
      rfl
    | _ => cases e
def ixS : List Str → Str → Option Nat
  | [], _ => none
  | y :: l, z => if y = z then some 0 else (ixS l z).map (· + 1)
theorem ixS_of : ∀ {l : List Str} {z : Str} {j : Nat}, ixS l z = some j → l[j]? = some z ∧ ∀ k, k < j → l[k]? ≠ some z
  | [], _, _, e => by cases e
  | y :: l, z, j, e => by
    unfold ixS at e
    split at e
    · rename_i h
      cases e
      exact ⟨by rw [h]; rfl, fun k hk => absurd hk (Nat.not_lt_zero k)⟩
    · rename_i h
      obtain ⟨i, e1, e2⟩ := Option.map_eq_some_iff.mp e
      subst e2
      obtain ⟨h1, h2⟩ := ixS_of e1
      refine ⟨h1, fun k hk e3 => ?_⟩
      cases k with
      | zero => exact h (Option.some.inj e3)
      | succ k => exact h2 k (Nat.lt_of_succ_lt_succ hk) e3
def fTix : FM := fun x l S => match x, l with
  | .ktp xs, [.str z] => (match strsOf xs with
    | some ys => (match ixS ys z with
      | some j => .ok (.int (j : Nat)) S
      | none => .bad)
    | none => .bad)
  | _, _ => .bad
theorem snd_tix : SndM c (fun x xs H Q => ∃ p, ∃ ys : List Str, ∃ z j, x = .ref p ∧ xs = [.str z] ∧ SqT c.K H p (ys.map V.str) ∧ ys[j]? = some z ∧ (∀ m, m < j → ys[m]? ≠ some z) ∧ Q (.int (j : Nat)) H) fTix := fun E m S H Q x v l vs s rx rs q => by
  unfold fTix at q
  split at q
  · rename_i xs z
    obtain ⟨a, ws, rfl, hh, r0⟩ := rd_ktp rx
    obtain ⟨w, t, rfl, r1, r2⟩ := rd_cons rs
    rw [rd_str r1, rd_nil r2]
    split at q
    · rename_i ys ey
      split at q
      · rename_i j ej
        have e := strs_rel ey r0
        subst e
        obtain ⟨h1, h2⟩ := ixS_of ej
        exact ⟨a, ys, z, j, rfl, rfl, hh.sq, h1, h2, q m H _ (Nxt.refl s) mk_int⟩
      · exact q.elim
    · exact q.elim
  · exact q.elim
/-! ### a dict written out -/
abbrev MP := Gm → SM (List (D × D))
def evP : List (ME × ME) → MP
  | [] => fun _ S => .ok [] S
  | p :: r => fun g => SM.bind (p.1 g) fun x => SM.bind (p.2 g) fun y => SM.bind (evP r g) fun l S => .ok ((x, y) :: l) S
def RelP (c : Ct) (m : Nat → Addr) (n : Nat) (H : Hp) : List (D × D) → List (V × V) → Prop
  | [], ws => ws = []
  | p :: r, ws => ∃ x y t, ws = (x, y) :: t ∧ RelD c m n H p.1 x ∧ RelD c m n H p.2 y ∧ RelP c m n H r t
def PoP (c : Ct) (E : XK) (m : Nat → Addr) (S : Sr) (H : Hp) (Q : List (V × V) → Hp → Prop) : R (List (D × D)) → Prop
  | .ok l S' => ∀ m' H' ws, Nxt c m S H m' S' H' → RelP c m' S'.n H' l ws → Q ws H'
  | .exc q S' => ∀ m' H', Nxt c m S H m' S' H' → E (.ref (c.cls q)) none H'
  | .bad => False
theorem PoP.go {m1 : Nat → Addr} {S1 : Sr} {H1 : Hp} (s : Sim c m S H) (a : Nxt c m S H m1 S1 H1) {Q : List (V × V) → Hp → Prop} {r : R (List (D × D))} (h : PoP c E m S H Q r) : PoP c E m1 S1 H1 Q r := by
  cases r with
  | ok d S' => exact fun m' H' v b r => h m' H' v (a.trans s b) r
  | exc q S' => exact fun m' H' b => h m' H' (a.trans s b)
  | bad => exact h
theorem seqPE {x : ME} {k : D → SM (List (D × D))} {Q : List (V × V) → Hp → Prop} {QQ : VK} (s : Sim c m S H) (rg : RelG c m S.n H g σ) (h : PoP c E m S H Q (SM.bind (x g) k S))
    (hk : ∀ m1 S1 H1 d v, Nxt c m S H m1 S1 H1 → RelD c m1 S1.n H1 d v → PoP c E m1 S1 H1 Q (k d S1) → QQ v H1) : rdE c E x σ H QQ := by
  refine ⟨m, S, g, s, rg, ?_⟩
  unfold SM.bind at h
  cases e : x g S with
  | ok d S1 =>
    rw [e] at h
    exact fun m1 H1 v a r => hk m1 S1 H1 d v a r (PoP.go s a h)
  | exc q S1 =>
    rw [e] at h
    exact h
  | bad =>
    rw [e] at h
    exact h
def rdPs (c : Ct) (E : XK) (prs : List (ME × ME)) : List (TE × TE) := prs.map fun p => (rdE c E p.1, rdE c E p.2)
theorem pairs_of : ∀ {prs : List (ME × ME)} {m : Nat → Addr} {S : Sr} {H : Hp} {Q : List (V × V) → Hp → Prop}, Sim c m S H → RelG c m S.n H g σ → PoP c E m S H Q (evP prs g S) → tPairs (rdPs c E prs) σ H Q
  | [], m, S, H, Q, s, rg, q => q m H [] (Nxt.refl s) rfl
  | p :: r, m, S, H, Q, s, rg, q => by
    refine seqPE s rg q fun m1 S1 H1 d v a rd q1 => seqPE a.sim (a.relG rg) q1 fun m2 S2 H2 e w b re q2 => ?_
    refine pairs_of (prs := r) b.sim (b.relG (a.relG rg)) ?_
    unfold SM.bind at q2
    cases e0 : evP r g S2 with
    | ok l S3 =>
      rw [e0] at q2
      exact fun m3 H3 ws n rw_ => q2 m3 H3 _ n ⟨v, w, ws, rfl, n.relD (b.relD rd), n.relD re, rw_⟩
    | exc p S3 => rw [e0] at q2; exact q2
    | bad => rw [e0] at q2; exact q2
def keysP : List (D × D) → Option (List (Key × D))
  | [] => some []
  | (k, v) :: r => (match keyD k, keysP r with
    | some a, some l => some ((a, v) :: l)
    | _, _ => none)
theorem keysP_of {n : Nat} : ∀ {l : List (D × D)} {ks : List (Key × D)} {ws : List (V × V)}, keysP l = some ks → RelP c m n H l ws → ∃ kvs : List (Key × V), ws = kvs.map (fun kv => (kV kv.1, kv.2)) ∧ RelK c m n H ks kvs
  | [], ks, ws, e, r => by
    cases e
    exact ⟨[], r, mkk_nil⟩
  | (k, v) :: l, ks, ws, e, r => by
    obtain ⟨x, y, t, rfl, r1, r2, r3⟩ := r
    unfold keysP at e
    split at e
    · rename_i a l2 ea el
      cases e
      obtain ⟨kvs, h1, h2⟩ := keysP_of el r3
      refine ⟨(a, y) :: kvs, ?_, mkk_cons (p := (a, v)) r2 h2⟩
      rw [key_of r1 ea, h1]
      rfl
    · cases e
def mergeD (l more : List (Key × D)) : List (Key × D) := more.foldl (fun acc kv => putD acc kv.1 kv.2) l
theorem RelK.merge {n : Nat} : ∀ {more : List (Key × D)} {mv : List (Key × V)} {l : List (Key × D)} {vs : List (Key × V)}, RelK c m n H more mv → RelK c m n H l vs → RelK c m n H (mergeD l more) (mergeK vs mv)
  | [], _, l, vs, h, r => by rw [rk_nil h]; exact r
  | p :: more, _, l, vs, h, r => by
    obtain ⟨v, t, rfl, h1, h2⟩ := rk_cons h
    exact RelK.merge (more := more) (mv := t) h2 (RelK.put p.1 h1 r)
/-- the new dict stands empty while the pairs are made -/
def mDisp (prs : List (ME × ME)) : ME := fun g S => SM.bind (evP prs g) (fun l S1 => match S1.f S.n with
  | some (.dic []) => (match keysP l with
    | some ks => if ks.length ≤ 15 then .ok (.adr S.n) (S1.put S.n (.dic (mergeD [] ks))) else .bad
    | none => .bad)
  | _ => .bad) (S.alloc (.dic []))
theorem qe_disp {pos : Pos} {keys : List (Option Expr)} {values : List Expr} {prs : List (ME × ME)} (h : PPs X pos keys values (rdPs c E prs)) (hall : keys.all (·.isSome) = true) (hl : keys.length = values.length) (h0 : keys ≠ []) (h15 : keys.length ≤ 15) : PE X (.Dict keys values pos) (rdE c E (mDisp prs)) :=
  PE.imp (pe_disp h hall hl h0 h15) fun σ H Q ⟨m, S, g, s, rg, q⟩ p hp => by
    have al := Nxt.alloc (x := .dic []) (o := .dK []) s hp ⟨[], rfl, mkk_nil⟩
    have q := PoE.go s al q
    refine pairs_of al.sim (al.relG rg) ?_
    unfold mDisp SM.bind at q
    cases e0 : evP prs g (S.alloc (.dic [])) with
    | exc p S3 => rw [e0] at q; exact q
    | bad => rw [e0] at q; exact q
    | ok l S3 =>
      rw [e0] at q
      intro m3 H3 ws n rw_
      have q := PoE.go al.sim n q
      have e1 : m3 S.n = p := by rw [n.mu S.n (Nat.lt_succ_self _)]; exact ext_same
      have hlt : S.n < S3.n := Nat.lt_of_lt_of_le (Nat.lt_succ_self _) n.le
      dsimp only at q
      split at q
      · rename_i es
        obtain ⟨vs, hh, rk⟩ := n.sim.dic es
        rw [rk_nil rk, e1] at hh
        split at q
        · rename_i ks ek
          obtain ⟨hz, q⟩ := po_if q
          obtain ⟨kvs, h1, h2⟩ := keysP_of ek rw_
          have pu := Nxt.put (x := .dic (mergeD [] ks)) (o := .dK (mergeK [] kvs)) n.sim es ⟨_, rfl, RelK.merge h2 mkk_nil⟩
          refine ⟨hh, kvs, h1, by rw [← h2.length]; exact hz, ?_⟩
          have z := q m3 _ _ pu (mk_adr hlt)
          rw [e1] at z
          exact z
        · exact q.elim
      · exact q.elim
theorem qp_nil {pos : Pos} : PPs X pos [] [] (rdPs c E []) := pps_nil
theorem qp_cons {pos : Pos} {k v : Expr} {ks : List (Option Expr)} {vs : List Expr} {mk mv : ME} {prs : List (ME × ME)} (hk : PE X k (rdE c E mk)) (hv : PE X v (rdE c E mv)) (hr : PPs X pos ks vs (rdPs c E prs)) : PPs X pos (some k :: ks) (v :: vs) (rdPs c E ((mk, mv) :: prs)) := pps_cons hk hv hr
end
end Y

set_option Elab.async false
set_option linter.all false
set_option maxRecDepth 100000
set_option maxHeartbeats 1000000
/-! Y11: defs, lambdas that are told. -/
namespace Y
open PySem PySem.Spec PyProof.Rows L2
/-! ### what may leave -/
theorem passesT {X : Cx} {E : XK} (tk : Takes X (fun cls d _ H => E cls d H)) : Passes (L2.CX X.prog X.w) X E := passes_call tk fun _ _ _ _ h => h
theorem passesN {X : Cx} : Passes (L2.CX X.prog X.w) X noX := fun pins σ H s e s' I c => by
  obtain ⟨_, _, _, _, _, _, _, _, _, _, _, _, z⟩ := c
  exact z.elim
/-- nothing is told of what is never reached -/
def mBad : ME := fun _ _ => .bad
def mBadS : MS := fun _ _ => .bad
def mBadT : MT := fun _ _ => .bad
def mBadA : MA := fun _ _ => .bad
def mBadI : MI := fun _ _ => .bad
section
variable {X : Cx} {c : Ct} {E : XK}
theorem qe_bad {e : Expr} : PE X e (rdE c E mBad) := ⟨fun _ _ _ _ _ _ ⟨_, _, _, _, _, q⟩ => q.elim⟩
theorem qs_bad {e : Stmt} : PS X e (rdS c E mBadS) := ⟨fun _ _ _ _ _ _ ⟨_, _, _, _, _, q⟩ => q.elim⟩
theorem qss_bad {e : List Stmt} : PSs X e (rdS c E mBadS) := ⟨fun _ _ _ _ _ _ ⟨_, _, _, _, _, q⟩ => q.elim⟩
theorem qt_bad {e : Expr} : PT X e (rdT c E mBadT) := ⟨fun _ _ _ _ _ _ ⟨_, _, _, _, _, q⟩ => q.elim⟩
/-- a global -/
theorem qe_glob {x : Str} {d : D} {v : V} {u : Value} {pos : Pos} (hg : Gl X x) (hm : X.mg x = some u) (r : RelV v u) (rd : ∀ m n H, RelD c m n H d v) (hd : (x == ("__debug__" : Str)) = false := by decide) : PE X (.Name x pos) (rdE c E (mC d)) := qe_k (pe_glob hg hm r hd) rd
end
/-! ### defs -/
def mFun (N : Nat) (b : MS) : List D → SM D := fun l S => match b (l.map some ++ List.replicate (N - l.length) none) S with
  | .nx _ S' => .ok .non S'
  | .rt d S' => .ok d S'
  | .ex q S' => .exc q S'
  | _ => .bad
section
variable {c : Ct} {m : Nat → Addr} {n : Nat} {H : Hp}
theorem relG_none : ∀ (k : Nat), RelG c m n H (List.replicate k none) (List.replicate k none) := fun k => ⟨by simp, fun i d e => by
  rw [List.getElem?_replicate] at e
  split at e
  · cases e
  · cases e⟩
theorem relG_start : ∀ {l : List D} {vs : List V} (k : Nat), RelDs c m n H l vs → RelG c m n H (l.map some ++ List.replicate k none) (vs.map some ++ List.replicate k none)
  | [], _, k, h => by rw [rd_nil h]; exact relG_none k
  | d :: l, _, k, h => by
    obtain ⟨v, w, rfl, r1, r2⟩ := rd_cons h
    have ih := relG_start (l := l) k r2
    refine ⟨?_, fun i x e => ?_⟩
    · show (l.map some ++ List.replicate k none).length + 1 = (w.map some ++ List.replicate k none).length + 1
      rw [ih.1]
    · cases i with
      | zero =>
        have e2 : d = x := Option.some.inj (Option.some.inj e)
        subst e2
        exact ⟨v, rfl, r1⟩
      | succ i => exact ih.2 i x e
end
section
variable {P : Program} {w : World} {K : PySem.W.Frag} {mg : Str → Option Value} {base : Heap} {c : Ct}
theorem fn_run {N ps : List Str} {x qual : Str} {params : Arguments} {body : List Stmt} {scope : Scope} {dvs : List V} {kws : List (Str × V)} {f : Addr} {fd : FuncData} {k : Nat} {b : MS} (F : FunD K x qual params body scope dvs kws f fd) (S : FnScope N ps scope)
    (hb : ∀ (cdv : Value) (A : Around) (outer : List Env) (s : Shared) (H : Hp) (E : XK), Room k (A.deeper (envOfC qual scope s.heap.objs.size f cdv)) → PSs (cxOf (L2.CX P w) P w K mg base N qual scope f cdv A outer s H E) body (rdS c E b)) :
    FnOk P w K mg base (L2.CX P w) (k + 1) f fd ps (spOf c ps.length (mFun N.length b)) := by
  refine F.ok S (fun vs H Q E h => h.1) fun cdv A outer s H vs Q E hr h => ⟨_, hb cdv A outer s H E hr, ?_⟩
  obtain ⟨hl, m, S, l, si, rs, q⟩ := h
  unfold mFun at q
  refine ⟨m, S, l.map some ++ List.replicate (N.length - l.length) none, si, ?_, ?_⟩
  · unfold L2.start
    rw [← rs.length]
    exact relG_start _ rs
  · cases e : b (l.map some ++ List.replicate (N.length - l.length) none) S with
    | nx g S' =>
      rw [e] at q
      exact fun m' H' σ' a r => q m' H' _ a mk_non
    | rt d S' => rw [e] at q; exact q
    | ex d S' => rw [e] at q; exact q
    | bk g S' => rw [e] at q; exact q.elim
    | ct g S' => rw [e] at q; exact q.elim
    | bad => rw [e] at q; exact q.elim
/-- a def without defaults, by its name -/
theorem gfn_of {k n : Nat} {x qual : Str} {params : Arguments} {body : List Stmt} {scope : Scope} {kws : List (Str × V)} {f : Addr} {fd : FuncData} {ps : List Str} {mf : List D → SM D} (F : FunD K x qual params body scope [] kws f fd) (hn : ps.length = n) (h : FnOk P w K mg base (L2.CX P w) k f fd ps (spOf c n mf)) (hm : mg x = some (.ref f)) (b : Binds K fd ps []) :
    Gfn P w K mg base c k x n [] mf := ⟨f, fd, ps, [], [], h, hm, F.kp, b, .nil, fun _ _ _ => mk_nil⟩
theorem gm_of {k n : Nat} {q x qual : Str} {params : Arguments} {body : List Stmt} {scope : Scope} {kws : List (Str × V)} {f : Addr} {fd : FuncData} {ps : List Str} {mf : List D → SM D} (F : FunD K x qual params body scope [] kws f fd) (hn : ps.length = n) (h : FnOk P w K mg base (L2.CX P w) k f fd ps (spOf c n mf)) (hc : Cls K (c.cls q)) (hm : Meth K (c.cls q) x f) (b : Binds K fd ps []) :
    Gm' P w K mg base c k q x n [] mf := ⟨hc, f, fd, ps, [], [], h, hm, b, .nil, fun _ _ _ => mk_nil⟩
theorem gk_of {k n : Nat} {q x qual : Str} {params : Arguments} {body : List Stmt} {scope : Scope} {kws : List (Str × V)} {f : Addr} {fd : FuncData} {ps : List Str} {mf : List D → SM D} (F : FunD K x qual params body scope [] kws f fd) (hn : ps.length = n) (h : FnOk P w K mg base (L2.CX P w) k f fd ps (spOf c n mf)) (hg : mg q = some (.ref (c.cls q))) (hm : Mk K (c.cls q) f) (b : Binds K fd ps []) :
    Gk P w K mg base c k q n [] mf := ⟨hg, f, fd, ps, [], [], h, hm, b, .nil, fun _ _ _ => mk_nil⟩
/-- .. with defaults -/
theorem gk_ofD {k n : Nat} {q x qual : Str} {params : Arguments} {body : List Stmt} {scope : Scope} {dvs : List V} {kws : List (Str × V)} {f : Addr} {fd : FuncData} {ps : List Str} {mf : List D → SM D} {dd : List D} (F : FunD K x qual params body scope dvs kws f fd) (hn : ps.length = n) (h : FnOk P w K mg base (L2.CX P w) k f fd ps (spOf c n mf)) (hg : mg q = some (.ref (c.cls q))) (hm : Mk K (c.cls q) f)
    (j : Nat) (b : ∃ ds, Vals (dvs.drop j) ds ∧ Binds K fd ps ds) (hd : ∀ m n H, RelDs c m n H dd (dvs.drop j)) : Gk P w K mg base c k q n dd mf := by
  obtain ⟨ds, h1, h2⟩ := b
  exact ⟨hg, f, fd, ps, ds, _, h, hm, h2, h1, hd⟩
end
/-! ### told: try: return what() / except .. -/
/-- the except clauses: class, answer -/
abbrev Tcl := List (Str × Str)
/-- is the class q' caught by the clause of q (own: the classes of the program, each with the ones above it) -/
def pickT (sub : Str → Str → Bool) (q : Str) : Tcl → Option Str
  | [] => none
  | p :: r => if sub q p.1 = true then some p.2 else pickT sub q r
def mTold (sub : Str → Str → Bool) (qs : List Str) (cl : Tcl) (a : ME) : ME := fun g S => match a g S with
  | .ok d S' => .ok d S'
  | .exc q S' => if q ∈ qs then (match pickT sub q cl with
    | some r => .ok (.str r) S'
    | none => .bad) else .bad
  | .bad => .bad
section
variable {X : Cx}
def TMany (K : PySem.W.Frag) : List (Addr × Str) → Value → (Str → Hp → Prop) → Hp → Prop
  | [], _, _, _ => False
  | p :: r, cls, Q, H => ∃ b, PySem.W.exmOne K cls (.ref p.1) = some b ∧ (b = true → Q p.2 H) ∧ (b = false → TMany K r cls Q H)
def TToldM (K : PySem.W.Frag) (l : List (Addr × Str)) : (XK → Hp → VK → Prop) → Hp → VK → Prop := fun tl H Q => tl (fun cls _ H' => TMany K l cls (fun r H'' => Q (.str r) H'') H') H Q
/-- two clauses -/
theorem told2_gives {Ng : List Str} {x a e e2 q ret ret2 : Str} {sg : Scope} {g CS CS2 : Addr} {cdg : Value} {j j2 : Nat} {p1 p2 p3 p4 p5 p6 p7 p8 p9 pa pb pc : Pos} (hge : sg.names.lookup e = some .globalImplicit) (hme : X.mg e = some (.ref CS)) (hde : (e == ("__debug__" : Str)) = false) (hge2 : sg.names.lookup e2 = some .globalImplicit) (hme2 : X.mg e2 = some (.ref CS2)) (hde2 : (e2 == ("__debug__" : Str)) = false)
    (h0 : ∀ f : Addr, (L2.start Ng [V.ref f])[0]? = some (some (V.ref f))) :
    LamX.GivesTo X Ng x sg g cdg [.Try [.Return (some (.Call (.Name a p1) [] [] p2)) p3] [.ExceptHandler (some (.Name e p4)) none [.Return (some (.Constant (.str ret) j p5)) p6] p7, .ExceptHandler (some (.Name e2 p9)) none [.Return (some (.Constant (.str ret2) j2 pa)) pb] pc] [] [] p8] a q (TToldM X.K [(CS, ret), (CS2, ret2)]) := by
  intro f c' s H Q tl act hc h
  have hgl : Gl (cxOf C8.CX0 X.prog X.w X.K X.mg X.base Ng x sg g cdg X.A X.stack s H C8.E0).nox e := hge
  have hgl2 : Gl (cxOf C8.CX0 X.prog X.w X.K X.mg X.base Ng x sg g cdg X.A X.stack s H C8.E0).nox e2 := hge2
  refine ⟨_, pss_one (ps_try_many (X := (cxOf C8.CX0 X.prog X.w X.K X.mg X.base Ng x sg g cdg X.A X.stack s H C8.E0).nox) (l := [(.ref CS, fun _ _ _ => tRet (tC (.str ret))), (.ref CS2, fun _ _ _ => tRet (tC (.str ret2)))]) (Wout := fun _ _ _ _ => False)
      (tb := fun W D σ H => ∃ Ech : XK, (∀ cls d σ' H', Ech cls d H' → W cls d σ' H') ∧ σ[0]? = some (some (.ref f)) ∧ H c' = some (LamX.CodeO c' q) ∧ tl Ech H D.rt)
      rfl rfl takes_none5 (fun W pn xe tk _ => ?_) (.cons ⟨hgl, hde, .inl hme⟩ (fun a oe cls d pn _ _ => pss_one (ps_ret pe_str)) (.cons ⟨hgl2, hde2, .inl hme2⟩ (fun a oe cls d pn _ _ => pss_one (ps_ret pe_str)) .nil))), ?_⟩
  · refine ⟨fun pins s' σ H' D I h' => ?_⟩
    obtain ⟨Ech, hW, h1, h2, h3⟩ := h'
    have hp := act W pn xe Ech p1 p2 tk hW
    have hq := pss_one (ps_ret (pos := p3) hp)
    exact hq.run pins s' σ H' D I ⟨h1, h2, h3⟩
  · refine ⟨_, fun cls d σ' H' hw => ?_, h0 f, hc, h⟩
    obtain ⟨b, e1, e2, e3⟩ := hw
    refine ⟨b, e1, fun hb a _ => e2 hb, fun hb => ?_⟩
    obtain ⟨b2, e4, e5, e6⟩ := e3 hb
    exact ⟨b2, e4, fun hb a _ => e5 hb, fun hb => e6 hb⟩
/-- what the clauses' classes say of the program's -/
def ExmOk (K : PySem.W.Frag) (c : Ct) (sub : Str → Str → Bool) (qs : List Str) (cl : Tcl) : Prop := ∀ q ∈ qs, ∀ p ∈ cl, PySem.W.exmOne K (.ref (c.cls q)) (.ref (c.cls p.1)) = some (sub q p.1)
theorem tmany_of {K : PySem.W.Frag} {c : Ct} {sub : Str → Str → Bool} {q : Str} : ∀ {cl : Tcl} {z : Str} {Q : Str → Hp → Prop} {H : Hp}, (∀ p ∈ cl, PySem.W.exmOne K (.ref (c.cls q)) (.ref (c.cls p.1)) = some (sub q p.1)) → pickT sub q cl = some z → Q z H → TMany K (cl.map fun p => (c.cls p.1, p.2)) (.ref (c.cls q)) Q H
  | [], _, _, _, _, e, _ => by cases e
  | r :: cl, z, Q, H, ex, e, h => by
    unfold pickT at e
    refine ⟨sub q r.1, ex r List.mem_cons_self, fun hb => ?_, fun hb => ?_⟩
    · rw [if_pos hb] at e
      cases e
      exact h
    · rw [if_neg (by rw [hb]; exact Bool.false_ne_true)] at e
      exact tmany_of (fun p hp => ex p (List.mem_cons_of_mem _ hp)) e h
/-- the def told as the module has it -/
structure Told (P : Program) (w : World) (K : PySem.W.Frag) (mg : Str → Option Value) (base : Heap) (c : Ct) (x : Str) (sub : Str → Str → Bool) (qs : List Str) (cl : Tcl) : Prop where
  ex : ∀ (X : Cx) (q : Str), X.prog = P → X.w = w → X.K = K → X.mg = mg → X.base = base → ∃ (a : Str) (g : Addr) (pg : Arguments) (bg : List Stmt) (sg : Scope) (dV kV doc pm cdv ct oc : Value) (an od : Option Addr) (osl : Array (Option Value)) (Ng : List Str),
    mg x = some (.ref g) ∧ PySem.W.keepIn K (.ref g) = true ∧ K.lookup g = some ⟨oc, od, .func (PySem.W.fnOf x x pg bg sg dV kV doc pm an cdv ct), osl⟩ ∧ PySem.W.codeIn K cdv x = true ∧ L2.Binds K (PySem.W.fnOf x x pg bg sg dV kV doc pm an cdv ct) [a] [] ∧ FnScope Ng [a] sg ∧ Ng[0]? = some a ∧ Vis sg a ∧
      LamX.GivesTo X Ng x sg g cdv bg a q (TToldM K (cl.map fun p => (c.cls p.1, p.2))) ∧ (a == ("__debug__" : Str)) = false ∧ (a == ("__classdict__" : Str)) = false
  exm : ExmOk K c sub qs cl
theorem qe_told {c : Ct} {E : XK} {sub : Str → Str → Bool} {qs : List Str} {cl : Tcl} {x : Str} {cc P : Addr} {k : Nat} {params : Arguments} {body : Expr} {scope : Scope} {me : ME} {p lpos pos : Pos} (T : Told X.prog X.w X.K X.mg X.base c x sub qs cl) (hg : Gl X x)
    (TB : LamX.TabB X.base X.mg cc P) (hcode : X.env.code = .ref cc) (hmT : (P, X.env.qual ++ "<lambda>") ∈ c.T) (hu : ∀ p ∈ c.T, p.1 = P → p.2 = X.env.qual ++ "<lambda>") (hr : Room (k + 2) X.A) (L : LamX.LamS X.env.scope scope)
    (hbody : ∀ (A : Around) (outer : List Env) (s : Shared) (H : Hp) (E : XK) (f c' : Addr), Room k (A.deeper (LamX.lamEnv X scope s.heap.objs.size f c')) → PE (LamX.lamCx X A outer s H E scope f c') body (rdE c E me))
    (hdef : defaultsOf params X.env = ([], []) := by rfl)
    (hbind : ∀ (q : Str) (cl : List (Str × Addr)) (pm cv ctv : Value), bindArgs (PySem.W.kla_fn "<lambda>" q params body scope cl pm cv ctv) ⟨[], []⟩ = pure [] := by intros; rfl)
    (hdb : (x == ("__debug__" : Str)) = false := by decide) :
    PE X (.Call (.Name x p) [.Lambda params body scope lpos] [] pos) (rdE c E (mTold sub qs cl me)) := by
  obtain ⟨a, g, pg, bg, sg, dV, kV, doc, pm, cdv, ct, oc, an, od, osl, Ng, h1, h2, h3, h4, h5, h6, h7, h8, h9, h10, h11⟩ := T.ex X (X.env.qual ++ "<lambda>") rfl rfl rfl rfl rfl
  refine PE.imp (LamX.pe_lamcall (T := c.T) hg h1 h2 h3 h4 h5 h6 h7 h8 h9 TB hcode hmT hu hr L hdef hbind hbody hdb h10 h11) fun σ H Q ⟨m, S, g, s, rg, q⟩ => ⟨s.tabs, fun H1 eN T1 => ?_⟩
  have n := Nxt.extN s eN T1
  refine ⟨m, S, g, n.sim, n.relG rg, ?_⟩
  unfold mTold at q
  cases e : me g S with
  | ok d S' =>
    rw [e] at q
    exact fun m' H' v a r => q m' H' v (n.trans s a) r
  | bad => rw [e] at q; exact q.elim
  | exc p S' =>
    rw [e] at q
    intro m' H' a
    dsimp only at q
    split at q
    · rename_i hp
      split at q
      · rename_i r er
        exact tmany_of (fun p' hp' => T.exm p hp p' hp') er (q m' H' _ (n.trans s a) mk_str)
      · exact q.elim
    · exact q.elim
end
end Y

set_option Elab.async false
set_option linter.all false
set_option maxRecDepth 100000
set_option maxHeartbeats 1000000
/-! Y12: for what is printed. -/
namespace Y
open PySem PySem.Spec PyProof.Rows L2
/-- a global of the module: its value -/
def GK (mg : Str → Option Value) (c : Ct) (x : Str) (d : D) : Prop := ∃ v u, mg x = some u ∧ RelV v u ∧ ∀ m n H, RelD c m n H d v
theorem qe_gk {X : Cx} {c : Ct} {E : XK} {x : Str} {d : D} {pos : Pos} (h : GK X.mg c x d) (hg : Gl X x) (hd : (x == ("__debug__" : Str)) = false := by decide) : PE X (.Name x pos) (rdE c E (mC d)) := by
  obtain ⟨v, u, h1, h2, h3⟩ := h
  exact qe_glob hg h1 h2 h3 hd
theorem qt_pw {X : Cx} {e : Expr} {t : TT} (h : PW X e t) : PT X e t := h.pt
theorem passesL {X : Cx} {A : Around} {outer : List Env} {s : Shared} {H : Hp} {E : XK} {scope : Scope} {f c' : Addr} : Passes (L2.CX (LamX.lamCx X A outer s H E scope f c').prog (LamX.lamCx X A outer s H E scope f c').w) (LamX.lamCx X A outer s H E scope f c') E := passesT (takes_of rfl rfl rfl rfl)
/-- while: so many turns -/
def FU : Nat := 1000000
end Y

set_option Elab.async false
set_option linter.all false
set_option maxRecDepth 100000
set_option maxHeartbeats 1000000
/-! Y13: from a head's facts. -/
namespace Y
open PySem PySem.Spec PyProof.Rows L2
/-! ### values of the written part -/
mutual
def vB (K : PySem.W.Frag) : D → Value → Bool
  | .non, .none => true
  | .bl b, .bool c => b == c
  | .int i, .int j _ => decide (i = j)
  | .str x, .str y _ => decide (x = y)
  | .ktp l, .ref a => (match K.lookup a with
    | some ⟨.type t, none, .seq its _, _⟩ => decide (t = "tuple") && (decide (its.size ≤ sizeLine) && vsB K l its.toList)
    | _ => false)
  | .fro l, .ref a => (match K.lookup a with
    | some ⟨.type t, none, .seq its _, _⟩ => decide (t = "list") && (decide (its.size ≤ sizeLine) && vsB K l its.toList)
    | _ => false)
  | _, _ => false
def vsB (K : PySem.W.Frag) : List D → List Value → Bool
  | [], [] => true
  | d :: l, u :: us => vB K d u && vsB K l us
  | _, _ => false
end
mutual
theorem vB_ok {c : Ct} : ∀ {d : D} {u : Value}, vB c.K d u = true → ∃ v, RelV v u ∧ ∀ m n H, RelD c m n H d v
  | .non, u, h => by
    cases u <;> first | exact ⟨.non, rfl, fun _ _ _ => mk_non⟩ | (unfold vB at h; cases h)
  | .bl b, u, h => by
    cases u <;> first | (unfold vB at h; exact ⟨.bl b, by rw [eq_of_beq h]; rfl, fun _ _ _ => mk_bl⟩) | (unfold vB at h; cases h)
  | .int i, u, h => by
    cases u <;> first | (unfold vB at h; exact ⟨.int i, ⟨_, by rw [of_decide_eq_true h]⟩, fun _ _ _ => mk_int⟩) | (unfold vB at h; cases h)
  | .str i, u, h => by
    cases u <;> first | (unfold vB at h; exact ⟨.str i, ⟨_, by rw [of_decide_eq_true h]⟩, fun _ _ _ => mk_str⟩) | (unfold vB at h; cases h)
  | .ktp l, u, h => by
    cases u <;> first | (unfold vB at h; done) | skip
    case ref a =>
      unfold vB at h
      split at h
      · rename_i t its n sl e
        obtain ⟨h1, h2⟩ := He.ba h
        obtain ⟨h3, h4⟩ := He.ba h2
        obtain ⟨vs, r, k⟩ := vsB_ok (c := c) h4
        exact ⟨.ref a, rfl, fun m n H => mk_ktp ⟨_, its, _, e, congrArg Value.type (of_decide_eq_true h1), rfl, rfl, of_decide_eq_true h3, r⟩ (k m n H)⟩
      · cases h
    all_goals (unfold vB at h; cases h)
  | .fro l, u, h => by
    cases u <;> first | (unfold vB at h; done) | skip
    case ref a =>
      unfold vB at h
      split at h
      · rename_i t its n sl e
        obtain ⟨h1, h2⟩ := He.ba h
        obtain ⟨h3, h4⟩ := He.ba h2
        obtain ⟨vs, r, k⟩ := vsB_ok (c := c) h4
        refine ⟨.ref a, rfl, fun m n H => ?_⟩
        unfold RelD
        exact ⟨a, vs, rfl, .inr ⟨_, its, _, e, congrArg Value.type (of_decide_eq_true h1), rfl, rfl, of_decide_eq_true h3, r⟩, k m n H⟩
      · cases h
    all_goals (unfold vB at h; cases h)
  | .tup l, u, h => by unfold vB at h; cases h
  | .adr l, u, h => by unfold vB at h; cases h
theorem vsB_ok {c : Ct} : ∀ {l : List D} {us : List Value}, vsB c.K l us = true → ∃ vs, Vals vs us ∧ ∀ m n H, RelDs c m n H l vs
  | [], [], h => ⟨[], .nil, fun _ _ _ => mk_nil⟩
  | [], _ :: _, h => by unfold vsB at h; cases h
  | _ :: _, [], h => by unfold vsB at h; cases h
  | d :: l, u :: us, h => by
    unfold vsB at h
    obtain ⟨h1, h2⟩ := He.ba h
    obtain ⟨v, r1, k1⟩ := vB_ok (c := c) h1
    obtain ⟨vs, r2, k2⟩ := vsB_ok (c := c) h2
    exact ⟨v :: vs, .cons r1 r2, fun m n H => mk_cons (k1 m n H) (k2 m n H)⟩
end
/-- the module's name x is this -/
def glB (K : PySem.W.Frag) (x : Str) (d : D) : Bool := match PySem.W.nsIn K mainGlobals x with
  | some (some u) => vB K d u
  | _ => false
theorem glB_ok {c : Ct} {h : Heap} {mg : Str → Option Value} {x : Str} {d : D} (X : c.K.In h) (G : h.Ns mainGlobals mg) (e : glB c.K x d = true) : GK mg c x d := by
  unfold glB at e
  split at e
  · rename_i u eu
    obtain ⟨v, r, k⟩ := vB_ok (c := c) e
    exact ⟨v, u, PySem.W.mg_of X G eu, r, k⟩
  · cases e
theorem exo_of {c : Ct} {h : Heap} {mg : Str → Option Value} {x : Str} (X : c.K.In h) (G : h.Ns mainGlobals mg) (hc : c.cls x = He.ga c.K x) (e1 : (He.Fa.glo x).ok c.K = true) (e2 : (He.Fa.exc x).ok c.K = true) : Exo c.K mg c x := by
  obtain ⟨h1, h2, h3, h4⟩ := He.exc_ok e2
  exact ⟨by rw [hc]; exact He.glo_ok X G e1, by rw [hc]; exact h1, by rw [hc]; exact h2, by rw [hc]; exact h3, by rw [hc]; exact h4⟩
/-! ### told with two clauses -/
theorem told2_of {P : Program} {w : World} {K : PySem.W.Frag} {mg : Str → Option Value} {base : Heap} {c : Ct} {x a e e2 ret ret2 : Str} {params : Arguments} {scope : Scope} {f : Addr} {fd : FuncData} {j j2 : Nat} {p1 p2 p3 p4 p5 p6 p7 p8 p9 pa pb pc : Pos} {sub : Str → Str → Bool} {qs : List Str} {Ng : List Str}
    (F : FunD K x x params [.Try [.Return (some (.Call (.Name a p1) [] [] p2)) p3] [.ExceptHandler (some (.Name e p4)) none [.Return (some (.Constant (.str ret) j p5)) p6] p7, .ExceptHandler (some (.Name e2 p9)) none [.Return (some (.Constant (.str ret2) j2 pa)) pb] pc] [] [] p8] scope [] [] f fd)
    (hm : mg x = some (.ref f)) (b : Binds K fd [a] []) (S : FnScope Ng [a] scope) (h0 : Ng[0]? = some a) (hv : Vis scope a) (ha : (a == ("__debug__" : Str)) = false) (ha2 : (a == ("__classdict__" : Str)) = false)
    (hge : scope.names.lookup e = some .globalImplicit) (hme : mg e = some (.ref (c.cls e))) (hde : (e == ("__debug__" : Str)) = false) (hge2 : scope.names.lookup e2 = some .globalImplicit) (hme2 : mg e2 = some (.ref (c.cls e2))) (hde2 : (e2 == ("__debug__" : Str)) = false)
    (hs : ∀ f : Addr, (L2.start Ng [V.ref f])[0]? = some (some (V.ref f))) (ex : ExmOk K c sub qs [(e, ret), (e2, ret2)]) : Told P w K mg base c x sub qs [(e, ret), (e2, ret2)] := by
  refine ⟨fun X q h1 h2 h3 h4 h5 => ?_, ex⟩
  subst h1 h2 h3 h4 h5
  obtain ⟨oc, od, dV, kV, doc, pm, an, cdv, ct, osl, rfl, lk, hcd, _, _⟩ := F.ex
  exact ⟨a, f, params, _, scope, dV, kV, doc, pm, cdv, ct, oc, an, od, osl, Ng, hm, F.kp, lk, hcd, b, S, h0, hv, told2_gives hge hme hde hge2 hme2 hde2 hs, ha, ha2⟩
/-! ### the law's own def: its code object is known -/
theorem fn_runL {P : Program} {w : World} {K : PySem.W.Frag} {mg : Str → Option Value} {base : Heap} {c : Ct} {N ps : List Str} {x qual : Str} {params : Arguments} {body : List Stmt} {scope : Scope} {dvs : List V} {kws : List (Str × V)} {p : Str × Option Str} {fd : FuncData} {k : Nat} {b : MS} (F : FunD K x qual params body scope dvs kws (He.fAd K p) fd) (S : FnScope N ps scope)
    (hb : ∀ (A : Around) (outer : List Env) (s : Shared) (H : Hp) (E : XK) (cdv : Value), cdv = .ref (He.codeOf K p) → Room k (A.deeper (envOfC qual scope s.heap.objs.size (He.fAd K p) cdv)) → PSs (cxOf (L2.CX P w) P w K mg base N qual scope (He.fAd K p) cdv A outer s H E) body (rdS c E b)) :
    FnOk P w K mg base (L2.CX P w) (k + 1) (He.fAd K p) fd ps (spOf c ps.length (mFun N.length b)) := by
  obtain ⟨oc, od, dV, kV, doc, pm, an, cdv, ct, osl, rfl, lk, hcd, _, _⟩ := F.ex
  obtain ⟨cc, rfl⟩ := He.codeIn_ref hcd
  have e := He.codeOf_eq (p := p) lk rfl
  refine fn_of lk hcd S (fun vs H Q E h => h.1) fun A outer s H vs Q E hr h => ⟨_, hb A outer s H E _ (by rw [e]) hr, ?_⟩
  obtain ⟨hl, m, S, l, si, rs, q⟩ := h
  unfold mFun at q
  refine ⟨m, S, l.map some ++ List.replicate (N.length - l.length) none, si, ?_, ?_⟩
  · unfold L2.start
    rw [← rs.length]
    exact relG_start _ rs
  · cases e : b (l.map some ++ List.replicate (N.length - l.length) none) S with
    | nx g S' =>
      rw [e] at q
      exact fun m' H' σ' a r => q m' H' _ a mk_non
    | rt d S' => rw [e] at q; exact q
    | ex d S' => rw [e] at q; exact q
    | bk g S' => rw [e] at q; exact q.elim
    | ct g S' => rw [e] at q; exact q.elim
    | bad => rw [e] at q; exact q.elim
/-- the store at the start: the script alone, if it is a list that may be written -/
def S0 : Sr := ⟨0, fun _ => none⟩
def S1 (l : List D) : Sr := ⟨1, fun i => if i = 0 then some (.lst l) else none⟩
theorem rel_ints {c : Ct} {m : Nat → Addr} {n : Nat} {H : Hp} : ∀ ns : List Int, RelDs c m n H (ns.map .int) (ns.map V.int)
  | [] => mk_nil
  | i :: ns => mk_cons mk_int (rel_ints ns)
theorem law_start {c : Ct} {mf : List D → SM D} {H : Hp} {a : Addr} {ns : List Int} {E : XK} (ht : LamX.Tabs c.T H) (hS : SqL c.K H a (ns.map V.int)) (p1 : ∃ S', mf [.fro (ns.map .int)] S0 = .ok (.bl true) S') (p2 : ∃ S', mf [.adr 0] (S1 (ns.map .int)) = .ok (.bl true) S') :
    spOf c 1 mf [.ref a] H (fun v _ => v = .bl true) E := by
  have fro : SqF c.K H a (ns.map V.int) → spOf c 1 mf [.ref a] H (fun v _ => v = .bl true) E := fun h => by
    obtain ⟨S', e⟩ := p1
    refine ⟨rfl, fun _ => 0, S0, [.fro (ns.map .int)], ⟨fun i x e => (nomatch e), fun i h => absurd h (Nat.not_lt_zero i), fun i j h => absurd h (Nat.not_lt_zero i), fun i x e => (nomatch e), ht⟩, mk_cons ?_ mk_nil, ?_⟩
    · unfold RelD
      exact ⟨a, _, rfl, h, rel_ints ns⟩
    · rw [e]
      exact fun m' H' v _ r => rd_bl r
  rcases hS with (h | ⟨o, h⟩) | h
  · obtain ⟨S', e⟩ := p2
    refine ⟨rfl, fun _ => a, S1 (ns.map .int), [.adr 0], ⟨fun i x e => ?_, fun i hi => ?_, fun i j hi hj _ => ?_, fun i x e => ?_, ht⟩, mk_cons (mk_adr (Nat.lt_succ_self 0)) mk_nil, ?_⟩
    · by_cases hi : i = 0
      · rw [hi]
        exact Nat.lt_succ_self 0
      · have e : (if i = 0 then some (MO.lst (ns.map .int)) else none) = some x := e
        rw [if_neg hi] at e
        cases e
    · have hi : i < 1 := hi
      exact ⟨_, if_pos (by omega)⟩
    · have hi : i < 1 := hi
      have hj : j < 1 := hj
      omega
    · by_cases hi : i = 0
      · have e : (if i = 0 then some (MO.lst (ns.map .int)) else none) = some x := e
        rw [if_pos hi] at e
        cases e
        exact ⟨_, h, ns.map V.int, rfl, rel_ints ns⟩
      · have e : (if i = 0 then some (MO.lst (ns.map .int)) else none) = some x := e
        rw [if_neg hi] at e
        cases e
    · rw [e]
      exact fun m' H' v _ r => rd_bl r
  · exact fro (.inl ⟨o, h⟩)
  · exact fro (.inr h)
theorem tabs_start {H : Hp} {P : Addr} {q : Str} (h : H P = some (.tbl #[])) : LamX.Tabs [(P, q)] H := fun p hp => by
  have e : p = (P, q) := by simpa using hp
  rw [e]
  exact LamX.TabS.nil h
theorem all_at {l : List Bool} (h : l.all id = true) (i : Nat) {b : Bool} (e : l[i]? = some b) : b = true := List.all_eq_true.mp h b (List.mem_of_getElem? e)
theorem relV_ref {v : V} {a : Addr} (h : L2.RelV v (.ref a)) : v = .ref a := by
  cases v with
  | ref b =>
    have e : Value.ref a = Value.ref b := h
    cases e
    rfl
  | int i => obtain ⟨_, e⟩ := h; cases e
  | str i => obtain ⟨_, e⟩ := h; cases e
  | byt i => obtain ⟨_, e⟩ := h; cases e
  | flt i => obtain ⟨_, e⟩ := h; cases e
  | _ => cases h
theorem valsRef : ∀ {as : List Addr} {vs : List V}, Vals vs (as.map Value.ref) → vs = as.map V.ref
  | [], _, .nil => rfl
  | a :: as, _, .cons r t => by rw [relV_ref r, valsRef t] <;> rfl
theorem vals_refs {c : Ct} {l : List D} (as : List Addr) {vs : List V} (r : Vals vs (as.map Value.ref)) (k : ∀ m n H, RelDs c m n H l vs) : ∀ m n H, RelDs c m n H l (as.map V.ref) := by
  rw [valsRef r] at k
  exact k
end Y

set_option Elab.async false
set_option linter.all false
set_option maxRecDepth 100000
set_option maxHeartbeats 2000000
/-! Y14: a comprehension's block that knows of the frame around it; lists of lambdas that are told one by one. -/
namespace Y
open PySem PySem.Spec PyProof.Rows L2
section
variable {X : Cx}
/-- the block of one for: what it needs of its target, its tests, its item may lean on the frame's own state at the block's start -/
theorem lc_frame {own : List (Str × Nat)} {wi : TI} {g : TG} {tt : TT} {te : TE} {elt tg iter : Expr} {ifs : List Expr} {scope : Scope} {cpos : Pos} (calm : X.calm = true) (nd : X.N.Nodup) (hit : PI X tg iter wi) (bok : BlkOk X.N X.env.scope scope own)
    (parts : ∀ (pz : List (Addr × Obj)) (z : L2.St) (sB : Shared) (HB : Hp) (LB : Addr) (clB : List (Str × Addr)) (fB : List Addr), Inv X pz z HB sB → (∀ b ∈ fB, FpOk X pz HB b ∧ b < sB.heap.objs.size) →
      PG (X.blk sB HB scope (compEnvC scope clB LB X.env) fB) tg g ∧ PTs (X.blk sB HB scope (compEnvC scope clB LB X.env) fB) ifs (fun y H Q => wipe y (own.map (·.2)) = wipe z (own.map (·.2)) ∧ tt y H Q) ∧ PE (X.blk sB HB scope (compEnvC scope clB LB X.env) fB) elt (fun y H Q => wipe y (own.map (·.2)) = wipe z (own.map (·.2)) ∧ te y H Q))
    (fold : ∀ x, foldedSetIterable iter X.env x = pure x := by intro _; rfl) :
    PE X (.ListComp elt [⟨tg, iter, ifs, 0⟩] scope cpos) (tLc wi g tt te (own.map (·.2))) := by
  refine ⟨fun pz sA z HA Q IA rdg => ?_⟩
  rw [eval_ListComp]
  have clo : ∀ y ∈ scope.names, y.2 = .free → ∃ d, X.env.cells.lookup y.1 = some d := by
    intro y hy fr
    exact IA.ok.has _ (bok.free y hy fr)
  refine wpAny_comprehension_free rfl fold (closure_ok clo) bok.kind (fun y hy l => (bok.uniq y hy).trans (congrArg some l)) ?_
  refine thn (hit.run pz sA z HA _ IA rdg) fun xv sX lv => ?_
  refine thn lv fun iv sI got => ?_
  obtain ⟨ia, fB, tn, J, HI, rfl, II, TT, tn0, fpI, more⟩ := got
  refine wpAny_newObj_type (newEnv_comp ?_) (Nat.zero_le _)
  obtain ⟨DD, eD⟩ : ∃ d, d = sI.heap.objs.size := ⟨_, rfl⟩
  obtain ⟨sB, eB⟩ : ∃ s, s = ({ sI with heap := sI.heap.push { cls := .type "list", data := .seq ([] : List Value).toArray } } : Shared) := ⟨_, rfl⟩
  obtain ⟨HB, eH⟩ : ∃ h, h = upd HI DD (.lst []) := ⟨_, rfl⟩
  have freshD : HI DD = none := II.hok.fresh (Nat.le_of_eq eD.symm)
  have hpB : sB.heap = sI.heap.push { cls := .type "list", data := .seq ([] : List Value).toArray } := by rw [eB]
  have IB : Inv X pz z HB sB := by
    rw [eB, eH]
    refine II.laid (t' := sI.toks) (fun _ _ k => Heap.get?_push_of_some _ k) (Nat.le_of_eq eD.symm) ⟨Nat.zero_le _, [], 0, .nil, ?_⟩
    rw [eD]
    exact Heap.get?_push_size _ rfl
  have fpB : ∀ b ∈ fB, FpOk X pz HB b ∧ b < sB.heap.objs.size := by
    intro b hb
    obtain ⟨ob, eo, _⟩ := TT.obj _ _ tn0 b hb
    have lt := Heap.lt_size eo
    refine ⟨⟨?_, (fpI b hb).2⟩, ?_⟩
    · rw [eH, upd_ne (by rw [eD]; exact Nat.ne_of_lt lt)]
      exact (fpI b hb).1
    · rw [hpB, Heap.size_push]
      exact Nat.lt_succ_of_lt lt
  have tnB : tn 0 sB.heap := TT.keep _ _ _ tn0 fun b _ ob k => by
    rw [hpB]
    exact Heap.get?_push_of_some _ k
  have blk := block_start IB bok nd fpB
  obtain ⟨pg, pt, pe⟩ := parts pz z sB HB sB.heap.objs.size (cellsFrom (sB.heap.objs.size + 1) scope.names (cloFrom X.env.cells scope.names [])) fB IB fpB
  obtain ⟨W, ⟨k0, w0⟩, turn⟩ := more DD freshD
  rw [← eH] at w0
  rw [← eB, ← eD]
  show codeAny _ _ (.compStart (.ListComp elt [⟨tg, iter, ifs, 0⟩] scope cpos) 0 (.ref ia) (.ref DD) (compEnvC scope (cellsFrom (sB.heap.objs.size + 1) scope.names (cloFrom X.env.cells scope.names [])) sB.heap.objs.size X.env)) (compPost (model X.prog X.w) X.A X.xe none _ (.ref DD) sB.heap.objs.size) { sB with heap := pushCells (sB.heap.push { cls := .type "dict", data := .dict #[] }) scope.names }
  obtain ⟨ce, ece⟩ : ∃ e, e = compEnvC scope (cellsFrom (sB.heap.objs.size + 1) scope.names (cloFrom X.env.cells scope.names [])) sB.heap.objs.size X.env := ⟨_, rfl⟩
  rw [← ece] at blk pg pt pe ⊢
  have ceL : ce.locals = sB.heap.objs.size := by rw [ece] <;> rfl
  obtain ⟨sC, eC⟩ : ∃ s, s = ({ sB with heap := pushCells (sB.heap.push { cls := .type "dict", data := .dict #[] }) scope.names } : Shared) := ⟨_, rfl⟩
  rw [← eC] at blk ⊢
  have tnC : tn 0 sC.heap := TT.keep _ _ _ tnB fun b _ ob k => by
    rw [eC]
    exact pushCells_keeps _ _ _ _ (Heap.get?_push_of_some _ k)
  have fpIn : ∀ {zz : L2.St} {HH : Hp} {ss : Shared}, Inv (X.blk sB HB scope ce fB) [] zz HH ss → (∀ b ∈ fB, HH b = none) → ∀ b ∈ fB, FpOk (X.blk sB HB scope ce fB) [] HH b := by
    intro zz HH ss II nn b hb
    exact ⟨nn b hb, (II.ok.exf b hb).1, II.ok.exfs b hb, .inl hb, fun x d e => (II.ok.exf b hb).2 x d e, fun p hp => nomatch (show p ∈ ([] : List (Addr × Obj)) from hp)⟩
  have walk : codeAny (model X.prog X.w) X.A (.compLoop (.ListComp elt [⟨tg, iter, ifs, 0⟩] scope cpos) 0 (.ref ia) (.ref DD) ce) (compPost (model X.prog X.w) X.A X.xe none (EP X pz z Q) (.ref DD) sB.heap.objs.size) sC := by
    refine compLoop_any (fun k st => ∃ i HH, Inv (X.blk sB HB scope ce fB) [] (wipe z (own.map (·.2))) HH st ∧ tn i st.heap ∧ (∀ b ∈ fB, HH b = none) ∧ W i k HH) ?_ k0 ⟨0, HB, blk, tnC, fun b hb => (fpB b hb).1.1, w0⟩
    rintro k st ⟨i, HH, IH, tnH, nnH, wH⟩
    rcases turn i k HH wH with ⟨fin, qq⟩ | ⟨go, Nx, hNx, step⟩
    · refine thnF (TT.done (X.blk sB HB scope ce fB) rfl rfl rfl calm i [] st _ HH (fun _ _ => False) IH (fpIn IH nnH) tnH fin) fun r sE ⟨er, IE⟩ => ?_
      subst er
      have IO : Inv X pz z HH sE := IB.call' (ch := fB) IE.os IE.base IE.hok IE.bare fun b hb => ⟨(fpB b hb).1.2.2.2.1, (fpB b hb).1.2.1, (fpB b hb).1.2.2.2.2.1, (fpB b hb).1.2.2.2.2.2⟩
      have nn : HH sB.heap.objs.size = none := ceL ▸ (show HH ce.locals = none from IE.free)
      obtain ⟨mm, ns, _⟩ := IE.loc
      have ns : sE.heap.Ns ce.locals mm := ns
      rw [ceL] at ns
      refine ⟨mm, ns, fun hh sb => ⟨.ref DD, HH, ?_, rfl, qq⟩⟩
      obtain ⟨f0, f1, f2, f3, f4, f5⟩ := IB.fpOk (Nat.le_refl _) nn
      exact IO.turned (t' := sE.toks) (fun b ob hb k => (sb.2 b hb).trans k) f0 f1 f3 f4 f5
    · refine thnF (TT.item (X.blk sB HB scope ce fB) rfl rfl rfl calm i [] st _ HH (fun _ _ => False) IH (fpIn IH nnH) tnH go) fun r s6 ⟨u, er, h6⟩ => ?_
      subst er
      refine thnF h6 fun _ s7 ⟨x, H7, I7, r7, y7, tn7, n7⟩ => ?_
      have P7 := I7.pinned (fpIn I7 n7) (TT.obj _ _ tn7)
      refine thnF (pg.run _ s7 _ H7 x u _ P7 r7 (step x H7 y7)) fun _ s8 ⟨z8, H8, I8, ez, q8⟩ => ?_
      have again : ∀ {ss : Shared} {HX : Hp}, Inv (X.blk sB HB scope ce fB) ([] ++ pinsAt fB s7.heap) z8 HX ss → Nx HX → ∃ j, j < k ∧ ∃ i HX, Inv (X.blk sB HB scope ce fB) [] (wipe z (own.map (·.2))) HX ss ∧ tn i ss.heap ∧ (∀ b ∈ fB, HX b = none) ∧ W i j HX := by
        intro ss HX IX nx
        obtain ⟨j, lt, wX⟩ := hNx HX nx
        have same : ∀ b ∈ fB, ∀ ob, s7.heap.get? b = some ob → ss.heap.get? b = some ob ∧ HX b = none := by
          intro b hb ob k
          have pp := IX.pin (b, ob) (List.mem_append_right _ (List.mem_append_right _ (mem_pinsAt hb k)))
          exact ⟨pp.1, pp.2.1⟩
        refine ⟨j, lt, i + 1, HX, (IX.unpinned (pins := [])).weak (by rw [← ez, wipe_length]) (fun n v e => (wipe_some (by rw [ez]; exact e)).1), TT.keep _ _ _ tn7 fun b hb ob k => (same b hb ob k).1, fun b hb => ?_, wX⟩
        obtain ⟨ob, k, _⟩ := TT.obj _ _ tn7 b hb
        exact (same b hb ob k).2
      refine thnF (pt.run _ s8 z8 H8 _ I8 ⟨ez, q8⟩) fun b s9 ⟨H9, I9, q9⟩ => ?_
      cases b with
      | false =>
        rw [if_neg Bool.false_ne_true] at q9 ⊢
        exact again I9 q9
      | true =>
        rw [if_pos rfl] at q9 ⊢
        refine thnF (pe.run _ s9 z8 H9 _ I9 ⟨ez, q9⟩) fun v sV ⟨yv, HV, IV, rV, acc, eV, lV, nx⟩ => ?_
        exact app_ok (X := X.blk sB HB scope ce fB) IV eV lV rV fun sW IW => again IW nx
  exact codeAny_compStart_list walk (TT.self X.A 0 _ _ _ tnC walk)
/-! ### lambdas kept in a list -/
structure LamE where
  params : Arguments
  body : Expr
  scope : Scope
  pos : Pos
def LamE.e (l : LamE) : Expr := .Lambda l.params l.body l.scope l.pos
abbrev lamQ (X : Cx) : Str := X.env.qual ++ "<lambda>"
abbrev lamObj (X : Cx) (l : LamE) (pm : Value) (k : Addr) (ctv : Value) : Obj := PySem.W.kla_obj "<lambda>" (lamQ X) l.params l.body l.scope (cloFrom X.env.cells l.scope.names []) pm k ctv
/-- a lambda's object at f among the pins -/
def LamAt (X : Cx) (H : Hp) (pl : List (Addr × Obj)) (l : LamE) (f : Addr) : Prop :=
  ∃ pm k ctv, (f, lamObj X l pm k ctv) ∈ pl ∧ f ∉ frs X.stack ∧ H k = some (LamX.CodeO k (lamQ X))
def LamsAt (X : Cx) (H : Hp) (pl : List (Addr × Obj)) : List LamE → List Addr → Prop
  | [], fs => fs = []
  | l :: r, fs => ∃ f t, fs = f :: t ∧ LamAt X H pl l f ∧ LamsAt X H pl r t
section
variable {c : Ct} {m m' : Nat → Addr} {S S' : Sr} {H H' : Hp}
theorem codeO_keep (s : Sim c m S H) (a : Nxt c m S H m' S' H') {k : Addr} {q : Str} (h : H k = some (LamX.CodeO k q)) : H' k = some (LamX.CodeO k q) := by
  refine a.fr k _ (fun i hi e => ?_) h fun ps => LamX.codeO_ne ps
  obtain ⟨x, ex⟩ := s.all i hi
  obtain ⟨o, e1, r⟩ := s.at_ i x ex
  rw [← e, h] at e1
  cases e1
  exact codeO_not r k q rfl
theorem LamAt.go {pl pl' : List (Addr × Obj)} (s : Sim c m S H) (a : Nxt c m S H m' S' H') (sub : ∀ p ∈ pl, p ∈ pl') {l : LamE} {f : Addr} (h : LamAt X H pl l f) : LamAt X H' pl' l f := by
  obtain ⟨pm, k, ctv, h1, h2, h3⟩ := h
  exact ⟨pm, k, ctv, sub _ h1, h2, codeO_keep s a h3⟩
theorem LamsAt.go {pl pl' : List (Addr × Obj)} (s : Sim c m S H) (a : Nxt c m S H m' S' H') (sub : ∀ p ∈ pl, p ∈ pl') : ∀ {ls : List LamE} {fs : List Addr}, LamsAt X H pl ls fs → LamsAt X H' pl' ls fs
  | [], _, h => h
  | l :: r, _, ⟨f, t, e, h1, h2⟩ => ⟨f, t, e, h1.go s a sub, LamsAt.go s a sub h2⟩
theorem LamsAt.get {pl : List (Addr × Obj)} : ∀ {ls : List LamE} {fs : List Addr} {i : Nat} {l : LamE}, LamsAt X H pl ls fs → ls[i]? = some l → ∃ f, fs[i]? = some f ∧ LamAt X H pl l f
  | [], _, _, _, _, e => by cases e
  | x :: r, _, i, l, ⟨f, t, e, h1, h2⟩, el => by
    subst e
    cases i with
    | zero =>
      cases el
      exact ⟨f, rfl, h1⟩
    | succ i => exact LamsAt.get (i := i) h2 el
theorem LamsAt.length {pl : List (Addr × Obj)} : ∀ {ls : List LamE} {fs : List Addr}, LamsAt X H pl ls fs → fs.length = ls.length
  | [], _, h => by cases h; rfl
  | x :: r, _, ⟨f, t, e, h1, h2⟩ => by
    subst e
    exact congrArg (· + 1) (LamsAt.length h2)
end
/-- a lambda's object is pinned -/
theorem pin_lam {pz : List (Addr × Obj)} {z : L2.St} {H : Hp} {s : Shared} {l : LamE} {f k : Addr} {pm ctv : Value} (I : Inv X pz z H s) (hf : s.heap.get? f = some (lamObj X l pm k ctv)) (hn : H f = none) (hr : f ∉ frs X.stack) : Inv X (pz ++ [(f, lamObj X l pm k ctv)]) z H s := by
  refine I.pins_of fun p hp => ?_
  rcases List.mem_append.mp hp with h | h
  · exact I.pin p (List.mem_append_right _ h)
  · obtain rfl : p = (f, lamObj X l pm k ctv) := by simpa using h
    refine ⟨hf, hn, fun e => ?_, fun e => ?_, fun v e => nomatch e⟩
    · have e : f = X.env.locals := e
      obtain ⟨mm, ⟨o, es, ep, ho, hd, _⟩, _⟩ := I.loc
      rw [← e, hf] at ho
      rw [← Option.some.inj ho] at hd
      cases hd
    · rcases I.ok.stk with h | ⟨h, h2⟩
      · rw [h] at hr
        exact hr e
      · rw [h] at hr
        obtain ⟨en, h3, h4⟩ := List.mem_filterMap.mp e
        exact hr (List.mem_filterMap.mpr ⟨en, List.mem_cons_of_mem _ h3, h4⟩)
/-- the lambdas written in a list, from the left -/
theorem lams_eval {c : Ct} {cc P : Addr} {z : L2.St} {E : Value → Shared → Prop} {pos : Pos} (TB : LamX.TabB X.base X.mg cc P) (hcode : X.env.code = .ref cc) (hmT : (P, lamQ X) ∈ c.T) (hu : ∀ p ∈ c.T, p.1 = P → p.2 = lamQ X) :
    ∀ (ls : List LamE) {pz : List (Addr × Obj)} {s : Shared} {H : Hp} {m : Nat → Addr} {S : Sr} {Q : List Value → Shared → Prop}, (∀ l ∈ ls, LamX.LamS X.env.scope l.scope ∧ defaultsOf l.params X.env = ([], [])) → Inv X pz z H s → Sim c m S H →
      (∀ fs pl s' H', Inv X (pz ++ pl) z H' s' → Nxt c m S H m S H' → LamsAt X H' pl ls fs → Q (fs.map Value.ref) s') → wpAny (model X.prog X.w) X.A (spliced (backTo pos (starEach (ls.map LamE.e) X.env))) Q E s
  | [], pz, s, H, m, S, Q, _, I, si, h => Calls.spliced_nil (h [] [] s H (by rw [List.append_nil]; exact I) (Nxt.refl si) rfl)
  | l :: r, pz, s, H, m, S, Q, hl, I, si, h => by
    have e : starEach ((l :: r).map LamE.e) X.env = (false, eval l.e X.env) :: starEach (r.map LamE.e) X.env := rfl
    rw [e]
    show wpAny _ _ (spliced ((false, eval l.e X.env) :: backTo pos (starEach (r.map LamE.e) X.env))) _ _ s
    obtain ⟨L, dfl⟩ := hl l List.mem_cons_self
    refine Calls.spliced_cons (LamX.lam_make2 I TB hcode hmT hu si.tabs dfl (L.has I.ok) fun f k pm ctv H1 s1 I1 eN T1 hf hfn hfr hco => ?_)
    have n1 := Nxt.extN si eN T1
    have I2 := pin_lam (l := l) I1 hf hfn hfr
    refine lams_eval TB hcode hmT hu r (fun l' h' => hl l' (List.mem_cons_of_mem _ h')) I2 n1.sim fun fs pl s' H' I3 n2 at3 => ?_
    refine h (f :: fs) ((f, lamObj X l pm k ctv) :: pl) s' H' (by rw [List.append_assoc] at I3; exact I3) (n1.trans si n2) ⟨f, fs, rfl, ?_, at3.go n2.sim (Nxt.refl n2.sim) fun p hp => List.mem_cons_of_mem _ hp⟩
    exact ⟨pm, k, ctv, List.mem_cons_self, hfr, codeO_keep n1.sim n2 hco⟩
/-- what is known behind: the local i has the list of them -/
def KnL (c : Ct) (X : Cx) (pl : List (Addr × Obj)) (ls : List LamE) (i : Nat) (m : Nat → Addr) (S : Sr) (z : L2.St) (H : Hp) : Prop :=
  z.length = X.N.length ∧ ∃ (LL : Addr) (fs : List Addr), z[i]? = some (some (.ref LL)) ∧ H LL = some (.lst (fs.map V.ref)) ∧ (∀ j, j < S.n → LL ≠ m j) ∧ LamsAt X H pl ls fs
def rdSK (c : Ct) (E : XK) (Kn : (Nat → Addr) → Sr → L2.St → Hp → Prop) (x : MS) : TS := fun Z σ H => ∃ m S g, Sim c m S H ∧ RelG c m S.n H g σ ∧ Kn m S σ H ∧ PoS c E m S H Z (x g S)
def rdEK (c : Ct) (E : XK) (Kn : (Nat → Addr) → Sr → L2.St → Hp → Prop) (x : ME) : TE := fun σ H Q => ∃ m S g, Sim c m S H ∧ RelG c m S.n H g σ ∧ Kn m S σ H ∧ PoE c E m S H Q (x g S)
def mForget (i : Nat) (b : MS) : MS := fun g S => b (g.set i none) S
theorem RelG.forget {c : Ct} {m : Nat → Addr} {n : Nat} {H : Hp} {g : Gm} {σ : L2.St} (rg : RelG c m n H g σ) (i : Nat) (o : Option V) : RelG c m n H (g.set i none) (σ.set i o) := by
  refine ⟨by rw [List.length_set, List.length_set]; exact rg.1, fun j x e => ?_⟩
  by_cases h : i = j
  · subst h
    by_cases hl : i < g.length
    · rw [List.getElem?_set_self hl] at e
      cases e
    · rw [List.getElem?_eq_none (by rw [List.length_set]; omega)] at e
      cases e
  · rw [List.getElem?_set_ne h] at e
    obtain ⟨w, e1, r1⟩ := rg.2 j x e
    exact ⟨w, by rw [List.getElem?_set_ne h]; exact e1, r1⟩
theorem LamsAt.tr {H : Hp} {pl pn : List (Addr × Obj)} {xe : Value → Shared → Prop} : ∀ {ls : List LamE} {fs : List Addr}, LamsAt X H pl ls fs → LamsAt (X.tr pn xe) H pl ls fs
  | [], _, h => h
  | l :: r, _, ⟨f, t, e, h1, h2⟩ => ⟨f, t, e, h1, h2.tr⟩
theorem qss_lams {c : Ct} {E : XK} {cc P : Addr} {i : Nat} {y : Str} {py lpos pos : Pos} {ls : List LamE} {es : List Expr} {rest : List Stmt} {b : MS} (hes : es = ls.map LamE.e) (TB : LamX.TabB X.base X.mg cc P) (hcode : X.env.code = .ref cc) (hmT : (P, lamQ X) ∈ c.T) (hu : ∀ p ∈ c.T, p.1 = P → p.2 = lamQ X)
    (hN : X.N.Nodup) (hi : X.N[i]? = some y) (hy : X.env.scope.names.lookup y = some .local) (hl : ∀ l ∈ ls, LamX.LamS X.env.scope l.scope ∧ defaultsOf l.params X.env = ([], [])) (hsz : ls.length ≤ sizeLine) (hs : swapsWith (.List es lpos) (some (.Name y py)) pos.line X.env = pure false)
    (h2 : ∀ (pl pn : List (Addr × Obj)), (∀ p ∈ pl, p ∈ pn) → PSs (X.tr pn X.xe) rest (rdSK c E (KnL c (X.tr pn X.xe) pl ls i) b)) : PSs X (.Assign [.Name y py] (.List es lpos) pos :: rest) (rdS c E (mForget i b)) := by
  subst hes
  refine ⟨fun pz s z H Z I ⟨m, S, g, si, rg, q⟩ => ?_⟩
  refine wpAny_execs_cons (wpAny_Assign_Name (wpAny_List_spliced (lams_eval TB hcode hmT hu ls hl I si fun fs pl s1 H1 I1 n1 at1 => ?_)) hs)
  have lf := at1.length
  refine ⟨by rw [List.length_map, lf]; exact hsz, ?_⟩
  have fresh := I1.hok.fresh (Nat.le_refl s1.heap.objs.size)
  have I2 : Inv X (pz ++ pl) z (upd H1 s1.heap.objs.size (.lst (fs.map V.ref))) { s1 with heap := s1.heap.push { cls := .type "list", data := .seq (fs.map Value.ref).toArray } } :=
    I1.lnew (t' := s1.toks) (its := fs.map Value.ref) (by
      clear at1 lf
      induction fs with
      | nil => exact .nil
      | cons f fs ih => exact .cons rfl ih) (by rw [List.length_map, lf]; exact hsz)
  refine store_ok I2 hN hi (.inl hy) (v := .ref s1.heap.objs.size) rfl (fun s2 I3 => ?_) (.inr hy)
  have n2 : Nxt c m S H1 m S (upd H1 s1.heap.objs.size (.lst (fs.map V.ref))) := Nxt.fresh n1.sim fresh
  have n12 := n1.trans si n2
  have I4 := I3.toTry X.xe
  refine wpAny_mono ((h2 pl (X.pn ++ (pz ++ pl)) (fun p hp => List.mem_append_right _ (List.mem_append_right _ hp))).run [] s2 _ _ Z I4 ⟨m, S, g.set i none, n12.sim, (n12.relG rg).forget i _, ⟨I3.len, s1.heap.objs.size, fs, ?_, upd_same, fun j hj => (n1.sim.ne hj fresh), (at1.go n1.sim n2 fun _ h => h).tr⟩, PoS.go si n12 q⟩) (fun f s3 q3 => ?_) fun _ _ h => h
  · have hlen : i < z.length := by rw [I.len]; exact (List.getElem?_eq_some_iff.mp hi).1
    exact List.getElem?_set_self hlen
  · have back : ∀ {z' : L2.St} {H' : Hp}, Inv (X.tr (X.pn ++ (pz ++ pl)) X.xe) [] z' H' s3 → Inv X pz z' H' s3 := fun J => (J.ofTry I.ok).unpinned
    cases f with
    | next => obtain ⟨z', H', J, w⟩ := q3; exact ⟨z', H', back J, w⟩
    | brk => obtain ⟨z', H', J, w⟩ := q3; exact ⟨z', H', back J, w⟩
    | cont => obtain ⟨z', H', J, w⟩ := q3; exact ⟨z', H', back J, w⟩
    | ret u => obtain ⟨v, z', H', J, r, w⟩ := q3; exact ⟨v, z', H', back J, r, w⟩
/-! ### [.. for f in them if told(f) != ..] -/
theorem RelG.unwipe {c : Ct} {m : Nat → Addr} {n : Nat} {H : Hp} {g : Gm} {y z : L2.St} {vs : List Nat} (rg : RelG c m n H g y) (e : L2.wipe y vs = L2.wipe z vs) : RelG c m n H (wipeD g vs) z := by
  have r := rg.wipe vs
  rw [e] at r
  refine ⟨by rw [r.1, wipe_length], fun j d ej => ?_⟩
  obtain ⟨v, e1, r1⟩ := r.2 j d ej
  exact ⟨v, (wipe_some e1).1, r1⟩
/-- the call of told at the block's own name -/
def tToldF (c : Ct) (X : Cx) (pl : List (Addr × Obj)) (sub : Str → Str → Bool) (qs : List Str) (cl : Tcl) (prs : List (LamE × ME)) (i : Nat) (vs : List Nat) : TE := fun y H Q =>
  ∃ l me f m S g, (l, me) ∈ prs ∧ y[i]? = some (some (.ref f)) ∧ LamAt X H pl l f ∧ Sim c m S H ∧ RelG c m S.n H g y ∧ PoE c noX m S H Q (mTold sub qs cl me (wipeD g vs) S)
theorem pe_toldf {c : Ct} {sub : Str → Str → Bool} {qs : List Str} {cl : Tcl} {x fv : Str} {k i : Nat} {pl : List (Addr × Obj)} {prs : List (LamE × ME)} {vs : List Nat} {scope : Scope} {p p2 p3 : Pos} {pz : List (Addr × Obj)} {z : L2.St} {sB : Shared} {HB : Hp} {LB : Addr} {clB : List (Str × Addr)} {fB : List Addr}
    (T : Told X.prog X.w X.K X.mg X.base c x sub qs cl) (IB : Inv X pz z HB sB) (fpB : ∀ b ∈ fB, FpOk X pz HB b ∧ b < sB.heap.objs.size) (sub2 : ∀ q ∈ pl, q ∈ X.pn) (hg : Gl (X.blk sB HB scope (compEnvC scope clB LB X.env) fB) x) (hi : X.N[i]? = some fv) (hv : Vis (compEnvC scope clB LB X.env).scope fv)
    (hr : Room (k + 2) X.A) (hl : ∀ q ∈ prs, LamX.LamS X.env.scope q.1.scope ∧ (∀ (qn : Str) (cs : List (Str × Addr)) (pm cv ctv : Value), bindArgs (PySem.W.kla_fn "<lambda>" qn q.1.params q.1.body q.1.scope cs pm cv ctv) ⟨[], []⟩ = pure []) ∧
      ∀ (A : Around) (outer : List Env) (s : Shared) (H : Hp) (E : XK) (f c' : Addr), Room k (A.deeper (LamX.lamEnv X q.1.scope s.heap.objs.size f c')) → PE (LamX.lamCx X A outer s H E q.1.scope f c') q.1.body (rdE c E q.2))
    (hdb : (x == ("__debug__" : Str)) = false := by decide) (hd : (fv == ("__debug__" : Str)) = false := by decide) (hcd : (fv == ("__classdict__" : Str)) = false := by decide) :
    PE (X.blk sB HB scope (compEnvC scope clB LB X.env) fB) (.Call (.Name x p) [.Name fv p2] [] p3) (fun y H Q => L2.wipe y vs = L2.wipe z vs ∧ tToldF c X pl sub qs cl prs i vs y H Q) := by
  obtain ⟨a, g, pg, bg, sg, dV, kV, doc, pm, cdv, ct, oc, an, od, osl, Ng, h1, h2, h3, h4, h5, h6, h7, h8, h9, h10, h11⟩ := T.ex X (lamQ X) rfl rfl rfl rfl rfl
  refine ⟨fun pz2 s y H Q I ⟨ez, l, me, f, m, S, gg, hmem, hf, ⟨pm2, c2, ctv2, hpl, hfr, hco⟩, si, rg, q⟩ => ?_⟩
  obtain ⟨hL, hB, hE⟩ := hl _ hmem
  refine wpAny_Call_Name_kw (ld_glob I hg h1 ?_ hdb)
  have args := (pa_cons (X := X.blk sB HB scope (compEnvC scope clB LB X.env) fB) (pe_var (pos := p2) (i := i) hi hv hd hcd) pa_nil (by rfl)).run p3 pz2 s y H (fun vs H' => vs = [.ref f] ∧ H' = H) I ⟨.ref f, hf, rfl, rfl⟩
  refine PySem.W.callWith_K (h₀ := X.base) IB.ok.mod.kin h2 (thn args fun us s1 ⟨ws, H1, I1, rv, ew, eH⟩ => ⟨I1.kIn, ?_⟩) (by rfl) (by rfl)
  subst ew eH
  obtain ⟨u, eu, ru⟩ := rv.one
  obtain rfl : u = Value.ref f := ru
  subst eu
  have IO : Inv X pz z H1 s1 := IB.call' (ch := fB) I1.os I1.base I1.hok I1.bare fun b hb => ⟨(fpB b hb).1.2.2.2.1, (fpB b hb).1.2.1, (fpB b hb).1.2.2.2.2.1, (fpB b hb).1.2.2.2.2.2⟩
  obtain ⟨hof, hnf, _⟩ := IO.pin _ (List.mem_append_left _ (sub2 _ hpl))
  have rc : codeAny (model X.prog X.w) X.A (.call (.ref g) ⟨[.ref f], []⟩) (CR C8.CX0 X.stack X.prog X.w H1 s1 Q C8.E0) s1 := by
    refine LamX.run_ofS (N := Ng) (ps := [a]) (us := [.ref f]) (vs := [.ref f]) h3 h4 h6 hr IO.env0 (h5 s1 [.ref f] IO.kIn rfl) (.cons rfl .nil) rfl fun hr' => ?_
    have tl : TToldM X.K (cl.map fun p => (c.cls p.1, p.2)) (fun E H' Q' => rdE c E me z H' Q') H1 Q := by
      refine ⟨m, S, wipeD gg vs, si, rg.unwipe ez, ?_⟩
      unfold mTold at q
      cases e : me (wipeD gg vs) S with
      | ok d S' =>
        rw [e] at q
        exact q
      | bad => rw [e] at q; exact q.elim
      | exc r S' =>
        rw [e] at q
        intro m' H' n
        dsimp only at q
        split at q
        · rename_i hp
          split at q
          · rename_i w ew
            exact tmany_of (fun p' hp' => T.exm r hp p' hp') ew (q m' H' _ n mk_str)
          · exact q.elim
        · exact q.elim
    obtain ⟨t', ht', hq'⟩ := h9 f c2 s1 H1 Q (fun E H' Q' => rdE c E me z H' Q') (fun W pn xe E q1 q2 tk hW => LamX.pe_act (i := 0) IO hL hof hnf hfr (hB _ _ _ _ _) tk hW hr' (fun A outer s H hr2 => hE A outer s H E f c2 hr2) h7 h8 h10 h11) hco tl
    exact ⟨t', ht'.nox, hq'⟩
  refine wpAny_call (codeAny_mono rc fun r s2 hq => ?_)
  cases r with
  | error e => exact (show False from hq).elim
  | ok fl =>
    cases fl with
    | ret u => exact I1.after hq
    | next => exact False.elim hq
    | brk => exact False.elim hq
    | cont => exact False.elim hq
def lamTurns (sub : Str → Str → Bool) (qs : List Str) (cl : Tcl) (ans : Str) (g : Gm) : List ME → SM Unit
  | [] => fun S => .ok () S
  | me :: r => fun S => match mTold sub qs cl me g S with
    | .ok (.str w) S' => if w = ans then lamTurns sub qs cl ans g r S' else .bad
    | _ => .bad
def mLamComp (sub : Str → Str → Bool) (qs : List Str) (cl : Tcl) (ans : Str) (vs : List Nat) (mes : List ME) : ME := fun g S => SM.bind (lamTurns sub qs cl ans (wipeD g vs) mes) (fun _ S' => .ok (.adr S.n) S') (S.alloc (.lst []))
theorem ne_same {a : Str} {S : Sr} (ha : SeqAt.shaped (.str a) = true) : dNe (.str a) (.str a) S = .ok (D.bl false) S := by
  have e : PyData.eqv (.str a) (.str a) = true := by simp [PyData.eqv]
  show (if SeqAt.shaped (.str a) = true ∧ SeqAt.shaped (.str a) = true then R.ok (D.bl (!PyData.eqv (.str a) (.str a))) S else .bad) = .ok (D.bl false) S
  rw [e, if_pos ⟨ha, ha⟩]
  rfl
theorem PTs.imp {X : Cx} {e : List Expr} {t t' : TT} (h : PTs X e t) (i : ∀ σ H Q, t' σ H Q → t σ H Q) : PTs X e t' := ⟨fun pins s σ H Q I q => h.run pins s σ H Q I (i σ H Q q)⟩
theorem qe_lamcomp {c : Ct} {E : XK} {sub : Str → Str → Bool} {qs : List Str} {cl : Tcl} {x fv bad ans : Str} {k i ib j : Nat} {pl : List (Addr × Obj)} {prs : List (LamE × ME)} {elt : Expr} {scope : Scope} {pf pb p p2 p3 p4 p5 cpos : Pos} (hK : X.K = c.K)
    (T : Told X.prog X.w X.K X.mg X.base c x sub qs cl) (sub2 : ∀ q ∈ pl, q ∈ X.pn) (calm : X.calm = true) (nd : X.N.Nodup) (hib : X.N[ib]? = some bad) (hvb : Vis X.env.scope bad) (hi : X.N[i]? = some fv) (bok : BlkOk X.N X.env.scope scope [(fv, i)])
    (hg : ∀ (s : Shared) (H : Hp) (C : Addr) (cl : List (Str × Addr)) (fp : List Addr), Gl (X.blk s H scope (compEnvC scope cl C X.env) fp) x) (hv : ∀ (C : Addr) (cl : List (Str × Addr)), Vis (compEnvC scope cl C X.env).scope fv)
    (hpg : ∀ (s : Shared) (H : Hp) (C : Addr) (cl : List (Str × Addr)) (fp : List Addr), PG (X.blk s H scope (compEnvC scope cl C X.env) fp) (.Name fv pf) (gName i))
    (hr : Room (k + 2) X.A) (hl : ∀ q ∈ prs, LamX.LamS X.env.scope q.1.scope ∧ (∀ (qn : Str) (cs : List (Str × Addr)) (pm cv ctv : Value), bindArgs (PySem.W.kla_fn "<lambda>" qn q.1.params q.1.body q.1.scope cs pm cv ctv) ⟨[], []⟩ = pure []) ∧
      ∀ (A : Around) (outer : List Env) (s : Shared) (H : Hp) (E : XK) (f c' : Addr), Room k (A.deeper (LamX.lamEnv X q.1.scope s.heap.objs.size f c')) → PE (LamX.lamCx X A outer s H E q.1.scope f c') q.1.body (rdE c E q.2))
    (hdx : (x == ("__debug__" : Str)) = false := by decide) (hdb : (bad == ("__debug__" : Str)) = false := by decide) (hcb : (bad == ("__classdict__" : Str)) = false := by decide) (hdf : (fv == ("__debug__" : Str)) = false := by decide) (hcf : (fv == ("__classdict__" : Str)) = false := by decide)
    (hans : SeqAt.shaped (.str ans) = true := by rfl) (fold : ∀ v, foldedSetIterable (.Name bad pb) X.env v = pure v := by intro _; rfl) :
    PE X (.ListComp elt [⟨.Name fv pf, .Name bad pb, [.Compare (.Call (.Name x p) [.Name fv p2] [] p3) [.NotEq] [.Constant (.str ans) j p4] p5], 0⟩] scope cpos) (rdEK c E (KnL c X pl (prs.map Prod.fst) ib) (mLamComp sub qs cl ans [i] (prs.map Prod.snd))) := by
  refine PE.imp (lc_frame (own := [(fv, i)]) (wi := iList X.K (tVar ib)) (g := gName i) (tt := tTest (tOp (rNeD X.K) (tToldF c X pl sub qs cl prs i [i]) (tC (.str ans)))) (te := fun _ _ _ => False) calm nd (pi_list (pe_var hib hvb hdb hcb)) bok (fun pz z sB HB LB clB fB IB fpB => ⟨hpg sB HB LB clB fB, ?_, ⟨fun _ _ _ _ _ _ h => h.2.elim⟩⟩) fold) fun z H Q h => ?_
  · refine PTs.imp (pts_one (pt_cmpR (op_neD hr.units) (pe_toldf (vs := [i]) T IB fpB sub2 (hg sB HB LB clB fB) hi (hv LB clB) hr hl hdx hdf hcf) pe_str rfl)) fun y H Q h => ?_
    exact ⟨h.1, h.2⟩
  obtain ⟨m, S, g, s, rg, ⟨hlen, LL, fs, hz, hLL, hfar, hat⟩, q⟩ := h
  refine ⟨.ref LL, hz, LL, rfl, ⟨_, .inl (.inl hLL)⟩, fun DD hD => ?_⟩
  have lf := hat.length
  rw [List.length_map] at lf
  have al := Nxt.alloc (x := .lst []) (o := .lst []) s hD ⟨[], rfl, mk_nil⟩
  have q1 := PoE.go s al q
  have gm : ext m S.n DD S.n = DD := ext_same
  have keepLL : ∀ {m' : Nat → Addr} {S' : Sr} {H' : Hp}, Nxt c (ext m S.n DD) (S.alloc (.lst [])) (upd H DD (.lst [])) m' S' H' → SqL X.K H' LL (fs.map V.ref) := fun n => by
    have n' := al.trans s n
    exact .inl (.inl (n'.fr LL _ hfar hLL fun ps => by simp))
  refine ⟨fun a b HH => a + b = prs.length ∧ ∃ m' S', Nxt c (ext m S.n DD) (S.alloc (.lst [])) (upd H DD (.lst [])) m' S' HH ∧ PoE c E m' S' HH Q (SM.bind (lamTurns sub qs cl ans (wipeD g [i]) ((prs.drop a).map Prod.snd)) (fun _ S' => .ok (.adr S.n) S') S'), ⟨prs.length, Nat.zero_add _, _, _, Nxt.refl al.sim, q1⟩, ?_⟩
  rintro a b HH ⟨hab, m2, S2, n2, q2⟩
  have hLL2 := keepLL n2
  by_cases hlt : a < prs.length
  · obtain ⟨pr, epr⟩ : ∃ pr, prs[a]? = some pr := ⟨_, List.getElem?_eq_getElem hlt⟩
    obtain ⟨f, ef, hf⟩ := hat.get (i := a) (l := pr.1) (by rw [List.getElem?_map, epr]; rfl)
    have ef2 : (fs.map V.ref)[a]? = some (.ref f) := by rw [List.getElem?_map, ef]; rfl
    refine .inr ⟨⟨_, _, hLL2, ef2⟩, fun H' => a + 1 + (b - 1) = prs.length ∧ ∃ m' S', Nxt c (ext m S.n DD) (S.alloc (.lst [])) (upd H DD (.lst [])) m' S' H' ∧ PoE c E m' S' H' Q (SM.bind (lamTurns sub qs cl ans (wipeD g [i]) ((prs.drop (a + 1)).map Prod.snd)) (fun _ S' => .ok (.adr S.n) S') S'), fun H' w => ⟨b - 1, by omega, w⟩, fun v H' y => ?_⟩
    obtain ⟨e0, hy⟩ := y
    subst e0
    have ev : v = .ref f := by
      have := hy _ hLL2
      rw [ef2] at this
      exact (Option.some.inj this).symm
    subst ev
    refine ⟨by rw [wipe_set _ (by simp)]; exact wipe_idem z [i] [i] fun _ h => h, ?_⟩
    have ed : (prs.drop a).map Prod.snd = pr.2 :: (prs.drop (a + 1)).map Prod.snd := by
      rw [List.drop_eq_getElem_cons hlt, List.map_cons]
      have : prs[a] = pr := by
        rw [List.getElem?_eq_getElem hlt] at epr
        exact Option.some.inj epr
      rw [this]
    rw [ed] at q2
    have n02 := al.trans s n2
    have rg2 : RelG c m2 S2.n H' (wipeD g [i]) (L2.wipe z [i]) := (n02.relG rg).wipe [i]
    have ei : (L2.wipe z [i]).length = X.N.length := by rw [wipe_length]; exact hlen
    have hil : i < (L2.wipe z [i]).length := by rw [ei]; exact (List.getElem?_eq_some_iff.mp hi).1
    unfold SM.bind lamTurns at q2
    have ew : wipeD ((wipeD g [i]).set i none) [i] = wipeD g [i] := by
      show (((g.set i none).set i none)).set i none = g.set i none
      rw [List.set_set, List.set_set]
    refine ⟨pr.1, pr.2, f, m2, S2, (wipeD g [i]).set i none, List.mem_of_getElem? epr, List.getElem?_set_self hil, hf.go s n02 fun _ h => h, n2.sim, rg2.forget i _, ?_⟩
    rw [ew]
    cases et : mTold sub qs cl pr.2 (wipeD g [i]) S2 with
    | bad => rw [et] at q2; exact q2.elim
    | exc r S3 => rw [et] at q2; exact q2.elim
    | ok d S3 =>
      rw [et] at q2
      cases d with
      | str w =>
        dsimp only at q2
        by_cases hw : w = ans
        · rw [if_pos hw] at q2
          subst hw
          intro m3 H3 v n3 r3
          rw [rd_str r3]
          have z3 : rNeD c.K (.str w) (.str w) H3 fun v4 H4 => ∃ k, v4 = .bl k ∧ (if k = true then False else (a + 1 + (b - 1) = prs.length ∧ ∃ m' S', Nxt c (ext m S.n DD) (S.alloc (.lst [])) (upd H DD (.lst [])) m' S' H4 ∧ PoE c E m' S' H4 Q (SM.bind (lamTurns sub qs cl w (wipeD g [i]) ((prs.drop (a + 1)).map Prod.snd)) (fun _ S' => .ok (.adr S.n) S') S'))) := by
            refine snd_ne noX m3 S3 H3 _ (.str w) (.str w) (.str w) (.str w) n3.sim mk_str mk_str ?_
            rw [ne_same hans]
            intro m4 H4 v4 n4 r4
            refine ⟨false, rd_bl r4, ?_⟩
            rw [if_neg Bool.false_ne_true]
            have n24 := n2.trans al.sim (n3.trans n2.sim n4)
            exact ⟨by omega, m4, S3, n24, PoE.go n2.sim (n3.trans n2.sim n4) q2⟩
          rw [← hK] at z3
          exact z3
        · rw [if_neg hw] at q2
          exact q2.elim
      | _ => exact q2.elim
  · have e : prs.drop a = [] := List.drop_eq_nil_of_le (Nat.le_of_not_lt hlt)
    rw [e] at q2
    refine .inl ⟨⟨_, hLL2, by rw [List.length_map, lf]; omega⟩, ?_⟩
    have hm2 : m2 S.n = DD := by rw [n2.mu S.n (Nat.lt_succ_self _), gm]
    have hlt2 : S.n < S2.n := Nat.lt_of_lt_of_le (Nat.lt_succ_self _) n2.le
    have z := q2 m2 HH _ (Nxt.refl n2.sim) (mk_adr hlt2)
    rw [hm2] at z
    exact z
/-- the lambdas' bodies, one by one -/
inductive HL (X : Cx) (c : Ct) (k : Nat) : List LamE → List ME → Prop
  | nil : HL X c k [] []
  | cons {params : Arguments} {body : Expr} {scope : Scope} {pos : Pos} {me : ME} {ls : List LamE} {mes : List ME} (h1 : LamX.LamS X.env.scope scope) (h2 : ∀ (qn : Str) (cs : List (Str × Addr)) (pm cv ctv : Value), bindArgs (PySem.W.kla_fn "<lambda>" qn params body scope cs pm cv ctv) ⟨[], []⟩ = pure [])
      (h3 : ∀ (A : Around) (outer : List Env) (s : Shared) (H : Hp) (E : XK) (f c' : Addr), Room k (A.deeper (LamX.lamEnv X scope s.heap.objs.size f c')) → PE (LamX.lamCx X A outer s H E scope f c') body (rdE c E me)) (t : HL X c k ls mes) : HL X c k (⟨params, body, scope, pos⟩ :: ls) (me :: mes)
theorem HL.len {c : Ct} {k : Nat} {ls : List LamE} {mes : List ME} (h : HL X c k ls mes) : ls.length = mes.length := by
  induction h with
  | nil => rfl
  | cons _ _ _ _ ih => exact congrArg (· + 1) ih
theorem HL.all {c : Ct} {k : Nat} {ls : List LamE} {mes : List ME} (h : HL X c k ls mes) : ∀ q ∈ ls.zip mes, LamX.LamS X.env.scope q.1.scope ∧ (∀ (qn : Str) (cs : List (Str × Addr)) (pm cv ctv : Value), bindArgs (PySem.W.kla_fn "<lambda>" qn q.1.params q.1.body q.1.scope cs pm cv ctv) ⟨[], []⟩ = pure []) ∧
      ∀ (A : Around) (outer : List Env) (s : Shared) (H : Hp) (E : XK) (f c' : Addr), Room k (A.deeper (LamX.lamEnv X q.1.scope s.heap.objs.size f c')) → PE (LamX.lamCx X A outer s H E q.1.scope f c') q.1.body (rdE c E q.2) := by
  induction h with
  | nil => intro q hq; cases hq
  | cons h1 h2 h3 _ ih =>
    intro q hq
    rcases List.mem_cons.mp hq with e | e
    · subst e
      exact ⟨h1, h2, h3⟩
    · exact ih q e
theorem qe_lamcomp2 {c : Ct} {E : XK} {sub : Str → Str → Bool} {qs : List Str} {cl : Tcl} {x fv bad ans : Str} {k i ib j : Nat} {pl : List (Addr × Obj)} {ls : List LamE} {mes : List ME} {elt : Expr} {scope : Scope} {pf pb p p2 p3 p4 p5 cpos : Pos} (hK : X.K = c.K)
    (T : Told X.prog X.w X.K X.mg X.base c x sub qs cl) (sub2 : ∀ q ∈ pl, q ∈ X.pn) (calm : X.calm = true) (nd : X.N.Nodup) (hib : X.N[ib]? = some bad) (hvb : Vis X.env.scope bad) (hi : X.N[i]? = some fv) (bok : BlkOk X.N X.env.scope scope [(fv, i)])
    (hg : ∀ (s : Shared) (H : Hp) (C : Addr) (cl : List (Str × Addr)) (fp : List Addr), Gl (X.blk s H scope (compEnvC scope cl C X.env) fp) x) (hv : ∀ (C : Addr) (cl : List (Str × Addr)), Vis (compEnvC scope cl C X.env).scope fv)
    (hpg : ∀ (s : Shared) (H : Hp) (C : Addr) (cl : List (Str × Addr)) (fp : List Addr), PG (X.blk s H scope (compEnvC scope cl C X.env) fp) (.Name fv pf) (gName i))
    (hr : Room (k + 2) X.A) (hans : SeqAt.shaped (.str ans) = true) (hl : HL X c k ls mes)
    (hdx : (x == ("__debug__" : Str)) = false := by decide) (hdb : (bad == ("__debug__" : Str)) = false := by decide) (hcb : (bad == ("__classdict__" : Str)) = false := by decide) (hdf : (fv == ("__debug__" : Str)) = false := by decide) (hcf : (fv == ("__classdict__" : Str)) = false := by decide)
    (fold : ∀ v, foldedSetIterable (.Name bad pb) X.env v = pure v := by intro _; rfl) :
    PE X (.ListComp elt [⟨.Name fv pf, .Name bad pb, [.Compare (.Call (.Name x p) [.Name fv p2] [] p3) [.NotEq] [.Constant (.str ans) j p4] p5], 0⟩] scope cpos) (rdEK c E (KnL c X pl ls ib) (mLamComp sub qs cl ans [i] mes)) := by
  have z := qe_lamcomp (E := E) (ans := ans) (elt := elt) (pf := pf) (pb := pb) (p := p) (p2 := p2) (p3 := p3) (p4 := p4) (p5 := p5) (cpos := cpos) (j := j) (prs := ls.zip mes) hK T sub2 calm nd hib hvb hi bok hg hv hpg hr hl.all hdx hdb hcb hdf hcf hans fold
  have e1 : (ls.zip mes).map Prod.fst = ls := List.map_fst_zip (Nat.le_of_eq hl.len)
  have e2 : (ls.zip mes).map Prod.snd = mes := List.map_snd_zip (Nat.le_of_eq hl.len.symm)
  rw [e1, e2] at z
  exact z
/-! ### what is evaluated first may lean on what is known -/
theorem poSeq {c : Ct} {E : XK} {m : Nat → Addr} {S : Sr} {H : Hp} {x : SM D} {k : D → SM D} {Q QQ : VK} (s : Sim c m S H) (h : PoE c E m S H Q (SM.bind x k S))
    (hk : ∀ m1 S1 H1 d v, Nxt c m S H m1 S1 H1 → RelD c m1 S1.n H1 d v → PoE c E m1 S1 H1 Q (k d S1) → QQ v H1) : PoE c E m S H QQ (x S) := by
  unfold SM.bind at h
  cases e : x S with
  | ok d S1 =>
    rw [e] at h
    exact fun m1 H1 v a r => hk m1 S1 H1 d v a r (PoE.go s a h)
  | exc q S1 => rw [e] at h; exact h
  | bad => rw [e] at h; exact h
theorem poSeqS {c : Ct} {E : XK} {m : Nat → Addr} {S : Sr} {H : Hp} {r : R D} {k : D → Sr → RS} {Z : Ends} {QQ : VK} (s : Sim c m S H) (h : PoS c E m S H Z (toRS r k))
    (hk : ∀ m1 S1 H1 d v, Nxt c m S H m1 S1 H1 → RelD c m1 S1.n H1 d v → PoS c E m1 S1 H1 Z (k d S1) → QQ v H1) : PoE c E m S H QQ r := by
  cases r with
  | ok d S1 => exact fun m1 H1 v a r => hk m1 S1 H1 d v a r (PoS.go s a h)
  | exc q S1 => exact h
  | bad => exact h
section
variable {c : Ct} {E : XK} {Kn : (Nat → Addr) → Sr → L2.St → Hp → Prop}
theorem qs_retK {e : Expr} {ma : ME} {pos : Pos} (h : PE X e (rdEK c E Kn ma)) : PS X (.Return (some e) pos) (rdSK c E Kn (mRet ma)) :=
  PS.imp (ps_ret h) fun Z σ H ⟨m, S, g, s, rg, kn, q⟩ => ⟨m, S, g, s, rg, kn, poSeqS s q fun m1 S1 H1 d v a r q1 => q1 m1 H1 v (Nxt.refl a.sim) r⟩
theorem qe_andK {a b : Expr} {rest : List Expr} {ma mb : ME} {pos : Pos} (ha : PE X a (rdEK c E Kn ma)) (hb : PE X (.BoolOp .And (b :: rest) pos) (rdE c E mb)) : PE X (.BoolOp .And (a :: b :: rest) pos) (rdEK c E Kn (mAndV ma mb)) :=
  PE.imp (pe_and ha hb) fun σ H Q ⟨m, S, g, s, rg, kn, q⟩ => ⟨m, S, g, s, rg, kn, poSeq s q fun m1 S1 H1 d v a r q1 => by
    cases d with
    | bl k =>
      refine ⟨k, rd_bl r, ?_⟩
      cases k with
      | true => exact ⟨m1, S1, g, a.sim, a.relG rg, q1⟩
      | false => exact q1 m1 H1 _ (Nxt.refl a.sim) mk_bl
    | _ => exact (show False from q1).elim⟩
theorem qe_cmpK {op : CmpOp} {r : R2} {f : D → D → SM D} {a b : Expr} {ma mb : ME} {pos : Pos} (ho : OpR X (compareOp op) r) (hs : Snd2 c r f) (ha : PE X a (rdEK c E Kn ma)) (hb : PE X b (rdE c E mb)) (hm : behindInMarks op b = false) : PE X (.Compare a [op] [b] pos) (rdEK c E Kn (mB f ma mb)) :=
  PE.imp (pe_cmpR ho ha hb hm) fun σ H Q ⟨m, S, g, s, rg, kn, q⟩ => ⟨m, S, g, s, rg, kn, poSeq s q fun m1 S1 H1 x v a rx q1 => seqE a.sim (a.relG rg) q1 fun m2 S2 H2 y w b ry q2 => hs E m2 S2 H2 Q x y v w b.sim (b.relD rx) ry q2⟩
theorem qt_cmpK {op : CmpOp} {r : R2} {f : D → D → SM D} {a b : Expr} {ma mb : ME} {pos : Pos} (ho : OpR X (compareOp op) r) (hs : Snd2 c r f) (ha : PE X a (rdEK c E Kn ma)) (hb : PE X b (rdE c E mb)) (hm : behindInMarks op b = false) :
    PT X (.Compare a [op] [b] pos) (fun σ H Q => ∃ m S g, Sim c m S H ∧ RelG c m S.n H g σ ∧ Kn m S σ H ∧ PoT c E m S H Q (mTB (mB f ma mb) g S)) :=
  PT.imp (pt_cmpR ho ha hb hm) fun σ H Q ⟨m, S, g, s, rg, kn, q⟩ => by
    refine ⟨m, S, g, s, rg, kn, poSeq (Q := fun v H => ∃ k, v = .bl k ∧ Q k H) (x := ma g) (k := fun x => SM.bind (mb g) fun y => f x y) s ?_ fun m1 S1 H1 x v a rx q1 => seqE a.sim (a.relG rg) q1 fun m2 S2 H2 y w b ry q2 => hs E m2 S2 H2 _ x y v w b.sim (b.relD rx) ry q2⟩
    unfold mTB SM.bind at q
    show PoE c E m S H _ (mB f ma mb g S)
    cases e : mB f ma mb g S with
    | ok d S1 =>
      rw [e] at q
      intro m1 H1 v a r
      cases d <;> first | exact (show False from q).elim | skip
      exact ⟨_, rd_bl r, q m1 H1 a⟩
    | exc p S1 => rw [e] at q; exact q
    | bad => rw [e] at q; exact q.elim
theorem qs_ifK {t : Expr} {a b : List Stmt} {mt : MT} {ma mb : MS} {pos : Pos} (ht : PT X t (fun σ H Q => ∃ m S g, Sim c m S H ∧ RelG c m S.n H g σ ∧ Kn m S σ H ∧ PoT c E m S H Q (mt g S))) (ha : PSs X a (rdS c E ma)) (hb : PSs X b (rdS c E mb)) : PS X (.If t a b pos) (rdSK c E Kn (mIfS mt ma mb)) :=
  PS.imp (ps_if ht ha hb) fun Z σ H ⟨m, S, g, s, rg, kn, q⟩ => by
    refine ⟨m, S, g, s, rg, kn, ?_⟩
    unfold mIfS at q
    cases e : mt g S with
    | ok k S1 =>
      rw [e] at q
      intro m1 H1 a
      have q1 := PoS.go s a q
      cases k with
      | true => exact ⟨m1, S1, g, a.sim, a.relG rg, q1⟩
      | false => exact ⟨m1, S1, g, a.sim, a.relG rg, q1⟩
    | exc p S1 => rw [e] at q; exact q
    | bad => rw [e] at q; exact q.elim
theorem qss_consK {st : Stmt} {rest : List Stmt} {a b : MS} (h1 : PS X st (rdSK c E Kn a)) (h2 : PSs X rest (rdS c E b)) : PSs X (st :: rest) (rdSK c E Kn (mSeq a b)) :=
  PSs.imp (pss_cons h1 h2) fun Z σ H ⟨m, S, g, s, rg, kn, q⟩ => ⟨m, S, g, s, rg, kn, PoS.seq s q⟩
theorem qss_oneK {st : Stmt} {a : MS} (h1 : PS X st (rdSK c E Kn a)) : PSs X [st] (rdSK c E Kn a) := pss_one h1
end
theorem fa_nil {α : Type} {p : α → Prop} : ∀ x ∈ ([] : List α), p x := fun x h => nomatch h
theorem fa_cons {α : Type} {p : α → Prop} {a : α} {l : List α} (h : p a) (t : ∀ x ∈ l, p x) : ∀ x ∈ a :: l, p x := fun x hx => (List.mem_cons.mp hx).elim (fun e => e ▸ h) (t x)
section
variable {P : Program} {w : World} {K : PySem.W.Frag} {mg : Str → Option Value} {base : Heap} {N : List Str} {qual : Str} {scope : Scope} {f : Addr} {cdv : Value} {A : Around} {outer : List Env} {s : Shared} {H : Hp} {E : XK} {pn : List (Addr × Obj)}
abbrev cxTr (P : Program) (w : World) (K : PySem.W.Frag) (mg : Str → Option Value) (base : Heap) (N : List Str) (qual : Str) (scope : Scope) (f : Addr) (cdv : Value) (A : Around) (outer : List Env) (s : Shared) (H : Hp) (E : XK) (pn : List (Addr × Obj)) : Cx := (cxOf (L2.CX P w) P w K mg base N qual scope f cdv A outer s H E).tr pn (cxOf (L2.CX P w) P w K mg base N qual scope f cdv A outer s H E).xe
theorem takesTr : Takes (cxTr P w K mg base N qual scope f cdv A outer s H E pn) (fun cls d _ H => E cls d H) := takes_of rfl rfl rfl rfl
theorem passesTr : Passes (L2.CX P w) (cxTr P w K mg base N qual scope f cdv A outer s H E pn) E := passesT takesTr
theorem pOwnTr : PassesOwn (model P w) (cxTr P w K mg base N qual scope f cdv A outer s H E pn).A (cxTr P w K mg base N qual scope f cdv A outer s H E pn).env (cxTr P w K mg base N qual scope f cdv A outer s H E pn).xe := passes_of rfl
end
end
end Y

set_option Elab.async false
set_option linter.all false
set_option maxRecDepth 100000
set_option maxHeartbeats 1000000
/-! Y15: how the mirror is reckoned out. -/
namespace Y
open PySem PySem.Spec PyProof.Rows L2
theorem sb {a b : Str} : (a == b) = decide (a = b) := by by_cases h : a = b <;> simp [h]
theorem put_f {S : Sr} {i j : Nat} {x : MO} : (S.put i x).f j = if j = i then some x else S.f j := rfl
theorem put_n {S : Sr} {i : Nat} {x : MO} : (S.put i x).n = S.n := rfl
theorem alloc_f {S : Sr} {j : Nat} {x : MO} : (S.alloc x).f j = if j = S.n then some x else S.f j := rfl
theorem alloc_n {S : Sr} {x : MO} : (S.alloc x).n = S.n + 1 := rfl
theorem put_put {S : Sr} {i : Nat} {x y : MO} : (S.put i x).put i y = S.put i y := by
  unfold Sr.put
  congr 1
  funext j
  by_cases h : j = i
  · rw [if_pos h, if_pos h]
  · simp only [if_neg h]
theorem alloc_put {S : Sr} {x y : MO} : (S.alloc x).put S.n y = S.alloc y := by
  unfold Sr.put Sr.alloc
  congr 1
  funext j
  by_cases h : j = S.n
  · rw [if_pos h, if_pos h]
  · simp only [if_neg h]
theorem ixN_nat {n : Nat} {i : Int} (h : 0 ≤ i) (h2 : i < n) : ixN n i = some i.toNat := by
  unfold ixN
  rw [if_pos h, if_pos h2]
theorem atI_nat {l : List D} {i : Int} {d : D} (h : 0 ≤ i) (e : l[i.toNat]? = some d) : atI l i = some d := by
  have hl := (List.getElem?_eq_some_iff.mp e).1
  unfold atI
  rw [ixN_nat h (by omega)]
  exact e
/-! ### equal -/
theorem ev_eqI {a b : Int} {S : Sr} : dEq (.int a) (.int b) S = .ok (.bl (decide (a = b))) S := by
  have e : PyData.eqv (.int a) (.int b) = decide (a = b) := by
    rw [PyData.eqv.eq_def]
    by_cases h : a = b <;> simp [h]
  show (if SeqAt.shaped (.int a) = true ∧ SeqAt.shaped (.int b) = true then R.ok (D.bl (PyData.eqv (.int a) (.int b))) S else .bad) = .ok (D.bl (decide (a = b))) S
  rw [if_pos ⟨rfl, rfl⟩, e]
theorem ev_neI {a b : Int} {S : Sr} : dNe (.int a) (.int b) S = .ok (.bl (!decide (a = b))) S := by
  have e : PyData.eqv (.int a) (.int b) = decide (a = b) := by
    rw [PyData.eqv.eq_def]
    by_cases h : a = b <;> simp [h]
  show (if SeqAt.shaped (.int a) = true ∧ SeqAt.shaped (.int b) = true then R.ok (D.bl (!PyData.eqv (.int a) (.int b))) S else .bad) = .ok (D.bl (!decide (a = b))) S
  rw [if_pos ⟨rfl, rfl⟩, e]
theorem eqv_str {a b : Str} : PyData.eqv (.str a) (.str b) = decide (a = b) := by
  rw [PyData.eqv.eq_def]
  by_cases h : a = b <;> simp [h]
theorem shaped_str {a : Str} (h : PyData.strOk a = true) : SeqAt.shaped (.str a) = true := by
  simp [SeqAt.shaped, PyData.canLay0, PyData.depth, h]
theorem ev_eqS {a b : Str} {S : Sr} (ha : PyData.strOk a = true) (hb : PyData.strOk b = true) : dEq (.str a) (.str b) S = .ok (.bl (decide (a = b))) S := by
  show (if SeqAt.shaped (.str a) = true ∧ SeqAt.shaped (.str b) = true then R.ok (D.bl (PyData.eqv (.str a) (.str b))) S else .bad) = .ok (D.bl (decide (a = b))) S
  rw [if_pos ⟨shaped_str ha, shaped_str hb⟩, eqv_str]
theorem ev_neS {a b : Str} {S : Sr} (ha : PyData.strOk a = true) (hb : PyData.strOk b = true) : dNe (.str a) (.str b) S = .ok (.bl (!decide (a = b))) S := by
  show (if SeqAt.shaped (.str a) = true ∧ SeqAt.shaped (.str b) = true then R.ok (D.bl (!PyData.eqv (.str a) (.str b))) S else .bad) = .ok (D.bl (!decide (a = b))) S
  rw [if_pos ⟨shaped_str ha, shaped_str hb⟩, eqv_str]
/-- what is plain: no dict within, no deeper than so -/
theorem ev_eqP {x y : D} {a b : PyData} {S : Sr} (ha : toPy S 9 x = some a) (hb : toPy S 9 y = some b) (h1 : SeqAt.shaped a = true) (h2 : SeqAt.shaped b = true) : dEq x y S = .ok (.bl (PyData.eqv a b)) S := by
  show (match toPy S 9 x, toPy S 9 y with
    | some a, some b => if SeqAt.shaped a = true ∧ SeqAt.shaped b = true then R.ok (D.bl (if false = true then !PyData.eqv a b else PyData.eqv a b)) S else .bad
    | _, _ => .bad) = _
  rw [ha, hb]
  show (if SeqAt.shaped a = true ∧ SeqAt.shaped b = true then R.ok (D.bl (if false = true then !PyData.eqv a b else PyData.eqv a b)) S else .bad) = _
  rw [if_pos ⟨h1, h2⟩]
  rfl
theorem ev_neP {x y : D} {a b : PyData} {S : Sr} (ha : toPy S 9 x = some a) (hb : toPy S 9 y = some b) (h1 : SeqAt.shaped a = true) (h2 : SeqAt.shaped b = true) : dNe x y S = .ok (.bl (!PyData.eqv a b)) S := by
  show (match toPy S 9 x, toPy S 9 y with
    | some a, some b => if SeqAt.shaped a = true ∧ SeqAt.shaped b = true then R.ok (D.bl (if true = true then !PyData.eqv a b else PyData.eqv a b)) S else .bad
    | _, _ => .bad) = _
  rw [ha, hb]
  show (if SeqAt.shaped a = true ∧ SeqAt.shaped b = true then R.ok (D.bl (if true = true then !PyData.eqv a b else PyData.eqv a b)) S else .bad) = _
  rw [if_pos ⟨h1, h2⟩]
  rfl
/-- it answers, and then so -/
def Tells (r : R D) (P : D → Sr → Prop) : Prop := match r with
  | .ok d S => P d S
  | _ => False
theorem Tells.get {r : R D} {P : D → Sr → Prop} (h : Tells r P) : ∃ d S, r = .ok d S ∧ P d S := by
  cases r with
  | ok d S => exact ⟨d, S, rfl, h⟩
  | exc q S => exact h.elim
  | bad => exact h.elim
theorem at_int {l : List Int} {n : Int} (h : 0 ≤ n) (h2 : n < l.length) : atI (l.map D.int) n = some (.int (l.getD n.toNat 0)) := by
  refine atI_nat h ?_
  have hl : n.toNat < l.length := by omega
  rw [List.getElem?_map, List.getElem?_eq_getElem hl, List.getD_eq_getElem?_getD, List.getElem?_eq_getElem hl]
  rfl
theorem ixN_map {α : Type} {f : Int → α} {l : List Int} {n : Int} (h : 0 ≤ n) (h2 : n < l.length) : ixN (l.map f).length n = some n.toNat := ixN_nat h (by rw [List.length_map]; exact h2)
theorem ixN_len {l : List Int} {n : Int} (h : 0 ≤ n) (h2 : n < l.length) : ixN l.length n = some n.toNat := ixN_nat h h2
theorem set_int {l : List Int} {k : Nat} {v : Int} : (l.map D.int).set k (.int v) = (l.set k v).map D.int := by rw [List.map_set]
/-! ### loops -/
/-- so far a turn: on to the next, or out -/
def tnM (I : Gm → Sr → Prop) (P : RS → Prop) (r : RS) : Prop := match r with
  | .nx g S => I g S
  | .ct g S => I g S
  | .bk g S => P (.nx g S)
  | r => P r
structure Tn (I : Gm → Sr → Prop) (P : RS → Prop) (r : RS) : Prop where
  out : tnM I P r
section
variable {I : Gm → Sr → Prop} {P : RS → Prop} {g : Gm} {S : Sr}
theorem tn_nx : Tn I P (.nx g S) ↔ I g S := ⟨fun h => h.out, fun h => ⟨h⟩⟩
theorem tn_ct : Tn I P (.ct g S) ↔ I g S := ⟨fun h => h.out, fun h => ⟨h⟩⟩
theorem tn_bk : Tn I P (.bk g S) ↔ P (.nx g S) := ⟨fun h => h.out, fun h => ⟨h⟩⟩
theorem tn_rt {d : D} : Tn I P (.rt d S) ↔ P (.rt d S) := ⟨fun h => h.out, fun h => ⟨h⟩⟩
end
theorem for_loop {sr : Src} {step : D → MS} {n : Nat} (I : Nat → Gm → Sr → Prop) (P : RS → Prop)
    (hs : ∀ i g S, i < n → I i g S → ∃ d, sr.nxt i S = some (some d) ∧ Tn (I (i + 1)) P (step d g S))
    (he : ∀ g S, I n g S → sr.nxt n S = some none ∧ P (.nx g S)) : ∀ (r i : Nat) (g : Gm) (S : Sr), i + r = n → I i g S → P (forG sr step r i g S)
  | 0, i, g, S, h, hi => by
    have e : i = n := by omega
    subst e
    obtain ⟨h1, h2⟩ := he g S hi
    unfold forG
    rw [h1]
    exact h2
  | r + 1, i, g, S, h, hi => by
    obtain ⟨d, h1, ⟨h2⟩⟩ := hs i g S (by omega) hi
    unfold forG
    rw [h1]
    dsimp only
    cases e : step d g S with
    | nx g' S' => rw [e] at h2; exact for_loop I P hs he r (i + 1) g' S' (by omega) h2
    | ct g' S' => rw [e] at h2; exact for_loop I P hs he r (i + 1) g' S' (by omega) h2
    | bk g' S' => rw [e] at h2; exact h2
    | rt v S' => rw [e] at h2; exact h2
    | ex q S' => rw [e] at h2; exact h2
    | bad => rw [e] at h2; exact h2
theorem lc_loop {sr : Src} {t : Tg} {mt : MT} {me : ME} {g0 : Gm} {D0 n : Nat} (I : Nat → List D → Sr → Prop)
    (hs : ∀ i acc S, i < n → I i acc S → S.f D0 = some (.lst acc) → ∃ d g, sr.nxt i S = some (some d) ∧ t.put d g0 = some g ∧ (mt g S = .ok false S ∧ I (i + 1) acc S ∨ (mt g S = .ok true S ∧ ∃ y S', me g S = .ok y S' ∧ S'.f D0 = some (.lst acc) ∧ acc.length < sizeLine ∧ I (i + 1) (acc ++ [y]) (S'.put D0 (.lst (acc ++ [y]))))))
    (he : ∀ acc S, I n acc S → sr.nxt n S = some none) : ∀ (r i : Nat) (acc : List D) (S : Sr), i + r = n → I i acc S → S.f D0 = some (.lst acc) → ∃ acc' S', lcG sr t mt me g0 D0 r i S = .ok () S' ∧ I n acc' S' ∧ S'.f D0 = some (.lst acc')
  | 0, i, acc, S, h, hi, hd => by
    have e : i = n := by omega
    subst e
    refine ⟨acc, S, ?_, hi, hd⟩
    unfold lcG
    rw [he acc S hi]
  | r + 1, i, acc, S, h, hi, hd => by
    obtain ⟨d, g, h1, h2, h3⟩ := hs i acc S (by omega) hi hd
    unfold lcG
    rw [h1]
    dsimp only
    rw [h2]
    dsimp only
    rcases h3 with ⟨h3, h4⟩ | ⟨h3, y, S', h4, h5, h6, h7⟩
    · rw [h3]
      exact lc_loop I hs he r (i + 1) acc S (by omega) h4 hd
    · rw [h3]
      dsimp only
      rw [h4]
      dsimp only
      rw [h5]
      dsimp only
      rw [if_pos h6]
      exact lc_loop I hs he r (i + 1) _ _ (by omega) h7 (if_pos rfl)
theorem items_adr {S : Sr} {i : Nat} {l : List D} (h : S.f i = some (.lst l)) : itemsD S (.adr i) = some l := by
  show (match S.f i with
    | some (.lst l) => some l
    | _ => none) = some l
  rw [h]
/-! ### lists of numbers compared -/
theorem mapO_ints {f : D → Option PyData} (h : ∀ i : Int, f (.int i) = some (.int i)) : ∀ l : List Int, mapO f (l.map D.int) = some (l.map PyData.int)
  | [] => rfl
  | i :: l => by
    have ih := mapO_ints h l
    rw [List.map_cons, mapO, h, ih]
    rfl
theorem py_int {S : Sr} {k : Nat} {i : Int} : toPy S k (.int i) = some (.int i) := by cases k <;> rfl
theorem py_str {S : Sr} {k : Nat} {i : Str} : toPy S k (.str i) = some (.str i) := by cases k <;> rfl
theorem py_bl {S : Sr} {k : Nat} {i : Bool} : toPy S k (.bl i) = some (.bool i) := by cases k <;> rfl
theorem py_ints {S : Sr} {k i : Nat} {l : List Int} (h : S.f i = some (.lst (l.map D.int))) : toPy S (k + 1) (.adr i) = some (.list (l.map PyData.int)) := by
  show (match S.f i with
    | some (.lst l) => (mapO (toPy S k) l).map PyData.list
    | _ => none) = _
  rw [h]
  show (mapO (toPy S k) (l.map D.int)).map PyData.list = _
  rw [mapO_ints fun i => py_int]
  rfl
theorem py_tints {S : Sr} {k : Nat} {l : List Int} : toPy S (k + 1) (.tup (l.map D.int)) = some (.tuple (l.map PyData.int)) := by
  show (mapO (toPy S k) (l.map D.int)).map PyData.tuple = _
  rw [mapO_ints fun i => py_int]
  rfl
theorem lay_ints : ∀ l : List Int, PyData.canLayAll0 (l.map PyData.int) = true ∧ PyData.depthAll (l.map PyData.int) = 0
  | [] => ⟨rfl, rfl⟩
  | i :: l => by
    obtain ⟨h1, h2⟩ := lay_ints l
    refine ⟨?_, ?_⟩
    · show (true && PyData.canLayAll0 (l.map PyData.int)) = true
      rw [h1]
      rfl
    · show max 0 (PyData.depthAll (l.map PyData.int)) = 0
      rw [h2]
      rfl
theorem shaped_list {l : List Int} : SeqAt.shaped (.list (l.map PyData.int)) = true := by
  obtain ⟨h1, h2⟩ := lay_ints l
  unfold SeqAt.shaped
  have e1 : PyData.canLay0 (.list (l.map PyData.int)) = true := h1
  have e2 : PyData.depth (.list (l.map PyData.int)) = 1 := by
    show PyData.depthAll (l.map PyData.int) + 1 = 1
    rw [h2]
  rw [e1, e2]
  rfl
theorem ne_empty {S : Sr} {i j : Nat} {l : List Int} (h : S.f i = some (.lst (l.map D.int))) (h2 : S.f j = some (.lst [])) : dNe (.adr i) (.adr j) S = .ok (.bl (!l.isEmpty)) S := by
  rw [ev_neP (py_ints h) (py_ints (l := []) h2) shaped_list shaped_list]
  cases l with
  | nil => rfl
  | cons a l =>
    have e : PyData.eqv (.list ((a :: l).map PyData.int)) (.list (([] : List Int).map PyData.int)) = false := by
      rw [PyData.eqv.eq_def]
      rfl
    rw [e]
    rfl
theorem eq_empty {S : Sr} {i j : Nat} {l : List Int} (h : S.f i = some (.lst (l.map D.int))) (h2 : S.f j = some (.lst [])) : dEq (.adr i) (.adr j) S = .ok (.bl l.isEmpty) S := by
  rw [ev_eqP (py_ints h) (py_ints (l := []) h2) shaped_list shaped_list]
  cases l with
  | nil => rfl
  | cons a l =>
    have e : PyData.eqv (.list ((a :: l).map PyData.int)) (.list (([] : List Int).map PyData.int)) = false := by
      rw [PyData.eqv.eq_def]
      rfl
    rw [e]
    rfl
theorem look_nil {κ : Type} [DecidableEq κ] {k : κ} : lookD [] k = none := rfl
theorem look_cons {κ : Type} [DecidableEq κ] {k k1 : κ} {v : D} {l : List (κ × D)} : lookD ((k1, v) :: l) k = if k1 = k then some v else lookD l k := by
  unfold lookD
  by_cases h : k1 = k
  · rw [if_pos h, List.find?_cons_of_pos (by simp [h])]
    rfl
  · rw [if_neg h, List.find?_cons_of_neg (by simp [h])]
/-! ### step by step -/
structure Does (r : R D) (P : D → Sr → Prop) : Prop where
  out : Tells r P
theorem Does.get {r : R D} {P : D → Sr → Prop} (h : Does r P) : ∃ d S, r = .ok d S ∧ P d S := h.out.get
def rpM (P : D → Sr → Prop) (r : RS) : Prop := match r with
  | .nx _ S => P .non S
  | .rt d S => P d S
  | _ => False
/-- a def's body ends, and then so -/
structure RP (P : D → Sr → Prop) (r : RS) : Prop where
  out : rpM P r
def nxM (b : MS) (Q : RS → Prop) (r : RS) : Prop := match r with
  | .nx g S => Q (b g S)
  | r => Q r
/-- behind a statement -/
structure Nx (b : MS) (Q : RS → Prop) (r : RS) : Prop where
  out : nxM b Q r
section
variable {P : D → Sr → Prop} {Q : RS → Prop} {b c : MS} {g g' : Gm} {S S' : Sr} {d : D}
theorem rp_nx : RP P (.nx g S) ↔ P .non S := ⟨fun h => h.out, fun h => ⟨h⟩⟩
theorem rp_rt : RP P (.rt d S) ↔ P d S := ⟨fun h => h.out, fun h => ⟨h⟩⟩
theorem nx_nx : Nx b Q (.nx g S) ↔ Q (b g S) := ⟨fun h => h.out, fun h => ⟨h⟩⟩
theorem nx_rt : Nx b Q (.rt d S) ↔ Q (.rt d S) := ⟨fun h => h.out, fun h => ⟨h⟩⟩
theorem nx_bk : Nx b Q (.bk g S) ↔ Q (.bk g S) := ⟨fun h => h.out, fun h => ⟨h⟩⟩
theorem fun_post {N : Nat} {b : MS} {l : List D} (h : RP P (b (l.map some ++ List.replicate (N - l.length) none) S)) : Does (mFun N b l S) P := by
  obtain ⟨h⟩ := h
  refine ⟨?_⟩
  unfold mFun
  cases e : b (l.map some ++ List.replicate (N - l.length) none) S with
  | nx g S' => rw [e] at h; exact h
  | rt d S' => rw [e] at h; exact h
  | bk g S' => rw [e] at h; exact h.elim
  | ct g S' => rw [e] at h; exact h.elim
  | ex q S' => rw [e] at h; exact h.elim
  | bad => rw [e] at h; exact h.elim
theorem seq_post {a b : MS} (h : Nx b Q (a g S)) : Q (mSeq a b g S) := by
  obtain ⟨h⟩ := h
  unfold mSeq
  cases e : a g S <;> rw [e] at h <;> exact h
theorem for_post {src : MI} {t : MG} {b : MS} {S1 : Sr} {sr : Src} (h : src g S = .ok sr S1) (hq : Q (forG sr (mStep t b) sr.n 0 g S1)) : Q (mFor src t b g S) := by
  unfold mFor
  rw [h]
  exact hq
theorem seq_rp {a b : MS} (h : Nx b (RP P) (a g S)) : RP P (mSeq a b g S) := seq_post (Q := RP P) h
theorem seq_tn {a b : MS} {I : Gm → Sr → Prop} {P : RS → Prop} (h : Nx b (Tn I P) (a g S)) : Tn I P (mSeq a b g S) := seq_post (Q := Tn I P) h
theorem for_nx {src : MI} {t : MG} {b c : MS} {S1 : Sr} {sr : Src} (h : src g S = .ok sr S1) (hq : Nx c Q (forG sr (mStep t b) sr.n 0 g S1)) : Nx c Q (mFor src t b g S) := for_post (Q := Nx c Q) h hq
theorem nx_of {a b : MS} (h : a g S = .nx g' S') (hq : Q (b g' S')) : Nx b Q (a g S) := by rw [h]; exact ⟨hq⟩
theorem tn_of {a : MS} {I : Gm → Sr → Prop} {P : RS → Prop} (h : a g S = .nx g' S') (hq : I g' S') : Tn I P (a g S) := by rw [h]; exact ⟨hq⟩
end
theorem mLc_ok {src : MI} {t : Tg} {mt : MT} {me : ME} {vs : List Nat} {g : Gm} {S S1 S2 : Sr} {sr : Src} (h : src g S = .ok sr S1) (hl : lcG sr t mt me (wipeD g vs) S1.n sr.n 0 (S1.alloc (.lst [])) = .ok () S2) : mLc src t mt me vs g S = .ok (.adr S1.n) S2 := by
  unfold mLc SM.bind
  rw [h]
  dsimp only
  rw [hl]
end Y

set_option Elab.async false
set_option linter.all false
set_option maxRecDepth 100000
set_option maxHeartbeats 1000000
/-! Y16: methods of texts. -/
namespace Y
open PySem PySem.Spec PyProof.Rows L2
section
variable {X : Cx} {c : Ct} {E : XK} {m : Nat → Addr} {S : Sr} {H : Hp} {g : Gm} {σ : L2.St}
theorem rel_strs {n : Nat} : ∀ ys : List Str, RelDs c m n H (ys.map D.str) (ys.map V.str)
  | [] => mk_nil
  | _ :: ys => mk_cons mk_str (rel_strs ys)
theorem strs_get {l : List D} {ys : List Str} (h : strsOf l = some ys) : l = ys.map D.str := by
  induction l generalizing ys with
  | nil => cases h; rfl
  | cons d l ih =>
    cases d with
    | str z =>
      unfold strsOf at h
      cases e : strsOf l with
      | none => rw [e] at h; cases h
      | some r =>
        rw [e] at h
        cases h
        rw [ih e]
        rfl
    | _ => cases h
theorem strs_of : ∀ ys : List Str, strsOf (ys.map D.str) = some ys
  | [] => rfl
  | y :: ys => by
    show (strsOf (ys.map D.str)).map (fun r => y :: r) = _
    rw [strs_of ys]
    rfl
/-- x.split(sep) -/
def fSplit : FM := fun x l S => match x, l with
  | .str a, [.str b] => if (b.length == 0) = false ∧ a.length + 2 ≤ sizeLine then .ok (.adr S.n) (S.alloc (.lst ((Txt.split a b).map D.str))) else .bad
  | _, _ => .bad
theorem snd_split : SndM c (fun x xs H Q => ∃ a b, x = .str a ∧ xs = [.str b] ∧ (b.length == 0) = false ∧ a.length + 2 ≤ sizeLine ∧ rNewStrs (Txt.split a b) H Q) fSplit := fun E m S H Q x v l vs s rx rs q => by
  unfold fSplit at q
  split at q
  · rename_i a b
    obtain ⟨w, t, rfl, r1, r2⟩ := rd_cons rs
    obtain ⟨⟨h1, h2⟩, q⟩ := po_if q
    rw [rd_str r1, rd_nil r2]
    exact ⟨a, b, rd_str rx, rfl, h1, h2, giveO (x := .lst (List.map D.str _)) s ⟨_, rfl, rel_strs _⟩ q⟩
  · exact q.elim
/-- x.split() -/
def fWords : FM := fun x l S => match x, l with
  | .str a, [] => if a.length + 2 ≤ sizeLine then .ok (.adr S.n) (S.alloc (.lst ((Txt.words a).map D.str))) else .bad
  | _, _ => .bad
theorem snd_words : SndM c (fun x xs H Q => ∃ a, x = .str a ∧ xs = [] ∧ a.length + 2 ≤ sizeLine ∧ rNewStrs (Txt.words a) H Q) fWords := fun E m S H Q x v l vs s rx rs q => by
  unfold fWords at q
  split at q
  · rename_i a
    obtain ⟨h2, q⟩ := po_if q
    rw [rd_nil rs]
    exact ⟨a, rd_str rx, rfl, h2, giveO (x := .lst (List.map D.str _)) s ⟨_, rfl, rel_strs _⟩ q⟩
  · exact q.elim
/-- x.partition(sep) -/
def fPart : FM := fun x l S => match x, l with
  | .str a, [.str b] => if (b.length == 0) = false ∧ a.length ≤ sizeLine then .ok (.tup [.str (Txt.partition a b).1, .str (Txt.partition a b).2.1, .str (Txt.partition a b).2.2]) S else .bad
  | _, _ => .bad
theorem snd_part : SndM c (fun x xs H Q => ∃ a b, x = .str a ∧ xs = [.str b] ∧ (b.length == 0) = false ∧ a.length ≤ sizeLine ∧
    ∀ p, H p = none → Q (.ref p) (upd H p (.tup [.str (Txt.partition a b).1, .str (Txt.partition a b).2.1, .str (Txt.partition a b).2.2]))) fPart := fun E m S H Q x v l vs s rx rs q => by
  unfold fPart at q
  split at q
  · rename_i a b
    obtain ⟨w, t, rfl, r1, r2⟩ := rd_cons rs
    obtain ⟨⟨h1, h2⟩, q⟩ := po_if q
    rw [rd_str r1, rd_nil r2]
    exact ⟨a, b, rd_str rx, rfl, h1, h2, giveT s (mk_cons mk_str (mk_cons mk_str (mk_cons mk_str mk_nil))) q⟩
  · exact q.elim
/-- x.startswith(y), x.endswith(y) -/
def fTxB (f : Str → Str → Bool) : FM := fun x l S => match x, l with
  | .str a, [.str b] => .ok (.bl (f a b)) S
  | _, _ => .bad
theorem snd_txB {f : Str → Str → Bool} : SndM c (fun x xs H Q => ∃ a b, x = .str a ∧ xs = [.str b] ∧ Q (.bl (f a b)) H) (fTxB f) := fun E m S H Q x v l vs s rx rs q => by
  unfold fTxB at q
  split at q
  · rename_i a b
    obtain ⟨w, t, rfl, r1, r2⟩ := rd_cons rs
    rw [rd_str r1, rd_nil r2]
    exact ⟨a, b, rd_str rx, rfl, q m H _ (Nxt.refl s) mk_bl⟩
  · exact q.elim
/-- sep.join(a list or a tuple of texts) -/
def joinL (a : Str) (xs : List D) (S : Sr) : R D := match strsOf xs with
  | some ys => if (ys.map (·.length)).sum + ys.length * a.length ≤ 16777216 then .ok (.str (Txt.join a ys)) S else .bad
  | none => .bad
def fJoin : FM := fun x l S => match x, l with
  | .str a, [.tup xs] => joinL a xs S
  | .str a, [.ktp xs] => joinL a xs S
  | .str a, [.adr i] => (match S.f i with
    | some (.lst xs) => joinL a xs S
    | _ => .bad)
  | _, _ => .bad
theorem snd_joinL {Q : VK} {a : Str} {xs : List D} {vs : List V} {p : Addr} (s : Sim c m S H) (r : RelDs c m S.n H xs vs) (h : SqL c.K H p vs ∨ SqT c.K H p vs) (q : PoE c E m S H Q (joinL a xs S)) :
    ∃ ys : List Str, (SqL c.K H p (ys.map V.str) ∨ SqT c.K H p (ys.map V.str)) ∧ (ys.map (·.length)).sum + ys.length * a.length ≤ 16777216 ∧ Q (.str (Txt.join a ys)) H := by
  unfold joinL at q
  split at q
  · rename_i ys ey
    obtain ⟨hz, q⟩ := po_if q
    have e := strs_rel ey r
    subst e
    exact ⟨ys, h, hz, q m H _ (Nxt.refl s) mk_str⟩
  · exact q.elim
theorem snd_join : SndM c (fun x xs H Q => ∃ a p, ∃ ys : List Str, x = .str a ∧ xs = [.ref p] ∧ (SqL c.K H p (ys.map V.str) ∨ SqT c.K H p (ys.map V.str)) ∧
    (ys.map (·.length)).sum + ys.length * a.length ≤ 16777216 ∧ Q (.str (Txt.join a ys)) H) fJoin := fun E m S H Q x v l vs s rx rs q => by
  unfold fJoin at q
  split at q
  · rename_i a xs
    obtain ⟨w, t, rfl, r1, r2⟩ := rd_cons rs
    obtain ⟨p, ws, rfl, hh, r0⟩ := rd_tup r1
    rw [rd_nil r2]
    obtain ⟨ys, h1, h2, h3⟩ := snd_joinL s r0 (.inr (.inl (.inl hh))) q
    exact ⟨a, p, ys, rd_str rx, rfl, h1, h2, h3⟩
  · rename_i a xs
    obtain ⟨w, t, rfl, r1, r2⟩ := rd_cons rs
    obtain ⟨p, ws, rfl, hh, r0⟩ := rd_ktp r1
    rw [rd_nil r2]
    obtain ⟨ys, h1, h2, h3⟩ := snd_joinL s r0 (.inr hh.sq) q
    exact ⟨a, p, ys, rd_str rx, rfl, h1, h2, h3⟩
  · rename_i a i
    obtain ⟨w, t, rfl, r1, r2⟩ := rd_cons rs
    obtain ⟨rfl, hi⟩ := rd_adr r1
    rw [rd_nil r2]
    split at q
    · rename_i xs el
      obtain ⟨ws, hh, r0⟩ := s.lst el
      obtain ⟨ys, h1, h2, h3⟩ := snd_joinL s r0 (.inl (.inl (.inl hh))) q
      exact ⟨a, _, ys, rd_str rx, rfl, h1, h2, h3⟩
    · exact q.elim
  · exact q.elim
end
end Y

set_option Elab.async false
set_option linter.all false
set_option maxRecDepth 100000
set_option maxHeartbeats 1000000
/-! Y17: f-strings. -/
namespace Y
open PySem PySem.Spec PyProof.Rows L2
section
variable {X : Cx} {c : Ct} {E : XK} {m : Nat → Addr} {S : Sr} {H : Hp} {g : Gm} {σ : L2.St}
def mFmt (a : ME) : ME := fun g => SM.bind (a g) fun d S => match d with
  | .str y => if y.length ≤ sizeLine then .ok (.str y) S else .bad
  | .int i => if i.natAbs.log2 < 1920 then .ok (.str (toString i)) S else .bad
  | _ => .bad
theorem qe_fmt {e : Expr} {me : ME} {pos : Pos} (he : PE X e (rdE c E me)) : PE X (.FormattedValue e (-1) none pos) (rdE c E (mFmt me)) :=
  PE.imp (pe_fmt he) fun σ H Q ⟨m, S, g, s, rg, q⟩ => seqE s rg q fun m1 S1 H1 d v a r q1 => by
    cases d <;> first | exact (show False from q1).elim | skip
    · obtain ⟨h, q2⟩ := po_if q1
      exact .inr ⟨_, rd_int r, h, q2 m1 H1 _ (Nxt.refl a.sim) mk_str⟩
    · obtain ⟨h, q2⟩ := po_if q1
      exact .inl ⟨_, rd_str r, h, q2 m1 H1 _ (Nxt.refl a.sim) mk_str⟩
def mJs : List ME → Str → ME
  | [], acc => fun _ S => .ok (.str acc) S
  | a :: r, acc => fun g => SM.bind (a g) fun d S => match d with
    | .str y => if (acc ++ y).length ≤ sizeLine then mJs r (acc ++ y) g S else .bad
    | _ => .bad
theorem tJs_of {Q : VK} : ∀ {ms : List ME} {acc : Str} {m : Nat → Addr} {S : Sr} {H : Hp}, Sim c m S H → RelG c m S.n H g σ → PoE c E m S H Q (mJs ms acc g S) → tJs (ms.map (rdE c E)) acc σ H fun out H1 => Q (.str out) H1
  | [], acc, m, S, H, s, rg, q => q m H _ (Nxt.refl s) mk_str
  | a :: r, acc, m, S, H, s, rg, q => by
    refine seqE s rg q fun m1 S1 H1 d v a1 rd q1 => ?_
    cases d <;> first | exact (show False from q1).elim | skip
    obtain ⟨h, q2⟩ := po_if q1
    exact ⟨_, rd_str rd, h, tJs_of a1.sim (a1.relG rg) q2⟩
theorem qe_joined {v1 v2 : Expr} {rest : List Expr} {ms : List ME} {pos : Pos} (h : PJ X (v1 :: v2 :: rest) (ms.map (rdE c E))) : PE X (.JoinedStr (v1 :: v2 :: rest) pos) (rdE c E (mJs ms Str.empty)) :=
  PE.imp (pe_joined h) fun σ H Q ⟨m, S, g, s, rg, q⟩ => tJs_of s rg q
theorem qe_joined1 {e : Expr} {me : ME} {pos : Pos} (he : PE X e (rdE c E me)) : PE X (.JoinedStr [e] pos) (rdE c E me) := pe_joined1 he
end
end Y

set_option Elab.async false
set_option linter.all false
set_option maxRecDepth 100000
set_option maxHeartbeats 2000000
/-! Y18: any(.. for sign in text), the test reading the module's names too. -/
namespace Y
open PySem PySem.Spec PyProof.Rows L2
/-- the test of one sign, where the module's names can be read -/
def EltG (X : Cx) (scope : Scope) (x : Str) (elt : Expr) (pb : Nat → Bool) : Prop :=
  ∀ (e : Env) (A : Around) (E : Value → Shared → Prop) (n : Nat) (t : Tok) (s : Shared) (ms : Str → Option Value), e.scope = scope → e.globals = X.env.globals → s.heap.Ns e.globals X.mg → s.heap.Ns e.locals ms → ms x = some (.str ⟨#[n]⟩ t) →
    wpAny (model X.prog X.w) A (eval elt e) (fun y s' => y = .bool (pb n) ∧ Keeps s s') E s
section
variable {X : Cx} {pins : List (Addr × Obj)} {σ : L2.St} {H : Hp} {s : Shared}
/-- what the walk asks of the generator's store, ahead of the walked text's signs -/
theorem quiet_signs {scope : Scope} {x : Str} {elt : Expr} {pb : Nat → Bool} {a : Str} {h3 href : Heap} {code : Value} {bi : Addr} {cl : List (Str × Addr)} {wr : List Addr}
    (hel : EltG X scope x elt pb) (hg : h3.Ns X.env.globals X.mg) (hw : X.env.globals ∉ wr)
    (hr : ∀ b o, h3.get? b = some o → href.get? b = some o) :
    QuietGen X.prog X.w (genEnv scope cl h3.objs.size code bi X.env) x [] elt (List.range h3.objs.size) wr (SignAt a) (fun _ => true) (fun i y => ∃ n, a.cps[i]? = some n ∧ y = .bool (pb n)) href := by
  have hlt : X.env.globals < h3.objs.size := hg.lt
  constructor
  · intro A E i v s2 ms _ _ _ _ _
    simp only [List.forIn_nil]
    exact wpAny_pure ⟨rfl, GxR.keeps_refl _⟩
  · intro A E i v s2 ms _ hv _ hn hm hk
    obtain ⟨n, t, hn2, rfl⟩ := hv
    have gs : s2.heap.Ns X.env.globals X.mg := ns_of hg fun o ho => hk X.env.globals (List.mem_range.mpr hlt) hw o (hr _ o ho)
    exact wpAny_mono (hel _ A E n t s2 ms rfl rfl gs hn hm) (fun y s3 r => ⟨⟨n, hn2, r.1⟩, r.2⟩) fun _ _ q => q
end
section
open GxR
variable {X : Cx} {pins : List (Addr × Obj)} {σ : L2.St} {H H1 : Hp} {s s1 : Shared}
/-- the generator g over the signs of a stands ready in s5 -/
def ReadyG (X : Cx) (pins : List (Addr × Obj)) (σ : L2.St) (T : List (Addr × Str)) (H1 : Hp) (a : Str) (pb : Nat → Bool) (g : Addr) (s5 : Shared) : Prop :=
  ∃ (fp wr : List Addr) (G : Array GenState → Array GenState → Prop) (F : Nat → Value → Prop) (St : Nat → Shared → Prop),
    WalksS X.prog X.w X.A.in1 g fp wr G a.cps.size F St ∧ St 0 s5 ∧ TruthOf X.prog X.w X.A.in1 F (trF pb a.cps.toList) ∧ ∀ s', Moved wr G s5 s' → ∃ H2, LamX.ExtN H1 H2 ∧ LamX.Tabs T H2 ∧ Inv X pins σ H2 s'
/-- a text's signs, tested by a generator that reads the module's names -/
theorem gen_signs {T : List (Addr × Str)} {c P : Addr} {elt iter : Expr} {x : Str} {px gpos : Pos} {scope : Scope} {pb : Nat → Bool} {te : TE} {k : Nat} {Q : Value → Shared → Prop} {R : Str → Hp → Prop}
    (hr : Room k X.A) (TB : LamX.TabB X.base X.mg c P) (hcode : X.env.code = .ref c) (hmT : (P, X.env.qual ++ "<genexpr>") ∈ T) (hu : ∀ p ∈ T, p.1 = P → p.2 = X.env.qual ++ "<genexpr>") (S : GenS X.env scope x) (hi : PE X iter te) (hel : EltG X scope x elt pb)
    (hs : ∀ v, genFold iter X.env v = pure v) (I : Inv X pins σ H s)
    (h : te σ H fun v H1 => ∃ a : Str, v = .str a ∧ LamX.Tabs T H1 ∧ R a H1)
    (hQ : ∀ a H1 g s5, R a H1 → ReadyG X pins σ T H1 a pb g s5 → Q (.ref g) s5) :
    wpAny (model X.prog X.w) X.A (eval (.GeneratorExp elt [⟨.Name x px, iter, [], 0⟩] scope gpos) X.env) Q X.xe s := by
  have room : X.A.depth < recursionLimit := by
    have := hr.dp
    omega
  refine wpAny_GeneratorExp_walksQ (cl := cloFrom X.env.cells scope.names []) hr.hd S.co (closure_ok S.free) S.cell S.dot S.loc S.kind room ?_ hs
  refine thn (hi.run pins s σ H _ I h) ?_
  rintro xv s1 ⟨v, H1, I1, r1, a, rfl, tabs1, ra⟩
  obtain ⟨t, rfl⟩ : ∃ t, xv = .str a t := r1
  obtain ⟨ps, hP, tr, among⟩ := tabs1 _ hmT
  refine wpAny_pyIter_str ?_
  intro o St W st
  have gP := I1.hok P _ hP
  have ltP : P < s1.heap.objs.size := Heap.lt_size gP
  have gP' : (s1.heap.push o).get? P = some { cls := .none, data := .fields ps } := Heap.get?_push_of_some _ gP
  have cd : PySem.W.CodeHd (s1.heap.push o) c P := TB.code.keeps fun b u e => Heap.get?_push_of_some _ (I1.bk b u e)
  have lim := I1.nolimit.push o
  refine ⟨lim, ?_⟩
  have sz2 : (s1.heap.push o).objs.size = s1.heap.objs.size + 1 := Heap.size_push ..
  have ltS : cStatics < s1.heap.objs.size := let ⟨_, q, _⟩ := I1.nolimit; q.lt
  have neP : cStatics ≠ P := by
    intro e
    obtain ⟨_, ⟨o', es, ep, ho, hd, _⟩, _⟩ := I1.nolimit
    rw [e, gP] at ho
    cases ho
    cases hd
  have key : ∀ (code : Value) (h3 : Heap) (tk : Nat), Heap.ExtBut P (s1.heap.push o) h3 → (s1.heap.push o).objs.size ≤ h3.objs.size →
      (∀ s' : Shared, s'.os = s1.os → AllBare s'.gens → (∀ b u, b ≠ P → s1.heap.get? b = some u → s'.heap.get? b = some u) → (∀ b u, s1.heap.objs.size < b ∨ b = P → b < h3.objs.size → h3.get? b = some u → s'.heap.get? b = some u) → ∃ H2, LamX.ExtN H1 H2 ∧ LamX.Tabs T H2 ∧ Inv X pins σ H2 s') →
      wpAny (model X.prog X.w) X.A (builtinsFor X.env.globals X.env.builtins) (fun bi s4 =>
        ∃ I fp wr n0 Pi St0 pz F, Value.ref s1.heap.objs.size = .ref I ∧ (∀ A' : Around, A'.handled = none → Walks X.prog X.w A' I fp wr n0 Pi St0) ∧ St0 0 s4.heap ∧ (∀ b ∈ fp, b < s4.heap.objs.size) ∧ s4.heap.NoLimit ∧ cStatics ∉ wr ∧
          (∀ href : Heap, (∀ b o, s4.heap.get? b = some o → href.get? b = some o) →
            QuietGen X.prog X.w (genEnv scope (cloFrom X.env.cells scope.names []) s4.heap.objs.size code bi X.env) x [] elt (List.range s4.heap.objs.size) wr Pi pz F href) ∧
          (∀ a h5 tk gs, gs.bare = true → s4.heap.objs.size < a → h5.objs.size = a + 1 → (∀ b o, s4.heap.get? b = some o → h5.get? b = some o) →
            WalksS X.prog X.w X.A.in4 a (a :: s4.heap.objs.size :: List.range s4.heap.objs.size) (s4.heap.objs.size :: wr) (GenOnlyQ s4.gens.size) (passing pz n0 0).length
              (fun j y => ∃ i, (passing pz n0 0)[j]? = some i ∧ F i y) (GenAt X.prog X.w X.A.in4 a s4.gens.size s4.heap.objs.size (List.range s4.heap.objs.size) wr pz n0 F) →
            GenAt X.prog X.w X.A.in4 a s4.gens.size s4.heap.objs.size (List.range s4.heap.objs.size) wr pz n0 F 0 { s4 with gens := s4.gens.push gs, toks := tk, heap := h5 } →
            Q (.ref a) { s4 with gens := s4.gens.push gs, toks := tk, heap := h5 })) X.xe { s1 with heap := h3, toks := tk } := by
    intro code h3 tk x3 z3 fin
    have ng : h3.Ns X.env.globals X.mg := by
      rw [I1.ok.glob]
      exact ((I1.mod.glob.keeps I1.bk).push o).extBut x3 TB.gP
    have kp3 : ∀ b u, b ≠ P → s1.heap.get? b = some u → h3.get? b = some u := fun b u nb e => x3 b u nb (Heap.get?_push_of_some _ e)
    have l13 : s1.heap.objs.size < h3.objs.size := by omega
    obtain ⟨bm, ob, e1, e2, e3, e4, e5, e6, e7, e8⟩ := TB.bm
    refine wpAny_builtinsFor (m := X.mg) ng e1 e2 (kp3 _ _ e4 (I1.bk _ _ e5)) e6 e7 e8 ?_
    have one : ∀ {b y : Nat}, b ∈ [y] → b = y := fun hb => List.mem_singleton.mp hb
    have gl1 : X.env.globals < s1.heap.objs.size := by
      rw [I1.ok.glob]
      exact (I1.mod.glob.keeps I1.bk).lt
    refine ⟨s1.heap.objs.size, [s1.heap.objs.size], [s1.heap.objs.size], a.cps.size, SignAt a, St, (fun _ => true), (fun i y => ∃ n, a.cps[i]? = some n ∧ y = .bool (pb n)), rfl, W, ?_, ?_, lim.extBut x3 neP, ?_, ?_, ?_⟩
    · exact (W X.A hr.hd).frame _ _ _ st fun b hb u e => x3 b u (by rw [one hb]; exact (Nat.ne_of_lt ltP).symm) e
    · intro b hb
      rw [one hb]
      exact l13
    · intro hb
      exact Nat.ne_of_lt ltS (one hb)
    · intro href hh
      exact quiet_signs hel ng (fun hb => Nat.ne_of_lt gl1 (one hb)) hh
    · intro g h5 tk5 gs bare5 gt5 sz5 keep5 W5 at5
      have all : ∀ n : Nat, passing (fun _ => true) n 0 = List.range n := GxR.passing_true
      rw [all, List.length_range] at W5
      refine hQ a H1 g _ ra ⟨_, _, _, _, _, W5.in4_1, at5, ?_, ?_⟩
      · rintro j y sj Qj Ej ⟨i, hij, n, hn, rfl⟩ hq
        obtain ⟨_, rfl⟩ : j < a.cps.size ∧ j = i := by
          obtain ⟨h1, h2⟩ := List.getElem?_eq_some_iff.mp hij
          rw [List.getElem_range] at h2
          exact ⟨by simpa using h1, h2⟩
        have hq : Qj (trF pb a.cps.toList j) sj := hq
        rw [trF_some (show a.cps.toList[j]? = some n from by rw [Array.getElem?_toList]; exact hn)] at hq
        exact wpAny_truthy_bool hq
      · intro s' mv
        have away : ∀ b, b < h3.objs.size → b ≠ s1.heap.objs.size → b ∉ h3.objs.size :: [s1.heap.objs.size] := by
          intro b lt ne hb
          rcases List.mem_cons.mp hb with e | e
          · have lt2 : (b : Nat) < h3.objs.size := lt
            rw [e] at lt2
            exact Nat.lt_irrefl _ lt2
          · exact ne (one e)
        refine fin s' mv.os (AllBare.movedS (I1.bare.push bare5) mv) (fun b u nb e => ?_) fun b u hb lt e => ?_
        · have lt := Heap.lt_size e
          exact mv.heap b u (away b (Nat.lt_trans lt l13) (Nat.ne_of_lt lt)) (keep5 b u (kp3 b u nb e))
        · refine mv.heap b u (away b lt ?_) (keep5 b u e)
          rcases hb with hb | hb
          · exact Nat.ne_of_gt hb
          · rw [hb]
            exact Nat.ne_of_lt ltP
  have done : ∀ {ss : Shared} {HH : Hp} {h' : Heap} {tk' : Nat}, Inv X pins σ HH { s1 with heap := h', toks := tk' } → ss.heap = h' → ss.os = s1.os → AllBare ss.gens → Inv X pins σ HH ss := by
    intro ss HH h' tk' J eh eo eb
    subst eh
    exact J.call' (ch := []) eo (Un.kept fun _ _ e => e) J.hok eb fun b hb => nomatch hb
  cases hf : codeAmong gpos ps.toList with
  | none =>
    refine wpAny_genexprCodeX (qualname := X.env.qual ++ "<genexpr>") hcode (cd.code gP' tr) (cd.tab gP') hf fun c' h' tk hx hge hlt hco' hrec htab' _ => ?_
    obtain ⟨c2, oc, vs, t2, e2, hoc, hd2, hv2⟩ := hrec
    cases e2
    obtain ⟨_, _, _, _, _, _, _, _, _, _, _, _, _, _, _, _, _, _, _, trs, _⟩ := hco'
    refine key _ h' tk hx (Nat.le_trans hge (Nat.le_of_lt hlt)) fun s' eo eb k1 k2 => ?_
    have hPs := k2 P _ (.inr rfl) (Heap.lt_size htab'.2) htab'.2
    have hge : (s1.heap.push o).objs.size ≤ c' := hge
    have gtc : s1.heap.objs.size < c' := by omega
    have hcs := k2 c' _ (.inl gtc) hlt hoc
    have nC : H1 c' = none := I1.hok.fresh (Nat.le_of_lt gtc)
    have J := LamX.inv_table (q := X.env.qual ++ "<genexpr>") (t' := s'.toks) (h' := s'.heap) (more := #[rawInt gpos.line, rawInt gpos.col, .ref c']) I1 hP k1 hPs (Nat.le_of_lt gtc) ⟨oc, vs, t2, hcs, hd2, hv2⟩
    have ext : LamX.ExtN H1 (upd (upd H1 P (.tbl (ps ++ #[rawInt gpos.line, rawInt gpos.col, .ref c']))) c' (LamX.CodeO c' (X.env.qual ++ "<genexpr>"))) := by
      intro b u e n
      rw [upd_ne (ne_of_none e nC), upd_ne ?_]
      · exact e
      · intro eb
        rw [eb, hP] at e
        exact n ps (Option.some.inj e).symm
    have snoc : (ps ++ #[rawInt gpos.line, rawInt gpos.col, Value.ref c']).toList = ps.toList ++ [rawInt gpos.line, rawInt gpos.col, .ref c'] := by simp
    refine ⟨_, ext, fun p hp => ?_, done J rfl eo eb⟩
    by_cases hb : p.1 = P
    · rw [hu p hp hb, hb]
      refine ⟨_, by rw [upd_ne (ne_of_none hP nC), upd_same], trs, fun pos' cv hcv => ?_⟩
      rw [snoc] at hcv
      rcases LamX.among_app _ tr hcv with k | k
      · obtain ⟨c0, f1, f2⟩ := among pos' cv k
        exact ⟨c0, f1, ext _ _ f2 LamX.codeO_ne⟩
      · exact ⟨c', k, upd_same⟩
    · obtain ⟨qs, a1, a2, a3⟩ := tabs1 p hp
      refine ⟨qs, by rw [upd_ne (ne_of_none a1 nC), upd_ne hb]; exact a1, a2, fun pos' cv hcv => ?_⟩
      obtain ⟨c0, f1, f2⟩ := a3 pos' cv hcv
      exact ⟨c0, f1, ext _ _ f2 LamX.codeO_ne⟩
  | some cv =>
    refine wpAny_genexprCode_hit hcode (cd.code gP' tr) hf ?_
    refine key cv (s1.heap.push o) s1.toks (Heap.ExtBut.refl _ _) (Nat.le_refl _) fun s' eo eb k1 k2 => ?_
    have hPs := k2 P _ (.inr rfl) (Heap.lt_size gP') gP'
    have kall : ∀ b u, s1.heap.get? b = some u → s'.heap.get? b = some u := by
      intro b u e
      by_cases hb : b = P
      · subst hb
        rw [gP] at e
        cases e
        exact hPs
      · exact k1 b u hb e
    exact ⟨H1, LamX.ExtN.refl H1, tabs1, done (tk' := s1.toks) (I1.kept kall) rfl eo eb⟩
end
section
variable {X : Cx} {c : Ct} {E : XK}
/-- any(.. for sign in text) -/
def mAnyS (pb : Nat → Bool) (a : ME) : ME := fun g => SM.bind (a g) fun d S => match d with
  | .str x => .ok (.bl (x.cps.toList.any pb)) S
  | _ => .bad
theorem qe_anyS {cc P : Addr} {elt iter : Expr} {x : Str} {px p pos gpos : Pos} {scope : Scope} {pb : Nat → Bool} {me : ME} {k : Nat}
    (hr : Room k X.A) (hg : Gl X "any") (hm : X.mg "any" = none) (TB : LamX.TabB X.base X.mg cc P) (hcode : X.env.code = .ref cc) (hmT : (P, X.env.qual ++ "<genexpr>") ∈ c.T) (hu : ∀ p ∈ c.T, p.1 = P → p.2 = X.env.qual ++ "<genexpr>")
    (S : GxR.GenS X.env scope x) (hi : PE X iter (rdE c E me)) (hel : EltG X scope x elt pb) (hs : ∀ v, genFold iter X.env v = pure v := by intro _; rfl)
    (he : starEach [.GeneratorExp elt [⟨.Name x px, iter, [], 0⟩] scope gpos] X.env = (false, eval (.GeneratorExp elt [⟨.Name x px, iter, [], 0⟩] scope gpos) X.env) :: starEach [] X.env := by rfl) :
    PE X (.Call (.Name "any" p) [.GeneratorExp elt [⟨.Name x px, iter, [], 0⟩] scope gpos] [] pos) (rdE c E (mAnyS pb me)) := by
  refine ⟨fun pins s σ H Q I h => ?_⟩
  obtain ⟨m, S0, g, si, rg, q⟩ := h
  have q' : rdE c E me σ H fun v H1 => ∃ a : Str, v = .str a ∧ LamX.Tabs c.T H1 ∧ ∃ m1 S1, Sim c m1 S1 H1 ∧ PoE c E m1 S1 H1 Q (.ok (.bl (a.cps.toList.any pb)) S1) := by
    refine seqE si rg q fun m1 S1 H1 d v n r q1 => ?_
    cases d <;> first | exact (show False from q1).elim | skip
    exact ⟨_, rd_str r, n.sim.tabs, m1, S1, n.sim, q1⟩
  refine wpAny_Call_Name_kw (ld_blt I hg hm boot_any ?_)
  refine PyProof.Rows.callWith_builtin1 ?_ he (by rfl)
  rw [he]
  show wpAny _ _ (spliced ((false, eval (.GeneratorExp elt [⟨.Name x px, iter, [], 0⟩] scope gpos) X.env) :: backTo pos (starEach [] X.env))) _ _ s
  refine Calls.spliced_cons (gen_signs (T := c.T) (R := fun a H1 => ∃ m1 S1, Sim c m1 S1 H1 ∧ PoE c E m1 S1 H1 Q (.ok (.bl (a.cps.toList.any pb)) S1)) hr TB hcode hmT hu S hi hel hs I q' fun a H1 gA s5 hR hG => ?_)
  obtain ⟨fp, wr, G, F, St, W, st0, tru, after⟩ := hG
  refine Calls.spliced_nil ?_
  refine call_any_walkS (W.self 0 _ _ _ st0 ⟨gA, fp, wr, G, _, F, St, _, rfl, W, st0, tru, fun s' mv => ?_⟩)
  obtain ⟨H2, eN, T2, J⟩ := after s' mv
  obtain ⟨m1, S1, si1, po⟩ := hR
  refine ⟨.bl _, H2, J, rfl, ?_⟩
  rw [GxR.any_signs a pb]
  exact po m1 H2 _ (Nxt.extN si1 eN T2) mk_bl
end
/-! ### the tests -/
/-- an expression of module's names and texts that is a text -/
def TxtG (X : Cx) (scope : Scope) (e : Expr) (a : Str) : Prop := ∀ (env : Env) (A : Around) (E : Value → Shared → Prop) (s : Shared) (Q : Value → Shared → Prop), env.scope = scope → env.globals = X.env.globals → s.heap.Ns env.globals X.mg →
  (∀ t k, Q (.str a t) { s with toks := k }) → wpAny (model X.prog X.w) A (eval e env) Q E s
section
variable {X : Cx} {scope : Scope}
theorem tg_k {a : Str} {j : Nat} {p : Pos} : TxtG X scope (.Constant (.str a) j p) a := fun env A E s Q _ _ _ h => Calls.Constant_str (h _ _)
theorem tg_g {x a : Str} {p : Pos} (hk : scope.kind = .function) (hx : scope.names.lookup x = some .globalImplicit) {c : Ct} (hm : GK X.mg c x (.str a)) (hd : (x == ("__debug__" : Str)) = false := by decide) : TxtG X scope (.Name x p) a := by
  intro env A E s Q es eg ns h
  obtain ⟨v, u, e1, r, rd⟩ := hm
  have ev := rd_str (rd (fun _ => 0) 0 (fun _ => none))
  subst ev
  obtain ⟨t, rfl⟩ : ∃ t, u = .str a t := r
  refine Calls.Name_function_global (by rw [es]; exact hk) (by unfold Env.kindOf; rw [es]; exact hx) (Calls.loadGlobal_global ns e1 ?_) hd
  exact h t s.toks
theorem tg_add {e1 e2 : Expr} {a b : Str} {p : Pos} (h1 : TxtG X scope e1 a) (h2 : TxtG X scope e2 b) (hz : a.length + b.length ≤ sizeLine := by decide) : TxtG X scope (.BinOp e1 .Add e2 p) (a ++ b) := by
  intro env A E s Q es eg ns h
  refine wpAny_BinOp (h1 env A E s _ es eg ns fun t k => h2 env A E _ _ es eg ns fun t2 k2 => ?_)
  exact PyProof.Rows.add_str (fun t' tk => h t' tk) hz
/-- sign not in text -/
theorem eg_notIn {x a : Str} {e : Expr} {p p2 : Pos} (hk : scope.kind = .function) (hl : scope.names.lookup x = some .local) (he : TxtG X scope e a) (hm : behindInMarks .NotIn e = false := by rfl) (hd : (x == ("__debug__" : Str)) = false := by decide) :
    EltG X scope x (.Compare (.Name x p) [.NotIn] [e] p2) fun n => (Builtin.Str.occurrences a ⟨#[n]⟩ 0 a.length 1).isEmpty := by
  intro env A E n t s ms es eg ns hn hx
  refine wpAny_Compare1 (hm := hm) ?_
  refine wpAny_Name (wpAny_loadName_local (by rw [es]; exact hk) (show env.scope.names.lookup x = some .local by rw [es]; exact hl) hn hx ?_) hd
  refine he env A E s _ es eg ns fun t2 k2 => ?_
  refine PyProof.Rows.notIn_str ⟨?_, GxR.keeps_tok _ _⟩
  rw [Bool.not_not]
end
end Y

set_option Elab.async false
set_option linter.all false
set_option maxRecDepth 100000
set_option maxHeartbeats 2000000
/-! Y19: enumerate of a tuple. -/
namespace Y
open PySem PySem.Spec PyProof.Rows L2
/-- what enumerate makes of anything that begins an iterator -/
theorem enum_new1 {v : Value} {o : Obj} {HH : Heap → Prop} (B : Begins v o HH) :
    Meets (Builtin.«enumerate.__new__» ⟨[.type "enumerate", v], []⟩) (fun _ R s => HH s.heap ∧
      R (.ok (.ret (.ref (s.heap.push o).objs.size))) { s with heap := (s.heap.push o).push { cls := .type "enumerate", data := .fields #[.none, .bool false, .ref s.heap.objs.size, rawInt 0, .none, .none] } }) :=
  .of_wp fun prog w A R s both => by
    obtain ⟨hp, gn, dr, tk, os⟩ := s
    obtain ⟨there, h⟩ := both
    have hsub := sub_enumerate
    have step : ∀ {A' : Around} {E' : Value → Shared → Prop} {Q' : Value → Shared → Prop}, Q' (.ref hp.objs.size) ⟨hp.push o, gn, dr, tk, os⟩ → wpAny (model prog w) A' (pyIter v) Q' E' ⟨hp, gn, dr, tk, os⟩ :=
      fun q => B.iter prog w _ _ ⟨hp, gn, dr, tk, os⟩ _ there q
    wp_walk using step
    refine wpAny_stack_any fun st => wpAny_pure ?_
    split
    · rename_i kk _ _ _ _ _
      cases (kk == Value.type "enumerate")
      · wp_walk using step
        exact ⟨_, rfl, h⟩
      · wp_walk using step
        exact ⟨_, rfl, h⟩
    · wp_walk using step
      exact ⟨_, rfl, h⟩
theorem enum_starts {prog : Program} {w : World} {A : Around} {E : Value → Shared → Prop} {s : Shared} {v : Value} {o : Obj} {HH : Heap → Prop} {Q : Value → Shared → Prop} (B : Begins v o HH) (there : HH s.heap)
    (h : ∀ h', IsEnum h' (s.heap.objs.size + 1) s.heap.objs.size 0 .none → h'.get? s.heap.objs.size = some o → (∀ b u, s.heap.get? b = some u → h'.get? b = some u) → Q (.ref (s.heap.objs.size + 1)) { s with heap := h' }) :
    wpAny (model prog w) A (call (.type "enumerate") [v]) Q E s := by
  refine callType_new F.called_enumerate (by decide) (F.typeCall_enumerate_1 _) (F.newCall_enumerate_1 _) (fun obj => F.args_object_init_2 obj _) F.entry_enumerate_new (enum_new1 B) ⟨there, ?_⟩
  have size1 : (s.heap.push o).objs.size = s.heap.objs.size + 1 := Heap.size_push ..
  show _ ∧ _
  rw [size1]
  have isE : IsEnum ((s.heap.push o).push { cls := .type "enumerate", data := .fields #[.none, .bool false, .ref s.heap.objs.size, rawInt 0, .none, .none] }) (s.heap.objs.size + 1) s.heap.objs.size 0 .none := by
    have z := Heap.get?_push_size (s.heap.push o) (o := { cls := .type "enumerate", data := .fields #[.none, .bool false, .ref s.heap.objs.size, rawInt 0, .none, .none] }) rfl
    rw [size1] at z
    exact z
  exact ⟨⟨_, isE, rfl⟩, h _ isE (Heap.get?_push_of_some _ (Heap.get?_push_size _ B.free)) fun b u e => Heap.get?_push_of_some _ (Heap.get?_push_of_some _ e)⟩
theorem enum_endT {prog : Program} {w : World} {A : Around} {E : Value → Shared → Prop} {s : Shared} {e it tu : Addr} {i : Nat} {xs : Array Value} {old : Value} {Q : Option Value → Shared → Prop} (hh : A.handled = none)
    (isE : IsEnum s.heap e it i old) (isI : s.heap.IsTupleIter it tu i) (isT : s.heap.IsTuple tu xs) (over : xs[i]? = none) (h : ∀ h', Heap.ExtBut it s.heap h' → Q none { s with heap := h' }) : wpAny (model prog w) A (pyNext (.ref e)) Q E s := by
  have ty : s.TypeIs (.ref e) "enumerate" := ⟨_, isE, rfl⟩
  unfold pyNext
  refine wpAny_bind (wpAny_attempt (wpAny_callSpecial?_slot (name := Str.ofString "__next__") ty F.slot_enumerate_next ?_))
  refine wpAny_call_entry F.slot_enumerate_next ty F.entry_enumerate_next ?_ (F.args_enumerate_next_1 _)
  show wpAny _ _ (field (.ref e) 2 >>= _) _ _ _
  refine wpAny_bind (wpAny_field isE rfl (x := .ref it) rfl (wpAny_bind (wpAny_nextOf_tuple_end hh isI isT over fun h1 x ex xo => ?_)))
  obtain ⟨ob, g1, g2⟩ := xo
  exact wpAny_bind (wpAny_isInstance (T := "StopIteration") (b := true) ⟨ob, g1, g2⟩ isSubtype_stop (wpAny_pure (h _ ex)))
/-- the tuple at a, each item in a new pair -/
def IteT (K : PySem.W.Frag) (a : Addr) : It where
  go i H := ∃ xs x, SqT K H a xs ∧ xs[i]? = some x
  yld i H v H' := ∃ T x, v = .ref T ∧ H T = none ∧ H' = upd H T (.tup [.int (i : Nat), x]) ∧ ∀ xs, SqT K H a xs → xs[i]? = some x
  stop i H := ∃ xs, SqT K H a xs ∧ xs.length ≤ i
theorem turn_enT {P : Program} {w : World} {K : PySem.W.Frag} {elts : List Expr} {kk : Nat} {tpos : Pos} {a e it : Addr} (ea : e ≠ a) (ia : a ≠ it) (ei : e ≠ it) :
    Turn P w K (.Tuple elts kk tpos) (IteT K a) [e, it] e (fun i h => (∃ old, IsEnum h e it ((i : Nat) : Int) old) ∧ h.IsTupleIter it a i) where
  mem := List.mem_cons_self
  obj := by
    rintro i h ⟨⟨old, he⟩, o, ho, _, hd⟩ b hb
    rcases List.mem_cons.mp hb with rfl | hb
    · exact ⟨_, he, fun v q => nomatch q⟩
    · obtain rfl := List.mem_singleton.mp hb
      exact ⟨o, ho, fun v q => by rw [hd] at q; cases q⟩
  keep := by
    rintro i h h' ⟨⟨old, he⟩, hi⟩ k
    exact ⟨⟨old, k e (by simp) _ he⟩, hi.at fun o q => k it (by simp) o q⟩
  item := by
    rintro X rfl rfl rfl calm i pins s σ H E I fpo ⟨⟨old, he⟩, hit⟩ ⟨xs, x, hq, hx⟩
    obtain ⟨its, rv, p, _⟩ := I.tuple hq
    have hlen := rv.length
    have hil : i < its.toArray.size := by
      have := (List.getElem?_eq_some_iff.mp hx).1
      simp
      omega
    have D := Draws.tuple (prog := X.prog) (w := X.w) (A := X.A.in1) (I.ok.hd calm) it a ia its.toArray
    have le : e < s.heap.objs.size := Heap.lt_size he
    have li : it < s.heap.objs.size := by
      obtain ⟨_, q, _⟩ := hit
      exact Heap.lt_size q
    refine wpAny_pyNext_enum_itemD D he ⟨hit, p⟩ hil ei (by simp [ei, ea]) fun u h' tk hu out st' hT hsz hk => ⟨_, rfl, ?_⟩
    obtain ⟨u0, hu0, ru⟩ := rv.get hx
    have eu : u0 = u := by
      have hu : its.toArray[i]? = some u := hu
      rw [List.getElem?_toArray, hu0] at hu
      exact Option.some.inj hu
    subst eu
    refine wpAny_letOwnedTupleGo_enum (s := { s with heap := h', toks := tk + 1 }) out fun h2 he2 sb => ?_
    have hT2 : h2.get? s.heap.objs.size = some { cls := .type "tuple", data := .seq #[.int i tk, u0] } := (sb.2 _ (Nat.ne_of_gt le)).trans hT
    have new : ObjOk X.prog X.w (upd H s.heap.objs.size (.tup [.int (i : Nat), x])) h2 s.heap.objs.size (.tup [.int (i : Nat), x]) :=
      ⟨show 2 ≤ sizeLine by decide, [.int i tk, u0], .cons ⟨_, rfl⟩ (.cons ru .nil), _, hT2, rfl, _, rfl⟩
    have keepAll : ∀ b ob, b ∉ [e, it] → s.heap.get? b = some ob → h2.get? b = some ob := fun b ob hb q => by
      have n1 : b ≠ e := fun z => hb (by simp [z])
      have n2 : b ≠ it := fun z => hb (by simp [z])
      exact (sb.2 b n1).trans (hk b ob n1 n2 q)
    refine ⟨.ref s.heap.objs.size, _, I.turnedNew (ch := [e, it]) keepAll fpo (Nat.le_refl _) new, rfl, ⟨_, x, rfl, I.hok.fresh (Nat.le_refl _), rfl, fun ys hy => by rw [I.tuple_inj hy hq]; exact hx⟩, ⟨⟨u0, ?_⟩, st'.1.at fun o q => (sb.2 it (Ne.symm ei)).trans q⟩, fun b hb => ?_⟩
    · rw [show ((i + 1 : Nat) : Int) = (i : Int) + 1 by omega]
      exact he2
    · have lb : b < s.heap.objs.size := by
        rcases List.mem_cons.mp hb with rfl | hb
        · exact le
        · obtain rfl := List.mem_singleton.mp hb
          exact li
      rw [upd_ne (Nat.ne_of_lt lb)]
      exact (fpo b hb).1
  done := by
    rintro X rfl rfl rfl calm i pins s σ H E I fpo ⟨⟨old, he⟩, hit⟩ ⟨xs, hq, hx⟩
    obtain ⟨its, rv, p, _⟩ := I.tuple hq
    have hlen := rv.length
    obtain ⟨f0, f1, f2, f3, f4, f5⟩ := fpo it (by simp)
    exact enum_endT (I.ok.hd calm) he hit p (by simp; omega) fun h' eb => ⟨rfl, I.turned (t' := s.toks) (fun b o hb q => eb b o hb q) f0 f1 f3 f4 f5⟩
  self := fun A i s Q E st h => by
    obtain ⟨⟨_, he⟩, _⟩ := st
    exact wpAny_pyIter_enum he h
section
variable {X : Cx} {c : Ct} {E : XK} {m : Nat → Addr} {S : Sr} {H : Hp} {g : Gm} {σ : L2.St}
def iEnT (K : PySem.W.Frag) (ta : TA) : TI := fun σ H R => ta σ H fun vs H1 => ∃ a xs, vs = [.ref a] ∧ SqT K H1 a xs ∧ R (IteT K a) H1
theorem pi_enT {e : Expr} {ta : TA} {p pos tpos : Pos} {elts : List Expr} {kk : Nat} (hg : Gl X "enumerate") (hm : X.mg "enumerate" = none) (ha : PA X [e] ta) (hs : starEach [e] X.env = [(false, eval e X.env)] := by rfl) :
    PI X (.Tuple elts kk tpos) (.Call (.Name "enumerate" p) [e] [] pos) (iEnT X.K ta) := by
  refine ⟨fun pins s σ H R I h => Call_ (ld_blt I hg hm boot_enumerate (PyProof.Rows.callWith_type1 (thn (ha.run pos pins s σ H _ I h) ?_) hs rfl))⟩
  rintro us s1 ⟨vs, H1, I1, r1, a, xs, rfl, hq, q⟩
  cases r1 with
  | cons r rr =>
    cases rr
    cases r
    obtain ⟨its, rv, p1, _⟩ := I1.tuple hq
    obtain ⟨oa, hoa, _⟩ := id p1
    have la := Heap.lt_size hoa
    refine enum_starts (begins_tuple a its.toArray) p1 fun h' isE isI hk => wpAny_pyIter_enum isE ?_
    have I2 : Inv X pins σ H1 { s1 with heap := h' } := I1.kept (t' := s1.toks) hk
    refine ⟨s1.heap.objs.size + 1, [s1.heap.objs.size + 1, s1.heap.objs.size], _, _, H1, rfl, I2, turn_enT (Nat.ne_of_gt (Nat.lt_succ_of_lt la)) (Nat.ne_of_lt la) (Nat.succ_ne_self _), ⟨⟨.none, isE⟩, _, isI, rfl, rfl⟩, fun b hb => ?_, q⟩
    have up : s1.heap.objs.size ≤ b := by
      rcases List.mem_cons.mp hb with rfl | hb
      · exact Nat.le_succ _
      · rw [List.mem_singleton.mp hb]
        exact Nat.le_refl _
    exact I1.fpOk up (I1.hok.fresh up)
theorem it_enT {l : List D} {a : Addr} {vs : List V} (h : SqT c.K H a vs) (rs : RelDs c m S.n H l vs) : ItOk c (IteT c.K a) (sqe (sqn l)) m S H := by
  refine ⟨fun i m1 S1 H1 d n e => ?_, fun i m1 S1 H1 n e => ?_⟩
  · unfold sqe sqn at e
    dsimp only at e
    cases el : l[i]? with
    | none => rw [el] at e; cases e
    | some d0 =>
      rw [el] at e
      cases e
      obtain ⟨v, ev, rv⟩ := (n.relDs rs).get el
      have hq := n.kp.sqT h
      refine ⟨⟨vs, v, hq, ev⟩, ?_⟩
      rintro x H' ⟨T, y, rfl, hT, rfl, hy⟩
      have ey := hy vs hq
      rw [ev] at ey
      cases ey
      have f : Nxt c m1 S1 H1 m1 S1 (upd H1 T (.tup [.int (i : Nat), v])) := Nxt.fresh n.sim hT
      exact ⟨f, mk_tup upd_same (mk_cons mk_int (mk_cons (f.relD rv) mk_nil))⟩
  · unfold sqe sqn at e
    dsimp only at e
    cases el : l[i]? with
    | none =>
      refine ⟨vs, n.kp.sqT h, ?_⟩
      rw [← rs.length]
      exact List.getElem?_eq_none_iff.mp el
    | some d0 => rw [el] at e; cases e
/-- enumerate of a list or a tuple -/
def mEnu (a : MA) : MI := fun g => SM.bind (a g) fun l S => match l with
  | [.tup l] => .ok (sqe (sqn l)) S
  | [.ktp l] => .ok (sqe (sqn l)) S
  | [d] => (match mSrcD false d S with
    | .ok s S' => .ok (sqe s) S'
    | _ => .bad)
  | _ => .bad
theorem qi_enu {e : Expr} {ma : MA} {p pos tpos : Pos} {elts : List Expr} {kk : Nat} (hK : X.K = c.K) (hg : Gl X "enumerate") (hm : X.mg "enumerate" = none) (ha : PA X [e] (rdA c E ma)) (hs : starEach [e] X.env = [(false, eval e X.env)] := by rfl) :
    PI X (.Tuple elts kk tpos) (.Call (.Name "enumerate" p) [e] [] pos) (rdI c E (mEnu ma)) :=
  PI.imp (PI.or (pi_enum hg hm ha hs) (pi_enT hg hm ha hs)) fun σ H Q ⟨m, S, g, s, rg, q⟩ => by
    rw [hK]
    unfold mEnu SM.bind at q
    cases e0 : ma g S with
    | bad => rw [e0] at q; exact q.elim
    | exc p S1 =>
      rw [e0] at q
      exact .inl ⟨m, S, g, s, rg, by rw [e0]; exact q⟩
    | ok l S1 =>
      rw [e0] at q
      dsimp only at q
      split at q
      · refine .inr ⟨m, S, g, s, rg, ?_⟩
        rw [e0]
        intro m1 H1 v a rs
        obtain ⟨w, t, rfl, r1, r2⟩ := rd_cons rs
        obtain ⟨p1, vs, rfl, hh, rs⟩ := rd_tup r1
        rw [rd_nil r2]
        exact ⟨p1, vs, rfl, .inl (.inl hh), q m1 H1 _ a (it_enT (.inl (.inl hh)) rs)⟩
      · refine .inr ⟨m, S, g, s, rg, ?_⟩
        rw [e0]
        intro m1 H1 v a rs
        obtain ⟨w, t, rfl, r1, r2⟩ := rd_cons rs
        obtain ⟨p1, vs, rfl, hh, rs⟩ := rd_ktp r1
        rw [rd_nil r2]
        exact ⟨p1, vs, rfl, hh.sq, q m1 H1 _ a (it_enT hh.sq rs)⟩
      · refine .inl ⟨m, S, g, s, rg, ?_⟩
        rw [e0]
        intro m1 H1 v a rs
        obtain ⟨w, t, rfl, r1, r2⟩ := rd_cons rs
        rw [rd_nil r2]
        split at q
        · rename_i sr S' e1
          obtain ⟨rfl, p1, rfl, hq, vs, hv⟩ := sq_of a.sim r1 e1
          exact ⟨p1, vs, rfl, hv, q m1 H1 _ a (it_enum hq)⟩
        · exact q.elim
      · exact q.elim
end
end Y

set_option Elab.async false
set_option linter.all false
set_option maxRecDepth 100000
set_option maxHeartbeats 2000000
/-! Y20: dicts made, texts repeated, sorted keys, told with one clause. -/
namespace Y
open PySem PySem.Spec PyProof.Rows L2
section
variable {X : Cx} {c : Ct} {E : XK} {m : Nat → Addr} {S : Sr} {H : Hp} {g : Gm} {σ : L2.St}
/-- {} -/
def mEmp : ME := fun _ S => .ok (.adr S.n) (S.alloc (.dic []))
theorem qe_emp {pos : Pos} : PE X (.Dict [] [] pos) (rdE c E mEmp) := PE.imp pe_dnewK fun σ H Q ⟨m, S, g, s, rg, q⟩ => giveO (x := .dic []) s ⟨[], rfl, mkk_nil⟩ q
/-! ### text * int -/
def repS (a : Str) (k : Int) : Str := ⟨(List.replicate k.toNat a.cps).foldl (· ++ ·) #[]⟩
def repT : D → D → SM D := fun x y S => match x, y with
  | .str a, .int k => if k < 2 ^ 30 ∧ -(2 ^ 30) < k ∧ a.length * k.toNat ≤ sizeLine then .ok (.str (repS a k)) S else .bad
  | _, _ => .bad
def rRepS : R2 := fun x y H Q => ∃ a k, x = .str a ∧ y = .int k ∧ k < 2 ^ 30 ∧ -(2 ^ 30) < k ∧ a.length * k.toNat ≤ sizeLine ∧ Q (.str (repS a k)) H
theorem op_repS : OpR X (binaryOp .Mult) rRepS := by
  rintro pins s σ H x y v u Q I rx ry ⟨a, k, rfl, rfl, h1, h2, h3, q⟩
  obtain ⟨t, rfl⟩ : ∃ t, v = .str a t := rx
  obtain ⟨u', rfl⟩ : ∃ u', u = .int k u' := ry
  have fin : ∀ t' tk, EP X pins σ Q (.str (repS a k) t') { s with toks := tk } := fun t' tk => ⟨.str (repS a k), H, I.tok _, ⟨_, rfl⟩, q⟩
  have p30 : (2 : Int) ^ 30 < 2 ^ 63 := by decide
  refine P.mul_str ?_ ?_ ?_ ?_
  · have a1 : ¬ k < -(2 ^ 63 : Int) := by omega
    have a2 : ¬ k ≥ (2 ^ 63 : Int) := by omega
    rw [decide_eq_false a1, decide_eq_false a2]
    rfl
  · intro k1 _ z
    have k0 : 0 < k := by omega
    have e : ((a.length * k.toNat : Nat) : Int) ≤ (sizeLine : Nat) := by exact_mod_cast h3
    have e2 : ((a.length * k.toNat : Nat) : Int) = (a.length : Int) * k := by
      rw [Int.natCast_mul, Int.toNat_of_nonneg (by omega)]
    have e3 : (sizeLine : Int) = ((sizeLine : Nat) : Int) := rfl
    have e4 : ((sizeLine : Nat) : Int) ≤ 2 ^ 63 - 1 := by decide
    have e5 : (a.length : Int) ≤ (2 ^ 63 - 1) / k := by
      rw [Int.le_ediv_iff_mul_le k0]
      omega
    omega
  · intro _ _
    have : ¬ (a.length * k.toNat > sizeLine) := by omega
    exact decide_eq_false this
  · by_cases k1 : k < 1
    · rw [if_pos k1]
      have e : repS a k = Str.empty := by
        have : k.toNat = 0 := by omega
        unfold repS
        rw [this]
        rfl
      refine ⟨by decide, ?_⟩
      rw [← e]
      exact fin _ _
    · rw [if_neg k1]
      by_cases k2 : (k == 1 || a.length == 0) = true
      · rw [if_pos k2]
        have e : repS a k = a := by
          rcases Bool.or_eq_true _ _ ▸ k2 with z | z
          · have : k = 1 := by simpa using z
            subst this
            unfold repS
            simp
          · have z : a.cps.size = 0 := by
              have : a.length = 0 := by simpa using z
              exact this
            have z2 : a.cps = #[] := Array.eq_empty_of_size_eq_zero z
            unfold repS
            rw [z2]
            have : ∀ n : Nat, (List.replicate n (#[] : Array Nat)).foldl (· ++ ·) #[] = #[] := fun n => by
              induction n with
              | zero => rfl
              | succ n ih => rw [List.replicate_succ, List.foldl_cons]; exact ih
            rw [this]
            cases a
            simp only at z2
            rw [z2]
        have w := fin t s.toks
        rw [e] at w
        exact w
      · rw [if_neg k2]
        refine ⟨?_, fin _ _⟩
        show (repS a k).cps.size ≤ sizeLine
        have : ∀ (n : Nat) (b : Array Nat), ((List.replicate n a.cps).foldl (· ++ ·) b).size = b.size + a.length * n := fun n => by
          induction n with
          | zero => intro b; simp
          | succ n ih =>
            intro b
            rw [List.replicate_succ, List.foldl_cons, ih, Array.size_append]
            show b.size + a.length + a.length * n = _
            rw [Nat.mul_succ]
            omega
        unfold repS
        rw [this]
        simpa using h3
theorem snd_repS : Snd2 c rRepS repT := by
  intro E m S H Q x y v w s rx ry q
  unfold repT at q
  split at q
  · obtain ⟨⟨h1, h2, h3⟩, q⟩ := po_if q
    exact ⟨_, _, rd_str rx, rd_int ry, h1, h2, h3, q m H _ (Nxt.refl s) mk_str⟩
  · exact q.elim
/-- int * int, list * int, text * int -/
def dMulS : D → D → SM D := orF dMul repT
theorem op_mulS : OpR X (binaryOp .Mult) (fun x y H Q => rMulA x y H Q ∨ rRepS x y H Q) := OpR.or op_mulA op_repS
theorem snd_mulS : Snd2 c (fun x y H Q => rMulA x y H Q ∨ rRepS x y H Q) dMulS := snd_or snd_mul snd_repS
/-! ### dict(..) -/
def pairsD : List D → Option (List (Key × D))
  | [] => some []
  | .tup [k, v] :: r => (match keyD k, pairsD r with
    | some a, some l => some ((a, v) :: l)
    | _, _ => none)
  | .ktp [k, v] :: r => (match keyD k, pairsD r with
    | some a, some l => some ((a, v) :: l)
    | _, _ => none)
  | _ => none
theorem pairsD_of {n : Nat} : ∀ {xs : List D} {l : List (Key × D)} {vs : List V}, pairsD xs = some l → RelDs c m n H xs vs → ∃ (ps : List Addr) (kvs : List (Key × V)), vs = ps.map V.ref ∧ Paired (fun p kv => SqT c.K H p [kV kv.1, kv.2]) ps kvs ∧ RelK c m n H l kvs
  | [], l, vs, e, r => by
    cases e
    rw [rd_nil r]
    exact ⟨[], [], rfl, .nil, mkk_nil⟩
  | x :: xs, l, vs, e, r => by
    obtain ⟨v, w, rfl, r1, r2⟩ := rd_cons r
    unfold pairsD at e
    split at e
    · rename_i h; cases h
    · rename_i k0 v0 r0 h
      cases h
      split at e
      · rename_i a l2 ea el
        cases e
        obtain ⟨ps, kvs, rfl, h1, h2⟩ := pairsD_of el r2
        obtain ⟨p, ws, rfl, hh, r3⟩ := rd_tup r1
        obtain ⟨x1, t1, rfl, s1, s2⟩ := rd_cons r3
        obtain ⟨x2, t2, rfl, s3, s4⟩ := rd_cons s2
        rw [rd_nil s4, key_of s1 ea] at hh
        exact ⟨p :: ps, (a, x2) :: kvs, rfl, .cons (.inl (.inl hh)) h1, mkk_cons (p := (a, v0)) s3 h2⟩
      · cases e
    · rename_i k0 v0 r0 h
      cases h
      split at e
      · rename_i a l2 ea el
        cases e
        obtain ⟨ps, kvs, rfl, h1, h2⟩ := pairsD_of el r2
        obtain ⟨p, ws, rfl, hh, r3⟩ := rd_ktp r1
        obtain ⟨x1, t1, rfl, s1, s2⟩ := rd_cons r3
        obtain ⟨x2, t2, rfl, s3, s4⟩ := rd_cons s2
        rw [rd_nil s4, key_of s1 ea] at hh
        exact ⟨p :: ps, (a, x2) :: kvs, rfl, .cons hh.sq h1, mkk_cons (p := (a, v0)) s3 h2⟩
      · cases e
    · cases e
abbrev rDictL (K : PySem.W.Frag) : List V → Hp → VK → Prop := fun xs H Q => ∃ (a : Addr) (ps : List Addr) (kvs : List (Key × V)), xs = [.ref a] ∧ SqL K H a (ps.map V.ref) ∧ Paired (fun p kv => SqT K H p [kV kv.1, kv.2]) ps kvs ∧ ∀ p, H p = none → Q (.ref p) (upd H p (.dK (mergeK [] kvs)))
abbrev rDictD : List V → Hp → VK → Prop := fun xs H Q => ∃ (a : Addr) (kvs : List (Key × V)), xs = [.ref a] ∧ Rd H a (.dK kvs) ∧ ∀ p, H p = none → Q (.ref p) (upd H p (.dK kvs))
abbrev rDictA (K : PySem.W.Frag) : List V → Hp → VK → Prop := fun xs H Q => rDictL K xs H Q ∨ rDictD xs H Q
theorem call_dictA (hcalm : X.calm = true) : CallR X (.type "dict") (rDictA X.K) := CallR.or (call_dictP hcalm) call_dictD
def fDict : List D → SM D := fun l S => match l with
  | [.fro xs] => (match pairsD xs with
    | some ks => .ok (.adr S.n) (S.alloc (.dic (mergeD [] ks)))
    | none => .bad)
  | [.adr i] => (match S.f i with
    | some (.lst xs) => (match pairsD xs with
      | some ks => .ok (.adr S.n) (S.alloc (.dic (mergeD [] ks)))
      | none => .bad)
    | some (.dic l) => .ok (.adr S.n) (S.alloc (.dic l))
    | _ => .bad)
  | _ => .bad
theorem snd_dict : SndA c (rDictA c.K) fDict := by
  intro E m S H Q l vs s r q
  unfold fDict at q
  split at q
  · obtain ⟨v, rfl, h⟩ := one_of r
    obtain ⟨a, vs, rfl, hh, rs⟩ := rd_fro h
    split at q
    · rename_i ks ek
      obtain ⟨ps, kvs, rfl, h1, h2⟩ := pairsD_of ek rs
      exact .inl ⟨a, ps, kvs, rfl, hh.sq, h1, giveO (x := .dic _) s ⟨_, rfl, RelK.merge h2 mkk_nil⟩ q⟩
    · exact q.elim
  · obtain ⟨v, rfl, h⟩ := one_of r
    obtain ⟨rfl, hi⟩ := rd_adr h
    split at q
    · rename_i xs el
      obtain ⟨vs, hh, rs⟩ := s.lst el
      split at q
      · rename_i ks ek
        obtain ⟨ps, kvs, rfl, h1, h2⟩ := pairsD_of ek rs
        exact .inl ⟨_, ps, kvs, rfl, .inl (.inl hh), h1, giveO (x := .dic _) s ⟨_, rfl, RelK.merge h2 mkk_nil⟩ q⟩
      · exact q.elim
    · rename_i xs el
      obtain ⟨vs, hh, rs⟩ := s.dic el
      exact .inr ⟨_, vs, rfl, .inl hh, giveO (x := .dic _) s ⟨_, rfl, rs⟩ q⟩
    · exact q.elim
  · exact q.elim
/-! ### sorted keys -/
def insI (i : Int) : List Int → List Int
  | [] => [i]
  | j :: l => if i ≤ j then i :: j :: l else j :: insI i l
def srtI : List Int → List Int
  | [] => []
  | i :: l => insI i (srtI l)
theorem insI_perm (i : Int) : ∀ l, (insI i l).Perm (i :: l)
  | [] => List.Perm.refl _
  | j :: l => by
    unfold insI
    split
    · exact List.Perm.refl _
    · exact ((insI_perm i l).cons j).trans (List.Perm.swap i j l)
theorem srtI_perm : ∀ l, (srtI l).Perm l
  | [] => List.Perm.refl _
  | i :: l => (insI_perm i _).trans ((srtI_perm l).cons i)
theorem insI_sorted (i : Int) : ∀ {l}, List.Pairwise (· ≤ ·) l → List.Pairwise (· ≤ ·) (insI i l)
  | [], _ => List.pairwise_singleton _ _
  | j :: l, h => by
    obtain ⟨h1, h2⟩ := List.pairwise_cons.mp h
    unfold insI
    split
    · rename_i hij
      exact List.pairwise_cons.mpr ⟨fun k hk => by
        rcases List.mem_cons.mp hk with rfl | hk
        · exact hij
        · exact Int.le_trans hij (h1 k hk), h⟩
    · rename_i hij
      refine List.pairwise_cons.mpr ⟨fun k hk => ?_, insI_sorted i h2⟩
      rcases List.mem_cons.mp ((insI_perm i l).mem_iff.mp hk) with rfl | hk
      · omega
      · exact h1 k hk
theorem srtI_sorted : ∀ l, List.Pairwise (· ≤ ·) (srtI l)
  | [] => List.Pairwise.nil
  | i :: l => insI_sorted i (srtI_sorted l)
theorem sorted_eq : ∀ {l k : List Int}, l.Perm k → List.Pairwise (· ≤ ·) l → List.Pairwise (· ≤ ·) k → l = k
  | [], k, p, _, _ => (List.nil_perm.mp p).symm
  | i :: l, [], p, _, _ => absurd p.length_eq (by simp)
  | i :: l, j :: k, p, h, h' => by
    obtain ⟨a1, a2⟩ := List.pairwise_cons.mp h
    obtain ⟨b1, b2⟩ := List.pairwise_cons.mp h'
    have e : i = j := by
      have x : i ∈ j :: k := p.mem_iff.mp List.mem_cons_self
      have y : j ∈ i :: l := p.mem_iff.mpr List.mem_cons_self
      rcases List.mem_cons.mp x with x | x
      · exact x
      · rcases List.mem_cons.mp y with y | y
        · exact y.symm
        · have := a1 j y
          have := b1 i x
          omega
    subst e
    rw [sorted_eq (List.Perm.cons_inv p) a2 b2]
def intKeys : List (Key × D) → Option (List Int)
  | [] => some []
  | (.inl i, _) :: r => (intKeys r).map (i :: ·)
  | _ => none
theorem intKeys_of {n : Nat} : ∀ {l : List (Key × D)} {ks : List Int} {kvs : List (Key × V)}, intKeys l = some ks → RelK c m n H l kvs → kvs.map (·.1) = ks.map Sum.inl
  | [], ks, kvs, e, r => by
    cases e
    rw [rk_nil r]
    rfl
  | p :: l, ks, kvs, e, r => by
    obtain ⟨v, t, rfl, r1, r2⟩ := rk_cons r
    unfold intKeys at e
    split at e
    · rename_i h; cases h
    · rename_i i d r0 h
      cases h
      obtain ⟨ks', e1, rfl⟩ := Option.map_eq_some_iff.mp e
      rw [List.map_cons, List.map_cons, intKeys_of e1 r2]
    · cases e
def fSortD : List D → SM D := fun l S => match l with
  | [.adr i] => (match S.f i with
    | some (.dic l) => (match intKeys l with
      | some ks => if ks.length < 64 then .ok (.adr S.n) (S.alloc (.lst ((srtI ks).map .int))) else .bad
      | none => .bad)
    | _ => .bad)
  | _ => .bad
theorem snd_sortD : SndA c (fun xs H Q => ∃ (a : Addr) (kvs : List (Key × V)) (ks : List Int), xs = [.ref a] ∧ Rd H a (.dK kvs) ∧ kvs.map (·.1) = ks.map Sum.inl ∧ ks.length < 64 ∧
    ∀ (ys : List Int) (p : Addr), ys.Perm ks → ys.Pairwise (· ≤ ·) → H p = none → Q (.ref p) (upd H p (.lst (ys.map V.int)))) fSortD := by
  intro E m S H Q l vs s r q
  unfold fSortD at q
  split at q
  · obtain ⟨v, rfl, h⟩ := one_of r
    obtain ⟨rfl, hi⟩ := rd_adr h
    split at q
    · rename_i xs el
      obtain ⟨vs, hh, rs⟩ := s.dic el
      split at q
      · rename_i ks ek
        obtain ⟨hz, q⟩ := po_if q
        refine ⟨_, vs, ks, rfl, .inl hh, intKeys_of ek rs, hz, fun ys p py sy hp => ?_⟩
        rw [sorted_eq (py.trans (srtI_perm ks).symm) sy (srtI_sorted ks)]
        exact giveO (x := .lst ((srtI ks).map .int)) s ⟨_, rfl, rel_ints _⟩ q p hp
      · exact q.elim
    · exact q.elim
  · exact q.elim
end
/-! ### {k: v for ..} -/
def dcG (sr : Src) (t : Tg) (mt : MT) (mk mv : ME) (g0 : Gm) (D0 : Nat) : Nat → Nat → SM Unit
  | 0, i => fun S => match sr.nxt i S with
    | some none => .ok () S
    | _ => .bad
  | r + 1, i => fun S => match sr.nxt i S with
    | some none => .ok () S
    | some (some d) => (match t.put d g0 with
      | none => .bad
      | some g => (match mt g S with
        | .ok false S1 => dcG sr t mt mk mv g0 D0 r (i + 1) S1
        | .ok true S1 => (match mk g S1 with
          | .ok kd S2 => (match mv g S2 with
            | .ok y S3 => (match S3.f D0, keyD kd with
              | some (.dic acc), some k => if acc.length < sizeLine then dcG sr t mt mk mv g0 D0 r (i + 1) (S3.put D0 (.dic (putD acc k y))) else .bad
              | _, _ => .bad)
            | _ => .bad)
          | _ => .bad)
        | _ => .bad))
    | none => .bad
def mDc (src : MI) (t : Tg) (mt : MT) (mk mv : ME) (vs : List Nat) : ME := fun g => SM.bind (src g) fun sr S1 => SM.bind (dcG sr t mt mk mv (wipeD g vs) S1.n sr.n 0) (fun _ S' => .ok (.adr S1.n) S') (S1.alloc (.dic []))
section
variable {X : Cx} {c : Ct} {E : XK} {m : Nat → Addr} {S : Sr} {H : Hp} {g : Gm} {σ : L2.St}
theorem dc_of {mi : MI} {t : Tg} {mt : MT} {mk mv : ME} {vs : List Nat} (ht : ∀ i ∈ t.ix, i ∈ vs) (σ : L2.St) (H : Hp) (Q : VK) (h : rdE c E (mDc mi t mt mk mv vs) σ H Q) :
    tDc (rdI c E mi) (gTg c.K t) (rdT c noX mt) (rdE c noX mk) (rdE c noX mv) vs σ H Q := by
  obtain ⟨m, S, g, s, rg, q⟩ := h
  refine ⟨m, S, g, s, rg, ?_⟩
  unfold mDc SM.bind at q
  cases e : mi g S with
  | exc p S1 => rw [e] at q; exact q
  | bad => rw [e] at q; exact q.elim
  | ok sr S1 =>
    rw [e] at q
    intro m1 H1 J a io DD hD
    have al := Nxt.alloc (x := .dic []) (o := .dK []) a.sim hD ⟨[], rfl, mkk_nil⟩
    have n0 := a.trans s al
    have q1 := PoE.go s n0 q
    have gm : ext m1 S1.n DD S1.n = DD := ext_same
    let PP : Nat → Nat → Hp → Prop := fun i k H => ∃ m S, Nxt c (ext m1 S1.n DD) (S1.alloc (.dic [])) (upd H1 DD (.dK [])) m S H ∧ PoE c E m S H Q (SM.bind (dcG sr t mt mk mv (wipeD g vs) S1.n k i) (fun _ S' => .ok (.adr S1.n) S') S)
    refine ⟨fun i k H => PP i k H, ⟨sr.n, _, _, Nxt.refl al.sim, q1⟩, ?_⟩
    rintro i k H2 ⟨m2, S2, n2, q2⟩
    have hm2 : m2 S1.n = DD := by rw [n2.mu S1.n (Nat.lt_succ_self _), gm]
    have hlt2 : S1.n < S2.n := Nat.lt_of_lt_of_le (Nat.lt_succ_self _) n2.le
    cases hn : sr.nxt i S2 with
    | none => cases k <;> (unfold SM.bind dcG at q2; rw [hn] at q2; exact q2.elim)
    | some o =>
      have nn := al.trans a.sim n2
      cases o with
      | none =>
        refine .inl ⟨io.stop i m2 S2 H2 nn hn, ?_⟩
        cases k <;> (unfold SM.bind dcG at q2; rw [hn] at q2; refine q2 m2 H2 _ (Nxt.refl n2.sim) ?_; rw [← hm2]; exact mk_adr hlt2)
      | some d =>
        cases k with
        | zero => unfold SM.bind dcG at q2; rw [hn] at q2; exact q2.elim
        | succ k =>
          unfold SM.bind dcG at q2
          rw [hn] at q2
          dsimp only at q2
          obtain ⟨h1, h2⟩ := io.go i m2 S2 H2 d nn hn
          refine .inr ⟨h1, fun H' => PP (i + 1) k H', fun H' w => ⟨k, Nat.lt_succ_self k, w⟩, fun x H3 y => ?_⟩
          obtain ⟨n3, r3⟩ := h2 x H3 y
          have n23 := n2.trans al.sim n3
          have rg3 : RelG c m2 S2.n H3 (wipeD g vs) (L2.wipe σ vs) := n23.relG (al.relG ((a.relG rg).wipe vs))
          have q3 := PoE.go n2.sim n3 q2
          cases ep : t.put d (wipeD g vs) with
          | none => rw [ep] at q3; exact q3.elim
          | some g4 =>
            rw [ep] at q3
            dsimp only at q3
            have core : ∀ σ4 : L2.St, RelG c m2 S2.n H3 g4 σ4 → rdT c noX mt σ4 H3 fun b H4 => if b = true then rdE c noX mk σ4 H4 fun yk H5 => rdE c noX mv σ4 H5 fun z H6 => ∃ kvs k2, yk = kV k2 ∧ H6 DD = some (.dK kvs) ∧ kvs.length < sizeLine ∧ PP (i + 1) k (upd H6 DD (.dK (putK kvs k2 z))) else PP (i + 1) k H4 := by
              intro σ4 rg4
              refine ⟨m2, S2, g4, n3.sim, rg4, ?_⟩
              cases et : mt g4 S2 with
              | exc p S3 => rw [et] at q3; exact q3.elim
              | bad => rw [et] at q3; exact q3.elim
              | ok b S3 =>
                rw [et] at q3
                intro m3 H4 n4
                have q4 := PoE.go n3.sim n4 q3
                have n24 := n23.trans al.sim n4
                cases b with
                | false => exact ⟨m3, S3, n24, q4⟩
                | true =>
                  rw [if_pos rfl]
                  dsimp only at q4
                  refine ⟨m3, S3, g4, n4.sim, n4.relG rg4, ?_⟩
                  cases ee : mk g4 S3 with
                  | exc p S4 => rw [ee] at q4; exact q4.elim
                  | bad => rw [ee] at q4; exact q4.elim
                  | ok kd S4 =>
                    rw [ee] at q4
                    dsimp only at q4
                    intro m5 H5 kv n5 rk
                    have q5 := PoE.go n4.sim n5 q4
                    refine ⟨m5, S4, g4, n5.sim, n5.relG (n4.relG rg4), ?_⟩
                    cases ev : mv g4 S4 with
                    | exc p S5 => rw [ev] at q5; exact q5.elim
                    | bad => rw [ev] at q5; exact q5.elim
                    | ok yd S5 =>
                      rw [ev] at q5
                      dsimp only at q5
                      intro m6 H6 yv n6 ry
                      have q6 := PoE.go n5.sim n6 q5
                      have n26 := (n24.trans al.sim n5).trans al.sim n6
                      have hm6 : m6 S1.n = DD := by rw [n26.mu S1.n (Nat.lt_succ_self _), gm]
                      cases ek : keyD kd with
                      | none =>
                        rw [ek] at q6
                        cases ea : S5.f S1.n with
                        | none => rw [ea] at q6; exact q6.elim
                        | some mo => rw [ea] at q6; cases mo <;> exact q6.elim
                      | some k2 =>
                        rw [ek] at q6
                        cases ea : S5.f S1.n with
                        | none => rw [ea] at q6; exact q6.elim
                        | some mo =>
                          rw [ea] at q6
                          cases mo <;> first | exact (show False from q6).elim | skip
                          rename_i acc
                          dsimp only at q6
                          by_cases hz : acc.length < sizeLine
                          · rw [if_pos hz] at q6
                            obtain ⟨vs', hh, rs⟩ := n6.sim.dic ea
                            rw [hm6] at hh
                            have pu := Nxt.put (x := .dic (putD acc k2 yd)) (o := .dK (putK vs' k2 yv)) n6.sim ea ⟨_, rfl, RelK.put k2 ry rs⟩
                            rw [hm6] at pu
                            exact ⟨vs', k2, key_of rk ek, hh, by rw [← rs.length]; exact hz, m6, _, n26.trans al.sim pu, PoE.go n6.sim pu q6⟩
                          · rw [if_neg hz] at q6
                            exact q6.elim
            cases t with
            | nm j =>
              cases ep
              exact ⟨by rw [wipe_set _ (ht j (List.mem_singleton.mpr rfl))]; exact wipe_idem σ vs vs fun _ h => h, core _ (rg3.set j r3)⟩
            | tp is =>
              cases d with
              | tup l =>
                dsimp only [Tg.put] at ep
                split at ep
                · rename_i hl
                  cases ep
                  obtain ⟨p, ws, rfl, hh, rs⟩ := rd_tup r3
                  exact ⟨p, ws, rfl, .inl (.inl hh), by rw [← rs.length]; exact hl, by rw [wipe_sets (is := is) ht]; exact wipe_idem σ vs vs fun _ h => h, core _ (rg3.sets rs)⟩
                · cases ep
              | ktp l =>
                dsimp only [Tg.put] at ep
                split at ep
                · rename_i hl
                  cases ep
                  obtain ⟨p, ws, rfl, hh, rs⟩ := rd_ktp r3
                  exact ⟨p, ws, rfl, hh.sq, by rw [← rs.length]; exact hl, by rw [wipe_sets (is := is) ht]; exact wipe_idem σ vs vs fun _ h => h, core _ (rg3.sets rs)⟩
                · cases ep
              | _ => cases ep
abbrev BlkN (X : Cx) (scope : Scope) (R : Cx → Prop) : Prop := ∀ (s : Shared) (H : Hp) (C : Addr) (cl : List (Str × Addr)) (fp : List Addr), R (X.blk s H scope (compEnvC scope cl C X.env) fp)
theorem qe_dc {kx vx tg iter : Expr} {ifs : List Expr} {scope : Scope} {own : List (Str × Nat)} {pos : Pos} {mi : MI} {t : Tg} {mt : MT} {mk mv : ME} (hK : X.K = c.K) (hc : X.calm = true) (hN : X.N.Nodup) (hi : PI X tg iter (rdI c E mi)) (ok : BlkOk X.N X.env.scope scope own)
    (hg : BlkN X scope fun BX => PG BX tg (gTg X.K t)) (ht : BlkN X scope fun BX => PTs BX ifs (rdT c noX mt)) (hk : BlkN X scope fun BX => PE BX kx (rdE c noX mk)) (he : BlkN X scope fun BX => PE BX vx (rdE c noX mv))
    (hv : ∀ i ∈ t.ix, i ∈ own.map (·.2) := by decide) (hs : ∀ x, foldedSetIterable iter X.env x = pure x := by intro _; rfl) :
    PE X (.DictComp kx vx [⟨tg, iter, ifs, 0⟩] scope pos) (rdE c E (mDc mi t mt mk mv (own.map (·.2)))) :=
  PE.imp (pe_dc hc hN hi ok hg ht hk he hs) fun σ H Q h => by
    rw [hK]
    exact dc_of hv σ H Q h
theorem sw_dc {kx vx : Expr} {gs : List Comprehension} {scope : Scope} {pos py : Pos} {y : Str} {l : Nat} {env : Env} (hk : env.scope.kind = .function) (hy : env.scope.names.lookup y = some .local) (hl : (py.line == pos.line) = true)
    (ha : (scope.names.any fun (n, k) => n == y && (k == .local || k == .cell)) = false) : swapsWith (.DictComp kx vx gs scope pos) (some (.Name y py)) l env = pure true := by
  have k1 : env.kindOf y = some .local := hy
  have k2 : env.blockKind = .function := by unfold Env.blockKind; rw [hk]; rfl
  unfold swapsWith
  simp only [k2, k1, ha, Expr.pos, hl]
  rfl
theorem qs_setDc {i : Nat} {y : Str} {py : Pos} {kx vx tg iter : Expr} {ifs : List Expr} {scope : Scope} {own : List (Str × Nat)} {pos spos : Pos} {mi : MI} {t : Tg} {mt : MT} {mk mv : ME} (hK : X.K = c.K) (hc : X.calm = true) (hN : X.N.Nodup) (hy : X.N[i]? = some y) (hyl : X.env.scope.names.lookup y = some .local)
    (hsw : swapsWith (.DictComp kx vx [⟨tg, iter, ifs, 0⟩] scope pos) (some (.Name y py)) spos.line X.env = pure true) (hi : PI X tg iter (rdI c E mi)) (ok : BlkOk X.N X.env.scope scope own)
    (hg : BlkN X scope fun BX => PG BX tg (gTg X.K t)) (ht : BlkN X scope fun BX => PTs BX ifs (rdT c noX mt)) (hk : BlkN X scope fun BX => PE BX kx (rdE c noX mk)) (he : BlkN X scope fun BX => PE BX vx (rdE c noX mv))
    (hv : ∀ i ∈ t.ix, i ∈ own.map (·.2) := by decide) (hs : ∀ x, foldedSetIterable iter X.env x = pure x := by intro _; rfl) :
    PS X (.Assign [.Name y py] (.DictComp kx vx [⟨tg, iter, ifs, 0⟩] scope pos) spos) (rdS c E (mSet i (mDc mi t mt mk mv (own.map (·.2))))) := by
  refine ⟨fun pz s σ H D I ⟨m, S, g, si, rg, q⟩ => ?_⟩
  have z : rdE c E (mDc mi t mt mk mv (own.map (·.2))) σ H fun v H1 => D.nx (σ.set i (some v)) H1 := by
    refine seqSE si rg q fun m1 S1 H1 d v a r q1 => q1 m1 H1 _ (Nxt.refl a.sim) ((a.relG rg).set i r)
  have h := dc_of hv σ H _ z
  rw [← hK] at h
  rw [exec_Assign_Name_used _ _ _ _ hsw]
  refine wpAny_bind (wpAny_standAt (wpAny_bind ?_))
  show wpAny _ X.A (do let _ ← comprehension (.DictComp kx vx [⟨tg, iter, ifs, 0⟩] scope pos) scope X.env (firstIterPos [⟨tg, iter, ifs, 0⟩] pos) newDict false (eval iter X.env) (some (assign (.Name y py) X.env))) _ _ s
  refine wpAny_bind (thn (dc_core (Qf := fun _ s' => SP X pz D .next s') hc hN I hi ok hg ht hk he hs h fun L C s' mm H' I' q hn f => ?_) fun _ s' hq => wpAny_pure (wpAny_pure hq))
  show wpAny _ _ (assign (.Name y py) X.env (.ref L)) _ _ _
  refine wpAny_assign_Name (store_ok2 (v := V.ref L) I' hN hy (.inl hyl) rfl (fun s2 I2 ⟨a, sb, ha⟩ => ?_) (.inr hyl))
  obtain ⟨f0, f1, f2, f3, f4, f5⟩ := f
  have apart : C ≠ a := by
    rcases ha with k | k
    · rw [k]
      exact f1
    · exact fun e => f4 y a k e.symm
  exact ⟨mm, hn.sameBut sb apart, fun h3 sb3 => ⟨_, H', I2.turned (t' := s2.toks) (fun b o hb e => (sb3.2 b hb).trans e) f0 f1 f3 f4 f5, q⟩⟩
end
/-! ### told with one clause -/
section
variable {X : Cx}
theorem told1_gives {Ng : List Str} {x a e q ret : Str} {sg : Scope} {g CS : Addr} {cdg : Value} {j : Nat} {p1 p2 p3 p4 p5 p6 p7 p8 : Pos} (hge : sg.names.lookup e = some .globalImplicit) (hme : X.mg e = some (.ref CS)) (hde : (e == ("__debug__" : Str)) = false)
    (h0 : ∀ f : Addr, (L2.start Ng [V.ref f])[0]? = some (some (V.ref f))) :
    LamX.GivesTo X Ng x sg g cdg [.Try [.Return (some (.Call (.Name a p1) [] [] p2)) p3] [.ExceptHandler (some (.Name e p4)) none [.Return (some (.Constant (.str ret) j p5)) p6] p7] [] [] p8] a q (TToldM X.K [(CS, ret)]) := by
  intro f c' s H Q tl act hc h
  obtain ⟨t, ht, hq⟩ := LamX.told_gives (Ng := Ng) (x := x) (sg := sg) (g := g) (cdg := cdg) (p1 := p1) (p2 := p2) (p3 := p3) (p4 := p4) (p5 := p5) (p6 := p6) (p7 := p7) (p8 := p8) (j := j) (ret := ret) hge hme hde h0 f c' s H Q (fun E' H' Q' => tl (fun cls d H'' => E' cls d H'') H' Q') act hc (by
    show LamX.TTold X.K CS ret tl H Q
    exact h)
  exact ⟨t, ht, hq⟩
end
theorem told1_of {P : Program} {w : World} {K : PySem.W.Frag} {mg : Str → Option Value} {base : Heap} {c : Ct} {x a e ret : Str} {params : Arguments} {scope : Scope} {f : Addr} {fd : FuncData} {j : Nat} {p1 p2 p3 p4 p5 p6 p7 p8 : Pos} {sub : Str → Str → Bool} {qs : List Str} {Ng : List Str}
    (F : FunD K x x params [.Try [.Return (some (.Call (.Name a p1) [] [] p2)) p3] [.ExceptHandler (some (.Name e p4)) none [.Return (some (.Constant (.str ret) j p5)) p6] p7] [] [] p8] scope [] [] f fd)
    (hm : mg x = some (.ref f)) (b : Binds K fd [a] []) (S : FnScope Ng [a] scope) (h0 : Ng[0]? = some a) (hv : Vis scope a) (ha : (a == ("__debug__" : Str)) = false) (ha2 : (a == ("__classdict__" : Str)) = false)
    (hge : scope.names.lookup e = some .globalImplicit) (hme : mg e = some (.ref (c.cls e))) (hde : (e == ("__debug__" : Str)) = false)
    (hs : ∀ f : Addr, (L2.start Ng [V.ref f])[0]? = some (some (V.ref f))) (ex : ExmOk K c sub qs [(e, ret)]) : Told P w K mg base c x sub qs [(e, ret)] := by
  refine ⟨fun X q h1 h2 h3 h4 h5 => ?_, ex⟩
  subst h1 h2 h3 h4 h5
  obtain ⟨oc, od, dV, kV, doc, pm, an, cdv, ct, osl, rfl, lk, hcd, _, _⟩ := F.ex
  exact ⟨a, f, params, _, scope, dV, kV, doc, pm, cdv, ct, oc, an, od, osl, Ng, hm, F.kp, lk, hcd, b, S, h0, hv, told1_gives hge hme hde hs, ha, ha2⟩
end Y

set_option Elab.async false
set_option linter.all false
set_option maxRecDepth 100000
set_option maxHeartbeats 2000000
/-! Y21: small things for the generator. -/
namespace Y
open PySem PySem.Spec PyProof.Rows L2
def notInS (a : Str) : Nat → Bool := fun n => (Builtin.Str.occurrences a ⟨#[n]⟩ 0 a.length 1).isEmpty
/-- a generator's scope that captures nothing -/
def genSB (scope : Scope) (x : Str) : Bool :=
  decide (scope.kind = .function) && (!scope.isCoroutine && (scope.names.all (fun y => !decide (y.2 = .cell) && !decide (y.2 = .free)) && (decide (scope.names.lookup (".0" : Str) = some NameKind.local) && decide (scope.names.lookup x = some NameKind.local))))
theorem genS_by {env : Env} {scope : Scope} {x : Str} (h : genSB scope x = true) : GxR.GenS env scope x := by
  unfold genSB at h
  simp only [Bool.and_eq_true, Bool.not_eq_true', decide_eq_true_eq, decide_eq_false_iff_not, List.all_eq_true] at h
  obtain ⟨h1, h2, h3, h4, h5⟩ := h
  exact ⟨h1, h2, fun y hy => (h3 y hy).1, h4, h5, fun y hy e => absurd e (h3 y hy).2⟩
/-- a lambda's names within a comprehension's block -/
theorem lamS_blk {sc scope D : Scope} {cl : List (Str × Addr)} {C : Addr} {env : Env} (e : env.scope = D) (h : LamX.lamSB (relS sc D) scope = true) : LamX.LamS (compEnvC sc cl C env).scope scope := by
  subst e
  exact LamX.lamS_by h
section
variable {P : Program} {w : World} {K : PySem.W.Frag} {mg : Str → Option Value} {base : Heap} {N : List Str} {qual : Str} {scope : Scope} {f : Addr} {cdv : Value} {A : Around} {outer : List Env} {s : Shared} {H : Hp} {E : XK} {pn : List (Addr × Obj)}
theorem flTr : Fl (cxTr P w K mg base N qual scope f cdv A outer s H E pn) E := fl_of rfl rfl takesTr
end
theorem flL {X : Cx} {A : Around} {outer : List Env} {s : Shared} {H : Hp} {E : XK} {scope : Scope} {f c' : Addr} : Fl (LamX.lamCx X A outer s H E scope f c') E := fl_of rfl rfl (takes_of rfl rfl rfl rfl)
theorem tabs_starts {H : Hp} {T : List (Addr × Str)} (h : ∀ p ∈ T, H p.1 = some (.tbl #[])) : LamX.Tabs T H := fun p hp => LamX.TabS.nil (h p hp)
end Y
namespace Y
open PySem
theorem ne_dec {a b : Addr} (h : (!decide (a = b)) = true) : a ≠ b := by simpa using h
end Y

set_option Elab.async false
set_option linter.all false
set_option maxRecDepth 100000
set_option maxHeartbeats 2000000
/-! Y22: what is wanted to reckon the mirror out, further. -/
namespace Y
open PySem PySem.Spec PyProof.Rows L2
theorem atI_of {α : Type} {l : List α} {i : Int} {d : α} (h : 0 ≤ i) (e : l[i.toNat]? = some d) : atI l i = some d := by
  have hl := (List.getElem?_eq_some_iff.mp e).1
  unfold atI
  rw [ixN_nat h (by omega)]
  exact e
section
variable {S : Sr} {l : List D} {k : Int} {d : D} {i : Nat}
theorem ixT (h : 0 ≤ k) (e : l[k.toNat]? = some d) : dIx (.tup l) (.int k) S = .ok d S := by
  have a := atI_of h e
  simp [dIx, orF, ixSeq, itemsD, a]
theorem ixK (h : 0 ≤ k) (e : l[k.toNat]? = some d) : dIx (.ktp l) (.int k) S = .ok d S := by
  have a := atI_of h e
  simp [dIx, orF, ixSeq, itemsD, a]
theorem ixL (hs : S.f i = some (.lst l)) (h : 0 ≤ k) (e : l[k.toNat]? = some d) : dIx (.adr i) (.int k) S = .ok d S := by
  have a := atI_of h e
  simp [dIx, orF, ixSeq, itemsD, a, hs]
theorem ixT0 {a : D} : dIx (.tup (a :: l)) (.int 0) S = .ok a S := ixT (by decide) rfl
theorem ixT1 {a b : D} : dIx (.tup (a :: b :: l)) (.int 1) S = .ok b S := ixT (by decide) rfl
theorem ixL0 {a : D} (hs : S.f i = some (.lst (a :: l))) : dIx (.adr i) (.int 0) S = .ok a S := ixL hs (by decide) rfl
theorem ixL1 {a b : D} (hs : S.f i = some (.lst (a :: b :: l))) : dIx (.adr i) (.int 1) S = .ok b S := ixL hs (by decide) rfl
end
section
variable {t : MT} {b : MS} {k : Nat} {g g' : Gm} {q : Str} {d : D} {S S1 S2 : Sr}
theorem wl_succ : whileG t b (k + 1) g S = toRST (t g S) fun v S1 => if v = true then (match b g S1 with
      | .nx g' S' => whileG t b k g' S'
      | .ct g' S' => whileG t b k g' S'
      | .bk g' S' => .nx g' S'
      | .rt v S' => .rt v S'
      | .ex q S' => .ex q S'
      | .bad => .bad) else .nx g S1 := rfl
theorem wl_nx (h : t g S = .ok true S1) (hb : b g S1 = .nx g' S2) : whileG t b (k + 1) g S = whileG t b k g' S2 := by
  rw [wl_succ, h]
  simp only [toRST, hb, if_true]
theorem wl_ex (h : t g S = .ok true S1) (hb : b g S1 = .ex q S2) : whileG t b (k + 1) g S = .ex q S2 := by
  rw [wl_succ, h]
  simp only [toRST, hb, if_true]
theorem wl_end (h : t g S = .ok false S1) : whileG t b (k + 1) g S = .nx g S1 := by
  rw [wl_succ, h]
  simp only [toRST, Bool.false_eq_true, if_false]
end
section
variable {a b : MS} {g g' : Gm} {S S' : Sr} {q : Str} {d : D}
theorem sq_nx (h : a g S = .nx g' S') : mSeq a b g S = b g' S' := by unfold mSeq; rw [h]
theorem sq_ex (h : a g S = .ex q S') : mSeq a b g S = .ex q S' := by unfold mSeq; rw [h]
theorem sq_rt (h : a g S = .rt d S') : mSeq a b g S = .rt d S' := by unfold mSeq; rw [h]
end
section
variable {N : Nat} {b : MS} {l : List D} {g : Gm} {S S' : Sr} {q : Str} {d : D}
theorem fn_rt (h : b (l.map some ++ List.replicate (N - l.length) none) S = .rt d S') : mFun N b l S = .ok d S' := by unfold mFun; rw [h]
theorem fn_nx (h : b (l.map some ++ List.replicate (N - l.length) none) S = .nx g S') : mFun N b l S = .ok .non S' := by unfold mFun; rw [h]
theorem fn_ex (h : b (l.map some ++ List.replicate (N - l.length) none) S = .ex q S') : mFun N b l S = .exc q S' := by unfold mFun; rw [h]
end
section
variable {sr : Src} {step : D → MS} {r i n j : Nat} {g g' : Gm} {S S' S1 S2 : Sr} {d y : D} {q : Str} {l acc : List D}
theorem nx_sqa (h : S.f j = some (.lst l)) : (sqa j n).nxt i S = some l[i]? := by
  show (match S.f j with
    | some (.lst l) => some l[i]?
    | _ => none) = _
  rw [h]
theorem fo_nx (h : sr.nxt i S = some (some d)) (e : step d g S = .nx g' S') : forG sr step (r + 1) i g S = forG sr step r (i + 1) g' S' := by
  show (match sr.nxt i S with
    | some none => RS.nx g S
    | some (some d) => (match step d g S with
      | .nx g' S' => forG sr step r (i + 1) g' S'
      | .ct g' S' => forG sr step r (i + 1) g' S'
      | .bk g' S' => .nx g' S'
      | .rt v S' => .rt v S'
      | .ex q S' => .ex q S'
      | .bad => .bad)
    | none => .bad) = _
  rw [h]
  dsimp only
  rw [e]
theorem fo_ex (h : sr.nxt i S = some (some d)) (e : step d g S = .ex q S') : forG sr step (r + 1) i g S = .ex q S' := by
  show (match sr.nxt i S with
    | some none => RS.nx g S
    | some (some d) => (match step d g S with
      | .nx g' S' => forG sr step r (i + 1) g' S'
      | .ct g' S' => forG sr step r (i + 1) g' S'
      | .bk g' S' => .nx g' S'
      | .rt v S' => .rt v S'
      | .ex q S' => .ex q S'
      | .bad => .bad)
    | none => .bad) = _
  rw [h]
  dsimp only
  rw [e]
theorem fo_end (h : sr.nxt i S = some none) : forG sr step 0 i g S = .nx g S := by
  show (match sr.nxt i S with
    | some none => RS.nx g S
    | _ => .bad) = _
  rw [h]
variable {t : Tg} {mt : MT} {me : ME} {g0 : Gm} {D0 : Nat}
theorem lc_nx (h : sr.nxt i S = some (some d)) (ht : t.put d g0 = some g) (e1 : mt g S = .ok true S1) (e2 : me g S1 = .ok y S2) (e3 : S2.f D0 = some (.lst acc)) (hz : acc.length < sizeLine) : lcG sr t mt me g0 D0 (r + 1) i S = lcG sr t mt me g0 D0 r (i + 1) (S2.put D0 (.lst (acc ++ [y]))) := by
  conv => lhs; unfold lcG
  rw [h]
  dsimp only
  rw [ht]
  dsimp only
  rw [e1]
  dsimp only
  rw [e2]
  dsimp only
  rw [e3]
  dsimp only
  rw [if_pos hz]
theorem lc_skip (h : sr.nxt i S = some (some d)) (ht : t.put d g0 = some g) (e1 : mt g S = .ok false S1) : lcG sr t mt me g0 D0 (r + 1) i S = lcG sr t mt me g0 D0 r (i + 1) S1 := by
  conv => lhs; unfold lcG
  rw [h]
  dsimp only
  rw [ht]
  dsimp only
  rw [e1]
theorem lc_exc (h : sr.nxt i S = some (some d)) (ht : t.put d g0 = some g) (e1 : mt g S = .ok true S1) (e2 : me g S1 = .exc q S2) : lcG sr t mt me g0 D0 (r + 1) i S = .exc q S2 := by
  conv => lhs; unfold lcG
  rw [h]
  dsimp only
  rw [ht]
  dsimp only
  rw [e1]
  dsimp only
  rw [e2]
theorem lc_end (h : sr.nxt i S = some none) : lcG sr t mt me g0 D0 0 i S = .ok () S := by
  unfold lcG
  rw [h]
theorem put_same {x : MO} (h : S.f j = some x) : S.put j x = S := by
  unfold Sr.put
  have e : (fun k => if k = j then some x else S.f k) = S.f := by
    funext k
    by_cases hk : k = j
    · rw [if_pos hk, hk, h]
    · rw [if_neg hk]
  rw [e]
theorem mFor_of {src : MI} {t : MG} {b : MS} (h : src g S = .ok sr S1) : mFor src t b g S = forG sr (mStep t b) sr.n 0 g S1 := by
  unfold mFor
  rw [h]
theorem mLc_exc {src : MI} {vs : List Nat} (h : src g S = .ok sr S1) (hl : lcG sr t mt me (wipeD g vs) S1.n sr.n 0 (S1.alloc (.lst [])) = .exc q S2) : mLc src t mt me vs g S = .exc q S2 := by
  unfold mLc SM.bind
  rw [h]
  dsimp only
  rw [hl]
end
/-- only new objects -/
structure Xt (S S' : Sr) : Prop where
  le : S.n ≤ S'.n
  eq : ∀ j, j < S.n → S'.f j = S.f j
section
variable {S S1 S2 S' : Sr} {i : Nat} {x : MO}
theorem Xt.refl (S : Sr) : Xt S S := ⟨Nat.le_refl _, fun _ _ => rfl⟩
theorem Xt.trans (a : Xt S S1) (b : Xt S1 S2) : Xt S S2 := ⟨Nat.le_trans a.le b.le, fun j h => (b.eq j (Nat.lt_of_lt_of_le h a.le)).trans (a.eq j h)⟩
theorem Xt.alloc : Xt S (S.alloc x) := ⟨Nat.le_succ _, fun j h => if_neg (Nat.ne_of_lt h)⟩
theorem Xt.alloc' (a : Xt S S') : Xt S (S'.alloc x) := a.trans Xt.alloc
theorem Xt.put (a : Xt S S') (h : S.n ≤ i) : Xt S (S'.put i x) := ⟨a.le, fun j hj => (if_neg (by omega)).trans (a.eq j hj)⟩
theorem Xt.at_ (a : Xt S S') (h : S.f i = some x) (hl : i < S.n) : S'.f i = some x := (a.eq i hl).trans h
theorem at_new : (S.alloc x).f S.n = some x := if_pos rfl
theorem at_old {y : MO} (h : S.f i = some x) (hl : i < S.n) : (S.alloc y).f i = some x := (if_neg (Nat.ne_of_lt hl)).trans h
theorem at_put : (S.put i x).f i = some x := if_pos rfl
theorem at_put_ne {j : Nat} {y : MO} (h : S.f i = some x) (hl : i ≠ j) : (S.put j y).f i = some x := (if_neg hl).trans h
end
end Y

set_option Elab.async false
set_option linter.all false
set_option maxRecDepth 100000
namespace K11
open PySem PySem.Spec PyProof.Rows L2 Y
def subT : Str → Str → Bool := fun a b => decide (a = b)
def qsT : List Str := ["CodeError"]
def clT : Tcl := [("CodeError", "CodeError")]
def K_DIGITS : D := .str "0123456789"
def K_INSTRUCTIONS : D := .ktp [.str "halt", .str "set", .str "load", .str "store", .str "add", .str "sub", .str "and", .str "xor", .str "jump", .str "zero", .str "less", .str "out", .str "in", .str "half", .str "from", .str "to"]
def K_JUMPS : D := .ktp [.str "jump", .str "zero", .str "less"]
def K_LETTERS : D := .str "abcdefghijklmnopqrstuvwxyz"
def K_PLAIN : D := .ktp [.str "halt", .str "out", .str "in", .str "half"]
def N_Size___init__ : List Str := ["self", "data", "code"]
def b_Size___init__ : MS := (mSeq (mIfS (mOr (mNot (mTB (mChain dLe dLe (mC (.int 2)) (mVar 1) (mC (.int 8))))) (mNot (mTB (mChain dLe dLe (mC (.int 2)) (mVar 2) (mC (.int 8)))))) (mRaise "CodeError") mPass)
  (mSeq (mFld ["Size"] "data" (mVar 0) (mVar 1))
  (mFld ["Size"] "code" (mVar 0) (mVar 2))))
def f_Size___init__ : List D → SM D := mFun 3 b_Size___init__
def N_check_instruction : List Str := ["row", "size", "bits"]
def b_check_instruction : MS := (mSeq (mIfS (mOr (mTB (mB dNe (mCB fLen (mCons (mVar 0) mNil)) (mC (.int 2)))) (mOr (mTB (mB (dIn true) (mB dIx (mVar 0) (mC (.int 0))) (mC K_INSTRUCTIONS))) (mNot (mTB (mU (fIsi "int") (mB dIx (mVar 0) (mC (.int 1)))))))) (mRaise "CodeError") mPass)
  (mSeq (mSet 2 (mIf (mTB (mB (dIn false) (mB dIx (mVar 0) (mC (.int 0))) (mC K_PLAIN))) (mC (.int 0)) (mIf (mTB (mB (dIn false) (mB dIx (mVar 0) (mC (.int 0))) (mC K_JUMPS))) (mAttr ["Size"] "code" (mVar 1)) (mAttr ["Size"] "data" (mVar 1)))))
  (mIfS (mNot (mTB (mChain dLe dLt (mC (.int 0)) (mB dIx (mVar 0) (mC (.int 1))) (mB dShl (mC (.int 1)) (mVar 2))))) (mRaise "CodeError") mPass)))
def f_check_instruction : List D → SM D := mFun 3 b_check_instruction
def N_check_label : List Str := ["name", "sign"]
def b_check_label : MS := (mIfS (mOr (mTB (mB dEq (mVar 0) (mC (.str "")))) (mOr (mTB (mB dGt (mCB fLen (mCons (mVar 0) mNil)) (mC (.int 20)))) (mOr (mTB (mAnyS (notInS (("abcdefghijklmnopqrstuvwxyz" : PySem.Str) ++ ("0123456789" : PySem.Str))) (mVar 0))) (mTB (mB (dIn false) (mB dIx (mVar 0) (mC (.int 0))) (mC K_DIGITS)))))) (mRaise "CodeError") mPass)
def f_check_label : List D → SM D := mFun 2 b_check_label
def N_line_parts : List Str := ["line", "words", "names", "name"]
def b_line_parts_L37 : MS := (mSeq (mSet 3 (mSl slD (mBM "list" fPopAt (mVar 1) (mCons (mC (.int 0)) mNil)) oNo (oE (mU dNeg (mC (.int 1))))))
  (mSeq (mDrop (mCall f_check_label 1 [] (mCons (mVar 3) mNil)))
  (mDrop (mBM "list" fApp (mVar 2) (mCons (mVar 3) mNil)))))
def b_line_parts : MS := (mSeq (mPar 1 2 (mCons (mBM "str" fWords (mB dIx (mBM "str" fPart (mVar 0) (mCons (mC (.str "//")) mNil)) (mC (.int 0))) mNil) (mCons (mLst mNil) mNil)))
  (mSeq (whileG (mAnd (mTB (mB dNe (mVar 1) (mLst mNil))) (mTB (mBM "str" (fTxB Txt.endswith) (mB dIx (mVar 1) (mC (.int 0))) (mCons (mC (.str ":")) mNil)))) b_line_parts_L37 FU)
  (mRet (mTup (mCons (mVar 2) (mCons (mVar 1) mNil))))))
def f_line_parts : List D → SM D := mFun 4 b_line_parts
def N_instruction_of : List Str := ["words", "places", "word", "sign"]
def b_instruction_of : MS := (mSeq (mSet 2 (mB dIx (mVar 0) (mC (.int 0))))
  (mSeq (mIfS (mOr (mTB (mB (dIn true) (mVar 2) (mC K_INSTRUCTIONS))) (mTB (mB dNe (mCB fLen (mCons (mVar 0) mNil)) (mIf (mTB (mB (dIn false) (mVar 2) (mC K_PLAIN))) (mC (.int 1)) (mC (.int 2)))))) (mRaise "CodeError") mPass)
  (mSeq (mIfS (mTB (mB (dIn false) (mVar 2) (mC K_PLAIN))) (mRet (mTup (mCons (mVar 2) (mCons (mC (.int 0)) mNil)))) mPass)
  (mSeq (mIfS (mAnd (mTB (mB (dIn false) (mVar 2) (mC K_JUMPS))) (mTB (mB (dIn false) (mB dIx (mVar 0) (mC (.int 1))) (mVar 1)))) (mRet (mTup (mCons (mVar 2) (mCons (mB dIx (mVar 1) (mB dIx (mVar 0) (mC (.int 1)))) mNil)))) mPass)
  (mSeq (mIfS (mOr (mTB (mB dGt (mCB fLen (mCons (mB dIx (mVar 0) (mC (.int 1))) mNil)) (mC (.int 3)))) (mTB (mAnyS (notInS "0123456789") (mB dIx (mVar 0) (mC (.int 1)))))) (mRaise "CodeError") mPass)
  (mRet (mTup (mCons (mVar 2) (mCons (mCB fInt (mCons (mB dIx (mVar 0) (mC (.int 1))) mNil)) mNil)))))))))
def f_instruction_of : List D → SM D := mFun 4 b_instruction_of
def N_assemble : List Str := ["text", "size", "places", "rows", "line", "names", "words", "name", "found", "row"]
def b_assemble_L49 : MS := (mSeq (mIfS (mTB (mB (dIn false) (mVar 7) (mVar 2))) (mRaise "CodeError") mPass)
  (mAsg (mCB fLen (mCons (mVar 3) mNil)) (gSub' (mVar 2) (mVar 7))))
def b_assemble_L47 : MS := (mSeq (mAsg (mCall f_line_parts 1 [] (mCons (mVar 4) mNil)) (gTp 2 (gCn (gNm 5) (gCn (gNm 6) gNl))))
  (mSeq (mFor (mSrc (mVar 5)) (gNm 7) b_assemble_L49)
  (mIfS (mTB (mB dNe (mVar 6) (mLst mNil))) (mDrop (mBM "list" fApp (mVar 3) (mCons (mVar 6) mNil))) mPass)))
def b_assemble_L58 : MS := (mDrop (mCall f_check_instruction 2 [] (mCons (mVar 9) (mCons (mVar 1) mNil))))
def b_assemble : MS := (mSeq (mAsg (mTup (mCons mEmp (mCons (mLst mNil) mNil))) (gTp 2 (gCn (gNm 2) (gCn (gNm 3) gNl))))
  (mSeq (mFor (mSrc (mBM "str" fSplit (mVar 0) (mCons (mC (.str "\n")) mNil))) (gNm 4) b_assemble_L47)
  (mSeq (mSet 8 (mLc (mSrc (mVar 3)) (.nm 6) mYes (mCall f_instruction_of 2 [] (mCons (mVar 6) (mCons (mVar 2) mNil))) [6]))
  (mSeq (mIfS (mTB (mB dGt (mCB fLen (mCons (mVar 8) mNil)) (mB dShl (mC (.int 1)) (mAttr ["Size"] "code" (mVar 1))))) (mRaise "CodeError") mPass)
  (mSeq (mFor (mSrc (mVar 8)) (gNm 9) b_assemble_L58)
  (mRet (mCB fTuple (mCons (mVar 8) mNil))))))))
def f_assemble : List D → SM D := mFun 10 b_assemble
def N_listing : List Str := ["code", "goals", "lines", "place", "word", "number", "name", "rest", "row"]
def b_listing_L75 : MS := (mSeq (mSet 6 (mIf (mTB (mB (dIn false) (mVar 3) (mVar 1))) (mJs [(mC (.str "p")), (mFmt (mVar 3)), (mC (.str ": "))] PySem.Str.empty) (mC (.str ""))))
  (mSeq (mIfS (mTB (mB (dIn false) (mVar 4) (mC K_JUMPS))) (mSet 7 (mIf (mTB (mB dLt (mVar 5) (mCB fLen (mCons (mVar 0) mNil)))) (mJs [(mC (.str " p")), (mFmt (mVar 5))] PySem.Str.empty) (mJs [(mC (.str " ")), (mFmt (mVar 5))] PySem.Str.empty))) (mSet 7 (mIf (mTB (mB (dIn false) (mVar 4) (mC K_PLAIN))) (mC (.str "")) (mJs [(mC (.str " ")), (mFmt (mVar 5))] PySem.Str.empty))))
  (mDrop (mBM "list" fApp (mVar 2) (mCons (mJs [(mFmt (mVar 6)), (mFmt (mVar 4)), (mFmt (mVar 7)), (mC (.str "\n"))] PySem.Str.empty) mNil)))))
def b_listing : MS := (mSeq (mSet 1 (mDc (mSrc (mVar 0)) (.nm 8) (mTB (mB (dIn false) (mB dIx (mVar 8) (mC (.int 0))) (mC K_JUMPS))) (mB dIx (mVar 8) (mC (.int 1))) (mC (.bl true)) [8]))
  (mSeq (mSet 2 (mLst mNil))
  (mSeq (mFor (mEnu (mCons (mVar 0) mNil)) (gTp 2 (gCn (gNm 3) (gCn (gTp 2 (gCn (gNm 4) (gCn (gNm 5) gNl))) gNl))) b_listing_L75)
  (mRet (mBM "str" fJoin (mC (.str "")) (mCons (mVar 2) mNil))))))
def f_listing : List D → SM D := mFun 9 b_listing
def N__law_dice : List Str := ["cell"]
def b__law_dice : MS := (mSeq (mIfS (mTB (mChain dLt dLt (mB dSub (mC (.int 0)) (mC (.int 10))) (mVar 0) (mC (.int 10)))) (mRet (mLst (mCons (mCB fAbs (mCons (mVar 0) mNil)) (mCons (mC (.int 0)) (mCons (mC (.int 2)) mNil))))) mPass)
  (mRet (mLst (mCons (mVar 0) (mCons (mB dAdd (mC (.int 1)) (mB dMod (mCB fInt (mCons (mVar 0) mNil)) (mC (.int 1009)))) (mCons (mCB fInt (mCons (mB dGe (mVar 0) (mB dPow (mC (.int 10)) (mC (.int 18)))) mNil)) mNil))))))
def f__law_dice : List D → SM D := mFun 1 b__law_dice
def N__law_roll : List Str := ["dice", "many", "found"]
def b__law_roll : MS := (mSeq (mIfS (mOr (mTB (mB dEq (mB dIx (mVar 0) (mC (.int 2))) (mC (.int 2)))) (mAnd (mTB (mB dEq (mB dIx (mVar 0) (mC (.int 2))) (mC (.int 1)))) (mTB (mB dGt (mB dIx (mVar 0) (mC (.int 0))) (mC (.int 0)))))) (mSeq (mSet 2 (mB dMod (mCB fInt (mCons (mB dIx (mVar 0) (mC (.int 0))) mNil)) (mVar 1)))
  (mSeq (mAsg (mB dFdiv (mB dIx (mVar 0) (mC (.int 0))) (mVar 1)) (gSub' (mVar 0) (mC (.int 0))))
  (mRet (mVar 2)))) mPass)
  (mSeq (mAsg (mC (.int 0)) (gSub' (mVar 0) (mC (.int 2))))
  (mSeq (mIfS (mTB (mB dGt (mVar 1) (mC (.int 100000000)))) (mRet (mB dMod (mCB fInt (mCons (mB dAdd (mB dMulS mBad (mC (.int 100000000))) mBad) mNil)) (mVar 1))) mPass)
  (mSeq (mAsg (mB dMod (mCB fInt (mCons (mB dAdd (mB dAdd (mB dMulS (mB dIx (mVar 0) (mC (.int 0))) (mC (.int 48271))) (mB dMulS (mB dIx (mVar 0) (mC (.int 1))) (mC (.int 69621)))) (mC (.int 11))) mNil)) (mC (.int 2147483647))) (gSub' (mVar 0) (mC (.int 0))))
  (mSeq (mAsg (mB dAdd (mB dIx (mVar 0) (mC (.int 1))) (mC (.int 1))) (gSub' (mVar 0) (mC (.int 1))))
  (mRet (mB dMod (mCB fInt (mCons (mB dFdiv (mB dIx (mVar 0) (mC (.int 0))) (mC (.int 7))) mNil)) (mVar 1))))))))
def f__law_roll : List D → SM D := mFun 3 b__law_roll
def N__law_rounds : List Str := ["script", "most", "cells", "cell"]
def b__law_rounds : MS := (mSeq (mSet 2 (mSl slD (mVar 0) oNo (oE (mVar 1))))
  (mSeq (mIfS (mTB (mB dEq (mVar 2) (mLst mNil))) (mSet 2 (mLst (mCons (mC (.int 0)) mNil))) mPass)
  (mRet (mLc (mSrc (mVar 2)) (.nm 3) mYes (mCall f__law_dice 1 [] (mCons (mVar 3) mNil)) [3]))))
def f__law_rounds : List D → SM D := mFun 4 b__law_rounds
def N_law : List Str := ["script", "dice", "data", "code", "size", "many", "rows", "lines", "places", "k", "word", "names", "blank", "j", "number", "named", "text", "goals", "bad", "full", "line", "row"]
def b_law_s111 : MS := (mPar 2 3 (mCons (mB dAdd (mC (.int 2)) (mCall f__law_roll 2 [] (mCons (mVar 1) (mCons (mC (.int 7)) mNil)))) (mCons (mB dAdd (mC (.int 5)) (mCall f__law_roll 2 [] (mCons (mVar 1) (mCons (mC (.int 4)) mNil)))) mNil)))
def b_law_s112 : MS := (mAsg (mTup (mCons (mMake "Size" f_Size___init__ 3 [] (mCons (mVar 2) (mCons (mVar 3) mNil))) (mCons (mB dAdd (mC (.int 1)) (mCall f__law_roll 2 [] (mCons (mVar 1) (mCons (mC (.int 20)) mNil)))) mNil))) (gTp 2 (gCn (gNm 4) (gCn (gNm 5) gNl))))
def b_law_s113 : MS := (mAsg (mTup (mCons (mLst mNil) (mCons (mLst mNil) (mCons (mLc (mRng1 (mCons (mC (.int 3)) mNil)) (.nm 9) mYes (mCall f__law_roll 2 [] (mCons (mVar 1) (mCons (mB dAdd (mVar 5) (mC (.int 1))) mNil))) [9]) mNil)))) (gTp 3 (gCn (gNm 6) (gCn (gNm 7) (gCn (gNm 8) gNl)))))
def b_law_s115 : MS := (mSet 10 (mB dIx (mC K_INSTRUCTIONS) (mCall f__law_roll 2 [] (mCons (mVar 1) (mCons (mC (.int 16)) mNil)))))
def b_law_s116 : MS := (mSet 11 (mBM "str" fJoin (mC (.str "")) (mCons (mLc (mRng1 (mCons (mC (.int 3)) mNil)) (.nm 13) (mTB (mB dEq (mB dIx (mVar 8) (mVar 13)) (mVar 9))) (mB dAdd (mB dAdd (mC (.str "x")) (mCB fStr (mCons (mVar 13) mNil))) (mC (.str ": "))) [13]) mNil)))
def b_law_s117 : MS := (mSet 12 (mB dIx (mLst (mCons (mC (.str "")) (mCons (mC (.str "  ")) (mCons (mC (.str "// note\n")) mNil)))) (mCall f__law_roll 2 [] (mCons (mVar 1) (mCons (mC (.int 3)) mNil)))))
def b_law_s119 : MS := (mDrop (mBM "list" fApp (mVar 6) (mCons (mTup (mCons (mVar 10) (mCons (mC (.int 0)) mNil))) mNil)))
def b_law_s120 : MS := (mDrop (mBM "list" fApp (mVar 7) (mCons (mB dAdd (mB dAdd (mB dAdd (mVar 12) (mVar 11)) (mVar 10)) (mB dIx (mLst (mCons (mC (.str "")) (mCons (mC (.str " // x")) mNil))) (mCall f__law_roll 2 [] (mCons (mVar 1) (mCons (mC (.int 2)) mNil))))) mNil)))
def b_law_s122 : MS := (mPar 13 14 (mCons (mCall f__law_roll 2 [] (mCons (mVar 1) (mCons (mC (.int 3)) mNil))) (mCons (mCall f__law_roll 2 [] (mCons (mVar 1) (mCons (mB dAdd (mVar 5) (mC (.int 1))) mNil))) mNil)))
def b_law_s123 : MS := (mSet 15 (mB dEq (mCall f__law_roll 2 [] (mCons (mVar 1) (mCons (mC (.int 2)) mNil))) (mC (.int 0))))
def b_law_s124 : MS := (mDrop (mBM "list" fApp (mVar 6) (mCons (mTup (mCons (mVar 10) (mCons (mIf (mTB (mVar 15)) (mB dIx (mVar 8) (mVar 13)) (mVar 14)) mNil))) mNil)))
def b_law_s125 : MS := (mDrop (mBM "list" fApp (mVar 7) (mCons (mB dAdd (mB dAdd (mB dAdd (mB dAdd (mVar 12) (mVar 11)) (mVar 10)) (mC (.str "  "))) (mIf (mTB (mVar 15)) (mB dAdd (mC (.str "x")) (mCB fStr (mCons (mVar 13) mNil))) (mCB fStr (mCons (mVar 14) mNil)))) mNil)))
def b_law_s127 : MS := (mSet 14 (mCall f__law_roll 2 [] (mCons (mVar 1) (mCons (mB dShl (mC (.int 1)) (mVar 2)) mNil))))
def b_law_s128 : MS := (mDrop (mBM "list" fApp (mVar 6) (mCons (mTup (mCons (mVar 10) (mCons (mVar 14) mNil))) mNil)))
def b_law_s129 : MS := (mDrop (mBM "list" fApp (mVar 7) (mCons (mB dAdd (mB dAdd (mB dAdd (mVar 11) (mVar 10)) (mC (.str " "))) (mCB fStr (mCons (mVar 14) mNil))) mNil)))
def b_law_s121 : MS := (mIfS (mTB (mB (dIn false) (mVar 10) (mLst (mCons (mC (.str "jump")) (mCons (mC (.str "zero")) (mCons (mC (.str "less")) mNil)))))) (mSeq b_law_s122
  (mSeq b_law_s123
  (mSeq b_law_s124
  b_law_s125))) (mSeq b_law_s127
  (mSeq b_law_s128
  b_law_s129)))
def b_law_s118 : MS := (mIfS (mTB (mB (dIn false) (mVar 10) (mLst (mCons (mC (.str "halt")) (mCons (mC (.str "out")) (mCons (mC (.str "in")) (mCons (mC (.str "half")) mNil))))))) (mSeq b_law_s119
  b_law_s120) b_law_s121)
def b_law_L114 : MS := (mSeq b_law_s115
  (mSeq b_law_s116
  (mSeq b_law_s117
  b_law_s118)))
def b_law_s114 : MS := (mFor (mRng1 (mCons (mVar 5) mNil)) (gNm 9) b_law_L114)
def b_law_s130 : MS := (mSet 16 (mB dAdd (mB dAdd (mBM "str" fJoin (mC (.str "\n")) (mCons (mVar 7) mNil)) (mC (.str "\n"))) (mBM "str" fJoin (mC (.str "")) (mCons (mLc (mRng1 (mCons (mC (.int 3)) mNil)) (.nm 13) (mTB (mB dEq (mB dIx (mVar 8) (mVar 13)) (mVar 5))) (mB dAdd (mB dAdd (mC (.str "x")) (mCB fStr (mCons (mVar 13) mNil))) (mC (.str ":\n"))) [13]) mNil))))
def b_law_s132 : MS := (mRet (mC (.bl false)))
def b_law_s131 : MS := (mIfS (mOr (mTB (mB dNe (mCB fList (mCons (mCall f_assemble 2 [] (mCons (mVar 16) (mCons (mVar 4) mNil))) mNil)) (mVar 6))) (mOr (mTB (mB dNe (mCB fList (mCons (mCall f_assemble 2 [] (mCons (mCall f_listing 1 [] (mCons (mVar 6) mNil)) (mCons (mVar 4) mNil))) mNil)) (mVar 6))) (mTB (mB dNe (mLc (mSrc (mSl slD (mBM "str" fSplit (mCall f_listing 1 [] (mCons (mVar 6) mNil)) (mCons (mC (.str "\n")) mNil)) oNo (oE (mU dNeg (mC (.int 1)))))) (.nm 20) (mTB (mB dEq (mB dIx (mCall f_line_parts 1 [] (mCons (mVar 20) mNil)) (mC (.int 1))) (mLst mNil))) (mVar 20) [20]) (mLst mNil))))) b_law_s132 mPass)
def b_law_s133 : MS := (mSet 17 (mCB fSortD (mCons (mCB fDict (mCons (mLc (mSrc (mVar 6)) (.nm 21) (mAnd (mTB (mB (dIn false) (mB dIx (mVar 21) (mC (.int 0))) (mLst (mCons (mC (.str "jump")) (mCons (mC (.str "zero")) (mCons (mC (.str "less")) mNil)))))) (mTB (mB dLt (mB dIx (mVar 21) (mC (.int 1))) (mVar 5)))) (mTup (mCons (mB dIx (mVar 21) (mC (.int 1))) (mCons (mC (.int 1)) mNil))) [21]) mNil)) mNil)))
def b_law_s135 : MS := (mRet (mC (.bl false)))
def b_law_s134 : MS := (mIfS (mTB (mB dNe (mLc (mEnu (mCons (mSl slD (mBM "str" fSplit (mCall f_listing 1 [] (mCons (mVar 6) mNil)) (mCons (mC (.str "\n")) mNil)) oNo (oE (mU dNeg (mC (.int 1))))) mNil)) (.tp [9, 20]) (mTB (mB dNe (mB dIx (mCall f_line_parts 1 [] (mCons (mVar 20) mNil)) (mC (.int 0))) (mIf (mTB (mB (dIn false) (mVar 9) (mVar 17))) (mLst (mCons (mB dAdd (mC (.str "p")) (mCB fStr (mCons (mVar 9) mNil))) mNil)) (mLst mNil)))) (mVar 9) [9, 20]) (mLst mNil))) b_law_s135 mPass)
def b_law_s136 : MS := (mSet 18 (mLst (mCons (mC (.str "fly")) (mCons (mC (.str "set")) (mCons (mC (.str "set x0")) (mCons (mC (.str "out 1")) (mCons (mC (.str "jump zz")) (mCons (mC (.str "set 1 2")) (mCons (mC (.str "x0: out")) (mCons (mC (.str "set 1000")) (mCons (mC (.str "set -1")) (mCons (mC (.str "X: out")) (mCons (mB dAdd (mC (.str "set ")) (mCB fStr (mCons (mB dShl (mC (.int 1)) (mVar 2)) mNil))) (mCons (mC (.str ": out")) (mCons (mC (.str "9a: out")) (mCons (mB dAdd (mC (.str "jump ")) (mCB fStr (mCons (mB dShl (mC (.int 1)) (mVar 3)) mNil))) (mCons (mB dAdd (mB dMulS (mC (.str "a")) (mC (.int 21))) (mC (.str ": out"))) mNil)))))))))))))))))
def b_law_s138 : MS := (mRet (mC (.bl false)))
def b_law_s137 : MS := (mIfS (mTB (mB dNe (mLc (mSrc (mVar 18)) (.nm 20) (mTB (mB dNe (mTold subT qsT clT (mCall f_assemble 2 [] (mCons (mB dAdd (mB dAdd (mB dAdd (mVar 16) (mVar 20)) (mB dMulS (mC (.str "\nx0:\n")) (mCB fInt (mCons (mB dEq (mVar 20) (mC (.str "x0: out"))) mNil)))) (mC (.str "\n"))) (mCons (mVar 4) mNil)))) (mC (.str "CodeError")))) (mVar 20) [20]) (mLst mNil))) b_law_s138 mPass)
def b_law_s139 : MS := (mSet 19 (mB dMulS (mC (.str "out\n")) (mB dShl (mC (.int 1)) (mVar 3))))
def b_law_s141 : MS := (mRet (mC (.bl false)))
def b_law_s140 : MS := (mIfS (mOr (mTB (mB dNe (mCB fLen (mCons (mCall f_assemble 2 [] (mCons (mVar 19) (mCons (mVar 4) mNil))) mNil)) (mB dShl (mC (.int 1)) (mVar 3)))) (mTB (mB dNe (mTold subT qsT clT (mCall f_assemble 2 [] (mCons (mB dAdd (mVar 19) (mC (.str "out\n"))) (mCons (mVar 4) mNil)))) (mC (.str "CodeError"))))) b_law_s141 mPass)
def b_law_L110 : MS := (mSeq b_law_s111
  (mSeq b_law_s112
  (mSeq b_law_s113
  (mSeq b_law_s114
  (mSeq b_law_s130
  (mSeq b_law_s131
  (mSeq b_law_s133
  (mSeq b_law_s134
  (mSeq b_law_s136
  (mSeq b_law_s137
  (mSeq b_law_s139
  b_law_s140)))))))))))
def b_law_s110 : MS := (mFor (mSrc (mCall f__law_rounds 2 [] (mCons (mVar 0) (mCons (mC (.int 1)) mNil)))) (gNm 1) b_law_L110)
def b_law_s143 : MS := (mRet (mC (.bl false)))
def b_law_s142 : MS := (mIfS (mOr (mTB (mB dNe (mCall f_line_parts 1 [] (mCons (mC (.str "a: b:  set 3 // x")) mNil)) (mTup (mCons (mLst (mCons (mC (.str "a")) (mCons (mC (.str "b")) mNil))) (mCons (mLst (mCons (mC (.str "set")) (mCons (mC (.str "3")) mNil))) mNil))))) (mOr (mTB (mB dNe (mCall f_instruction_of 2 [] (mCons (mLst (mCons (mC (.str "jump")) (mCons (mC (.str "a")) mNil))) (mCons (mDisp (((mC (.str "a")), (mC (.int 4))) :: [])) mNil))) (mTup (mCons (mC (.str "jump")) (mCons (mC (.int 4)) mNil))))) (mOr (mTB (mB (dIs true) (mCall f_check_label 1 [] (mCons (mC (.str "a1")) mNil)) (mC .non))) (mTB (mB dNe (mCall f_assemble 2 [] (mCons (mC (.str "")) (mCons (mMake "Size" f_Size___init__ 3 [] (mCons (mC (.int 2)) (mCons (mC (.int 2)) mNil))) mNil))) (mTup mNil)))))) b_law_s143 mPass)
def b_law_s144 : MS := (mRet (mB dEq (mCall f_listing 1 [] (mCons (mTup (mCons (mTup (mCons (mC (.str "jump")) (mCons (mC (.int 1)) mNil))) (mCons (mTup (mCons (mC (.str "out")) (mCons (mC (.int 0)) mNil))) (mCons (mTup (mCons (mC (.str "zero")) (mCons (mC (.int 9)) mNil))) mNil)))) mNil)) (mC (.str "jump p1\np1: out\nzero 9\n"))))
def b_law : MS := (mSeq b_law_s110
  (mSeq b_law_s142
  b_law_s144))
def f_law : List D → SM D := mFun 22 b_law
end K11

set_option Elab.async false
set_option linter.all false
set_option maxRecDepth 100000
set_option maxHeartbeats 1000000
namespace K11
open PySem PySem.Spec PyProof.Rows L2 Y
def top (i : Nat) : Stmt := PySem.Challenge.pw_chipstack_k11_code_as_lines.main.body.getD i (.Pass ⟨0, 0, 0, 0⟩)
structure Fx (K : PySem.W.Frag) (mg : Str → Option Value) (c : Ct) : Prop where
  triv : True
  a_code : Att c K ["Size"] "code"
  a_data : Att c K ["Size"] "data"
  b_abs : mg "abs" = none
  b_any : mg "any" = none
  b_dict : mg "dict" = none
  b_enumerate : mg "enumerate" = none
  b_int : mg "int" = none
  b_isinstance : mg "isinstance" = none
  b_len : mg "len" = none
  b_list : mg "list" = none
  b_range : mg "range" = none
  b_sorted : mg "sorted" = none
  b_str : mg "str" = none
  b_tuple : mg "tuple" = none
  g_DIGITS : GK mg c "DIGITS" K_DIGITS
  g_INSTRUCTIONS : GK mg c "INSTRUCTIONS" K_INSTRUCTIONS
  g_JUMPS : GK mg c "JUMPS" K_JUMPS
  g_LETTERS : GK mg c "LETTERS" K_LETTERS
  g_PLAIN : GK mg c "PLAIN" K_PLAIN
  x_CodeError : Exo K mg c "CodeError"
theorem k_Size___init__ {P : Program} {w : World} {K : PySem.W.Frag} {mg : Str → Option Value} {base : Heap} {cls : Str → Addr} {T : List (Addr × Str)} (F : Fx K mg (Ct.mk K cls T))  {f : Addr} {cdv : Value} {A : Around} {outer : List Env} {s : Shared} {H : Hp} {E : XK}
    (hr : Room 0 (A.deeper (envOfC "Size.__init__" (defScope (inClass (top 8) 0)) s.heap.objs.size f cdv))) :
    PSs (cxOf (L2.CX P w) P w K mg base N_Size___init__ "Size.__init__" (defScope (inClass (top 8) 0)) f cdv A outer s H E) (defBody (inClass (top 8) 0)) (rdS (Ct.mk K cls T) E b_Size___init__) := by
  have nd : (N_Size___init__).Nodup := by decide +kernel
  have tk : Takes (cxOf (L2.CX P w) P w K mg base N_Size___init__ "Size.__init__" (defScope (inClass (top 8) 0)) f cdv A outer s H E) (fun cls d _ H => E cls d H) := takes_of rfl rfl rfl rfl
  have hx := passesT tk
  have hp : PassesOwn _ _ _ (cxOf (L2.CX P w) P w K mg base N_Size___init__ "Size.__init__" (defScope (inClass (top 8) 0)) f cdv A outer s H E).xe := passes_of rfl
  have hu : (A.deeper (envOfC "Size.__init__" (defScope (inClass (top 8) 0)) s.heap.objs.size f cdv)).units + 1 < cLine := Nat.lt_of_le_of_lt (Nat.add_le_add_left (show 1 ≤ 64 by decide) _) hr.units
  exact (qss_cons (qs_if (qt_pw (qw_or (qt_not (qt_chain op_le snd_le op_le snd_le pure_okB qe_int (qe_var (pv 1)) qe_int)) (qw_or1 (qt_not (qt_chain op_le snd_le op_le snd_le pure_okB qe_int (qe_var (pv 2)) qe_int))))) (qss_one (qs_raise F.x_CodeError rfl tk rfl)) qss_nil)
    (qss_cons (qs_fld F.a_data (qe_var (pv 0)) (qe_var (pv 1)) rfl)
    (qss_one (qs_fld F.a_code (qe_var (pv 0)) (qe_var (pv 2)) rfl))))
theorem s_Size___init__ : FnScope N_Size___init__ ["self", "data", "code"] (defScope (inClass (top 8) 0)) := ⟨rfl, rfl, rfl, by decide +kernel, rfl, by decide +kernel, by decide +kernel⟩
theorem k_check_instruction {P : Program} {w : World} {K : PySem.W.Frag} {mg : Str → Option Value} {base : Heap} {cls : Str → Addr} {T : List (Addr × Str)} (F : Fx K mg (Ct.mk K cls T))  {f : Addr} {cdv : Value} {A : Around} {outer : List Env} {s : Shared} {H : Hp} {E : XK}
    (hr : Room 0 (A.deeper (envOfC "check_instruction" (defScope (top 9)) s.heap.objs.size f cdv))) :
    PSs (cxOf (L2.CX P w) P w K mg base N_check_instruction "check_instruction" (defScope (top 9)) f cdv A outer s H E) (defBody (top 9)) (rdS (Ct.mk K cls T) E b_check_instruction) := by
  have nd : (N_check_instruction).Nodup := by decide +kernel
  have tk : Takes (cxOf (L2.CX P w) P w K mg base N_check_instruction "check_instruction" (defScope (top 9)) f cdv A outer s H E) (fun cls d _ H => E cls d H) := takes_of rfl rfl rfl rfl
  have hx := passesT tk
  have hp : PassesOwn _ _ _ (cxOf (L2.CX P w) P w K mg base N_check_instruction "check_instruction" (defScope (top 9)) f cdv A outer s H E).xe := passes_of rfl
  have hu : (A.deeper (envOfC "check_instruction" (defScope (top 9)) s.heap.objs.size f cdv)).units + 1 < cLine := Nat.lt_of_le_of_lt (Nat.add_le_add_left (show 1 ≤ 64 by decide) _) hr.units
  exact (qss_cons (qs_if (qt_pw (qw_or (qt_cmp (op_neD hr.units) snd_ne (qe_cb (pe_callB call_lenA rfl F.b_len boot_len (qa_cons (qe_var (pv 0)) qa_nil)) snd_len) qe_int rfl) (qw_or (qt_cmp (op_notinA hu) snd_in (qe_ix (ix_A hu) snd_ix (qe_var (pv 0)) qe_int (fun _ _ => rfl)) (qe_gk F.g_INSTRUCTIONS rfl) rfl) (qw_or1 (qt_not (qt_val (qe_isi rfl rfl F.b_isinstance boot_isinstance (qe_ix (ix_A hu) snd_ix (qe_var (pv 0)) qe_int (fun _ _ => rfl)) (pe_bltn rfl F.b_int boot_int rfl)))))))) (qss_one (qs_raise F.x_CodeError rfl tk rfl)) qss_nil)
    (qss_cons (qs_set (i := 2) nd rfl (.inl rfl) (qe_if (qt_cmp (op_inA hu) snd_in (qe_ix (ix_A hu) snd_ix (qe_var (pv 0)) qe_int (fun _ _ => rfl)) (qe_gk F.g_PLAIN rfl) rfl) qe_int (qe_if (qt_cmp (op_inA hu) snd_in (qe_ix (ix_A hu) snd_ix (qe_var (pv 0)) qe_int (fun _ _ => rfl)) (qe_gk F.g_JUMPS rfl) rfl) (qe_attr F.a_code (qe_var (pv 1)) rfl) (qe_attr F.a_data (qe_var (pv 1)) rfl))))
    (qss_one (qs_if (qt_not (qt_chain op_le snd_le op_lt snd_lt pure_okB qe_int (qe_ix (ix_A hu) snd_ix (qe_var (pv 0)) qe_int (fun _ _ => rfl)) (qe_bin op_shl snd_shl qe_int (qe_var (pv 2))))) (qss_one (qs_raise F.x_CodeError rfl tk rfl)) qss_nil))))
theorem s_check_instruction : FnScope N_check_instruction ["row", "size"] (defScope (top 9)) := ⟨rfl, rfl, rfl, by decide +kernel, rfl, by decide +kernel, by decide +kernel⟩
theorem k_check_label {P : Program} {w : World} {K : PySem.W.Frag} {mg : Str → Option Value} {base : Heap} {cls : Str → Addr} {T : List (Addr × Str)} (F : Fx K mg (Ct.mk K cls T))  {f : Addr} {cdv : Value} {A : Around} {outer : List Env} {s : Shared} {H : Hp} {E : XK} {cc Pt : Addr} (TB : LamX.TabB base mg cc Pt) (hcd : cdv = .ref cc) (hmT : (Pt, (("check_label.<locals>." : Str) ++ ("<genexpr>" : Str))) ∈ T) (huT : ∀ p ∈ T, p.1 = Pt → p.2 = (("check_label.<locals>." : Str) ++ ("<genexpr>" : Str)))
    (hr : Room 0 (A.deeper (envOfC "check_label" (defScope (top 14)) s.heap.objs.size f cdv))) :
    PSs (cxOf (L2.CX P w) P w K mg base N_check_label "check_label" (defScope (top 14)) f cdv A outer s H E) (defBody (top 14)) (rdS (Ct.mk K cls T) E b_check_label) := by
  have nd : (N_check_label).Nodup := by decide +kernel
  have tk : Takes (cxOf (L2.CX P w) P w K mg base N_check_label "check_label" (defScope (top 14)) f cdv A outer s H E) (fun cls d _ H => E cls d H) := takes_of rfl rfl rfl rfl
  have hx := passesT tk
  have hp : PassesOwn _ _ _ (cxOf (L2.CX P w) P w K mg base N_check_label "check_label" (defScope (top 14)) f cdv A outer s H E).xe := passes_of rfl
  have hu : (A.deeper (envOfC "check_label" (defScope (top 14)) s.heap.objs.size f cdv)).units + 1 < cLine := Nat.lt_of_le_of_lt (Nat.add_le_add_left (show 1 ≤ 64 by decide) _) hr.units
  exact (qss_one (qs_if (qt_pw (qw_or (qt_cmp (op_eqD hr.units) snd_eq (qe_var (pv 0)) qe_str rfl) (qw_or (qt_cmp op_gt snd_gt (qe_cb (pe_callB call_lenA rfl F.b_len boot_len (qa_cons (qe_var (pv 0)) qa_nil)) snd_len) qe_int rfl) (qw_or (qt_val (qe_anyS hr rfl F.b_any TB hcd hmT huT (genS_by (show genSB _ _ = true from by decide +kernel)) (qe_var (pv 0)) (eg_notIn (a := (("abcdefghijklmnopqrstuvwxyz" : PySem.Str) ++ ("0123456789" : PySem.Str))) rfl rfl (tg_add (tg_g rfl rfl F.g_LETTERS) (tg_g rfl rfl F.g_DIGITS))))) (qw_or1 (qt_cmp (op_inA hu) snd_in (qe_ix (ix_A hu) snd_ix (qe_var (pv 0)) qe_int (fun _ _ => rfl)) (qe_gk F.g_DIGITS rfl) rfl)))))) (qss_one (qs_raise F.x_CodeError rfl tk rfl)) qss_nil))
theorem s_check_label : FnScope N_check_label ["name"] (defScope (top 14)) := ⟨rfl, rfl, rfl, by decide +kernel, rfl, by decide +kernel, by decide +kernel⟩
theorem k_line_parts {P : Program} {w : World} {K : PySem.W.Frag} {mg : Str → Option Value} {base : Heap} {cls : Str → Addr} {T : List (Addr × Str)} (F : Fx K mg (Ct.mk K cls T)) (G_check_label : Gfn P w K mg base (Ct.mk K cls T) 1 "check_label" 1 [] f_check_label) {f : Addr} {cdv : Value} {A : Around} {outer : List Env} {s : Shared} {H : Hp} {E : XK}
    (hr : Room 1 (A.deeper (envOfC "line_parts" (defScope (top 13)) s.heap.objs.size f cdv))) :
    PSs (cxOf (L2.CX P w) P w K mg base N_line_parts "line_parts" (defScope (top 13)) f cdv A outer s H E) (defBody (top 13)) (rdS (Ct.mk K cls T) E b_line_parts) := by
  have nd : (N_line_parts).Nodup := by decide +kernel
  have tk : Takes (cxOf (L2.CX P w) P w K mg base N_line_parts "line_parts" (defScope (top 13)) f cdv A outer s H E) (fun cls d _ H => E cls d H) := takes_of rfl rfl rfl rfl
  have hx := passesT tk
  have hp : PassesOwn _ _ _ (cxOf (L2.CX P w) P w K mg base N_line_parts "line_parts" (defScope (top 13)) f cdv A outer s H E).xe := passes_of rfl
  have hu : (A.deeper (envOfC "line_parts" (defScope (top 13)) s.heap.objs.size f cdv)).units + 1 < cLine := Nat.lt_of_le_of_lt (Nat.add_le_add_left (show 1 ≤ 64 by decide) _) hr.units
  exact (qss_cons (qs_par rfl nd rfl rfl (by decide) rfl rfl (qa_cons (qe_bm0 rfl PySem.F.plainAttrs_str PySem.F.slot_str_split PySem.F.type_str_split mt_words snd_words (qe_ix (ix_A hu) snd_ix (qe_bm rfl PySem.F.plainAttrs_str PySem.F.slot_str_partition PySem.F.type_str_partition mt_partition snd_part (qe_var (pv 0)) (qa_cons qe_str qa_nil)) qe_int (fun _ _ => rfl))) (qa_cons (qe_lst qa_nil) qa_nil)) rfl)
    (qss_cons (qs_while FU hp (qt_pw (qw_and (qt_cmp (op_neD hr.units) snd_ne (qe_var (pv 1)) (qe_lst qa_nil) rfl) (qw_and1 (qt_val (qe_bm rfl PySem.F.plainAttrs_str PySem.F.slot_str_endswith PySem.F.type_str_endswith mt_endswith snd_txB (qe_ix (ix_A hu) snd_ix (qe_var (pv 1)) qe_int (fun _ _ => rfl)) (qa_cons qe_str qa_nil)))))) (qss_cons (qs_set (i := 3) nd rfl (.inl rfl) (qe_sl rfl (qe_bm rfl PySem.F.plainAttrs_list PySem.F.slot_list_pop PySem.F.type_list_pop mt_popAt snd_popAt (qe_var (pv 1)) (qa_cons qe_int qa_nil)) qo_no (qo_e (qe_un un_neg snd_neg qe_int))))
    (qss_cons (qs_expr (qe_call G_check_label (hr.mono (by omega)) rfl hx (qa_cons (qe_var (pv 3)) qa_nil)))
    (qss_one (qs_expr (qe_bm rfl PySem.F.plainAttrs_list PySem.F.slot_list_append PySem.F.type_list_append mt_append snd_append (qe_var (pv 2)) (qa_cons (qe_var (pv 3)) qa_nil)))))))
    (qss_one (qs_ret (qe_tup (qa_cons (qe_var (pv 2)) (qa_cons (qe_var (pv 1)) qa_nil)))))))
theorem s_line_parts : FnScope N_line_parts ["line"] (defScope (top 13)) := ⟨rfl, rfl, rfl, by decide +kernel, rfl, by decide +kernel, by decide +kernel⟩
theorem k_instruction_of {P : Program} {w : World} {K : PySem.W.Frag} {mg : Str → Option Value} {base : Heap} {cls : Str → Addr} {T : List (Addr × Str)} (F : Fx K mg (Ct.mk K cls T))  {f : Addr} {cdv : Value} {A : Around} {outer : List Env} {s : Shared} {H : Hp} {E : XK} {cc Pt : Addr} (TB : LamX.TabB base mg cc Pt) (hcd : cdv = .ref cc) (hmT : (Pt, (("instruction_of.<locals>." : Str) ++ ("<genexpr>" : Str))) ∈ T) (huT : ∀ p ∈ T, p.1 = Pt → p.2 = (("instruction_of.<locals>." : Str) ++ ("<genexpr>" : Str)))
    (hr : Room 0 (A.deeper (envOfC "instruction_of" (defScope (top 16)) s.heap.objs.size f cdv))) :
    PSs (cxOf (L2.CX P w) P w K mg base N_instruction_of "instruction_of" (defScope (top 16)) f cdv A outer s H E) (defBody (top 16)) (rdS (Ct.mk K cls T) E b_instruction_of) := by
  have nd : (N_instruction_of).Nodup := by decide +kernel
  have tk : Takes (cxOf (L2.CX P w) P w K mg base N_instruction_of "instruction_of" (defScope (top 16)) f cdv A outer s H E) (fun cls d _ H => E cls d H) := takes_of rfl rfl rfl rfl
  have hx := passesT tk
  have hp : PassesOwn _ _ _ (cxOf (L2.CX P w) P w K mg base N_instruction_of "instruction_of" (defScope (top 16)) f cdv A outer s H E).xe := passes_of rfl
  have hu : (A.deeper (envOfC "instruction_of" (defScope (top 16)) s.heap.objs.size f cdv)).units + 1 < cLine := Nat.lt_of_le_of_lt (Nat.add_le_add_left (show 1 ≤ 64 by decide) _) hr.units
  exact (qss_cons (qs_set (i := 2) nd rfl (.inl rfl) (qe_ix (ix_A hu) snd_ix (qe_var (pv 0)) qe_int (fun _ _ => rfl)))
    (qss_cons (qs_if (qt_pw (qw_or (qt_cmp (op_notinA hu) snd_in (qe_var (pv 2)) (qe_gk F.g_INSTRUCTIONS rfl) rfl) (qw_or1 (qt_cmp (op_neD hr.units) snd_ne (qe_cb (pe_callB call_lenA rfl F.b_len boot_len (qa_cons (qe_var (pv 0)) qa_nil)) snd_len) (qe_if (qt_cmp (op_inA hu) snd_in (qe_var (pv 2)) (qe_gk F.g_PLAIN rfl) rfl) qe_int qe_int) rfl)))) (qss_one (qs_raise F.x_CodeError rfl tk rfl)) qss_nil)
    (qss_cons (qs_if (qt_cmp (op_inA hu) snd_in (qe_var (pv 2)) (qe_gk F.g_PLAIN rfl) rfl) (qss_one (qs_ret (qe_tup (qa_cons (qe_var (pv 2)) (qa_cons qe_int qa_nil))))) qss_nil)
    (qss_cons (qs_if (qt_pw (qw_and (qt_cmp (op_inA hu) snd_in (qe_var (pv 2)) (qe_gk F.g_JUMPS rfl) rfl) (qw_and1 (qt_cmp (op_inA hu) snd_in (qe_ix (ix_A hu) snd_ix (qe_var (pv 0)) qe_int (fun _ _ => rfl)) (qe_var (pv 1)) rfl)))) (qss_one (qs_ret (qe_tup (qa_cons (qe_var (pv 2)) (qa_cons (qe_ix (ix_A hu) snd_ix (qe_var (pv 1)) (qe_ix (ix_A hu) snd_ix (qe_var (pv 0)) qe_int (fun _ _ => rfl)) (fun _ _ => rfl)) qa_nil))))) qss_nil)
    (qss_cons (qs_if (qt_pw (qw_or (qt_cmp op_gt snd_gt (qe_cb (pe_callB call_lenA rfl F.b_len boot_len (qa_cons (qe_ix (ix_A hu) snd_ix (qe_var (pv 0)) qe_int (fun _ _ => rfl)) qa_nil)) snd_len) qe_int rfl) (qw_or1 (qt_val (qe_anyS hr rfl F.b_any TB hcd hmT huT (genS_by (show genSB _ _ = true from by decide +kernel)) (qe_ix (ix_A hu) snd_ix (qe_var (pv 0)) qe_int (fun _ _ => rfl)) (eg_notIn (a := "0123456789") rfl rfl (tg_g rfl rfl F.g_DIGITS))))))) (qss_one (qs_raise F.x_CodeError rfl tk rfl)) qss_nil)
    (qss_one (qs_ret (qe_tup (qa_cons (qe_var (pv 2)) (qa_cons (qe_cb (pe_callTy call_intA rfl F.b_int boot_int (qa_cons (qe_ix (ix_A hu) snd_ix (qe_var (pv 0)) qe_int (fun _ _ => rfl)) qa_nil)) snd_int) qa_nil))))))))))
theorem s_instruction_of : FnScope N_instruction_of ["words", "places"] (defScope (top 16)) := ⟨rfl, rfl, rfl, by decide +kernel, rfl, by decide +kernel, by decide +kernel⟩
theorem k_assemble {P : Program} {w : World} {K : PySem.W.Frag} {mg : Str → Option Value} {base : Heap} {cls : Str → Addr} {T : List (Addr × Str)} (F : Fx K mg (Ct.mk K cls T)) (G_line_parts : Gfn P w K mg base (Ct.mk K cls T) 2 "line_parts" 1 [] f_line_parts) (G_instruction_of : Gfn P w K mg base (Ct.mk K cls T) 1 "instruction_of" 2 [] f_instruction_of) (G_check_instruction : Gfn P w K mg base (Ct.mk K cls T) 1 "check_instruction" 2 [] f_check_instruction) {f : Addr} {cdv : Value} {A : Around} {outer : List Env} {s : Shared} {H : Hp} {E : XK}
    (hr : Room 2 (A.deeper (envOfC "assemble" (defScope (top 15)) s.heap.objs.size f cdv))) :
    PSs (cxOf (L2.CX P w) P w K mg base N_assemble "assemble" (defScope (top 15)) f cdv A outer s H E) (defBody (top 15)) (rdS (Ct.mk K cls T) E b_assemble) := by
  have nd : (N_assemble).Nodup := by decide +kernel
  have tk : Takes (cxOf (L2.CX P w) P w K mg base N_assemble "assemble" (defScope (top 15)) f cdv A outer s H E) (fun cls d _ H => E cls d H) := takes_of rfl rfl rfl rfl
  have hx := passesT tk
  have hp : PassesOwn _ _ _ (cxOf (L2.CX P w) P w K mg base N_assemble "assemble" (defScope (top 15)) f cdv A outer s H E).xe := passes_of rfl
  have hu : (A.deeper (envOfC "assemble" (defScope (top 15)) s.heap.objs.size f cdv)).units + 1 < cLine := Nat.lt_of_le_of_lt (Nat.add_le_add_left (show 1 ≤ 64 by decide) _) hr.units
  exact (qss_cons (qs_asg (qe_tup (qa_cons qe_emp (qa_cons (qe_lst qa_nil) qa_nil))) (qg_tup rfl rfl (qgs_cons (qg_name nd rfl (.inr rfl)) (qgs_cons (qg_name nd rfl (.inl rfl)) qgs_nil))))
    (qss_cons (qs_for hp rfl (qi_seq rfl (qe_bm rfl PySem.F.plainAttrs_str PySem.F.slot_str_split PySem.F.type_str_split mt_split snd_split (qe_var (pv 0)) (qa_cons qe_str qa_nil))) (qg_name nd rfl (.inl rfl)) (qss_cons (qs_asg (qe_call G_line_parts (hr.mono (by omega)) rfl hx (qa_cons (qe_var (pv 4)) qa_nil)) (qg_tup rfl rfl (qgs_cons (qg_name nd rfl (.inl rfl)) (qgs_cons (qg_name nd rfl (.inl rfl)) qgs_nil))))
    (qss_cons (qs_for hp rfl (qi_seq rfl (qe_var (pv 5))) (qg_name nd rfl (.inl rfl)) (qss_cons (qs_if (qt_cmp (op_inA hu) snd_in (qe_var (pv 7)) (qe_var (pv 2)) rfl) (qss_one (qs_raise F.x_CodeError rfl tk rfl)) qss_nil)
    (qss_one (qs_asg (qe_cb (pe_callB call_lenA rfl F.b_len boot_len (qa_cons (qe_var (pv 3)) qa_nil)) snd_len) (qg_sub hu (qe_var (pv 2)) (qe_var (pv 7)) (fun _ => rfl))))))
    (qss_one (qs_if (qt_cmp (op_neD hr.units) snd_ne (qe_var (pv 6)) (qe_lst qa_nil) rfl) (qss_one (qs_expr (qe_bm rfl PySem.F.plainAttrs_list PySem.F.slot_list_append PySem.F.type_list_append mt_append snd_append (qe_var (pv 3)) (qa_cons (qe_var (pv 6)) qa_nil)))) qss_nil)))))
    (qss_cons (qs_setLc (i := 8) (own := [("words", 6)]) (fl_of rfl rfl tk) rfl rfl nd rfl rfl (sw_true rfl rfl rfl rfl) (qi_seq rfl (qe_var (pv 3))) (blkOk_by (show blkC N_assemble (defScope (top 15)) _ _ = true from by decide +kernel)) (fun s1 H1 cl1 fp1 px1 fx1 => (qt_name nd rfl (by first | exact .inl rfl | exact .inr rfl))) (fun s1 H1 cl1 fp1 px1 fx1 => qy_nil) (fun s1 H1 cl1 fp1 px1 fx1 => (qe_call G_instruction_of (hr.mono (by omega)) rfl px1 (qa_cons (qe_var (pv 6)) (qa_cons (qe_var (pv 2)) qa_nil)))))
    (qss_cons (qs_if (qt_cmp op_gt snd_gt (qe_cb (pe_callB call_lenA rfl F.b_len boot_len (qa_cons (qe_var (pv 8)) qa_nil)) snd_len) (qe_bin op_shl snd_shl qe_int (qe_attr F.a_code (qe_var (pv 1)) rfl)) rfl) (qss_one (qs_raise F.x_CodeError rfl tk rfl)) qss_nil)
    (qss_cons (qs_for hp rfl (qi_seq rfl (qe_var (pv 8))) (qg_name nd rfl (.inl rfl)) (qss_one (qs_expr (qe_call G_check_instruction (hr.mono (by omega)) rfl hx (qa_cons (qe_var (pv 9)) (qa_cons (qe_var (pv 1)) qa_nil))))))
    (qss_one (qs_ret (qe_cb (pe_callTy call_tuple_of rfl F.b_tuple boot_tuple (qa_cons (qe_var (pv 8)) qa_nil)) snd_tuple))))))))
theorem s_assemble : FnScope N_assemble ["text", "size"] (defScope (top 15)) := ⟨rfl, rfl, rfl, by decide +kernel, rfl, by decide +kernel, by decide +kernel⟩
theorem k_listing {P : Program} {w : World} {K : PySem.W.Frag} {mg : Str → Option Value} {base : Heap} {cls : Str → Addr} {T : List (Addr × Str)} (F : Fx K mg (Ct.mk K cls T))  {f : Addr} {cdv : Value} {A : Around} {outer : List Env} {s : Shared} {H : Hp} {E : XK}
    (hr : Room 0 (A.deeper (envOfC "listing" (defScope (top 17)) s.heap.objs.size f cdv))) :
    PSs (cxOf (L2.CX P w) P w K mg base N_listing "listing" (defScope (top 17)) f cdv A outer s H E) (defBody (top 17)) (rdS (Ct.mk K cls T) E b_listing) := by
  have nd : (N_listing).Nodup := by decide +kernel
  have tk : Takes (cxOf (L2.CX P w) P w K mg base N_listing "listing" (defScope (top 17)) f cdv A outer s H E) (fun cls d _ H => E cls d H) := takes_of rfl rfl rfl rfl
  have hx := passesT tk
  have hp : PassesOwn _ _ _ (cxOf (L2.CX P w) P w K mg base N_listing "listing" (defScope (top 17)) f cdv A outer s H E).xe := passes_of rfl
  have hu : (A.deeper (envOfC "listing" (defScope (top 17)) s.heap.objs.size f cdv)).units + 1 < cLine := Nat.lt_of_le_of_lt (Nat.add_le_add_left (show 1 ≤ 64 by decide) _) hr.units
  exact (qss_cons (qs_setDc (i := 1) (own := [("row", 8)]) rfl rfl nd rfl rfl (sw_dc rfl rfl rfl rfl) (qi_seq rfl (qe_var (pv 0))) (blkOk_by (show blkC N_listing (defScope (top 17)) _ _ = true from by decide +kernel)) (fun s1 H1 C1 cl1 fp1 => (qt_name nd rfl (by first | exact .inl rfl | exact .inr rfl))) (fun s1 H1 C1 cl1 fp1 => (pts_one (qt_cmp (op_inA hu) snd_in (qe_ix (ix_A hu) snd_ix (qe_var (pv 8)) qe_int (fun _ _ => rfl)) (qe_gk F.g_JUMPS rfl) rfl))) (fun s1 H1 C1 cl1 fp1 => (qe_ix (ix_A hu) snd_ix (qe_var (pv 8)) qe_int (fun _ _ => rfl))) (fun s1 H1 C1 cl1 fp1 => qe_bl))
    (qss_cons (qs_set (i := 2) nd rfl (.inl rfl) (qe_lst qa_nil))
    (qss_cons (qs_for hp rfl (qi_enu rfl rfl F.b_enumerate (qa_cons (qe_var (pv 0)) qa_nil)) (qg_tup rfl rfl (qgs_cons (qg_name nd rfl (.inl rfl)) (qgs_cons (qg_tup rfl rfl (qgs_cons (qg_name nd rfl (.inl rfl)) (qgs_cons (qg_name nd rfl (.inl rfl)) qgs_nil))) qgs_nil))) (qss_cons (qs_set (i := 6) nd rfl (.inl rfl) (qe_if (qt_cmp (op_inA hu) snd_in (qe_var (pv 3)) (qe_var (pv 1)) rfl) (qe_joined (ms := [(mC (.str "p")), (mFmt (mVar 3)), (mC (.str ": "))]) (.cons qe_str (.cons (qe_fmt (qe_var (pv 3))) (.cons qe_str .nil)))) qe_str))
    (qss_cons (qs_if (qt_cmp (op_inA hu) snd_in (qe_var (pv 4)) (qe_gk F.g_JUMPS rfl) rfl) (qss_one (qs_set (i := 7) nd rfl (.inl rfl) (qe_if (qt_cmp op_lt snd_lt (qe_var (pv 5)) (qe_cb (pe_callB call_lenA rfl F.b_len boot_len (qa_cons (qe_var (pv 0)) qa_nil)) snd_len) rfl) (qe_joined (ms := [(mC (.str " p")), (mFmt (mVar 5))]) (.cons qe_str (.cons (qe_fmt (qe_var (pv 5))) .nil))) (qe_joined (ms := [(mC (.str " ")), (mFmt (mVar 5))]) (.cons qe_str (.cons (qe_fmt (qe_var (pv 5))) .nil)))))) (qss_one (qs_set (i := 7) nd rfl (.inl rfl) (qe_if (qt_cmp (op_inA hu) snd_in (qe_var (pv 4)) (qe_gk F.g_PLAIN rfl) rfl) qe_str (qe_joined (ms := [(mC (.str " ")), (mFmt (mVar 5))]) (.cons qe_str (.cons (qe_fmt (qe_var (pv 5))) .nil)))))))
    (qss_one (qs_expr (qe_bm rfl PySem.F.plainAttrs_list PySem.F.slot_list_append PySem.F.type_list_append mt_append snd_append (qe_var (pv 2)) (qa_cons (qe_joined (ms := [(mFmt (mVar 6)), (mFmt (mVar 4)), (mFmt (mVar 7)), (mC (.str "\n"))]) (.cons (qe_fmt (qe_var (pv 6))) (.cons (qe_fmt (qe_var (pv 4))) (.cons (qe_fmt (qe_var (pv 7))) (.cons qe_str .nil))))) qa_nil)))))))
    (qss_one (qs_ret (qe_bm rfl PySem.F.plainAttrs_str PySem.F.slot_str_join PySem.F.type_str_join mt_join snd_join qe_str (qa_cons (qe_var (pv 2)) qa_nil)))))))
theorem s_listing : FnScope N_listing ["code"] (defScope (top 17)) := ⟨rfl, rfl, rfl, by decide +kernel, rfl, by decide +kernel, by decide +kernel⟩
theorem k__law_dice {P : Program} {w : World} {K : PySem.W.Frag} {mg : Str → Option Value} {base : Heap} {cls : Str → Addr} {T : List (Addr × Str)} (F : Fx K mg (Ct.mk K cls T))  {f : Addr} {cdv : Value} {A : Around} {outer : List Env} {s : Shared} {H : Hp} {E : XK}
    (hr : Room 0 (A.deeper (envOfC "_law_dice" (defScope (top 19)) s.heap.objs.size f cdv))) :
    PSs (cxOf (L2.CX P w) P w K mg base N__law_dice "_law_dice" (defScope (top 19)) f cdv A outer s H E) (defBody (top 19)) (rdS (Ct.mk K cls T) E b__law_dice) := by
  have nd : (N__law_dice).Nodup := by decide +kernel
  have tk : Takes (cxOf (L2.CX P w) P w K mg base N__law_dice "_law_dice" (defScope (top 19)) f cdv A outer s H E) (fun cls d _ H => E cls d H) := takes_of rfl rfl rfl rfl
  have hx := passesT tk
  have hp : PassesOwn _ _ _ (cxOf (L2.CX P w) P w K mg base N__law_dice "_law_dice" (defScope (top 19)) f cdv A outer s H E).xe := passes_of rfl
  have hu : (A.deeper (envOfC "_law_dice" (defScope (top 19)) s.heap.objs.size f cdv)).units + 1 < cLine := Nat.lt_of_le_of_lt (Nat.add_le_add_left (show 1 ≤ 64 by decide) _) hr.units
  exact (qss_cons (qs_if (qt_chain op_lt snd_lt op_lt snd_lt pure_okB (qe_bin op_sub snd_sub qe_int qe_int) (qe_var (pv 0)) qe_int) (qss_one (qs_ret (qe_lst (qa_cons (qe_cb (pe_callB call_abs rfl F.b_abs boot_abs (qa_cons (qe_var (pv 0)) qa_nil)) snd_abs) (qa_cons qe_int (qa_cons qe_int qa_nil)))))) qss_nil)
    (qss_one (qs_ret (qe_lst (qa_cons (qe_var (pv 0)) (qa_cons (qe_bin op_addA snd_add qe_int (qe_bin op_mod snd_mod (qe_cb (pe_callTy call_intA rfl F.b_int boot_int (qa_cons (qe_var (pv 0)) qa_nil)) snd_int) qe_int)) (qa_cons (qe_cb (pe_callTy call_intA rfl F.b_int boot_int (qa_cons (qe_cmp op_ge snd_ge (qe_var (pv 0)) (qe_bin op_pow snd_pow qe_int qe_int) rfl) qa_nil)) snd_int) qa_nil)))))))
theorem s__law_dice : FnScope N__law_dice ["cell"] (defScope (top 19)) := ⟨rfl, rfl, rfl, by decide +kernel, rfl, by decide +kernel, by decide +kernel⟩
theorem k__law_roll {P : Program} {w : World} {K : PySem.W.Frag} {mg : Str → Option Value} {base : Heap} {cls : Str → Addr} {T : List (Addr × Str)} (F : Fx K mg (Ct.mk K cls T))  {f : Addr} {cdv : Value} {A : Around} {outer : List Env} {s : Shared} {H : Hp} {E : XK}
    (hr : Room 0 (A.deeper (envOfC "_law_roll" (defScope (top 20)) s.heap.objs.size f cdv))) :
    PSs (cxOf (L2.CX P w) P w K mg base N__law_roll "_law_roll" (defScope (top 20)) f cdv A outer s H E) (defBody (top 20)) (rdS (Ct.mk K cls T) E b__law_roll) := by
  have nd : (N__law_roll).Nodup := by decide +kernel
  have tk : Takes (cxOf (L2.CX P w) P w K mg base N__law_roll "_law_roll" (defScope (top 20)) f cdv A outer s H E) (fun cls d _ H => E cls d H) := takes_of rfl rfl rfl rfl
  have hx := passesT tk
  have hp : PassesOwn _ _ _ (cxOf (L2.CX P w) P w K mg base N__law_roll "_law_roll" (defScope (top 20)) f cdv A outer s H E).xe := passes_of rfl
  have hu : (A.deeper (envOfC "_law_roll" (defScope (top 20)) s.heap.objs.size f cdv)).units + 1 < cLine := Nat.lt_of_le_of_lt (Nat.add_le_add_left (show 1 ≤ 64 by decide) _) hr.units
  exact (qss_cons (qs_if (qt_pw (qw_or (qt_cmp (op_eqD hr.units) snd_eq (qe_ix (ix_A hu) snd_ix (qe_var (pv 0)) qe_int (fun _ _ => rfl)) qe_int rfl) (qw_or1 (qt_pw (qw_and (qt_cmp (op_eqD hr.units) snd_eq (qe_ix (ix_A hu) snd_ix (qe_var (pv 0)) qe_int (fun _ _ => rfl)) qe_int rfl) (qw_and1 (qt_cmp op_gt snd_gt (qe_ix (ix_A hu) snd_ix (qe_var (pv 0)) qe_int (fun _ _ => rfl)) qe_int rfl))))))) (qss_cons (qs_set (i := 2) nd rfl (.inl rfl) (qe_bin op_mod snd_mod (qe_cb (pe_callTy call_intA rfl F.b_int boot_int (qa_cons (qe_ix (ix_A hu) snd_ix (qe_var (pv 0)) qe_int (fun _ _ => rfl)) qa_nil)) snd_int) (qe_var (pv 1))))
    (qss_cons (qs_asg (qe_bin op_fdiv snd_fdiv (qe_ix (ix_A hu) snd_ix (qe_var (pv 0)) qe_int (fun _ _ => rfl)) (qe_var (pv 1))) (qg_sub hu (qe_var (pv 0)) qe_int (fun _ => rfl)))
    (qss_one (qs_ret (qe_var (pv 2)))))) qss_nil)
    (qss_cons (qs_asg qe_int (qg_sub hu (qe_var (pv 0)) qe_int (fun _ => rfl)))
    (qss_cons (qs_if (qt_cmp op_gt snd_gt (qe_var (pv 1)) qe_int rfl) (qss_one (qs_ret (qe_bin op_mod snd_mod (qe_cb (pe_callTy call_intA rfl F.b_int boot_int (qa_cons (qe_bin op_addA snd_add (qe_bin op_mulS snd_mulS qe_bad qe_int) qe_bad) qa_nil)) snd_int) (qe_var (pv 1))))) qss_nil)
    (qss_cons (qs_asg (qe_bin op_mod snd_mod (qe_cb (pe_callTy call_intA rfl F.b_int boot_int (qa_cons (qe_bin op_addA snd_add (qe_bin op_addA snd_add (qe_bin op_mulS snd_mulS (qe_ix (ix_A hu) snd_ix (qe_var (pv 0)) qe_int (fun _ _ => rfl)) qe_int) (qe_bin op_mulS snd_mulS (qe_ix (ix_A hu) snd_ix (qe_var (pv 0)) qe_int (fun _ _ => rfl)) qe_int)) qe_int) qa_nil)) snd_int) qe_int) (qg_sub hu (qe_var (pv 0)) qe_int (fun _ => rfl)))
    (qss_cons (qs_asg (qe_bin op_addA snd_add (qe_ix (ix_A hu) snd_ix (qe_var (pv 0)) qe_int (fun _ _ => rfl)) qe_int) (qg_sub hu (qe_var (pv 0)) qe_int (fun _ => rfl)))
    (qss_one (qs_ret (qe_bin op_mod snd_mod (qe_cb (pe_callTy call_intA rfl F.b_int boot_int (qa_cons (qe_bin op_fdiv snd_fdiv (qe_ix (ix_A hu) snd_ix (qe_var (pv 0)) qe_int (fun _ _ => rfl)) qe_int) qa_nil)) snd_int) (qe_var (pv 1))))))))))
theorem s__law_roll : FnScope N__law_roll ["dice", "many"] (defScope (top 20)) := ⟨rfl, rfl, rfl, by decide +kernel, rfl, by decide +kernel, by decide +kernel⟩
theorem k__law_rounds {P : Program} {w : World} {K : PySem.W.Frag} {mg : Str → Option Value} {base : Heap} {cls : Str → Addr} {T : List (Addr × Str)} (F : Fx K mg (Ct.mk K cls T)) (G__law_dice : Gfn P w K mg base (Ct.mk K cls T) 1 "_law_dice" 1 [] f__law_dice) {f : Addr} {cdv : Value} {A : Around} {outer : List Env} {s : Shared} {H : Hp} {E : XK}
    (hr : Room 1 (A.deeper (envOfC "_law_rounds" (defScope (top 21)) s.heap.objs.size f cdv))) :
    PSs (cxOf (L2.CX P w) P w K mg base N__law_rounds "_law_rounds" (defScope (top 21)) f cdv A outer s H E) (defBody (top 21)) (rdS (Ct.mk K cls T) E b__law_rounds) := by
  have nd : (N__law_rounds).Nodup := by decide +kernel
  have tk : Takes (cxOf (L2.CX P w) P w K mg base N__law_rounds "_law_rounds" (defScope (top 21)) f cdv A outer s H E) (fun cls d _ H => E cls d H) := takes_of rfl rfl rfl rfl
  have hx := passesT tk
  have hp : PassesOwn _ _ _ (cxOf (L2.CX P w) P w K mg base N__law_rounds "_law_rounds" (defScope (top 21)) f cdv A outer s H E).xe := passes_of rfl
  have hu : (A.deeper (envOfC "_law_rounds" (defScope (top 21)) s.heap.objs.size f cdv)).units + 1 < cLine := Nat.lt_of_le_of_lt (Nat.add_le_add_left (show 1 ≤ 64 by decide) _) hr.units
  exact (qss_cons (qs_set (i := 2) nd rfl (.inl rfl) (qe_sl rfl (qe_var (pv 0)) qo_no (qo_e (qe_var (pv 1)))))
    (qss_cons (qs_if (qt_cmp (op_eqD hr.units) snd_eq (qe_var (pv 2)) (qe_lst qa_nil) rfl) (qss_one (qs_set (i := 2) nd rfl (.inl rfl) (qe_lst (qa_cons qe_int qa_nil)))) qss_nil)
    (qss_one (qs_ret (qe_lc (own := [("cell", 3)]) (fl_of rfl rfl tk) rfl rfl nd (qi_seq rfl (qe_var (pv 2))) (blkOk_by (show blkC N__law_rounds (defScope (top 21)) _ _ = true from by decide +kernel)) (fun s1 H1 cl1 fp1 px1 fx1 => (qt_name nd rfl (by first | exact .inl rfl | exact .inr rfl))) (fun s1 H1 cl1 fp1 px1 fx1 => qy_nil) (fun s1 H1 cl1 fp1 px1 fx1 => (qe_call G__law_dice (hr.mono (by omega)) rfl px1 (qa_cons (qe_var (pv 3)) qa_nil))))))))
theorem s__law_rounds : FnScope N__law_rounds ["script", "most"] (defScope (top 21)) := ⟨rfl, rfl, rfl, by decide +kernel, rfl, by decide +kernel, by decide +kernel⟩
theorem k_law {P : Program} {w : World} {K : PySem.W.Frag} {mg : Str → Option Value} {base : Heap} {cls : Str → Addr} {T : List (Addr × Str)} (F : Fx K mg (Ct.mk K cls T)) (G__law_rounds : Gfn P w K mg base (Ct.mk K cls T) 2 "_law_rounds" 2 [] f__law_rounds) (G__law_roll : Gfn P w K mg base (Ct.mk K cls T) 1 "_law_roll" 2 [] f__law_roll) (G_Size___init__ : Gk P w K mg base (Ct.mk K cls T) 1 "Size" 3 [] f_Size___init__) (G_assemble : Gfn P w K mg base (Ct.mk K cls T) 3 "assemble" 2 [] f_assemble) (G_listing : Gfn P w K mg base (Ct.mk K cls T) 1 "listing" 1 [] f_listing) (G_line_parts : Gfn P w K mg base (Ct.mk K cls T) 2 "line_parts" 1 [] f_line_parts) (G_instruction_of : Gfn P w K mg base (Ct.mk K cls T) 1 "instruction_of" 2 [] f_instruction_of) (G_check_label : Gfn P w K mg base (Ct.mk K cls T) 1 "check_label" 1 [] f_check_label) {f : Addr} {cdv : Value} {A : Around} {outer : List Env} {s : Shared} {H : Hp} {E : XK} (hT : Told P w K mg base (Ct.mk K cls T) "_law_told" subT qsT clT) {cc Pt : Addr} (TB : LamX.TabB base mg cc Pt) (hcd : cdv = .ref cc) (hmT : (Pt, (("law.<locals>." : Str) ++ ("<lambda>" : Str))) ∈ T) (huT : ∀ p ∈ T, p.1 = Pt → p.2 = (("law.<locals>." : Str) ++ ("<lambda>" : Str)))
    (hr : Room 5 (A.deeper (envOfC "law" (defScope (top 23)) s.heap.objs.size f cdv))) :
    PSs (cxOf (L2.CX P w) P w K mg base N_law "law" (defScope (top 23)) f cdv A outer s H E) (defBody (top 23)) (rdS (Ct.mk K cls T) E b_law) := by
  have nd : (N_law).Nodup := by decide +kernel
  have tk : Takes (cxOf (L2.CX P w) P w K mg base N_law "law" (defScope (top 23)) f cdv A outer s H E) (fun cls d _ H => E cls d H) := takes_of rfl rfl rfl rfl
  have hx := passesT tk
  have hp : PassesOwn _ _ _ (cxOf (L2.CX P w) P w K mg base N_law "law" (defScope (top 23)) f cdv A outer s H E).xe := passes_of rfl
  have hu : (A.deeper (envOfC "law" (defScope (top 23)) s.heap.objs.size f cdv)).units + 1 < cLine := Nat.lt_of_le_of_lt (Nat.add_le_add_left (show 1 ≤ 64 by decide) _) hr.units
  exact (qss_cons (qs_for hp rfl (qi_seq rfl (qe_call G__law_rounds (hr.mono (by omega)) rfl hx (qa_cons (qe_var (pv 0)) (qa_cons qe_int qa_nil)))) (qg_name nd rfl (.inr rfl)) (qss_cons (qs_par rfl nd rfl rfl (by decide) rfl rfl (qa_cons (qe_bin op_addA snd_add qe_int (qe_call G__law_roll (hr.mono (by omega)) rfl hx (qa_cons (qe_var (pv 1)) (qa_cons qe_int qa_nil)))) (qa_cons (qe_bin op_addA snd_add qe_int (qe_call G__law_roll (hr.mono (by omega)) rfl hx (qa_cons (qe_var (pv 1)) (qa_cons qe_int qa_nil)))) qa_nil)) rfl)
    (qss_cons (qs_asg (qe_tup (qa_cons (qe_make G_Size___init__ (hr.mono (by omega)) rfl hx (qa_cons (qe_var (pv 2)) (qa_cons (qe_var (pv 3)) qa_nil))) (qa_cons (qe_bin op_addA snd_add qe_int (qe_call G__law_roll (hr.mono (by omega)) rfl hx (qa_cons (qe_var (pv 1)) (qa_cons qe_int qa_nil)))) qa_nil))) (qg_tup rfl rfl (qgs_cons (qg_name nd rfl (.inr rfl)) (qgs_cons (qg_name nd rfl (.inr rfl)) qgs_nil))))
    (qss_cons (qs_asg (qe_tup (qa_cons (qe_lst qa_nil) (qa_cons (qe_lst qa_nil) (qa_cons (qe_lc (own := [("k", 9)]) (fl_of rfl rfl tk) rfl rfl nd (qi_rng1 rfl F.b_range (qa_cons qe_int qa_nil)) (blkOk_by (show blkC N_law (defScope (top 23)) _ _ = true from by decide +kernel)) (fun s1 H1 cl1 fp1 px1 fx1 => (qt_name nd rfl (by first | exact .inl rfl | exact .inr rfl))) (fun s1 H1 cl1 fp1 px1 fx1 => qy_nil) (fun s1 H1 cl1 fp1 px1 fx1 => (qe_call G__law_roll (hr.mono (by omega)) rfl px1 (qa_cons (qe_var (pv 1)) (qa_cons (qe_bin op_addA snd_add (qe_var (pv 5)) qe_int) qa_nil))))) qa_nil)))) (qg_tup rfl rfl (qgs_cons (qg_name nd rfl (.inl rfl)) (qgs_cons (qg_name nd rfl (.inl rfl)) (qgs_cons (qg_name nd rfl (.inr rfl)) qgs_nil)))))
    (qss_cons (qs_for hp rfl (qi_rng1 rfl F.b_range (qa_cons (qe_var (pv 5)) qa_nil)) (qg_name nd rfl (.inr rfl)) (qss_cons (qs_set (i := 10) nd rfl (.inl rfl) (qe_ix (ix_A hu) snd_ix (qe_gk F.g_INSTRUCTIONS rfl) (qe_call G__law_roll (hr.mono (by omega)) rfl hx (qa_cons (qe_var (pv 1)) (qa_cons qe_int qa_nil))) (fun _ _ => rfl)))
    (qss_cons (qs_set (i := 11) nd rfl (.inl rfl) (qe_bm rfl PySem.F.plainAttrs_str PySem.F.slot_str_join PySem.F.type_str_join mt_join snd_join qe_str (qa_cons (qe_lc (own := [("j", 13)]) (fl_of rfl rfl tk) rfl rfl nd (qi_rng1 rfl F.b_range (qa_cons qe_int qa_nil)) (blkOk_by (show blkC N_law (defScope (top 23)) _ _ = true from by decide +kernel)) (fun s1 H1 cl1 fp1 px1 fx1 => (qt_name nd rfl (by first | exact .inl rfl | exact .inr rfl))) (fun s1 H1 cl1 fp1 px1 fx1 => (pts_one (qt_cmp (op_eqD hr.units) snd_eq (qe_ix (ix_A hu) snd_ix (qe_var (pv 8)) (qe_var (pv 13)) (fun _ _ => rfl)) (qe_var (pv 9)) rfl))) (fun s1 H1 cl1 fp1 px1 fx1 => (qe_bin op_addA snd_add (qe_bin op_addA snd_add qe_str (qe_cb (pe_callTy call_str_int rfl F.b_str boot_str (qa_cons (qe_var (pv 13)) qa_nil)) snd_str)) qe_str))) qa_nil)))
    (qss_cons (qs_set (i := 12) nd rfl (.inl rfl) (qe_ix (ix_A hu) snd_ix (qe_lst (qa_cons qe_str (qa_cons qe_str (qa_cons qe_str qa_nil)))) (qe_call G__law_roll (hr.mono (by omega)) rfl hx (qa_cons (qe_var (pv 1)) (qa_cons qe_int qa_nil))) (fun _ _ => rfl)))
    (qss_one (qs_if (qt_cmp (op_inA hu) snd_in (qe_var (pv 10)) (qe_lst (qa_cons qe_str (qa_cons qe_str (qa_cons qe_str (qa_cons qe_str qa_nil))))) rfl) (qss_cons (qs_expr (qe_bm rfl PySem.F.plainAttrs_list PySem.F.slot_list_append PySem.F.type_list_append mt_append snd_append (qe_var (pv 6)) (qa_cons (qe_tup (qa_cons (qe_var (pv 10)) (qa_cons qe_int qa_nil))) qa_nil)))
    (qss_one (qs_expr (qe_bm rfl PySem.F.plainAttrs_list PySem.F.slot_list_append PySem.F.type_list_append mt_append snd_append (qe_var (pv 7)) (qa_cons (qe_bin op_addA snd_add (qe_bin op_addA snd_add (qe_bin op_addA snd_add (qe_var (pv 12)) (qe_var (pv 11))) (qe_var (pv 10))) (qe_ix (ix_A hu) snd_ix (qe_lst (qa_cons qe_str (qa_cons qe_str qa_nil))) (qe_call G__law_roll (hr.mono (by omega)) rfl hx (qa_cons (qe_var (pv 1)) (qa_cons qe_int qa_nil))) (fun _ _ => rfl))) qa_nil))))) (qss_one (qs_if (qt_cmp (op_inA hu) snd_in (qe_var (pv 10)) (qe_lst (qa_cons qe_str (qa_cons qe_str (qa_cons qe_str qa_nil)))) rfl) (qss_cons (qs_par rfl nd rfl rfl (by decide) rfl rfl (qa_cons (qe_call G__law_roll (hr.mono (by omega)) rfl hx (qa_cons (qe_var (pv 1)) (qa_cons qe_int qa_nil))) (qa_cons (qe_call G__law_roll (hr.mono (by omega)) rfl hx (qa_cons (qe_var (pv 1)) (qa_cons (qe_bin op_addA snd_add (qe_var (pv 5)) qe_int) qa_nil))) qa_nil)) rfl)
    (qss_cons (qs_set (i := 15) nd rfl (.inl rfl) (qe_cmp (op_eqD hr.units) snd_eq (qe_call G__law_roll (hr.mono (by omega)) rfl hx (qa_cons (qe_var (pv 1)) (qa_cons qe_int qa_nil))) qe_int rfl))
    (qss_cons (qs_expr (qe_bm rfl PySem.F.plainAttrs_list PySem.F.slot_list_append PySem.F.type_list_append mt_append snd_append (qe_var (pv 6)) (qa_cons (qe_tup (qa_cons (qe_var (pv 10)) (qa_cons (qe_if (qt_val (qe_var (pv 15))) (qe_ix (ix_A hu) snd_ix (qe_var (pv 8)) (qe_var (pv 13)) (fun _ _ => rfl)) (qe_var (pv 14))) qa_nil))) qa_nil)))
    (qss_one (qs_expr (qe_bm rfl PySem.F.plainAttrs_list PySem.F.slot_list_append PySem.F.type_list_append mt_append snd_append (qe_var (pv 7)) (qa_cons (qe_bin op_addA snd_add (qe_bin op_addA snd_add (qe_bin op_addA snd_add (qe_bin op_addA snd_add (qe_var (pv 12)) (qe_var (pv 11))) (qe_var (pv 10))) qe_str) (qe_if (qt_val (qe_var (pv 15))) (qe_bin op_addA snd_add qe_str (qe_cb (pe_callTy call_str_int rfl F.b_str boot_str (qa_cons (qe_var (pv 13)) qa_nil)) snd_str)) (qe_cb (pe_callTy call_str_int rfl F.b_str boot_str (qa_cons (qe_var (pv 14)) qa_nil)) snd_str))) qa_nil))))))) (qss_cons (qs_set (i := 14) nd rfl (.inl rfl) (qe_call G__law_roll (hr.mono (by omega)) rfl hx (qa_cons (qe_var (pv 1)) (qa_cons (qe_bin op_shl snd_shl qe_int (qe_var (pv 2))) qa_nil))))
    (qss_cons (qs_expr (qe_bm rfl PySem.F.plainAttrs_list PySem.F.slot_list_append PySem.F.type_list_append mt_append snd_append (qe_var (pv 6)) (qa_cons (qe_tup (qa_cons (qe_var (pv 10)) (qa_cons (qe_var (pv 14)) qa_nil))) qa_nil)))
    (qss_one (qs_expr (qe_bm rfl PySem.F.plainAttrs_list PySem.F.slot_list_append PySem.F.type_list_append mt_append snd_append (qe_var (pv 7)) (qa_cons (qe_bin op_addA snd_add (qe_bin op_addA snd_add (qe_bin op_addA snd_add (qe_var (pv 11)) (qe_var (pv 10))) qe_str) (qe_cb (pe_callTy call_str_int rfl F.b_str boot_str (qa_cons (qe_var (pv 14)) qa_nil)) snd_str)) qa_nil))))))))))))))
    (qss_cons (qs_set (i := 16) nd rfl (.inr rfl) (qe_bin op_addA snd_add (qe_bin op_addA snd_add (qe_bm rfl PySem.F.plainAttrs_str PySem.F.slot_str_join PySem.F.type_str_join mt_join snd_join qe_str (qa_cons (qe_var (pv 7)) qa_nil)) qe_str) (qe_bm rfl PySem.F.plainAttrs_str PySem.F.slot_str_join PySem.F.type_str_join mt_join snd_join qe_str (qa_cons (qe_lc (own := [("j", 13)]) (fl_of rfl rfl tk) rfl rfl nd (qi_rng1 rfl F.b_range (qa_cons qe_int qa_nil)) (blkOk_by (show blkC N_law (defScope (top 23)) _ _ = true from by decide +kernel)) (fun s1 H1 cl1 fp1 px1 fx1 => (qt_name nd rfl (by first | exact .inl rfl | exact .inr rfl))) (fun s1 H1 cl1 fp1 px1 fx1 => (pts_one (qt_cmp (op_eqD hr.units) snd_eq (qe_ix (ix_A hu) snd_ix (qe_var (pv 8)) (qe_var (pv 13)) (fun _ _ => rfl)) (qe_var (pv 5)) rfl))) (fun s1 H1 cl1 fp1 px1 fx1 => (qe_bin op_addA snd_add (qe_bin op_addA snd_add qe_str (qe_cb (pe_callTy call_str_int rfl F.b_str boot_str (qa_cons (qe_var (pv 13)) qa_nil)) snd_str)) qe_str))) qa_nil))))
    (qss_cons (qs_if (qt_pw (qw_or (qt_cmp (op_neD hr.units) snd_ne (qe_cb (pe_callTy call_list_of rfl F.b_list boot_list (qa_cons (qe_call G_assemble (hr.mono (by omega)) rfl hx (qa_cons (qe_var (pv 16)) (qa_cons (qe_var (pv 4)) qa_nil))) qa_nil)) snd_list) (qe_var (pv 6)) rfl) (qw_or (qt_cmp (op_neD hr.units) snd_ne (qe_cb (pe_callTy call_list_of rfl F.b_list boot_list (qa_cons (qe_call G_assemble (hr.mono (by omega)) rfl hx (qa_cons (qe_call G_listing (hr.mono (by omega)) rfl hx (qa_cons (qe_var (pv 6)) qa_nil)) (qa_cons (qe_var (pv 4)) qa_nil))) qa_nil)) snd_list) (qe_var (pv 6)) rfl) (qw_or1 (qt_cmp (op_neD hr.units) snd_ne (qe_lc (own := [("line", 20)]) (fl_of rfl rfl tk) rfl rfl nd (qi_seq rfl (qe_sl rfl (qe_bm rfl PySem.F.plainAttrs_str PySem.F.slot_str_split PySem.F.type_str_split mt_split snd_split (qe_call G_listing (hr.mono (by omega)) rfl hx (qa_cons (qe_var (pv 6)) qa_nil)) (qa_cons qe_str qa_nil)) qo_no (qo_e (qe_un un_neg snd_neg qe_int)))) (blkOk_by (show blkC N_law (defScope (top 23)) _ _ = true from by decide +kernel)) (fun s1 H1 cl1 fp1 px1 fx1 => (qt_name nd rfl (by first | exact .inl rfl | exact .inr rfl))) (fun s1 H1 cl1 fp1 px1 fx1 => (pts_one (qt_cmp (op_eqD hr.units) snd_eq (qe_ix (ix_A hu) snd_ix (qe_call G_line_parts (hr.mono (by omega)) rfl px1 (qa_cons (qe_var (pv 20)) qa_nil)) qe_int (fun _ _ => rfl)) (qe_lst qa_nil) rfl))) (fun s1 H1 cl1 fp1 px1 fx1 => (qe_var (pv 20)))) (qe_lst qa_nil) rfl))))) (qss_one (qs_ret qe_bl)) qss_nil)
    (qss_cons (qs_set (i := 17) nd rfl (.inr rfl) (qe_cb (pe_callB (call_sortedDI rfl) rfl F.b_sorted boot_sorted (qa_cons (qe_cb (pe_callTy (call_dictA rfl) rfl F.b_dict boot_dict (qa_cons (qe_lc (own := [("row", 21)]) (fl_of rfl rfl tk) rfl rfl nd (qi_seq rfl (qe_var (pv 6))) (blkOk_by (show blkC N_law (defScope (top 23)) _ _ = true from by decide +kernel)) (fun s1 H1 cl1 fp1 px1 fx1 => (qt_name nd rfl (by first | exact .inl rfl | exact .inr rfl))) (fun s1 H1 cl1 fp1 px1 fx1 => (pts_one (qt_pw (qw_and (qt_cmp (op_inA hu) snd_in (qe_ix (ix_A hu) snd_ix (qe_var (pv 21)) qe_int (fun _ _ => rfl)) (qe_lst (qa_cons qe_str (qa_cons qe_str (qa_cons qe_str qa_nil)))) rfl) (qw_and1 (qt_cmp op_lt snd_lt (qe_ix (ix_A hu) snd_ix (qe_var (pv 21)) qe_int (fun _ _ => rfl)) (qe_var (pv 5)) rfl)))))) (fun s1 H1 cl1 fp1 px1 fx1 => (qe_tup (qa_cons (qe_ix (ix_A hu) snd_ix (qe_var (pv 21)) qe_int (fun _ _ => rfl)) (qa_cons qe_int qa_nil))))) qa_nil)) snd_dict) qa_nil)) snd_sortD))
    (qss_cons (qs_if (qt_cmp (op_neD hr.units) snd_ne (qe_lc (own := [("k", 9), ("line", 20)]) (fl_of rfl rfl tk) rfl rfl nd (qi_enu rfl rfl F.b_enumerate (qa_cons (qe_sl rfl (qe_bm rfl PySem.F.plainAttrs_str PySem.F.slot_str_split PySem.F.type_str_split mt_split snd_split (qe_call G_listing (hr.mono (by omega)) rfl hx (qa_cons (qe_var (pv 6)) qa_nil)) (qa_cons qe_str qa_nil)) qo_no (qo_e (qe_un un_neg snd_neg qe_int))) qa_nil)) (blkOk_by (show blkC N_law (defScope (top 23)) _ _ = true from by decide +kernel)) (fun s1 H1 cl1 fp1 px1 fx1 => (qt_tup rfl (qt_cons nd rfl (by first | exact .inl rfl | exact .inr rfl) (qt_cons nd rfl (by first | exact .inl rfl | exact .inr rfl) qt_nil)))) (fun s1 H1 cl1 fp1 px1 fx1 => (pts_one (qt_cmp (op_neD hr.units) snd_ne (qe_ix (ix_A hu) snd_ix (qe_call G_line_parts (hr.mono (by omega)) rfl px1 (qa_cons (qe_var (pv 20)) qa_nil)) qe_int (fun _ _ => rfl)) (qe_if (qt_cmp (op_inA hu) snd_in (qe_var (pv 9)) (qe_var (pv 17)) rfl) (qe_lst (qa_cons (qe_bin op_addA snd_add qe_str (qe_cb (pe_callTy call_str_int rfl F.b_str boot_str (qa_cons (qe_var (pv 9)) qa_nil)) snd_str)) qa_nil)) (qe_lst qa_nil)) rfl))) (fun s1 H1 cl1 fp1 px1 fx1 => (qe_var (pv 9)))) (qe_lst qa_nil) rfl) (qss_one (qs_ret qe_bl)) qss_nil)
    (qss_cons (qs_set (i := 18) nd rfl (.inl rfl) (qe_lst (qa_cons qe_str (qa_cons qe_str (qa_cons qe_str (qa_cons qe_str (qa_cons qe_str (qa_cons qe_str (qa_cons qe_str (qa_cons qe_str (qa_cons qe_str (qa_cons qe_str (qa_cons (qe_bin op_addA snd_add qe_str (qe_cb (pe_callTy call_str_int rfl F.b_str boot_str (qa_cons (qe_bin op_shl snd_shl qe_int (qe_var (pv 2))) qa_nil)) snd_str)) (qa_cons qe_str (qa_cons qe_str (qa_cons (qe_bin op_addA snd_add qe_str (qe_cb (pe_callTy call_str_int rfl F.b_str boot_str (qa_cons (qe_bin op_shl snd_shl qe_int (qe_var (pv 3))) qa_nil)) snd_str)) (qa_cons (qe_bin op_addA snd_add (qe_bin op_mulS snd_mulS qe_str qe_int) qe_str) qa_nil)))))))))))))))))
    (qss_cons (qs_if (qt_cmp (op_neD hr.units) snd_ne (qe_lc (own := [("line", 20)]) (fl_of rfl rfl tk) rfl rfl nd (qi_seq rfl (qe_var (pv 18))) (blkOk_by (show blkC N_law (defScope (top 23)) _ _ = true from by decide +kernel)) (fun s1 H1 cl1 fp1 px1 fx1 => (qt_name nd rfl (by first | exact .inl rfl | exact .inr rfl))) (fun s1 H1 cl1 fp1 px1 fx1 => (pts_one (qt_cmp (op_neD hr.units) snd_ne (qe_told (k := 3) hT rfl TB hcd hmT huT (hr.mono (by omega)) (lamS_blk (D := defScope (top 23)) rfl (show LamX.lamSB _ _ = true from by decide +kernel)) (fun A2 outer2 s2 H2 E2 f2 c2 hr => by
      have hu := (show _ < cLine from hr.units)
      have hu : _ + 1 < cLine := Nat.lt_of_le_of_lt (Nat.add_le_add_left (show 1 ≤ 64 by decide) _) hu
      exact (qe_call G_assemble (hr.mono (by omega)) rfl passesL (qa_cons (qe_bin op_addA snd_add (qe_bin op_addA snd_add (qe_bin op_addA snd_add (qe_var (pv 16)) (qe_var (pv 20))) (qe_bin op_mulS snd_mulS qe_str (qe_cb (pe_callTy call_intA rfl F.b_int boot_int (qa_cons (qe_cmp (op_eqD hr.units) snd_eq (qe_var (pv 20)) qe_str rfl) qa_nil)) snd_int))) qe_str) (qa_cons (qe_var (pv 4)) qa_nil))))) qe_str rfl))) (fun s1 H1 cl1 fp1 px1 fx1 => (qe_var (pv 20)))) (qe_lst qa_nil) rfl) (qss_one (qs_ret qe_bl)) qss_nil)
    (qss_cons (qs_set (i := 19) nd rfl (.inr rfl) (qe_bin op_mulS snd_mulS qe_str (qe_bin op_shl snd_shl qe_int (qe_var (pv 3)))))
    (qss_one (qs_if (qt_pw (qw_or (qt_cmp (op_neD hr.units) snd_ne (qe_cb (pe_callB call_lenA rfl F.b_len boot_len (qa_cons (qe_call G_assemble (hr.mono (by omega)) rfl hx (qa_cons (qe_var (pv 19)) (qa_cons (qe_var (pv 4)) qa_nil))) qa_nil)) snd_len) (qe_bin op_shl snd_shl qe_int (qe_var (pv 3))) rfl) (qw_or1 (qt_cmp (op_neD hr.units) snd_ne (qe_told (k := 3) hT rfl TB hcd hmT huT (hr.mono (by omega)) (LamX.lamS_by (show LamX.lamSB (defScope (top 23)) _ = true from by decide +kernel)) (fun A2 outer2 s2 H2 E2 f2 c2 hr => by
      have hu := (show _ < cLine from hr.units)
      have hu : _ + 1 < cLine := Nat.lt_of_le_of_lt (Nat.add_le_add_left (show 1 ≤ 64 by decide) _) hu
      exact (qe_call G_assemble (hr.mono (by omega)) rfl passesL (qa_cons (qe_bin op_addA snd_add (qe_var (pv 19)) qe_str) (qa_cons (qe_var (pv 4)) qa_nil))))) qe_str rfl)))) (qss_one (qs_ret qe_bl)) qss_nil))))))))))))))
    (qss_cons (qs_if (qt_pw (qw_or (qt_cmp (op_neD hr.units) snd_ne (qe_call G_line_parts (hr.mono (by omega)) rfl hx (qa_cons qe_str qa_nil)) (qe_tup (qa_cons (qe_lst (qa_cons qe_str (qa_cons qe_str qa_nil))) (qa_cons (qe_lst (qa_cons qe_str (qa_cons qe_str qa_nil))) qa_nil))) rfl) (qw_or (qt_cmp (op_neD hr.units) snd_ne (qe_call G_instruction_of (hr.mono (by omega)) rfl hx (qa_cons (qe_lst (qa_cons qe_str (qa_cons qe_str qa_nil))) (qa_cons (qe_disp (qp_cons qe_str qe_int qp_nil) rfl rfl (by intro z; cases z) (by decide)) qa_nil))) (qe_tup (qa_cons qe_str (qa_cons qe_int qa_nil))) rfl) (qw_or (qt_cmp op_notA snd_isnot (qe_call G_check_label (hr.mono (by omega)) rfl hx (qa_cons qe_str qa_nil)) qe_non rfl) (qw_or1 (qt_cmp (op_neD hr.units) snd_ne (qe_call G_assemble (hr.mono (by omega)) rfl hx (qa_cons qe_str (qa_cons (qe_make G_Size___init__ (hr.mono (by omega)) rfl hx (qa_cons qe_int (qa_cons qe_int qa_nil))) qa_nil))) (qe_tup qa_nil) rfl)))))) (qss_one (qs_ret qe_bl)) qss_nil)
    (qss_one (qs_ret (qe_cmp (op_eqD hr.units) snd_eq (qe_call G_listing (hr.mono (by omega)) rfl hx (qa_cons (qe_tup (qa_cons (qe_tup (qa_cons qe_str (qa_cons qe_int qa_nil))) (qa_cons (qe_tup (qa_cons qe_str (qa_cons qe_int qa_nil))) (qa_cons (qe_tup (qa_cons qe_str (qa_cons qe_int qa_nil))) qa_nil)))) qa_nil)) qe_str rfl)))))
theorem s_law : FnScope N_law ["script"] (defScope (top 23)) := ⟨rfl, rfl, rfl, by decide +kernel, rfl, by decide +kernel, by decide +kernel⟩
end K11

set_option Elab.async false
set_option linter.all false
set_option maxRecDepth 100000
set_option maxHeartbeats 1000000
namespace K11
open PySem PySem.Spec PyProof.Rows L2 Y
def dG (x : Str) (i : Nat) (dfl : List He.Dv := []) : He.DefD := ⟨(x, none), x, x, defArgs (top i), defBody (top i), defScope (top i), dfl, []⟩
def dM (c x q : Str) (i j : Nat) (dfl : List He.Dv := []) : He.DefD := ⟨(c, some x), x, q, defArgs (inClass (top i) j), defBody (inClass (top i) j), defScope (inClass (top i) j), dfl, []⟩
def fn : List He.DefD := [dM "Size" "__init__" "Size.__init__" 8 0,
  dG "check_instruction" 9,
  dG "check_label" 14,
  dG "line_parts" 13,
  dG "instruction_of" 16,
  dG "assemble" 15,
  dG "listing" 17,
  dG "_law_dice" 19,
  dG "_law_roll" 20,
  dG "_law_rounds" 21,
  dG "_law_told" 22,
  dG "law" 23]
def fa : List He.Fa := [.glo "check_instruction", .glo "check_label", .glo "line_parts", .glo "instruction_of", .glo "assemble", .glo "listing", .glo "_law_dice", .glo "_law_roll", .glo "_law_rounds", .glo "_law_told", .glo "law", .glo "Size", .cls "Size", .mkr "Size", .noat "Size" "code", .noat "Size" "data", .free "abs", .free "any", .free "dict", .free "enumerate", .free "int", .free "isinstance", .free "len", .free "list", .free "range", .free "sorted", .free "str", .free "tuple", .glo "CodeError", .exc "CodeError", .exm "CodeError" "CodeError" true, .keep "_law_told"]
def exl (K : PySem.W.Frag) : List Bool := [glB K "DIGITS" K_DIGITS, glB K "INSTRUCTIONS" K_INSTRUCTIONS, glB K "JUMPS" K_JUMPS, glB K "LETTERS" K_LETTERS, glB K "PLAIN" K_PLAIN, !decide ((He.cT K ("check_label", none)).2 = (He.cT K ("instruction_of", none)).2), !decide ((He.cT K ("check_label", none)).2 = (He.cT K ("law", none)).2), !decide ((He.cT K ("instruction_of", none)).2 = (He.cT K ("law", none)).2)]
abbrev Tl (K : PySem.W.Frag) : List (PySem.Addr × PySem.Str) := [((He.cT K ("check_label", none)).2, (("check_label.<locals>." : PySem.Str) ++ ("<genexpr>" : PySem.Str))), ((He.cT K ("instruction_of", none)).2, (("instruction_of.<locals>." : PySem.Str) ++ ("<genexpr>" : PySem.Str))), ((He.cT K ("law", none)).2, (("law.<locals>." : PySem.Str) ++ ("<lambda>" : PySem.Str)))]
def ex (K : PySem.W.Frag) : Bool := (exl K).all id
abbrev RR : PySem.W.OpenRow := PySem.W.OpenLaw.row PySem.Challenge.rw_chipstack_k11_code_as_lines
abbrev hk : PySem.W.Hook := He.hookX 6 fa fn [] [("check_label", none), ("instruction_of", none), ("law", none)] ex
def ob (s : PySem.W.SharedT) : He.AlX := He.obsX 6 fa fn [] [("check_label", none), ("instruction_of", none), ("law", none)] ex (HandSHeadRun.getT s)
theorem ob_eq (s : PySem.W.SharedT) : ob s = hk.obs s.abs := He.obsX_eq (HandSHeadRun.getT_eq s)
def names : List PySem.Str := ["_wall", "ChipError", "CodeError", "INSTRUCTIONS", "PLAIN", "JUMPS", "Size", "check_instruction", "LETTERS", "DIGITS", "line_parts", "check_label", "assemble", "instruction_of", "listing", "_law_dice", "_law_roll", "_law_rounds", "_law_told"]
set_option maxHeartbeats 0 in
theorem run (w : World) : HandSHeadRun.RunEq RR (PySem.W.view RR.prog [23]) hk ob 3000 names w := by
  intro os
  kernel_rfl
theorem facts {w : World} {K : PySem.W.Frag} {h : Heap} {mg : Str → Option Value} {f : Addr} (X : K.In h) (G : h.Ns mainGlobals mg) (hfa : mg ("law" : Str) = some (.ref f)) (cc : He.SaysX fa fn [] [("check_label", none), ("instruction_of", none), ("law", none)] ex w h K)
    (p1 : ∀ ns : List Int, ns.length ≤ 63 → (∀ z ∈ ns, Builtin.Int.intBits z ≤ 1048576) → ∃ S', f_law [.fro (ns.map .int)] S0 = .ok (.bl true) S')
    (p2 : ∀ ns : List Int, ns.length ≤ 63 → (∀ z ∈ ns, Builtin.Int.intBits z ≤ 1048576) → ∃ S', f_law [.adr 0] (S1 (ns.map .int)) = .ok (.bl true) S') :
    LamX.LawAtS PySem.Challenge.rw_chipstack_k11_code_as_lines w K (L2.CX PySem.Challenge.rw_chipstack_k11_code_as_lines.prog w) 6 63 "script" mg f h := by
  have D := cc.t.d
  obtain ⟨fd_0, F_0⟩ := D.def_ 0 rfl
  obtain ⟨fd_1, F_1⟩ := D.def_ 1 rfl
  obtain ⟨fd_2, F_2⟩ := D.def_ 2 rfl
  obtain ⟨fd_3, F_3⟩ := D.def_ 3 rfl
  obtain ⟨fd_4, F_4⟩ := D.def_ 4 rfl
  obtain ⟨fd_5, F_5⟩ := D.def_ 5 rfl
  obtain ⟨fd_6, F_6⟩ := D.def_ 6 rfl
  obtain ⟨fd_7, F_7⟩ := D.def_ 7 rfl
  obtain ⟨fd_8, F_8⟩ := D.def_ 8 rfl
  obtain ⟨fd_9, F_9⟩ := D.def_ 9 rfl
  obtain ⟨fd_10, F_10⟩ := D.def_ 10 rfl
  obtain ⟨fd_11, F_11⟩ := D.def_ 11 rfl
  have e := hfa.symm.trans (He.glo_ok X G (D.fact 10 rfl))
  cases e
  have base_facts : ∀ T : List (Addr × Str), Fx K mg (Ct.mk K (fun q => He.ga K q) T) := fun T => ⟨trivial,
    ⟨(fun q hq => by
      simp only [List.mem_cons, List.not_mem_nil, or_false] at hq
      rcases hq with rfl
      · exact (He.cls_ok (D.fact 12 rfl))
      ), (fun q hq => by
      simp only [List.mem_cons, List.not_mem_nil, or_false] at hq
      rcases hq with rfl
      · exact (He.noat_ok (D.fact 14 rfl))
      )⟩,
    ⟨(fun q hq => by
      simp only [List.mem_cons, List.not_mem_nil, or_false] at hq
      rcases hq with rfl
      · exact (He.cls_ok (D.fact 12 rfl))
      ), (fun q hq => by
      simp only [List.mem_cons, List.not_mem_nil, or_false] at hq
      rcases hq with rfl
      · exact (He.noat_ok (D.fact 15 rfl))
      )⟩,
    He.free_ok X G (D.fact 16 rfl),
    He.free_ok X G (D.fact 17 rfl),
    He.free_ok X G (D.fact 18 rfl),
    He.free_ok X G (D.fact 19 rfl),
    He.free_ok X G (D.fact 20 rfl),
    He.free_ok X G (D.fact 21 rfl),
    He.free_ok X G (D.fact 22 rfl),
    He.free_ok X G (D.fact 23 rfl),
    He.free_ok X G (D.fact 24 rfl),
    He.free_ok X G (D.fact 25 rfl),
    He.free_ok X G (D.fact 26 rfl),
    He.free_ok X G (D.fact 27 rfl),
    glB_ok (c := Ct.mk K (fun q => He.ga K q) T) X G (all_at cc.more 0 rfl),
    glB_ok (c := Ct.mk K (fun q => He.ga K q) T) X G (all_at cc.more 1 rfl),
    glB_ok (c := Ct.mk K (fun q => He.ga K q) T) X G (all_at cc.more 2 rfl),
    glB_ok (c := Ct.mk K (fun q => He.ga K q) T) X G (all_at cc.more 3 rfl),
    glB_ok (c := Ct.mk K (fun q => He.ga K q) T) X G (all_at cc.more 4 rfl),
    exo_of (c := Ct.mk K (fun q => He.ga K q) T) X G rfl (D.fact 28 rfl) (D.fact 29 rfl)⟩
  refine ⟨fd_11, [He.cT K ("check_label", none), He.cT K ("instruction_of", none), He.cT K ("law", none)], spOf (Ct.mk K (fun q => He.ga K q) (Tl K)) 1 f_law, fun p hp => ?_, fun p hp => ?_, fun p hp => ?_, ?_, ?_, fun base KB GB TB => ?_⟩
  · simp only [List.mem_cons, List.not_mem_nil, or_false] at hp
    rcases hp with rfl | rfl | rfl
    · exact cc.empty _ (by simp)
    · exact cc.empty _ (by simp)
    · exact cc.empty _ (by simp)
  · simp only [List.mem_cons, List.not_mem_nil, or_false] at hp
    rcases hp with rfl | rfl | rfl
    · exact cc.out _ (by simp)
    · exact cc.out _ (by simp)
    · exact cc.out _ (by simp)
  · simp only [List.mem_cons, List.not_mem_nil, or_false] at hp
    rcases hp with rfl | rfl | rfl
    · exact PySem.W.codeHd_of_K X (cc.hd _ (by simp))
    · exact PySem.W.codeHd_of_K X (cc.hd _ (by simp))
    · exact PySem.W.codeHd_of_K X (cc.hd _ (by simp))
  · exact fun s u => FunD.bindsA (ps := ["script"]) F_11 (fun _ _ _ _ _ _ us hl => match us, hl with | [_], _ => rfl) s [u] rfl
  · intro H a ns hl hb hT hS
    refine law_start (tabs_starts fun p hp => ?_) hS (p1 ns hl hb) (p2 ns hl hb)
    have hp : p ∈ Tl K := hp
    unfold Tl at hp
    simp only [List.mem_cons, List.not_mem_nil, or_false] at hp
    rcases hp with rfl | rfl | rfl
    · exact hT _ (by simp)
    · exact hT _ (by simp)
    · exact hT _ (by simp)
  · have FX := base_facts (Tl K)
    have G_Size___init__ : Gk PySem.Challenge.rw_chipstack_k11_code_as_lines.prog w K mg base (Ct.mk K (fun q => He.ga K q) (Tl K)) 1 "Size" 3 [] f_Size___init__ := gk_of F_0 rfl (fn_run F_0 s_Size___init__ (fun cdv A outer s H E hr => k_Size___init__ FX  hr)) (He.glo_ok X G (D.fact 11 rfl)) (He.mkr_ok (D.fact 13 rfl)) (F_0.bindsN fun _ _ _ _ _ _ us hl => match us, hl with | [_, _, _], _ => rfl)
    have G_check_instruction : Gfn PySem.Challenge.rw_chipstack_k11_code_as_lines.prog w K mg base (Ct.mk K (fun q => He.ga K q) (Tl K)) 1 "check_instruction" 2 [] f_check_instruction := gfn_of F_1 rfl (fn_run F_1 s_check_instruction (fun cdv A outer s H E hr => k_check_instruction FX  hr)) (He.glo_ok X G (D.fact 0 rfl)) (F_1.bindsN fun _ _ _ _ _ _ us hl => match us, hl with | [_, _], _ => rfl)
    have TB0 := TB (He.cT K ("check_label", none)) (by simp)
    have G_check_label : Gfn PySem.Challenge.rw_chipstack_k11_code_as_lines.prog w K mg base (Ct.mk K (fun q => He.ga K q) (Tl K)) 1 "check_label" 1 [] f_check_label := gfn_of F_2 rfl (fn_runL (p := ("check_label", none)) F_2 s_check_label (fun A outer s H E cdv hcd hr => k_check_label FX   TB0 hcd List.mem_cons_self (fun p hp he => by
      have hp : p ∈ Tl K := hp
      unfold Tl at hp
      simp only [List.mem_cons, List.not_mem_nil, or_false] at hp
      rcases hp with rfl | rfl | rfl
      · rfl
      · exact absurd he.symm (ne_dec (all_at cc.more 5 rfl))
      · exact absurd he.symm (ne_dec (all_at cc.more 6 rfl))
      ) hr)) (He.glo_ok X G (D.fact 1 rfl)) (F_2.bindsN fun _ _ _ _ _ _ us hl => match us, hl with | [_], _ => rfl)
    have G_line_parts : Gfn PySem.Challenge.rw_chipstack_k11_code_as_lines.prog w K mg base (Ct.mk K (fun q => He.ga K q) (Tl K)) 2 "line_parts" 1 [] f_line_parts := gfn_of F_3 rfl (fn_run F_3 s_line_parts (fun cdv A outer s H E hr => k_line_parts FX G_check_label hr)) (He.glo_ok X G (D.fact 2 rfl)) (F_3.bindsN fun _ _ _ _ _ _ us hl => match us, hl with | [_], _ => rfl)
    have TB1 := TB (He.cT K ("instruction_of", none)) (by simp)
    have G_instruction_of : Gfn PySem.Challenge.rw_chipstack_k11_code_as_lines.prog w K mg base (Ct.mk K (fun q => He.ga K q) (Tl K)) 1 "instruction_of" 2 [] f_instruction_of := gfn_of F_4 rfl (fn_runL (p := ("instruction_of", none)) F_4 s_instruction_of (fun A outer s H E cdv hcd hr => k_instruction_of FX   TB1 hcd (List.mem_cons_of_mem _ List.mem_cons_self) (fun p hp he => by
      have hp : p ∈ Tl K := hp
      unfold Tl at hp
      simp only [List.mem_cons, List.not_mem_nil, or_false] at hp
      rcases hp with rfl | rfl | rfl
      · exact absurd he (ne_dec (all_at cc.more 5 rfl))
      · rfl
      · exact absurd he.symm (ne_dec (all_at cc.more 7 rfl))
      ) hr)) (He.glo_ok X G (D.fact 3 rfl)) (F_4.bindsN fun _ _ _ _ _ _ us hl => match us, hl with | [_, _], _ => rfl)
    have G_assemble : Gfn PySem.Challenge.rw_chipstack_k11_code_as_lines.prog w K mg base (Ct.mk K (fun q => He.ga K q) (Tl K)) 3 "assemble" 2 [] f_assemble := gfn_of F_5 rfl (fn_run F_5 s_assemble (fun cdv A outer s H E hr => k_assemble FX G_line_parts G_instruction_of G_check_instruction hr)) (He.glo_ok X G (D.fact 4 rfl)) (F_5.bindsN fun _ _ _ _ _ _ us hl => match us, hl with | [_, _], _ => rfl)
    have G_listing : Gfn PySem.Challenge.rw_chipstack_k11_code_as_lines.prog w K mg base (Ct.mk K (fun q => He.ga K q) (Tl K)) 1 "listing" 1 [] f_listing := gfn_of F_6 rfl (fn_run F_6 s_listing (fun cdv A outer s H E hr => k_listing FX  hr)) (He.glo_ok X G (D.fact 5 rfl)) (F_6.bindsN fun _ _ _ _ _ _ us hl => match us, hl with | [_], _ => rfl)
    have G__law_dice : Gfn PySem.Challenge.rw_chipstack_k11_code_as_lines.prog w K mg base (Ct.mk K (fun q => He.ga K q) (Tl K)) 1 "_law_dice" 1 [] f__law_dice := gfn_of F_7 rfl (fn_run F_7 s__law_dice (fun cdv A outer s H E hr => k__law_dice FX  hr)) (He.glo_ok X G (D.fact 6 rfl)) (F_7.bindsN fun _ _ _ _ _ _ us hl => match us, hl with | [_], _ => rfl)
    have G__law_roll : Gfn PySem.Challenge.rw_chipstack_k11_code_as_lines.prog w K mg base (Ct.mk K (fun q => He.ga K q) (Tl K)) 1 "_law_roll" 2 [] f__law_roll := gfn_of F_8 rfl (fn_run F_8 s__law_roll (fun cdv A outer s H E hr => k__law_roll FX  hr)) (He.glo_ok X G (D.fact 7 rfl)) (F_8.bindsN fun _ _ _ _ _ _ us hl => match us, hl with | [_, _], _ => rfl)
    have G__law_rounds : Gfn PySem.Challenge.rw_chipstack_k11_code_as_lines.prog w K mg base (Ct.mk K (fun q => He.ga K q) (Tl K)) 2 "_law_rounds" 2 [] f__law_rounds := gfn_of F_9 rfl (fn_run F_9 s__law_rounds (fun cdv A outer s H E hr => k__law_rounds FX G__law_dice hr)) (He.glo_ok X G (D.fact 8 rfl)) (F_9.bindsN fun _ _ _ _ _ _ us hl => match us, hl with | [_, _], _ => rfl)
    have hT : Told PySem.Challenge.rw_chipstack_k11_code_as_lines.prog w K mg base (Ct.mk K (fun q => He.ga K q) (Tl K)) "_law_told" subT qsT clT := told1_of (Ng := ["what"]) (a := "what") F_10 (He.glo_ok X G (D.fact 9 rfl)) (F_10.bindsN fun _ _ _ _ _ _ us hl => match us, hl with | [_], _ => rfl) ⟨rfl, rfl, rfl, by decide +kernel, rfl, by decide +kernel, by decide +kernel⟩ rfl (.inl rfl) (by decide) (by decide) rfl (He.glo_ok X G (D.fact 28 rfl)) (by decide) (fun _ => rfl) (fun q hq p hp => by
      simp only [qsT, clT, List.mem_cons, List.not_mem_nil, or_false] at hq hp
      rcases hq with rfl
      · rcases hp with rfl
        · exact He.exm_ok (D.fact 30 rfl)
      )
    have TB2 := TB (He.cT K ("law", none)) (by simp)
    exact fn_runL F_11 s_law (fun A outer s H E cdv hcd hr => k_law FX G__law_rounds G__law_roll G_Size___init__ G_assemble G_listing G_line_parts G_instruction_of G_check_label hT TB2 hcd (List.mem_cons_of_mem _ (List.mem_cons_of_mem _ List.mem_cons_self)) (fun p hp he => by
      have hp : p ∈ Tl K := hp
      unfold Tl at hp
      simp only [List.mem_cons, List.not_mem_nil, or_false] at hp
      rcases hp with rfl | rfl | rfl
      · exact absurd he (ne_dec (all_at cc.more 6 rfl))
      · exact absurd he (ne_dec (all_at cc.more 7 rfl))
      · rfl
      ) hr)
open PySem PySem.W PySem.Calls PyProof.Rows in
theorem done (p1 : ∀ ns : List Int, ns.length ≤ 63 → (∀ z ∈ ns, Builtin.Int.intBits z ≤ 1048576) → ∃ S', f_law [.fro (ns.map .int)] S0 = .ok (.bl true) S')
    (p2 : ∀ ns : List Int, ns.length ≤ 63 → (∀ z ∈ ns, Builtin.Int.intBits z ≤ 1048576) → ∃ S', f_law [.adr 0] (S1 (ns.map .int)) = .ok (.bl true) S') : PySem.Challenge.rw_chipstack_k11_code_as_lines.Holds := by
  w_on; o_law
  refine HandSHeadRun.head_any (r := OpenLaw.row PySem.Challenge.rw_chipstack_k11_code_as_lines) (q := view (OpenLaw.row PySem.Challenge.rw_chipstack_k11_code_as_lines).prog [23]) (H := hk) (ob := ob) (M := 3000) (loose := names) (d := HandSHeadRun.topDef (OpenLaw.row PySem.Challenge.rw_chipstack_k11_code_as_lines).prog 23) (kwd := []) ob_eq
    (by kernel_rfl) (fun s => by kernel_rfl) run (by kernel_rfl) (by kernel_rfl) (by kernel_rfl) (by rfl) (by first | assumption | decide +kernel) (by decide +kernel) ⟨rfl, rfl, rfl, rfl, rfl, by decide +kernel⟩ ?hw ?hc
  case hw => w_witness2
  case hc =>
    refine LamX.walk_ofTsE (l := PySem.Challenge.rw_chipstack_k11_code_as_lines) (n := 63) (k := 6) (x := "script") (CX := fun w => L2.CX PySem.Challenge.rw_chipstack_k11_code_as_lines.prog w) rfl (by decide) (by kernel_rfl) ⟨rfl, by decide, by decide⟩ ?F (fun _ _ _ _ _ z => by
      obtain ⟨_, _, _, _, _, _, _, _, _, _, _, _, y⟩ := z
      exact y.elim)
    intro w mg fa h Y G hmg0
    obtain ⟨K, KX, c⟩ := Y
    have hmg : mg ("law" : PySem.Str) = some (.ref fa) := by
      have e : (HandSHeadRun.topDef (OpenLaw.row PySem.Challenge.rw_chipstack_k11_code_as_lines).prog 23).name = ("law" : PySem.Str) := by kernel_rfl
      rw [← e]
      exact hmg0
    exact ⟨K, KX, facts KX G hmg c p1 p2⟩
end K11

set_option Elab.async false
set_option linter.all false
set_option maxRecDepth 100000
set_option maxHeartbeats 4000000
namespace K11
open PySem PySem.Spec PyProof.Rows L2 Y TL
/-- all signs are signs -/
def Sgn (l : List Nat) : Prop := ∀ c ∈ l, c < 0x110000
theorem strOk_of {x : Str} (h : Sgn (tl x)) : PyData.strOk x = true := by
  unfold PyData.strOk
  rw [Array.all_eq_true_iff_forall_mem]
  intro c hc
  exact decide_eq_true (h c (Array.mem_toList_iff.mpr hc))
theorem eqT {a b : Str} {S : Sr} (ha : Sgn (tl a)) (hb : Sgn (tl b)) : dEq (.str a) (.str b) S = .ok (.bl (decide (a = b))) S := ev_eqS (strOk_of ha) (strOk_of hb)
theorem neT {a b : Str} {S : Sr} (ha : Sgn (tl a)) (hb : Sgn (tl b)) : dNe (.str a) (.str b) S = .ok (.bl (!decide (a = b))) S := ev_neS (strOk_of ha) (strOk_of hb)
theorem notInS_eq (a : Str) (n : Nat) : notInS a n = !decide (n ∈ tl a) := by
  have h := PySem.StrLaws.found_one a n
  unfold notInS
  rw [← h, Bool.not_not]
def digB (c : Nat) : Bool := decide (48 ≤ c) && decide (c ≤ 57)
def alnB (c : Nat) : Bool := (decide (97 ≤ c) && decide (c ≤ 122)) || digB c
theorem dig_mem (n : Nat) : decide (n ∈ tl ("0123456789" : Str)) = digB n := by
  have e : tl ("0123456789" : Str) = [48, 49, 50, 51, 52, 53, 54, 55, 56, 57] := by decide +kernel
  rw [e]
  unfold digB
  rw [← Bool.decide_and]
  apply decide_eq_decide.mpr
  simp only [List.mem_cons, List.not_mem_nil, or_false]
  omega
theorem aln_mem (n : Nat) : decide (n ∈ tl ((("abcdefghijklmnopqrstuvwxyz" : PySem.Str) ++ ("0123456789" : PySem.Str)))) = alnB n := by
  rw [tl_append]
  have e : tl ("abcdefghijklmnopqrstuvwxyz" : Str) = [97, 98, 99, 100, 101, 102, 103, 104, 105, 106, 107, 108, 109, 110, 111, 112, 113, 114, 115, 116, 117, 118, 119, 120, 121, 122] := by decide +kernel
  have e2 : (n ∈ tl ("abcdefghijklmnopqrstuvwxyz" : Str)) ↔ 97 ≤ n ∧ n ≤ 122 := by
    rw [e]
    simp only [List.mem_cons, List.not_mem_nil, or_false]
    omega
  unfold alnB
  rw [← dig_mem, ← Bool.decide_and, ← Bool.decide_or]
  apply decide_eq_decide.mpr
  rw [List.mem_append, e2]
def labB (l : List Nat) : Bool := !decide (l = []) && (decide (l.length ≤ 20) && (l.all alnB && !digB (l.headD 0)))
theorem inD {c : Nat} {S : Sr} : dIn false (.str ⟨#[c]⟩) K_DIGITS S = .ok (.bl (digB c)) S := by
  have e : (!(Builtin.Str.occurrences ("0123456789" : Str) ⟨#[c]⟩ 0 ("0123456789" : Str).length 1).isEmpty) = digB c := by
    rw [← dig_mem]
    exact PySem.StrLaws.found_one _ c
  show (R.ok (D.bl (if false = true then _ else (!(Builtin.Str.occurrences ("0123456789" : Str) ⟨#[c]⟩ 0 ("0123456789" : Str).length 1).isEmpty))) S) = _
  rw [if_neg Bool.false_ne_true, e]
theorem any_not {l : List Nat} {p : Nat → Bool} : (l.any fun n => !p n) = !l.all p := by
  induction l with
  | nil => rfl
  | cons a l ih => rw [List.any_cons, List.all_cons, ih, Bool.not_and]
theorem anyAln {x : Str} : (tl x).any (notInS ((("abcdefghijklmnopqrstuvwxyz" : PySem.Str) ++ ("0123456789" : PySem.Str)))) = !(tl x).all alnB := by
  rw [← any_not]
  congr 1
  funext n
  rw [notInS_eq, aln_mem]
theorem anyDig {x : Str} : (tl x).any (notInS ("0123456789" : Str)) = !(tl x).all digB := by
  rw [← any_not]
  congr 1
  funext n
  rw [notInS_eq, dig_mem]
theorem sgn_of {l : List Nat} (h : (l.all fun c => decide (c < 0x110000)) = true) : Sgn l := fun c hc => of_decide_eq_true (List.all_eq_true.mp h c hc)
theorem sgn_nil : Sgn [] := fun c h => nomatch h
theorem e_label {x : Str} {S : Sr} (hz : x.length ≤ 1000) (ok : Sgn (tl x)) : f_check_label [.str x] S = if labB (tl x) = true then .ok .non S else .exc "CodeError" S := by
  have z1 : x.length ≤ sizeLine := by rw [sizeLine_eq]; omega
  have e0 : dEq (.str x) (.str "") S = .ok (.bl (decide (x = ""))) S := eqT ok (sgn_of (by decide +kernel))
  have em : mAnyS (notInS ((("abcdefghijklmnopqrstuvwxyz" : PySem.Str) ++ ("0123456789" : PySem.Str)))) (mVar 0) [some (.str x), none] S = .ok (.bl (!(tl x).all alnB)) S := by
    rw [← anyAln]
    rfl
  have hl := len_tl x
  cases hx : tl x with
  | nil =>
    have : x = "" := ext_tl (by rw [hx]; decide +kernel)
    subst this
    simp (decide := true) [f_check_label, mFun, b_check_label, mSeq, mPass, mBrk, mCnt, mDrop, mRet, mRetN, mIfS, mRaise, mSet, mAsg, mPar, mPar3, mAug, mFld, mFldAug, gNm, gSub', gFld, gNl, gCn, gTp, setA, putFD, mVar, mC, mB, mU, mTB, mAnd, mOr, mNot, mIf, mAndV, mOrV, mNotV, mChain, mNil, mCons, mTup, mLst, mSl, oNo, oE, mCB, fAbs, fMax2, fMin2, fInt, lenD, fLen, fTuple, fList, itemsD, fIsi, tyD, mAttr, mCall, mMeth, mMake, mBM, tyF, SM.bind, SM.pure, toRS, toRSA, toRST, Y.sb, List.lookup, put_f, put_n, alloc_f, alloc_n, put_put, alloc_put, okI, okB, orF, dSub, dFdiv, dMod, dPow, dShl, dShr, dAnd, dOr, dXor, dNeg, dLt, dLe, dGt, dGe, dIs, e0, labB]
  | cons c r =>
    have hne : ¬ x = "" := fun e => by
      rw [e] at hx
      have : tl ("" : Str) = [] := by decide +kernel
      rw [this] at hx
      cases hx
    rw [hx] at hl em
    have ec : x.cps.toList = c :: r := hx
    have a0 : atI (c :: r) 0 = some c := by
      unfold atI
      rw [ixN_nat (by omega) (by rw [List.length_cons]; omega)]
      rfl
    have hl2 : x.length = r.length + 1 := by rw [hl]; rfl
    by_cases h20 : 20 < x.length
    · have h20' : ¬ (r.length + 1 ≤ 20) := by omega
      have h20c : (20 : Int) < (x.length : Int) := by omega
      simp (decide := true) [f_check_label, mFun, b_check_label, mSeq, mPass, mBrk, mCnt, mDrop, mRet, mRetN, mIfS, mRaise, mSet, mAsg, mPar, mPar3, mAug, mFld, mFldAug, gNm, gSub', gFld, gNl, gCn, gTp, setA, putFD, mVar, mC, mB, mU, mTB, mAnd, mOr, mNot, mIf, mAndV, mOrV, mNotV, mChain, mNil, mCons, mTup, mLst, mSl, oNo, oE, mCB, fAbs, fMax2, fMin2, fInt, lenD, fLen, fTuple, fList, itemsD, fIsi, tyD, mAttr, mCall, mMeth, mMake, mBM, tyF, SM.bind, SM.pure, toRS, toRSA, toRST, Y.sb, List.lookup, put_f, put_n, alloc_f, alloc_n, put_put, alloc_put, okI, okB, orF, dSub, dFdiv, dMod, dPow, dShl, dShr, dAnd, dOr, dXor, dNeg, dLt, dLe, dGt, dGe, dIs, e0, hne, z1, h20c, labB, h20']
    · have h20' : r.length + 1 ≤ 20 := by omega
      have h20c : ¬ (20 : Int) < (x.length : Int) := by omega
      cases hall : (c :: r).all alnB with
      | false =>
        rw [hall] at em
        have hall2 := hall
        rw [List.all_cons] at hall2
        simp (decide := true) [f_check_label, mFun, b_check_label, mSeq, mPass, mBrk, mCnt, mDrop, mRet, mRetN, mIfS, mRaise, mSet, mAsg, mPar, mPar3, mAug, mFld, mFldAug, gNm, gSub', gFld, gNl, gCn, gTp, setA, putFD, mVar, mC, mB, mU, mTB, mAnd, mOr, mNot, mIf, mAndV, mOrV, mNotV, mChain, mNil, mCons, mTup, mLst, mSl, oNo, oE, mCB, fAbs, fMax2, fMin2, fInt, lenD, fLen, fTuple, fList, itemsD, fIsi, tyD, mAttr, mCall, mMeth, mMake, mBM, tyF, SM.bind, SM.pure, toRS, toRSA, toRST, Y.sb, List.lookup, put_f, put_n, alloc_f, alloc_n, put_put, alloc_put, okI, okB, orF, dSub, dFdiv, dMod, dPow, dShl, dShr, dAnd, dOr, dXor, dNeg, dLt, dLe, dGt, dGe, dIs, e0, hne, z1, h20c, labB, h20', em, hall2]
      | true =>
        rw [hall] at em
        have hall2 := hall
        rw [List.all_cons] at hall2
        cases hd : digB c <;> simp (decide := true) [f_check_label, mFun, b_check_label, mSeq, mPass, mBrk, mCnt, mDrop, mRet, mRetN, mIfS, mRaise, mSet, mAsg, mPar, mPar3, mAug, mFld, mFldAug, gNm, gSub', gFld, gNl, gCn, gTp, setA, putFD, mVar, mC, mB, mU, mTB, mAnd, mOr, mNot, mIf, mAndV, mOrV, mNotV, mChain, mNil, mCons, mTup, mLst, mSl, oNo, oE, mCB, fAbs, fMax2, fMin2, fInt, lenD, fLen, fTuple, fList, itemsD, fIsi, tyD, mAttr, mCall, mMeth, mMake, mBM, tyF, SM.bind, SM.pure, toRS, toRSA, toRST, Y.sb, List.lookup, put_f, put_n, alloc_f, alloc_n, put_put, alloc_put, okI, okB, orF, dSub, dFdiv, dMod, dPow, dShl, dShr, dAnd, dOr, dXor, dNeg, dLt, dLe, dGt, dGe, dIs, e0, hne, z1, h20c, labB, h20', em, hall2, dIx, ixSeq, ixTxt, ec, a0, inD, hd]
end K11

set_option Elab.async false
set_option linter.all false
set_option maxRecDepth 100000
set_option maxHeartbeats 4000000
namespace K11
open PySem PySem.Spec PyProof.Rows L2 Y TL
abbrev sg (l : List Nat) : Str := ⟨l.toArray⟩
abbrev strL (l : List Nat) : D := .str (sg l)
theorem tl_sg (l : List Nat) : tl (sg l) = l := rfl
theorem sg_tl (x : Str) : sg (tl x) = x := mk_tl x
theorem sg_len (l : List Nat) : (sg l).length = l.length := by rw [len_tl]
/-! ### lists of texts as data -/
theorem mapO_strs {f : D → Option PyData} (h : ∀ i : Str, f (.str i) = some (.str i)) : ∀ l : List (List Nat), mapO f (l.map strL) = some (l.map fun x => PyData.str (sg x))
  | [] => rfl
  | i :: l => by
    have ih := mapO_strs h l
    rw [List.map_cons, mapO, h, ih]
    rfl
theorem py_strs {S : Sr} {k i : Nat} {l : List (List Nat)} (h : S.f i = some (.lst (l.map strL))) : toPy S (k + 1) (.adr i) = some (.list (l.map fun x => PyData.str (sg x))) := by
  show (match S.f i with
    | some (.lst l) => (mapO (toPy S k) l).map PyData.list
    | _ => none) = _
  rw [h]
  show (mapO (toPy S k) (l.map strL)).map PyData.list = _
  rw [mapO_strs fun i => py_str]
  rfl
theorem lay_strs : ∀ l : List (List Nat), (∀ x ∈ l, Sgn x) → PyData.canLayAll0 (l.map fun x => PyData.str (sg x)) = true ∧ PyData.depthAll (l.map fun x => PyData.str (sg x)) = 0
  | [], _ => ⟨rfl, rfl⟩
  | i :: l, h => by
    obtain ⟨h1, h2⟩ := lay_strs l fun x hx => h x (List.mem_cons_of_mem _ hx)
    refine ⟨?_, ?_⟩
    · show (PyData.strOk (sg i) && PyData.canLayAll0 (l.map fun x => PyData.str (sg x))) = true
      rw [h1, strOk_of (x := sg i) (h i List.mem_cons_self)]
      rfl
    · show max 0 (PyData.depthAll (l.map fun x => PyData.str (sg x))) = 0
      rw [h2]
      rfl
theorem shaped_strs {l : List (List Nat)} (h : ∀ x ∈ l, Sgn x) : SeqAt.shaped (.list (l.map fun x => PyData.str (sg x))) = true := by
  obtain ⟨h1, h2⟩ := lay_strs l h
  unfold SeqAt.shaped
  have e1 : PyData.canLay0 (.list (l.map fun x => PyData.str (sg x))) = true := h1
  have e2 : PyData.depth (.list (l.map fun x => PyData.str (sg x))) = 1 := by
    show PyData.depthAll (l.map fun x => PyData.str (sg x)) + 1 = 1
    rw [h2]
  rw [e1, e2]
  rfl
theorem ne_nilS {S : Sr} {i j : Nat} {l : List (List Nat)} (h : S.f i = some (.lst (l.map strL))) (h2 : S.f j = some (.lst [])) (hs : ∀ x ∈ l, Sgn x) : dNe (.adr i) (.adr j) S = .ok (.bl (!l.isEmpty)) S := by
  rw [ev_neP (py_strs h) (py_strs (l := []) h2) (shaped_strs hs) (shaped_strs (l := []) fun x hx => nomatch hx)]
  cases l with
  | nil => rfl
  | cons a l =>
    have e : PyData.eqv (.list ((a :: l).map fun x => PyData.str (sg x))) (.list (([] : List (List Nat)).map fun x => PyData.str (sg x))) = false := by
      rw [PyData.eqv.eq_def]
      rfl
    rw [e]
    rfl
/-! ### a line's parts -/
def bef (l : List Nat) : List Nat := match par [47, 47] [] l with
  | some p => p.1
  | none => l
def wsL (l : List Nat) : List (List Nat) := wfin (l.foldl wstep ([], []))
def lpW : List (List Nat) → Option (List (List Nat) × List (List Nat))
  | [] => some ([], [])
  | w :: r => if w.getLast? = some 58 then (if labB w.dropLast = true then (lpW r).map fun p => (w.dropLast :: p.1, p.2) else none) else some ([], w :: r)
def lpL (l : List Nat) : Option (List (List Nat) × List (List Nat)) := lpW (wsL (bef l))
theorem part_bef (x : Str) : (Txt.partition x ("//" : Str)).1 = sg (bef (tl x)) := by
  have e : tl ("//" : Str) = [47, 47] := by decide +kernel
  rw [partition_par x _ (by rw [e]; simp), e]
  unfold bef
  cases par [47, 47] [] (tl x) with
  | none => exact (sg_tl x).symm
  | some p => rfl
theorem words_ws (x : Str) : Txt.words x = (wsL (tl x)).map sg := by
  refine map_tl_inj ?_
  rw [words_tl, List.map_map]
  show wsL (tl x) = _
  exact (List.map_id _).symm
theorem ends_colon (x : Str) : Txt.endswith x (":" : Str) = decide ((tl x).getLast? = some 58) := by
  have e : (":" : Str) = ⟨#[58]⟩ := by decide +kernel
  rw [e, Bool.eq_iff_iff, decide_eq_true_iff, List.getLast?_eq_getElem?]
  have h := PySem.StrLaws.subAt_one x 58 (x.length - 1)
  unfold Txt.endswith
  have l1 : (⟨#[58]⟩ : Str).length = 1 := rfl
  rw [Bool.and_eq_true, decide_eq_true_iff, l1]
  rw [l1] at h
  rw [← len_tl]
  rw [← h]
  constructor
  · rintro ⟨a, b⟩
    exact ⟨by omega, b⟩
  · rintro ⟨a, b⟩
    exact ⟨by omega, b⟩
theorem cut_last {x : Str} (h : tl x ≠ []) : cutS x none (some (-1)) = sg (tl x).dropLast := by
  have hl := len_tl x
  have hp : 0 < (tl x).length := List.length_pos_iff.mpr h
  unfold cutS
  have e1 : HT.sIx x.length 0 none = 0 := rfl
  have e2 : HT.sIx x.length x.length (some (-1)) = (tl x).length - 1 := by
    show (if (-1 : Int) < 0 then ((-1 : Int) + (x.length : Int)).toNat else min (-1 : Int).toNat x.length) = _
    rw [if_pos (by decide)]
    omega
  rw [e1, e2, List.drop_zero, Nat.sub_zero, List.dropLast_eq_take]
theorem wstep_len : ∀ (l : List Nat) (st : List (List Nat) × List Nat) (B : Nat), (∀ w ∈ st.1, w.length ≤ B) → st.2.length + l.length ≤ B → ∀ w ∈ wfin (l.foldl wstep st), w.length ≤ B
  | [], st, B, h1, h2, w, hw => by
    unfold wfin at hw
    rw [List.foldl_nil] at hw
    split at hw
    · exact h1 w hw
    · rcases List.mem_append.mp hw with hw | hw
      · exact h1 w hw
      · rw [List.mem_singleton.mp hw]
        rw [List.length_nil] at h2
        omega
  | c :: l, st, B, h1, h2, w, hw => by
    rw [List.length_cons] at h2
    rw [List.foldl_cons] at hw
    refine wstep_len l (wstep st c) B ?_ ?_ w hw
    · unfold wstep
      split
      · split
        · exact h1
        · intro v hv
          rcases List.mem_append.mp hv with hv | hv
          · exact h1 v hv
          · rw [List.mem_singleton.mp hv]
            omega
      · exact h1
    · unfold wstep
      split
      · split
        · omega
        · simp
          omega
      · simp
        omega
theorem wstep_sgn {P : Nat → Prop} : ∀ (l : List Nat) (st : List (List Nat) × List Nat), (∀ w ∈ st.1, ∀ c ∈ w, P c) → (∀ c ∈ st.2, P c) → (∀ c ∈ l, P c) → ∀ w ∈ wfin (l.foldl wstep st), ∀ c ∈ w, P c
  | [], st, h1, h2, _, w, hw => by
    unfold wfin at hw
    rw [List.foldl_nil] at hw
    split at hw
    · exact h1 w hw
    · rcases List.mem_append.mp hw with hw | hw
      · exact h1 w hw
      · rw [List.mem_singleton.mp hw]
        exact h2
  | c :: l, st, h1, h2, h3, w, hw => by
    rw [List.foldl_cons] at hw
    have hl : ∀ d ∈ l, P d := fun d hd => h3 d (List.mem_cons_of_mem _ hd)
    refine wstep_sgn l (wstep st c) ?_ ?_ hl w hw
    · unfold wstep
      split
      · split
        · exact h1
        · intro v hv
          rcases List.mem_append.mp hv with hv | hv
          · exact h1 v hv
          · rw [List.mem_singleton.mp hv]
            exact h2
      · exact h1
    · unfold wstep
      split
      · split
        · exact h2
        · exact fun d hd => nomatch hd
      · intro d hd
        rcases List.mem_append.mp hd with hd | hd
        · exact h2 d hd
        · rw [List.mem_singleton.mp hd]
          exact h3 c List.mem_cons_self
theorem wstep_many : ∀ (l : List Nat) (st : List (List Nat) × List Nat), (wfin (l.foldl wstep st)).length ≤ st.1.length + l.length + 1
  | [], st => by
    unfold wfin
    rw [List.foldl_nil]
    split <;> simp
  | c :: l, st => by
    rw [List.foldl_cons, List.length_cons]
    have := wstep_many l (wstep st c)
    have h : (wstep st c).1.length ≤ st.1.length + 1 := by
      unfold wstep
      split
      · split <;> simp
      · simp
    omega
theorem par_sub : ∀ (l acc : List Nat) {p : List Nat × List Nat}, par [47, 47] acc l = some p → (∀ c ∈ p.1, c ∈ acc ∨ c ∈ l) ∧ p.1.length ≤ acc.length + l.length
  | [], acc, p, e => by cases e
  | c :: r, acc, p, e => by
    unfold par at e
    split at e
    · cases e
      exact ⟨fun d hd => .inl hd, by simp⟩
    · obtain ⟨h1, h2⟩ := par_sub r (acc ++ [c]) e
      refine ⟨fun d hd => ?_, by simp at h2 ⊢; omega⟩
      rcases h1 d hd with h | h
      · rcases List.mem_append.mp h with h | h
        · exact .inl h
        · rw [List.mem_singleton.mp h]
          exact .inr List.mem_cons_self
      · exact .inr (List.mem_cons_of_mem _ h)
theorem bef_sub (l : List Nat) : (∀ c ∈ bef l, c ∈ l) ∧ (bef l).length ≤ l.length := by
  unfold bef
  cases e : par [47, 47] [] l with
  | none => exact ⟨fun c h => h, Nat.le_refl _⟩
  | some p =>
    obtain ⟨h1, h2⟩ := par_sub l [] e
    exact ⟨fun c h => (h1 c h).elim (fun z => nomatch z) id, by simpa using h2⟩
theorem ws_ok {l : List Nat} (hs : Sgn l) (hl : l.length ≤ 1000) : (∀ w ∈ wsL (bef l), Sgn w ∧ w.length ≤ 1000) ∧ (wsL (bef l)).length ≤ 1001 := by
  obtain ⟨b1, b2⟩ := bef_sub l
  refine ⟨fun w hw => ⟨wstep_sgn (P := fun c => c < 0x110000) _ _ (fun _ h => absurd h List.not_mem_nil) (fun _ h => absurd h List.not_mem_nil) (fun c hc => hs c (b1 c hc)) w hw, wstep_len _ _ _ (fun _ h => absurd h List.not_mem_nil) (by simp; omega) w hw⟩, ?_⟩
  have := wstep_many (bef l) ([], [])
  unfold wsL
  simp at this
  omega
end K11

set_option Elab.async false
set_option linter.all false
set_option maxRecDepth 100000
set_option maxHeartbeats 4000000
namespace K11
open PySem PySem.Spec PyProof.Rows L2 Y TL
abbrev tLP : MT := mAnd (mTB (mB dNe (mVar 1) (mLst mNil))) (mTB (mBM "str" (fTxB Txt.endswith) (mB dIx (mVar 1) (mC (.int 0))) (mCons (mC (.str ":")) mNil)))
theorem t_test {x nm : Option D} {iw inn : Nat} {ws : List (List Nat)} {S : Sr} (h : S.f iw = some (.lst (ws.map strL))) (hl : iw < S.n) (hs : ∀ w ∈ ws, Sgn w) :
    tLP [x, some (.adr iw), some (.adr inn), nm] S = .ok (match ws with
      | [] => false
      | w :: _ => decide (w.getLast? = some 58)) (S.alloc (.lst [])) := by
  have z0 : 0 ≤ sizeLine := Nat.zero_le _
  have hne : iw ≠ S.n := Nat.ne_of_lt hl
  have h2 : (S.alloc (.lst [])).f iw = some (.lst (ws.map strL)) := (if_neg hne).trans h
  have e0 : dNe (.adr iw) (.adr S.n) (S.alloc (.lst [])) = .ok (.bl (!ws.isEmpty)) (S.alloc (.lst [])) := ne_nilS h2 (if_pos rfl) hs
  cases ws with
  | nil => simp (decide := true) [tLP, mSeq, mPass, mBrk, mCnt, mDrop, mRet, mRetN, mIfS, mRaise, mSet, mAsg, mPar, mPar3, mAug, mFld, mFldAug, gNm, gSub', gFld, gNl, gCn, gTp, setA, putFD, mVar, mC, mB, mU, mTB, mAnd, mOr, mNot, mIf, mAndV, mOrV, mNotV, mChain, mNil, mCons, mTup, mLst, mSl, oNo, oE, mCB, fAbs, fMax2, fMin2, fInt, lenD, fLen, fTuple, fList, itemsD, fIsi, tyD, mAttr, mCall, mMeth, mMake, mBM, tyF, SM.bind, SM.pure, toRS, toRSA, toRST, Y.sb, List.lookup, put_f, put_n, alloc_f, alloc_n, put_put, alloc_put, okI, okB, orF, dSub, dFdiv, dMod, dPow, dShl, dShr, dAnd, dOr, dXor, dNeg, dLt, dLe, dGt, dGe, dIs, e0]
  | cons w r =>
    have i0 := ixL0 h2
    have ee : Txt.endswith (sg w) (":" : Str) = decide (w.getLast? = some 58) := ends_colon (sg w)
    simp (decide := true) [tLP, mSeq, mPass, mBrk, mCnt, mDrop, mRet, mRetN, mIfS, mRaise, mSet, mAsg, mPar, mPar3, mAug, mFld, mFldAug, gNm, gSub', gFld, gNl, gCn, gTp, setA, putFD, mVar, mC, mB, mU, mTB, mAnd, mOr, mNot, mIf, mAndV, mOrV, mNotV, mChain, mNil, mCons, mTup, mLst, mSl, oNo, oE, mCB, fAbs, fMax2, fMin2, fInt, lenD, fLen, fTuple, fList, itemsD, fIsi, tyD, mAttr, mCall, mMeth, mMake, mBM, tyF, SM.bind, SM.pure, toRS, toRSA, toRST, Y.sb, List.lookup, put_f, put_n, alloc_f, alloc_n, put_put, alloc_put, okI, okB, orF, dSub, dFdiv, dMod, dPow, dShl, dShr, dAnd, dOr, dXor, dNeg, dLt, dLe, dGt, dGe, dIs, e0, i0, fTxB, ee]
theorem t_body {x nm : Option D} {iw inn : Nat} {w : List Nat} {ws acc : List (List Nat)} {S : Sr} (h : S.f iw = some (.lst ((w :: ws).map strL))) (h2 : S.f inn = some (.lst (acc.map strL))) (hn : iw ≠ inn) (hw : w.getLast? = some 58) (hz : w.length ≤ 1000) (hs : Sgn w) (ha : acc.length ≤ 2000) :
    b_line_parts_L37 [x, some (.adr iw), some (.adr inn), nm] S = if labB w.dropLast = true then .nx [x, some (.adr iw), some (.adr inn), some (strL w.dropLast)] ((S.put iw (.lst (ws.map strL))).put inn (.lst ((acc ++ [w.dropLast]).map strL))) else .ex "CodeError" (S.put iw (.lst (ws.map strL))) := by
  have wne : w ≠ [] := fun e => by rw [e] at hw; cases hw
  have k0 : seqIndex? (0 : Int) (ws.length + 1) = some 0 := by
    unfold seqIndex?
    simp
  have zc : (sg w).length ≤ sizeLine := by rw [sg_len, sizeLine_eq]; omega
  have ec := cut_last (x := sg w) (by rw [tl_sg]; exact wne)
  rw [tl_sg] at ec
  have el := fun S : Sr => e_label (x := sg w.dropLast) (S := S) (by rw [sg_len, List.length_dropLast]; omega) (by rw [tl_sg]; exact fun c hc => hs c (List.dropLast_subset _ hc))
  rw [tl_sg] at el
  have sz : acc.length < sizeLine := by rw [sizeLine_eq]; omega
  have hn2 : inn ≠ iw := Ne.symm hn
  rw [List.map_cons] at h
  cases hb : labB w.dropLast with
  | true =>
    rw [hb] at el
    simp (decide := true) [b_line_parts_L37, mSeq, mPass, mBrk, mCnt, mDrop, mRet, mRetN, mIfS, mRaise, mSet, mAsg, mPar, mPar3, mAug, mFld, mFldAug, gNm, gSub', gFld, gNl, gCn, gTp, setA, putFD, mVar, mC, mB, mU, mTB, mAnd, mOr, mNot, mIf, mAndV, mOrV, mNotV, mChain, mNil, mCons, mTup, mLst, mSl, oNo, oE, mCB, fAbs, fMax2, fMin2, fInt, lenD, fLen, fTuple, fList, itemsD, fIsi, tyD, mAttr, mCall, mMeth, mMake, mBM, tyF, SM.bind, SM.pure, toRS, toRSA, toRST, Y.sb, List.lookup, put_f, put_n, alloc_f, alloc_n, put_put, alloc_put, okI, okB, orF, dSub, dFdiv, dMod, dPow, dShl, dShr, dAnd, dOr, dXor, dNeg, dLt, dLe, dGt, dGe, dIs, slD, fPopAt, h, k0, zc, ec, el, h2, hn, hn2, fApp, sz]
  | false =>
    rw [hb] at el
    simp (decide := true) [b_line_parts_L37, mSeq, mPass, mBrk, mCnt, mDrop, mRet, mRetN, mIfS, mRaise, mSet, mAsg, mPar, mPar3, mAug, mFld, mFldAug, gNm, gSub', gFld, gNl, gCn, gTp, setA, putFD, mVar, mC, mB, mU, mTB, mAnd, mOr, mNot, mIf, mAndV, mOrV, mNotV, mChain, mNil, mCons, mTup, mLst, mSl, oNo, oE, mCB, fAbs, fMax2, fMin2, fInt, lenD, fLen, fTuple, fList, itemsD, fIsi, tyD, mAttr, mCall, mMeth, mMake, mBM, tyF, SM.bind, SM.pure, toRS, toRSA, toRST, Y.sb, List.lookup, put_f, put_n, alloc_f, alloc_n, put_put, alloc_put, okI, okB, orF, dSub, dFdiv, dMod, dPow, dShl, dShr, dAnd, dOr, dXor, dNeg, dLt, dLe, dGt, dGe, dIs, slD, fPopAt, h, k0, zc, ec, el, h2, hn, hn2, fApp, sz]
theorem w_loop {x : Option D} {iw inn : Nat} {S0 : Sr} (hn : iw ≠ inn) (h0 : S0.n ≤ iw) (h1 : S0.n ≤ inn) : ∀ (ws acc : List (List Nat)) (k : Nat) (nm : Option D) (S : Sr), ws.length < k → S.f iw = some (.lst (ws.map strL)) → S.f inn = some (.lst (acc.map strL)) → iw < S.n → inn < S.n → Xt S0 S →
    (∀ w ∈ ws, Sgn w ∧ w.length ≤ 1000) → acc.length + ws.length ≤ 2000 →
    (match lpW ws with
    | some (ns, r) => ∃ nm' S', whileG tLP b_line_parts_L37 k [x, some (.adr iw), some (.adr inn), nm] S = .nx [x, some (.adr iw), some (.adr inn), nm'] S' ∧ Xt S0 S' ∧ S.n ≤ S'.n ∧ S'.f iw = some (.lst (r.map strL)) ∧ S'.f inn = some (.lst ((acc ++ ns).map strL))
    | none => ∃ S', whileG tLP b_line_parts_L37 k [x, some (.adr iw), some (.adr inn), nm] S = .ex "CodeError" S' ∧ Xt S0 S')
  | [], acc, k + 1, nm, S, _, e1, e2, l1, l2, xt, hs, _ => by
    have t := t_test (x := x) (nm := nm) (inn := inn) e1 l1 (fun w hw => nomatch hw)
    show ∃ nm' S', _
    refine ⟨nm, S.alloc (.lst []), wl_end t, xt.trans Xt.alloc, Nat.le_succ _, (if_neg (Nat.ne_of_lt l1)).trans e1, ?_⟩
    rw [List.append_nil]
    exact (if_neg (Nat.ne_of_lt l2)).trans e2
  | w :: ws, acc, k + 1, nm, S, hk, e1, e2, l1, l2, xt, hs, hl => by
    have t := t_test (x := x) (nm := nm) (inn := inn) e1 l1 (fun w hw => (hs w hw).1)
    have a1 : (S.alloc (.lst [])).f iw = some (.lst ((w :: ws).map strL)) := (if_neg (Nat.ne_of_lt l1)).trans e1
    have a2 : (S.alloc (.lst [])).f inn = some (.lst (acc.map strL)) := (if_neg (Nat.ne_of_lt l2)).trans e2
    unfold lpW
    by_cases hw : w.getLast? = some 58
    · rw [if_pos hw]
      have hd : decide (w.getLast? = some 58) = true := decide_eq_true hw
      simp only [hd] at t
      have b := t_body (x := x) (nm := nm) a1 a2 hn hw (hs w List.mem_cons_self).2 (hs w List.mem_cons_self).1 (by omega)
      by_cases hb : labB w.dropLast = true
      · rw [if_pos hb] at b ⊢
        have ih := w_loop (x := x) hn h0 h1 ws (acc ++ [w.dropLast]) k (some (strL w.dropLast)) (((S.alloc (.lst [])).put iw (.lst (ws.map strL))).put inn (.lst ((acc ++ [w.dropLast]).map strL))) (by rw [List.length_cons] at hk; omega)
          ((if_neg hn).trans (if_pos rfl)) (if_pos rfl) (Nat.lt_succ_of_lt l1) (Nat.lt_succ_of_lt l2) (((xt.trans Xt.alloc).put h0).put h1) (fun v hv => hs v (List.mem_cons_of_mem _ hv)) (by rw [List.length_append, List.length_singleton]; rw [List.length_cons] at hl; omega)
        cases hp : lpW ws with
        | none =>
          rw [hp] at ih
          obtain ⟨S', i1, i2⟩ := ih
          exact ⟨S', (wl_nx t b).trans i1, i2⟩
        | some p =>
          obtain ⟨ns, r⟩ := p
          rw [hp] at ih
          obtain ⟨nm', S', i1, i2, i3, i4, i5⟩ := ih
          refine ⟨nm', S', (wl_nx t b).trans i1, i2, Nat.le_trans (Nat.le_succ _) i3, i4, ?_⟩
          rw [i5, List.append_assoc]
          rfl
      · rw [if_neg hb] at b ⊢
        exact ⟨_, wl_ex t b, (xt.trans Xt.alloc).put h0⟩
    · rw [if_neg hw]
      have hd : decide (w.getLast? = some 58) = false := decide_eq_false hw
      simp only [hd] at t
      refine ⟨nm, S.alloc (.lst []), wl_end t, xt.trans Xt.alloc, Nat.le_succ _, a1, ?_⟩
      rw [List.append_nil]
      exact a2
theorem e_parts {x : Str} {S : Sr} (hz : x.length ≤ 1000) (ok : Sgn (tl x)) :
    match lpL (tl x) with
    | some (ns, ws) => ∃ S' i j, f_line_parts [.str x] S = .ok (.tup [.adr i, .adr j]) S' ∧ Xt S S' ∧ S.n ≤ i ∧ i < S'.n ∧ S.n ≤ j ∧ j < S'.n ∧ i ≠ j ∧ S'.f i = some (.lst (ns.map strL)) ∧ S'.f j = some (.lst (ws.map strL))
    | none => ∃ S', f_line_parts [.str x] S = .exc "CodeError" S' ∧ Xt S S' := by
  have hl := len_tl x
  obtain ⟨w1, w2⟩ := ws_ok ok (by omega)
  have b2 := (bef_sub (tl x)).2
  have z1 : x.length ≤ sizeLine := by rw [sizeLine_eq]; omega
  have z2 : (sg (bef (tl x))).length + 2 ≤ sizeLine := by rw [sg_len, sizeLine_eq]; omega
  have z0 : 0 ≤ sizeLine := Nat.zero_le _
  have ep := part_bef x
  have ew : Txt.words (sg (bef (tl x))) = (wsL (bef (tl x))).map sg := words_ws (sg (bef (tl x)))
  have em : ((wsL (bef (tl x))).map sg).map D.str = (wsL (bef (tl x))).map strL := by rw [List.map_map]; rfl
  have el2 : (("//" : Str).length == 0) = false := by decide +kernel
  -- the first statement
  let S2 : Sr := (S.alloc (.lst ((wsL (bef (tl x))).map strL))).alloc (.lst [])
  have e1 : mPar 1 2 (mCons (mBM "str" fWords (mB dIx (mBM "str" fPart (mVar 0) (mCons (mC (.str "//")) mNil)) (mC (.int 0))) mNil) (mCons (mLst mNil) mNil)) [some (.str x), none, none, none] S = .nx [some (.str x), some (.adr S.n), some (.adr (S.n + 1)), none] S2 := by
    simp (decide := true) [mSeq, mPass, mBrk, mCnt, mDrop, mRet, mRetN, mIfS, mRaise, mSet, mAsg, mPar, mPar3, mAug, mFld, mFldAug, gNm, gSub', gFld, gNl, gCn, gTp, setA, putFD, mVar, mC, mB, mU, mTB, mAnd, mOr, mNot, mIf, mAndV, mOrV, mNotV, mChain, mNil, mCons, mTup, mLst, mSl, oNo, oE, mCB, fAbs, fMax2, fMin2, fInt, lenD, fLen, fTuple, fList, itemsD, fIsi, tyD, mAttr, mCall, mMeth, mMake, mBM, tyF, SM.bind, SM.pure, toRS, toRSA, toRST, Y.sb, List.lookup, put_f, put_n, alloc_f, alloc_n, put_put, alloc_put, okI, okB, orF, dSub, dFdiv, dMod, dPow, dShl, dShr, dAnd, dOr, dXor, dNeg, dLt, dLe, dGt, dGe, dIs, fPart, z1, el2, ixT0, fWords, ep, z2, ew, S2]
    rfl
  have lp := w_loop (x := some (.str x)) (S0 := S) (iw := S.n) (inn := S.n + 1) (by omega) (Nat.le_refl _) (Nat.le_succ _) (wsL (bef (tl x))) [] FU none S2 (by unfold FU; omega)
    ((if_neg (Nat.ne_of_lt (Nat.lt_succ_self _))).trans (if_pos rfl)) (if_pos rfl) (show S.n < S.n + 1 + 1 by omega) (Nat.lt_succ_self _) (Xt.alloc.trans Xt.alloc) w1 (by simp; omega)
  unfold lpL
  unfold f_line_parts mFun
  have eg : ([D.str x].map some ++ List.replicate (4 - [D.str x].length) none : Gm) = [some (.str x), none, none, none] := rfl
  rw [eg]
  unfold b_line_parts
  have eseq : ∀ r : MS, mSeq (mPar 1 2 (mCons (mBM "str" fWords (mB dIx (mBM "str" fPart (mVar 0) (mCons (mC (.str "//")) mNil)) (mC (.int 0))) mNil) (mCons (mLst mNil) mNil))) r [some (.str x), none, none, none] S = r [some (.str x), some (.adr S.n), some (.adr (S.n + 1)), none] S2 := fun r => by
    unfold mSeq
    rw [e1]
  rw [eseq]
  cases hp : lpW (wsL (bef (tl x))) with
  | none =>
    rw [hp] at lp
    obtain ⟨S', i1, i2⟩ := lp
    refine ⟨S', ?_, i2⟩
    unfold mSeq
    rw [i1]
  | some p =>
    obtain ⟨ns, r⟩ := p
    rw [hp] at lp
    obtain ⟨nm', S', i1, i2, i3, i4, i5⟩ := lp
    have i3 : S.n + 1 + 1 ≤ S'.n := i3
    have sz2 : 2 ≤ sizeLine := by rw [sizeLine_eq]; omega
    refine ⟨S', S.n + 1, S.n, ?_, i2, Nat.le_succ _, by omega, Nat.le_refl _, by omega, by omega, i5, i4⟩
    unfold mSeq
    rw [i1]
    simp (decide := true) [mSeq, mPass, mBrk, mCnt, mDrop, mRet, mRetN, mIfS, mRaise, mSet, mAsg, mPar, mPar3, mAug, mFld, mFldAug, gNm, gSub', gFld, gNl, gCn, gTp, setA, putFD, mVar, mC, mB, mU, mTB, mAnd, mOr, mNot, mIf, mAndV, mOrV, mNotV, mChain, mNil, mCons, mTup, mLst, mSl, oNo, oE, mCB, fAbs, fMax2, fMin2, fInt, lenD, fLen, fTuple, fList, itemsD, fIsi, tyD, mAttr, mCall, mMeth, mMake, mBM, tyF, SM.bind, SM.pure, toRS, toRSA, toRST, Y.sb, List.lookup, put_f, put_n, alloc_f, alloc_n, put_put, alloc_put, okI, okB, orF, dSub, dFdiv, dMod, dPow, dShl, dShr, dAnd, dOr, dXor, dNeg, dLt, dLe, dGt, dGe, dIs, sz2]
end K11

set_option Elab.async false
set_option linter.all false
set_option maxRecDepth 100000
set_option maxHeartbeats 4000000
namespace K11
open PySem PySem.Spec PyProof.Rows L2 Y TL
abbrev wd (s : String) : List Nat := tl (Str.ofString s)
theorem sg_inj {a b : List Nat} : sg a = sg b ↔ a = b := ⟨fun h => by have := congrArg tl h; exact this, fun h => by rw [h]⟩
theorem strL_wd (s : String) : strL (wd s) = .str (Str.ofString s) := by show D.str (sg (tl _)) = _; rw [sg_tl]
def INS : List (List Nat) := ["halt", "set", "load", "store", "add", "sub", "and", "xor", "jump", "zero", "less", "out", "in", "half", "from", "to"].map wd
def PLN : List (List Nat) := ["halt", "out", "in", "half"].map wd
def JMP : List (List Nat) := ["jump", "zero", "less"].map wd
theorem k_ins : K_INSTRUCTIONS = .ktp (INS.map strL) := by simp only [INS, List.map_cons, List.map_nil, strL_wd]; rfl
theorem k_pln : K_PLAIN = .ktp (PLN.map strL) := by simp only [PLN, List.map_cons, List.map_nil, strL_wd]; rfl
theorem k_jmp : K_JUMPS = .ktp (JMP.map strL) := by simp only [JMP, List.map_cons, List.map_nil, strL_wd]; rfl
theorem mapO_flat (l : List (List Nat)) : mapO flatD (l.map strL) = some (l.map fun x => V.str (sg x)) := by
  induction l with
  | nil => rfl
  | cons a l ih =>
    rw [List.map_cons, mapO, ih]
    rfl
theorem inV_strs (x : List Nat) (l : List (List Nat)) : inV (.str (sg x)) (l.map fun x => V.str (sg x)) = decide (x ∈ l) := by
  induction l with
  | nil => rfl
  | cons a l ih =>
    unfold inV at ih ⊢
    rw [List.map_cons, List.any_cons, ih]
    have e : eqV (.str (sg a)) (.str (sg x)) = decide (x = a) := by
      show (sg a == sg x) = _
      rw [Y.sb]
      exact decide_eq_decide.mpr ⟨fun h => (sg_inj.mp h).symm, fun h => by rw [h]⟩
    rw [e, ← Bool.decide_or]
    exact decide_eq_decide.mpr List.mem_cons.symm
theorem in_ktp {x : List Nat} {l : List (List Nat)} {S : Sr} {neg : Bool} : dIn neg (strL x) (.ktp (l.map strL)) S = .ok (.bl (if neg = true then !decide (x ∈ l) else decide (x ∈ l))) S := by
  have h1 := mapO_flat l
  have h2 := inV_strs x l
  simp [dIn, orF, inSeq, itemsD, flatD, h1, h2]
theorem in_adr {x : List Nat} {l : List (List Nat)} {S : Sr} {neg : Bool} {i : Nat} (h : S.f i = some (.lst (l.map strL))) : dIn neg (strL x) (.adr i) S = .ok (.bl (if neg = true then !decide (x ∈ l) else decide (x ∈ l))) S := by
  have h1 := mapO_flat l
  have h2 := inV_strs x l
  simp [dIn, orF, inSeq, itemsD, flatD, h1, h2, h]
theorem nIns {x : List Nat} {S : Sr} : dIn true (strL x) K_INSTRUCTIONS S = .ok (.bl (!decide (x ∈ INS))) S := by rw [k_ins, in_ktp]; rfl
theorem iPln {x : List Nat} {S : Sr} : dIn false (strL x) K_PLAIN S = .ok (.bl (decide (x ∈ PLN))) S := by rw [k_pln, in_ktp]; rfl
theorem iJmp {x : List Nat} {S : Sr} : dIn false (strL x) K_JUMPS S = .ok (.bl (decide (x ∈ JMP))) S := by rw [k_jmp, in_ktp]; rfl
/-! ### names and their places -/
def plD (pl : List (List Nat × Int)) : List (Key × D) := pl.map fun q => (Sum.inr (sg q.1), D.int q.2)
def look (pl : List (List Nat × Int)) (a : List Nat) : Option Int := (pl.find? fun q => decide (q.1 = a)).map (·.2)
theorem look_D (pl : List (List Nat × Int)) (a : List Nat) : lookD (plD pl) (Sum.inr (sg a)) = (look pl a).map D.int := by
  induction pl with
  | nil => rfl
  | cons q pl ih =>
    have e : plD (q :: pl) = (Sum.inr (sg q.1), D.int q.2) :: plD pl := rfl
    rw [e, look_cons]
    unfold look
    by_cases h : q.1 = a
    · rw [if_pos (by rw [h]), List.find?_cons_of_pos (by simp [h])]
      rfl
    · rw [if_neg (fun z => h (sg_inj.mp (Sum.inr.inj z))), List.find?_cons_of_neg (by simp [h]), ih]
      rfl
theorem in_pl {S : Sr} {p : Nat} {pl : List (List Nat × Int)} {a : List Nat} (h : S.f p = some (.dic (plD pl))) : dIn false (strL a) (.adr p) S = .ok (.bl (look pl a).isSome) S := by
  have e := look_D pl a
  simp [dIn, orF, inSeq, inTxt, inDic, itemsD, dicAt, h, keyD, e]
theorem ix_pl {S : Sr} {p : Nat} {pl : List (List Nat × Int)} {a : List Nat} {n : Int} (h : S.f p = some (.dic (plD pl))) (hn : look pl a = some n) : dIx (.adr p) (strL a) S = .ok (.int n) S := by
  have e := look_D pl a
  rw [hn] at e
  simp [dIx, orF, ixSeq, ixTxt, ixDic, itemsD, dicAt, h, keyD, e]
/-! ### one instruction -/
def io (ws : List (List Nat)) (pl : List (List Nat × Int)) : Option (List Nat × Int) := match ws with
  | [] => none
  | w :: r => if w ∉ INS ∨ r.length ≠ (if w ∈ PLN then 0 else 1) then none
    else if w ∈ PLN then some (w, 0)
    else match r with
      | [] => none
      | a :: _ => match (if w ∈ JMP then look pl a else none) with
        | some n => some (w, n)
        | none => if 3 < a.length ∨ a.all digB = false then none else some (w, (NumText.digitsVal a : Nat))
abbrev rowN (r : List Nat × Int) : D := .tup [strL r.1, .int r.2]
theorem digs {a : List Nat} (h : a.all digB = true) : NumText.AllDigits a := fun c hc => by
  have := List.all_eq_true.mp h c hc
  unfold digB at this
  simpa using this
theorem e_instr {ws : List (List Nat)} {pl : List (List Nat × Int)} {w p : Nat} {S : Sr} (hw : S.f w = some (.lst (ws.map strL))) (hp : S.f p = some (.dic (plD pl))) (h0 : ws ≠ []) (ok : ∀ x ∈ ws, Sgn x ∧ x.length ≤ 1000 ∧ x ≠ []) (hl : ws.length ≤ 1001) :
    f_instruction_of [.adr w, .adr p] S = match io ws pl with
      | some r => .ok (rowN r) S
      | none => .exc "CodeError" S := by
  have sz2 : 2 ≤ sizeLine := by rw [sizeLine_eq]; omega
  cases ws with
  | nil => exact absurd rfl h0
  | cons v r =>
    rw [List.map_cons] at hw
    have i0 := ixL0 hw
    have n1 := nIns (x := v) (S := S)
    have n2 := iPln (x := v) (S := S)
    have n3 := iJmp (x := v) (S := S)
    by_cases a1 : v ∈ INS
    · by_cases a2 : v ∈ PLN
      · by_cases a3 : r.length = 0
        · have a3' : r = [] := List.length_eq_zero_iff.mp a3
          subst a3'
          simp (decide := true) [io, f_instruction_of, mFun, b_instruction_of, mSeq, mPass, mBrk, mCnt, mDrop, mRet, mRetN, mIfS, mRaise, mSet, mAsg, mPar, mPar3, mAug, mFld, mFldAug, gNm, gSub', gFld, gNl, gCn, gTp, setA, putFD, mVar, mC, mB, mU, mTB, mAnd, mOr, mNot, mIf, mAndV, mOrV, mNotV, mChain, mNil, mCons, mTup, mLst, mSl, oNo, oE, mCB, fAbs, fMax2, fMin2, fInt, lenD, fLen, fTuple, fList, itemsD, fIsi, tyD, mAttr, mCall, mMeth, mMake, mBM, tyF, SM.bind, SM.pure, toRS, toRSA, toRST, Y.sb, List.lookup, put_f, put_n, alloc_f, alloc_n, put_put, alloc_put, okI, okB, orF, dSub, dFdiv, dMod, dPow, dShl, dShr, dAnd, dOr, dXor, dNeg, dLt, dLe, dGt, dGe, dIs, hw, i0, n1, n2, n3, a1, a2, ev_neI, sz2]
        · have c1 : ¬ ((r.length : Int) + 1 = 1) := by omega
          simp (decide := true) [io, f_instruction_of, mFun, b_instruction_of, mSeq, mPass, mBrk, mCnt, mDrop, mRet, mRetN, mIfS, mRaise, mSet, mAsg, mPar, mPar3, mAug, mFld, mFldAug, gNm, gSub', gFld, gNl, gCn, gTp, setA, putFD, mVar, mC, mB, mU, mTB, mAnd, mOr, mNot, mIf, mAndV, mOrV, mNotV, mChain, mNil, mCons, mTup, mLst, mSl, oNo, oE, mCB, fAbs, fMax2, fMin2, fInt, lenD, fLen, fTuple, fList, itemsD, fIsi, tyD, mAttr, mCall, mMeth, mMake, mBM, tyF, SM.bind, SM.pure, toRS, toRSA, toRST, Y.sb, List.lookup, put_f, put_n, alloc_f, alloc_n, put_put, alloc_put, okI, okB, orF, dSub, dFdiv, dMod, dPow, dShl, dShr, dAnd, dOr, dXor, dNeg, dLt, dLe, dGt, dGe, dIs, hw, i0, n1, n2, n3, a1, a2, a3, ev_neI, sz2, c1]
      · by_cases a3 : r.length = 1
        · obtain ⟨a, rfl⟩ := List.length_eq_one_iff.mp a3
          have i1 := ixL1 hw
          have ha := ok a (by simp)
          have la : (sg a).length ≤ sizeLine := by rw [sg_len, sizeLine_eq]; omega
          have n4 := in_pl (a := a) hp
          have em : ∀ g : Gm, (mB dIx (mVar 0) (mC (.int 1))) g S = .ok (strL a) S → mAnyS (notInS "0123456789") (mB dIx (mVar 0) (mC (.int 1))) g S = .ok (.bl (!a.all digB)) S := fun g hg => by
            have := anyDig (x := sg a)
            rw [tl_sg] at this
            rw [← this]
            unfold mAnyS SM.bind
            rw [hg]
          have fin : (look pl a = none ∨ v ∉ JMP) → f_instruction_of [.adr w, .adr p] S = (if 3 < a.length ∨ a.all digB = false then .exc "CodeError" S else .ok (rowN (v, (NumText.digitsVal a : Nat))) S) := fun hno => by
            have em1 := em [some (.adr w), some (.adr p), some (strL v), none] (by simp [mSeq, mPass, mBrk, mCnt, mDrop, mRet, mRetN, mIfS, mRaise, mSet, mAsg, mPar, mPar3, mAug, mFld, mFldAug, gNm, gSub', gFld, gNl, gCn, gTp, setA, putFD, mVar, mC, mB, mU, mTB, mAnd, mOr, mNot, mIf, mAndV, mOrV, mNotV, mChain, mNil, mCons, mTup, mLst, mSl, oNo, oE, mCB, fAbs, fMax2, fMin2, fInt, lenD, fLen, fTuple, fList, itemsD, fIsi, tyD, mAttr, mCall, mMeth, mMake, mBM, tyF, SM.bind, SM.pure, toRS, toRSA, toRST, Y.sb, List.lookup, put_f, put_n, alloc_f, alloc_n, put_put, alloc_put, okI, okB, orF, dSub, dFdiv, dMod, dPow, dShl, dShr, dAnd, dOr, dXor, dNeg, dLt, dLe, dGt, dGe, dIs, i1])
            have t1 : (if v ∈ JMP then (look pl a).isSome else false) = false := by
              rcases hno with h | h
              · rw [h]; simp
              · rw [if_neg h]
            by_cases b1 : 3 < a.length
            · have b1c : (3 : Int) < ((sg a).length : Int) := by rw [sg_len]; omega
              by_cases j : v ∈ JMP
              · rw [if_pos j] at t1
                simp (decide := true) [f_instruction_of, mFun, b_instruction_of, mSeq, mPass, mBrk, mCnt, mDrop, mRet, mRetN, mIfS, mRaise, mSet, mAsg, mPar, mPar3, mAug, mFld, mFldAug, gNm, gSub', gFld, gNl, gCn, gTp, setA, putFD, mVar, mC, mB, mU, mTB, mAnd, mOr, mNot, mIf, mAndV, mOrV, mNotV, mChain, mNil, mCons, mTup, mLst, mSl, oNo, oE, mCB, fAbs, fMax2, fMin2, fInt, lenD, fLen, fTuple, fList, itemsD, fIsi, tyD, mAttr, mCall, mMeth, mMake, mBM, tyF, SM.bind, SM.pure, toRS, toRSA, toRST, Y.sb, List.lookup, put_f, put_n, alloc_f, alloc_n, put_put, alloc_put, okI, okB, orF, dSub, dFdiv, dMod, dPow, dShl, dShr, dAnd, dOr, dXor, dNeg, dLt, dLe, dGt, dGe, dIs, hw, i0, i1, n1, n2, n3, n4, a1, a2, j, t1, ev_neI, sz2, la, b1, b1c]
              · simp (decide := true) [f_instruction_of, mFun, b_instruction_of, mSeq, mPass, mBrk, mCnt, mDrop, mRet, mRetN, mIfS, mRaise, mSet, mAsg, mPar, mPar3, mAug, mFld, mFldAug, gNm, gSub', gFld, gNl, gCn, gTp, setA, putFD, mVar, mC, mB, mU, mTB, mAnd, mOr, mNot, mIf, mAndV, mOrV, mNotV, mChain, mNil, mCons, mTup, mLst, mSl, oNo, oE, mCB, fAbs, fMax2, fMin2, fInt, lenD, fLen, fTuple, fList, itemsD, fIsi, tyD, mAttr, mCall, mMeth, mMake, mBM, tyF, SM.bind, SM.pure, toRS, toRSA, toRST, Y.sb, List.lookup, put_f, put_n, alloc_f, alloc_n, put_put, alloc_put, okI, okB, orF, dSub, dFdiv, dMod, dPow, dShl, dShr, dAnd, dOr, dXor, dNeg, dLt, dLe, dGt, dGe, dIs, hw, i0, i1, n1, n2, n3, n4, a1, a2, j, ev_neI, sz2, la, b1, b1c]
            · have b1c : ¬ (3 : Int) < ((sg a).length : Int) := by rw [sg_len]; omega
              cases b2 : a.all digB with
              | false =>
                rw [b2] at em1
                by_cases j : v ∈ JMP
                · rw [if_pos j] at t1
                  simp (decide := true) [f_instruction_of, mFun, b_instruction_of, mSeq, mPass, mBrk, mCnt, mDrop, mRet, mRetN, mIfS, mRaise, mSet, mAsg, mPar, mPar3, mAug, mFld, mFldAug, gNm, gSub', gFld, gNl, gCn, gTp, setA, putFD, mVar, mC, mB, mU, mTB, mAnd, mOr, mNot, mIf, mAndV, mOrV, mNotV, mChain, mNil, mCons, mTup, mLst, mSl, oNo, oE, mCB, fAbs, fMax2, fMin2, fInt, lenD, fLen, fTuple, fList, itemsD, fIsi, tyD, mAttr, mCall, mMeth, mMake, mBM, tyF, SM.bind, SM.pure, toRS, toRSA, toRST, Y.sb, List.lookup, put_f, put_n, alloc_f, alloc_n, put_put, alloc_put, okI, okB, orF, dSub, dFdiv, dMod, dPow, dShl, dShr, dAnd, dOr, dXor, dNeg, dLt, dLe, dGt, dGe, dIs, hw, i0, i1, n1, n2, n3, n4, a1, a2, j, t1, ev_neI, sz2, la, b1, b1c, em1]
                · simp (decide := true) [f_instruction_of, mFun, b_instruction_of, mSeq, mPass, mBrk, mCnt, mDrop, mRet, mRetN, mIfS, mRaise, mSet, mAsg, mPar, mPar3, mAug, mFld, mFldAug, gNm, gSub', gFld, gNl, gCn, gTp, setA, putFD, mVar, mC, mB, mU, mTB, mAnd, mOr, mNot, mIf, mAndV, mOrV, mNotV, mChain, mNil, mCons, mTup, mLst, mSl, oNo, oE, mCB, fAbs, fMax2, fMin2, fInt, lenD, fLen, fTuple, fList, itemsD, fIsi, tyD, mAttr, mCall, mMeth, mMake, mBM, tyF, SM.bind, SM.pure, toRS, toRSA, toRST, Y.sb, List.lookup, put_f, put_n, alloc_f, alloc_n, put_put, alloc_put, okI, okB, orF, dSub, dFdiv, dMod, dPow, dShl, dShr, dAnd, dOr, dXor, dNeg, dLt, dLe, dGt, dGe, dIs, hw, i0, i1, n1, n2, n3, n4, a1, a2, j, ev_neI, sz2, la, b1, b1c, em1]
              | true =>
                rw [b2] at em1
                have it : intText? (sg a) = some ((NumText.digitsVal a : Nat) : Int) := intText_digits (x := sg a) (digs b2) ha.2.2 (by rw [sg_len]; omega)
                have l6 : (sg a).length ≤ 640 := by rw [sg_len]; omega
                by_cases j : v ∈ JMP
                · rw [if_pos j] at t1
                  simp (decide := true) [f_instruction_of, mFun, b_instruction_of, mSeq, mPass, mBrk, mCnt, mDrop, mRet, mRetN, mIfS, mRaise, mSet, mAsg, mPar, mPar3, mAug, mFld, mFldAug, gNm, gSub', gFld, gNl, gCn, gTp, setA, putFD, mVar, mC, mB, mU, mTB, mAnd, mOr, mNot, mIf, mAndV, mOrV, mNotV, mChain, mNil, mCons, mTup, mLst, mSl, oNo, oE, mCB, fAbs, fMax2, fMin2, fInt, lenD, fLen, fTuple, fList, itemsD, fIsi, tyD, mAttr, mCall, mMeth, mMake, mBM, tyF, SM.bind, SM.pure, toRS, toRSA, toRST, Y.sb, List.lookup, put_f, put_n, alloc_f, alloc_n, put_put, alloc_put, okI, okB, orF, dSub, dFdiv, dMod, dPow, dShl, dShr, dAnd, dOr, dXor, dNeg, dLt, dLe, dGt, dGe, dIs, hw, i0, i1, n1, n2, n3, n4, a1, a2, j, t1, ev_neI, sz2, la, b1, b1c, em1, it, l6]
                · simp (decide := true) [f_instruction_of, mFun, b_instruction_of, mSeq, mPass, mBrk, mCnt, mDrop, mRet, mRetN, mIfS, mRaise, mSet, mAsg, mPar, mPar3, mAug, mFld, mFldAug, gNm, gSub', gFld, gNl, gCn, gTp, setA, putFD, mVar, mC, mB, mU, mTB, mAnd, mOr, mNot, mIf, mAndV, mOrV, mNotV, mChain, mNil, mCons, mTup, mLst, mSl, oNo, oE, mCB, fAbs, fMax2, fMin2, fInt, lenD, fLen, fTuple, fList, itemsD, fIsi, tyD, mAttr, mCall, mMeth, mMake, mBM, tyF, SM.bind, SM.pure, toRS, toRSA, toRST, Y.sb, List.lookup, put_f, put_n, alloc_f, alloc_n, put_put, alloc_put, okI, okB, orF, dSub, dFdiv, dMod, dPow, dShl, dShr, dAnd, dOr, dXor, dNeg, dLt, dLe, dGt, dGe, dIs, hw, i0, i1, n1, n2, n3, n4, a1, a2, j, ev_neI, sz2, la, b1, b1c, em1, it, l6]
          have hio : io [v, a] pl = (match (if v ∈ JMP then look pl a else none) with
            | some n => some (v, n)
            | none => if 3 < a.length ∨ a.all digB = false then none else some (v, (NumText.digitsVal a : Nat))) := by
            simp [io, a1, a2]
          rw [hio]
          by_cases j : v ∈ JMP
          · cases hk : look pl a with
            | none =>
              rw [fin (.inl hk)]
              simp only [if_pos j, hk]
              split <;> rfl
            | some n =>
              have i2 := ix_pl hp hk
              have t1 : (look pl a).isSome = true := by rw [hk]; rfl
              simp (decide := true) [f_instruction_of, mFun, b_instruction_of, mSeq, mPass, mBrk, mCnt, mDrop, mRet, mRetN, mIfS, mRaise, mSet, mAsg, mPar, mPar3, mAug, mFld, mFldAug, gNm, gSub', gFld, gNl, gCn, gTp, setA, putFD, mVar, mC, mB, mU, mTB, mAnd, mOr, mNot, mIf, mAndV, mOrV, mNotV, mChain, mNil, mCons, mTup, mLst, mSl, oNo, oE, mCB, fAbs, fMax2, fMin2, fInt, lenD, fLen, fTuple, fList, itemsD, fIsi, tyD, mAttr, mCall, mMeth, mMake, mBM, tyF, SM.bind, SM.pure, toRS, toRSA, toRST, Y.sb, List.lookup, put_f, put_n, alloc_f, alloc_n, put_put, alloc_put, okI, okB, orF, dSub, dFdiv, dMod, dPow, dShl, dShr, dAnd, dOr, dXor, dNeg, dLt, dLe, dGt, dGe, dIs, hw, i0, i1, i2, n1, n2, n3, n4, a1, a2, j, t1, ev_neI, sz2, hk]
          · rw [fin (.inr j)]
            simp only [if_neg j]
            split <;> rfl
        · have c1 : ¬ ((r.length : Int) + 1 = 2) := by omega
          simp (decide := true) [io, f_instruction_of, mFun, b_instruction_of, mSeq, mPass, mBrk, mCnt, mDrop, mRet, mRetN, mIfS, mRaise, mSet, mAsg, mPar, mPar3, mAug, mFld, mFldAug, gNm, gSub', gFld, gNl, gCn, gTp, setA, putFD, mVar, mC, mB, mU, mTB, mAnd, mOr, mNot, mIf, mAndV, mOrV, mNotV, mChain, mNil, mCons, mTup, mLst, mSl, oNo, oE, mCB, fAbs, fMax2, fMin2, fInt, lenD, fLen, fTuple, fList, itemsD, fIsi, tyD, mAttr, mCall, mMeth, mMake, mBM, tyF, SM.bind, SM.pure, toRS, toRSA, toRST, Y.sb, List.lookup, put_f, put_n, alloc_f, alloc_n, put_put, alloc_put, okI, okB, orF, dSub, dFdiv, dMod, dPow, dShl, dShr, dAnd, dOr, dXor, dNeg, dLt, dLe, dGt, dGe, dIs, hw, i0, n1, n2, n3, a1, a2, a3, ev_neI, sz2, c1]
    · simp (decide := true) [io, f_instruction_of, mFun, b_instruction_of, mSeq, mPass, mBrk, mCnt, mDrop, mRet, mRetN, mIfS, mRaise, mSet, mAsg, mPar, mPar3, mAug, mFld, mFldAug, gNm, gSub', gFld, gNl, gCn, gTp, setA, putFD, mVar, mC, mB, mU, mTB, mAnd, mOr, mNot, mIf, mAndV, mOrV, mNotV, mChain, mNil, mCons, mTup, mLst, mSl, oNo, oE, mCB, fAbs, fMax2, fMin2, fInt, lenD, fLen, fTuple, fList, itemsD, fIsi, tyD, mAttr, mCall, mMeth, mMake, mBM, tyF, SM.bind, SM.pure, toRS, toRSA, toRST, Y.sb, List.lookup, put_f, put_n, alloc_f, alloc_n, put_put, alloc_put, okI, okB, orF, dSub, dFdiv, dMod, dPow, dShl, dShr, dAnd, dOr, dXor, dNeg, dLt, dLe, dGt, dGe, dIs, hw, i0, n1, n2, n3, a1, ev_neI, sz2]
/-! ### one instruction checked -/
def sizF (d k : Nat) : List (Str × D) := [("data", .int (d : Nat)), ("code", .int (k : Nat))]
def bitsN (d k : Nat) (w : List Nat) : Nat := if w ∈ PLN then 0 else if w ∈ JMP then k else d
def fits (d k : Nat) (r : List Nat × Int) : Bool := decide (0 ≤ r.2) && decide (r.2 < 2 ^ bitsN d k r.1)
theorem kit_int : kitB "int" "int" = some true := by decide +kernel
theorem e_check {r : List Nat × Int} {iz d k : Nat} {S : Sr} (hz : S.f iz = some (.ins "Size" (sizF d k))) (hd : d ≤ 8) (hk : k ≤ 8) (hr : r.1 ∈ INS) :
    f_check_instruction [rowN r, .adr iz] S = if fits d k r = true then .ok .non S else .exc "CodeError" S := by
  obtain ⟨w, n⟩ := r
  have hr : w ∈ INS := hr
  have n1 := nIns (x := w) (S := S)
  have n2 := iPln (x := w) (S := S)
  have n3 := iJmp (x := w) (S := S)
  have j0 : dIx (.tup [strL w, .int n]) (.int 0) S = .ok (strL w) S := ixT0
  have j1 : dIx (.tup [strL w, .int n]) (.int 1) S = .ok (.int n) S := ixT1
  have pw : ∀ m : Nat, m ≤ 8 → powB 1 (m : Int) = true := fun m hm => by
    unfold powB
    exact decide_eq_true ⟨by omega, by omega, by decide⟩
  have p0 := pw 0 (by omega)
  have pd := pw d hd
  have pk := pw k hk
  unfold fits bitsN
  by_cases a1 : w ∈ PLN
  · have p0' : powB 1 0 = true := p0
    by_cases b1 : 0 ≤ n <;> by_cases b2 : n < 1 <;> simp (decide := true) [f_check_instruction, mFun, b_check_instruction, mSeq, mPass, mBrk, mCnt, mDrop, mRet, mRetN, mIfS, mRaise, mSet, mAsg, mPar, mPar3, mAug, mFld, mFldAug, gNm, gSub', gFld, gNl, gCn, gTp, setA, putFD, mVar, mC, mB, mU, mTB, mAnd, mOr, mNot, mIf, mAndV, mOrV, mNotV, mChain, mNil, mCons, mTup, mLst, mSl, oNo, oE, mCB, fAbs, fMax2, fMin2, fInt, lenD, fLen, fTuple, fList, itemsD, fIsi, tyD, mAttr, mCall, mMeth, mMake, mBM, tyF, SM.bind, SM.pure, toRS, toRSA, toRST, Y.sb, List.lookup, put_f, put_n, alloc_f, alloc_n, put_put, alloc_put, okI, okB, orF, dSub, dFdiv, dMod, dPow, dShl, dShr, dAnd, dOr, dXor, dNeg, dLt, dLe, dGt, dGe, dIs, hz, sizF, j0, j1, n1, n2, n3, hr, kit_int, a1, ev_neI, p0', b1, b2]
  · by_cases a2 : w ∈ JMP
    · by_cases b1 : 0 ≤ n <;> by_cases b2 : n < 2 ^ k <;> simp (decide := true) [f_check_instruction, mFun, b_check_instruction, mSeq, mPass, mBrk, mCnt, mDrop, mRet, mRetN, mIfS, mRaise, mSet, mAsg, mPar, mPar3, mAug, mFld, mFldAug, gNm, gSub', gFld, gNl, gCn, gTp, setA, putFD, mVar, mC, mB, mU, mTB, mAnd, mOr, mNot, mIf, mAndV, mOrV, mNotV, mChain, mNil, mCons, mTup, mLst, mSl, oNo, oE, mCB, fAbs, fMax2, fMin2, fInt, lenD, fLen, fTuple, fList, itemsD, fIsi, tyD, mAttr, mCall, mMeth, mMake, mBM, tyF, SM.bind, SM.pure, toRS, toRSA, toRST, Y.sb, List.lookup, put_f, put_n, alloc_f, alloc_n, put_put, alloc_put, okI, okB, orF, dSub, dFdiv, dMod, dPow, dShl, dShr, dAnd, dOr, dXor, dNeg, dLt, dLe, dGt, dGe, dIs, hz, sizF, j0, j1, n1, n2, n3, hr, kit_int, a1, a2, ev_neI, pk, b1, b2]
    · by_cases b1 : 0 ≤ n <;> by_cases b2 : n < 2 ^ d <;> simp (decide := true) [f_check_instruction, mFun, b_check_instruction, mSeq, mPass, mBrk, mCnt, mDrop, mRet, mRetN, mIfS, mRaise, mSet, mAsg, mPar, mPar3, mAug, mFld, mFldAug, gNm, gSub', gFld, gNl, gCn, gTp, setA, putFD, mVar, mC, mB, mU, mTB, mAnd, mOr, mNot, mIf, mAndV, mOrV, mNotV, mChain, mNil, mCons, mTup, mLst, mSl, oNo, oE, mCB, fAbs, fMax2, fMin2, fInt, lenD, fLen, fTuple, fList, itemsD, fIsi, tyD, mAttr, mCall, mMeth, mMake, mBM, tyF, SM.bind, SM.pure, toRS, toRSA, toRST, Y.sb, List.lookup, put_f, put_n, alloc_f, alloc_n, put_put, alloc_put, okI, okB, orF, dSub, dFdiv, dMod, dPow, dShl, dShr, dAnd, dOr, dXor, dNeg, dLt, dLe, dGt, dGe, dIs, hz, sizF, j0, j1, n1, n2, n3, hr, kit_int, a1, a2, ev_neI, pd, b1, b2]
end K11

set_option Elab.async false
set_option linter.all false
set_option maxRecDepth 100000
set_option maxHeartbeats 4000000
namespace K11
open PySem PySem.Spec PyProof.Rows L2 Y TL
/-! ### names to places -/
def addN : List (List Nat) → List (List Nat × Int) → Int → Option (List (List Nat × Int))
  | [], pl, _ => some pl
  | n :: r, pl, c => if (look pl n).isSome = true then none else addN r (pl ++ [(n, c)]) c
theorem look_none {pl : List (List Nat × Int)} {a : List Nat} (h : (look pl a).isSome = false) : ∀ q ∈ pl, q.1 ≠ a := by
  intro q hq e
  unfold look at h
  rw [Option.isSome_map] at h
  have := List.find?_isSome (xs := pl) (p := fun q => decide (q.1 = a))
  rw [← Bool.not_eq_true] at h
  exact h (this.mpr ⟨q, hq, by simp [e]⟩)
theorem put_pl {pl : List (List Nat × Int)} {a : List Nat} {c : Int} (h : (look pl a).isSome = false) : putD (plD pl) (Sum.inr (sg a)) (.int c) = plD (pl ++ [(a, c)]) := by
  have hn := look_none h
  have e : ((plD pl).any fun q => decide (q.1 = Sum.inr (sg a))) = false := by
    rw [List.any_eq_false]
    intro q hq
    obtain ⟨p, hp, rfl⟩ := List.mem_map.mp hq
    have := hn p hp
    simp only [decide_eq_true_eq]
    exact fun z => this (sg_inj.mp (Sum.inr.inj z))
  unfold putD
  rw [e, if_neg Bool.false_ne_true]
  unfold plD
  rw [List.map_append]
  rfl
section
variable {x0 x1 x4 x5 x6 x7 x8 x9 : Option D} {ip ir i : Nat} {S : Sr} {all : List (List Nat)} {rows : List D}
theorem names_loop (hi : S.f i = some (.lst (all.map strL))) (hr : S.f ir = some (.lst rows)) (n1 : i ≠ ip) (n2 : ir ≠ ip) : ∀ (r idx : Nat) (pl : List (List Nat × Int)) (x7 : Option D), idx + r = all.length → pl.length + r ≤ 3000 →
    (match addN (all.drop idx) pl (rows.length : Int) with
    | some pl' => ∃ y7, forG (sqa i all.length) (mStep (gNm 7) b_assemble_L49) r idx [x0, x1, some (.adr ip), some (.adr ir), x4, x5, x6, x7, x8, x9] (S.put ip (.dic (plD pl))) = .nx [x0, x1, some (.adr ip), some (.adr ir), x4, x5, x6, y7, x8, x9] (S.put ip (.dic (plD pl')))
    | none => ∃ pl', forG (sqa i all.length) (mStep (gNm 7) b_assemble_L49) r idx [x0, x1, some (.adr ip), some (.adr ir), x4, x5, x6, x7, x8, x9] (S.put ip (.dic (plD pl))) = .ex "CodeError" (S.put ip (.dic (plD pl'))))
  | 0, idx, pl, x7, h, _ => by
    rw [List.drop_eq_nil_of_le (by omega)]
    refine ⟨x7, fo_end ?_⟩
    rw [nx_sqa (at_put_ne hi n1), List.getElem?_eq_none (by rw [List.length_map]; omega)]
  | r + 1, idx, pl, x7, h, hz => by
    have hl : idx < all.length := by omega
    rw [List.drop_eq_getElem_cons hl]
    have en : (sqa i all.length).nxt idx (S.put ip (.dic (plD pl))) = some (some (strL all[idx])) := by
      rw [nx_sqa (at_put_ne hi n1), List.getElem?_map, List.getElem?_eq_getElem hl]
      rfl
    have hp : (S.put ip (.dic (plD pl))).f ip = some (.dic (plD pl)) := at_put
    have hr' : (S.put ip (.dic (plD pl))).f ir = some (.lst rows) := at_put_ne hr n2
    have e1 := in_pl (a := all[idx]) hp
    have sz : (plD pl).length < sizeLine := by
      unfold plD
      rw [List.length_map, sizeLine_eq]
      omega
    unfold addN
    by_cases hk : (look pl all[idx]).isSome = true
    · rw [if_pos hk]
      rw [hk] at e1
      refine ⟨pl, fo_ex en ?_⟩
      simp (decide := true) [mStep, b_assemble_L49, mSeq, mPass, mBrk, mCnt, mDrop, mRet, mRetN, mIfS, mRaise, mSet, mAsg, mPar, mPar3, mAug, mFld, mFldAug, gNm, gSub', gFld, gNl, gCn, gTp, setA, putFD, mVar, mC, mB, mU, mTB, mAnd, mOr, mNot, mIf, mAndV, mOrV, mNotV, mChain, mNil, mCons, mTup, mLst, mSl, oNo, oE, mCB, fAbs, fMax2, fMin2, fInt, lenD, fLen, fTuple, fList, itemsD, fIsi, tyD, mAttr, mCall, mMeth, mMake, mBM, tyF, SM.bind, SM.pure, toRS, toRSA, toRST, Y.sb, List.lookup, put_f, put_n, alloc_f, alloc_n, put_put, alloc_put, okI, okB, orF, dSub, dFdiv, dMod, dPow, dShl, dShr, dAnd, dOr, dXor, dNeg, dLt, dLe, dGt, dGe, dIs, e1]
    · rw [if_neg hk]
      have hk' : (look pl all[idx]).isSome = false := by simpa using hk
      rw [hk'] at e1
      have pp := put_pl (c := (rows.length : Nat)) hk'
      have es : mStep (gNm 7) b_assemble_L49 (strL all[idx]) [x0, x1, some (.adr ip), some (.adr ir), x4, x5, x6, x7, x8, x9] (S.put ip (.dic (plD pl))) = .nx [x0, x1, some (.adr ip), some (.adr ir), x4, x5, x6, some (strL all[idx]), x8, x9] (S.put ip (.dic (plD (pl ++ [(all[idx], (rows.length : Int))])))) := by
        have n2' : ¬ ir = ip := n2
        simp (decide := true) [mStep, b_assemble_L49, mSeq, mPass, mBrk, mCnt, mDrop, mRet, mRetN, mIfS, mRaise, mSet, mAsg, mPar, mPar3, mAug, mFld, mFldAug, gNm, gSub', gFld, gNl, gCn, gTp, setA, putFD, mVar, mC, mB, mU, mTB, mAnd, mOr, mNot, mIf, mAndV, mOrV, mNotV, mChain, mNil, mCons, mTup, mLst, mSl, oNo, oE, mCB, fAbs, fMax2, fMin2, fInt, lenD, fLen, fTuple, fList, itemsD, fIsi, tyD, mAttr, mCall, mMeth, mMake, mBM, tyF, SM.bind, SM.pure, toRS, toRSA, toRST, Y.sb, List.lookup, put_f, put_n, alloc_f, alloc_n, put_put, alloc_put, okI, okB, orF, dSub, dFdiv, dMod, dPow, dShl, dShr, dAnd, dOr, dXor, dNeg, dLt, dLe, dGt, dGe, dIs, e1, hr, n2', Y.putAt, putSeq, putDic, sz, keyD, pp]
      have ih := names_loop hi hr n1 n2 r (idx + 1) (pl ++ [(all[idx], (rows.length : Int))]) (some (strL all[idx])) (by omega) (by rw [List.length_append, List.length_singleton]; omega)
      cases hA : addN (all.drop (idx + 1)) (pl ++ [(all[idx], (rows.length : Int))]) (rows.length : Int) with
      | none =>
        rw [hA] at ih
        obtain ⟨pl', e⟩ := ih
        exact ⟨pl', (fo_nx en es).trans e⟩
      | some pl' =>
        rw [hA] at ih
        obtain ⟨y7, e⟩ := ih
        exact ⟨y7, (fo_nx en es).trans e⟩
end
/-! ### the rows of words -/
def WsAt (S : Sr) (ip ir : Nat) : List Nat → List (List (List Nat)) → Prop
  | [], [] => True
  | a :: as, w :: ws => S.f a = some (.lst (w.map strL)) ∧ a < S.n ∧ a ≠ ip ∧ a ≠ ir ∧ WsAt S ip ir as ws
  | _, _ => False
theorem WsAt.mono {S S' : Sr} {ip ir : Nat} (le : S.n ≤ S'.n) (eq : ∀ a, a < S.n → a ≠ ip → a ≠ ir → S'.f a = S.f a) : ∀ {as : List Nat} {ws : List (List (List Nat))}, WsAt S ip ir as ws → WsAt S' ip ir as ws
  | [], [], _ => trivial
  | a :: as, w :: ws, ⟨h1, h2, h3, h4, h5⟩ => ⟨(eq a h2 h3 h4).trans h1, Nat.lt_of_lt_of_le h2 le, h3, h4, WsAt.mono le eq h5⟩
  | [], _ :: _, h => h
  | _ :: _, [], h => h
theorem WsAt.snoc {S : Sr} {ip ir a : Nat} {w : List (List Nat)} (h : S.f a = some (.lst (w.map strL))) (l : a < S.n) (n1 : a ≠ ip) (n2 : a ≠ ir) : ∀ {as : List Nat} {ws : List (List (List Nat))}, WsAt S ip ir as ws → WsAt S ip ir (as ++ [a]) (ws ++ [w])
  | [], [], _ => ⟨h, l, n1, n2, trivial⟩
  | b :: as, v :: ws, ⟨h1, h2, h3, h4, h5⟩ => ⟨h1, h2, h3, h4, WsAt.snoc h l n1 n2 h5⟩
  | [], _ :: _, h => h.elim
  | _ :: _, [], h => h.elim
theorem WsAt.len {S : Sr} {ip ir : Nat} : ∀ {as : List Nat} {ws : List (List (List Nat))}, WsAt S ip ir as ws → as.length = ws.length
  | [], [], _ => rfl
  | _ :: _, _ :: _, ⟨_, _, _, _, h5⟩ => congrArg (· + 1) (WsAt.len h5)
  | [], _ :: _, h => h.elim
  | _ :: _, [], h => h.elim
theorem WsAt.get {S : Sr} {ip ir : Nat} : ∀ {as : List Nat} {ws : List (List (List Nat))} {k : Nat} (hk : k < ws.length), WsAt S ip ir as ws → ∃ a, as[k]? = some a ∧ S.f a = some (.lst (ws[k].map strL)) ∧ a < S.n ∧ a ≠ ip ∧ a ≠ ir
  | a :: as, w :: ws, 0, _, ⟨h1, h2, h3, h4, h5⟩ => ⟨a, rfl, h1, h2, h3, h4⟩
  | a :: as, w :: ws, k + 1, hk, ⟨h1, h2, h3, h4, h5⟩ => WsAt.get (k := k) (by simpa using hk) h5
  | [], _ :: _, _, _, h => h.elim
  | _, [], _, hk, _ => absurd hk (by simp)
/-! ### the lines -/
def asmL : List (List Nat) → List (List Nat × Int) → List (List (List Nat)) → Option (List (List Nat × Int) × List (List (List Nat)))
  | [], pl, rows => some (pl, rows)
  | p :: r, pl, rows => match lpL p with
    | none => none
    | some (ns, ws) => match addN ns pl (rows.length : Int) with
      | none => none
      | some pl' => asmL r pl' (if ws = [] then rows else rows ++ [ws])
theorem lpW_mem : ∀ {ws : List (List Nat)} {ns r : List (List Nat)}, lpW ws = some (ns, r) → (∀ w ∈ r, w ∈ ws) ∧ ns.length + r.length = ws.length
  | [], ns, r, e => by
    cases e
    exact ⟨fun w h => h, rfl⟩
  | w :: ws, ns, r, e => by
    unfold lpW at e
    split at e
    · split at e
      · cases hp : lpW ws with
        | none => rw [hp] at e; cases e
        | some p =>
          obtain ⟨a, b⟩ := p
          rw [hp] at e
          cases e
          obtain ⟨h1, h2⟩ := lpW_mem hp
          exact ⟨fun w h => List.mem_cons_of_mem _ (h1 w h), by simp; omega⟩
      · cases e
    · cases e
      exact ⟨fun w h => h, by simp⟩
theorem wfin_ne : ∀ (l : List Nat) (st : List (List Nat) × List Nat), (∀ w ∈ st.1, w ≠ []) → ∀ w ∈ wfin (l.foldl wstep st), w ≠ []
  | [], st, h1, w, hw => by
    unfold wfin at hw
    rw [List.foldl_nil] at hw
    split at hw
    · exact h1 w hw
    · rename_i hs
      rcases List.mem_append.mp hw with hw | hw
      · exact h1 w hw
      · rw [List.mem_singleton.mp hw]
        exact hs
  | c :: l, st, h1, w, hw => by
    rw [List.foldl_cons] at hw
    refine wfin_ne l (wstep st c) ?_ w hw
    unfold wstep
    split
    · split
      · exact h1
      · rename_i hs
        intro v hv
        rcases List.mem_append.mp hv with hv | hv
        · exact h1 v hv
        · rw [List.mem_singleton.mp hv]
          exact hs
    · exact h1
/-- a line's words -/
theorem lp_ok {p : List Nat} {ns ws : List (List Nat)} (hs : Sgn p) (hl : p.length ≤ 1000) (e : lpL p = some (ns, ws)) : (∀ x ∈ ws, Sgn x ∧ x.length ≤ 1000 ∧ x ≠ []) ∧ ws.length ≤ 1001 ∧ ns.length ≤ 1001 := by
  obtain ⟨w1, w2⟩ := ws_ok hs hl
  obtain ⟨h1, h2⟩ := lpW_mem e
  refine ⟨fun x hx => ⟨(w1 x (h1 x hx)).1, (w1 x (h1 x hx)).2, wfin_ne _ _ (fun _ h => absurd h List.not_mem_nil) x (h1 x hx)⟩, by omega, by omega⟩
section
variable {x1 : Option D} {ip ir iL : Nat} {S0 : Sr} {X : D}
/-- what stands while the lines are walked -/
structure AI (S0 S : Sr) (ip ir iL : Nat) (parts : List (List Nat)) (pl : List (List Nat × Int)) (rows : List (List (List Nat))) (as : List Nat) : Prop where
  xt : Xt S0 S
  dic : S.f ip = some (.dic (plD pl))
  rw_ : S.f ir = some (.lst (as.map D.adr))
  ws : WsAt S ip ir as rows
  spl : S.f iL = some (.lst (parts.map strL))
  pr : ip ≠ ir ∧ iL ≠ ip ∧ iL ≠ ir ∧ S0.n ≤ ip ∧ S0.n ≤ ir ∧ ip < S.n ∧ ir < S.n ∧ iL < S.n
theorem line_step {x4 x5 x6 x7 x8 x9 : Option D} {S : Sr} {parts : List (List Nat)} {pl : List (List Nat × Int)} {rows : List (List (List Nat))} {as : List Nat} {p : List Nat} (a : AI S0 S ip ir iL parts pl rows as) (hs : Sgn p) (hl : p.length ≤ 1000) (hr : rows.length ≤ 1900) (hp : pl.length ≤ 1900) :
    match lpL p with
    | none => ∃ S', mStep (gNm 4) b_assemble_L47 (strL p) [some X, x1, some (.adr ip), some (.adr ir), x4, x5, x6, x7, x8, x9] S = .ex "CodeError" S' ∧ Xt S0 S'
    | some (ns, ws) => match addN ns pl (rows.length : Int) with
      | none => ∃ S', mStep (gNm 4) b_assemble_L47 (strL p) [some X, x1, some (.adr ip), some (.adr ir), x4, x5, x6, x7, x8, x9] S = .ex "CodeError" S' ∧ Xt S0 S'
      | some pl' => ∃ S' y5 y6 y7 as', mStep (gNm 4) b_assemble_L47 (strL p) [some X, x1, some (.adr ip), some (.adr ir), x4, x5, x6, x7, x8, x9] S = .nx [some X, x1, some (.adr ip), some (.adr ir), some (strL p), y5, y6, y7, x8, x9] S' ∧ AI S0 S' ip ir iL parts pl' (if ws = [] then rows else rows ++ [ws]) as' := by
  obtain ⟨axt, adic, arw, aws, aspl, n1, n2, n3, b1, b2, b3, b4, b5⟩ := a
  have P := e_parts (x := sg p) (S := S) (by rw [sg_len]; exact hl) (by rw [tl_sg]; exact hs)
  rw [tl_sg] at P
  have e0 : mStep (gNm 4) b_assemble_L47 (strL p) [some X, x1, some (.adr ip), some (.adr ir), x4, x5, x6, x7, x8, x9] S = b_assemble_L47 [some X, x1, some (.adr ip), some (.adr ir), some (strL p), x5, x6, x7, x8, x9] S := rfl
  rw [e0]
  unfold b_assemble_L47
  cases hp0 : lpL p with
  | none =>
    rw [hp0] at P
    obtain ⟨S', e, xt⟩ := P
    refine ⟨S', sq_ex ?_, axt.trans xt⟩
    simp (decide := true) [mSeq, mPass, mBrk, mCnt, mDrop, mRet, mRetN, mIfS, mRaise, mSet, mAsg, mPar, mPar3, mAug, mFld, mFldAug, gNm, gSub', gFld, gNl, gCn, gTp, setA, putFD, mVar, mC, mB, mU, mTB, mAnd, mOr, mNot, mIf, mAndV, mOrV, mNotV, mChain, mNil, mCons, mTup, mLst, mSl, oNo, oE, mCB, fAbs, fMax2, fMin2, fInt, lenD, fLen, fTuple, fList, itemsD, fIsi, tyD, mAttr, mCall, mMeth, mMake, mBM, tyF, SM.bind, SM.pure, toRS, toRSA, toRST, Y.sb, List.lookup, put_f, put_n, alloc_f, alloc_n, put_put, alloc_put, okI, okB, orF, dSub, dFdiv, dMod, dPow, dShl, dShr, dAnd, dOr, dXor, dNeg, dLt, dLe, dGt, dGe, dIs, e]
  | some pr =>
    obtain ⟨ns, ws⟩ := pr
    rw [hp0] at P
    obtain ⟨S', i, j, e, xt, i1, i2, j1, j2, ij, fi, fj⟩ := P
    obtain ⟨l1, l2, l3⟩ := lp_ok hs hl hp0
    dsimp only
    have e1 : mAsg (mCall f_line_parts 1 [] (mCons (mVar 4) mNil)) (gTp 2 (gCn (gNm 5) (gCn (gNm 6) gNl))) [some X, x1, some (.adr ip), some (.adr ir), some (strL p), x5, x6, x7, x8, x9] S = .nx [some X, x1, some (.adr ip), some (.adr ir), some (strL p), some (.adr i), some (.adr j), x7, x8, x9] S' := by
      simp (decide := true) [mSeq, mPass, mBrk, mCnt, mDrop, mRet, mRetN, mIfS, mRaise, mSet, mAsg, mPar, mPar3, mAug, mFld, mFldAug, gNm, gSub', gFld, gNl, gCn, gTp, setA, putFD, mVar, mC, mB, mU, mTB, mAnd, mOr, mNot, mIf, mAndV, mOrV, mNotV, mChain, mNil, mCons, mTup, mLst, mSl, oNo, oE, mCB, fAbs, fMax2, fMin2, fInt, lenD, fLen, fTuple, fList, itemsD, fIsi, tyD, mAttr, mCall, mMeth, mMake, mBM, tyF, SM.bind, SM.pure, toRS, toRSA, toRST, Y.sb, List.lookup, put_f, put_n, alloc_f, alloc_n, put_put, alloc_put, okI, okB, orF, dSub, dFdiv, dMod, dPow, dShl, dShr, dAnd, dOr, dXor, dNeg, dLt, dLe, dGt, dGe, dIs, e]
    have dic' := xt.at_ adic b3
    have rw' := xt.at_ arw b4
    have spl' := xt.at_ aspl b5
    have es : mSrc (mVar 5) [some X, x1, some (.adr ip), some (.adr ir), some (strL p), some (.adr i), some (.adr j), x7, x8, x9] S' = .ok (sqa i ns.length) S' := by
      simp [mSrc, mVar, SM.bind, mSrcD, fi]
    have ni : i ≠ ip := by omega
    have N := names_loop (x0 := some X) (x1 := x1) (x4 := some (strL p)) (x5 := some (.adr i)) (x6 := some (.adr j)) (x8 := x8) (x9 := x9) fi rw' ni n1.symm ns.length 0 pl x7 (Nat.zero_add _) (by omega)
    rw [List.drop_zero, put_same dic', List.length_map, aws.len] at N
    rw [sq_nx e1]
    have xt1 : Xt S0 S' := axt.trans xt
    have w1 : WsAt S' ip ir as rows := aws.mono xt.le fun a h _ _ => xt.eq a h
    cases hA : addN ns pl (rows.length : Int) with
    | none =>
      rw [hA] at N
      obtain ⟨pl', e2⟩ := N
      refine ⟨_, sq_ex ((mFor_of es).trans e2), xt1.put b1⟩
    | some pl' =>
      rw [hA] at N
      obtain ⟨y7, e2⟩ := N
      rw [sq_nx ((mFor_of es).trans e2)]
      have z0 : 0 ≤ sizeLine := Nat.zero_le _
      have jn : j < (S'.put ip (.dic (plD pl'))).n := j2
      have fj2 : ((S'.put ip (.dic (plD pl'))).alloc (.lst [])).f j = some (.lst (ws.map strL)) := at_old (at_put_ne fj (by omega)) jn
      have t1 : dNe (.adr j) (.adr S'.n) ((S'.put ip (.dic (plD pl'))).alloc (.lst [])) = .ok (.bl (!ws.isEmpty)) ((S'.put ip (.dic (plD pl'))).alloc (.lst [])) := ne_nilS fj2 at_new (fun x hx => (l1 x hx).1)
      have hw : WsAt ((S'.put ip (.dic (plD pl'))).alloc (.lst [])) ip ir as rows := w1.mono (Nat.le_succ _) fun a h q1 q2 => (if_neg (Nat.ne_of_lt h)).trans (if_neg q1)
      have pn : ip < S'.n := by have := xt.le; omega
      have rn : ir < S'.n := by have := xt.le; omega
      have ln : iL < S'.n := by have := xt.le; omega
      have fr : ((S'.put ip (.dic (plD pl'))).alloc (.lst [])).f ir = some (.lst (as.map D.adr)) := at_old (at_put_ne rw' n1.symm) rn
      have fd : ((S'.put ip (.dic (plD pl'))).alloc (.lst [])).f ip = some (.dic (plD pl')) := at_old at_put pn
      have fl : ((S'.put ip (.dic (plD pl'))).alloc (.lst [])).f iL = some (.lst (parts.map strL)) := at_old (at_put_ne spl' n2) ln
      have xt2 : Xt S0 ((S'.put ip (.dic (plD pl'))).alloc (.lst [])) := (xt1.put b1).alloc'
      cases ws with
      | nil =>
        refine ⟨(S'.put ip (.dic (plD pl'))).alloc (.lst []), some (.adr i), some (.adr j), y7, as, ?_, xt2, fd, fr, hw, fl, n1, n2, n3, b1, b2, Nat.lt_succ_of_lt pn, Nat.lt_succ_of_lt rn, Nat.lt_succ_of_lt ln⟩
        simp (decide := true) [mSeq, mPass, mBrk, mCnt, mDrop, mRet, mRetN, mIfS, mRaise, mSet, mAsg, mPar, mPar3, mAug, mFld, mFldAug, gNm, gSub', gFld, gNl, gCn, gTp, setA, putFD, mVar, mC, mB, mU, mTB, mAnd, mOr, mNot, mIf, mAndV, mOrV, mNotV, mChain, mNil, mCons, mTup, mLst, mSl, oNo, oE, mCB, fAbs, fMax2, fMin2, fInt, lenD, fLen, fTuple, fList, itemsD, fIsi, tyD, mAttr, mCall, mMeth, mMake, mBM, tyF, SM.bind, SM.pure, toRS, toRSA, toRST, Y.sb, List.lookup, put_f, put_n, alloc_f, alloc_n, put_put, alloc_put, okI, okB, orF, dSub, dFdiv, dMod, dPow, dShl, dShr, dAnd, dOr, dXor, dNeg, dLt, dLe, dGt, dGe, dIs, t1]
      | cons v vs =>
        have sz : as.length < sizeLine := by rw [aws.len, sizeLine_eq]; omega
        have nr1 : ir ≠ ip := n1.symm
        have nr2 : ir ≠ S'.n := Nat.ne_of_lt rn
        refine ⟨((S'.put ip (.dic (plD pl'))).alloc (.lst [])).put ir (.lst ((as ++ [j]).map D.adr)), some (.adr i), some (.adr j), y7, as ++ [j], ?_, xt2.put b2, at_put_ne fd n1, at_put, ?_, at_put_ne fl n3, n1, n2, n3, b1, b2, Nat.lt_succ_of_lt pn, Nat.lt_succ_of_lt rn, Nat.lt_succ_of_lt ln⟩
        · simp (decide := true) [mSeq, mPass, mBrk, mCnt, mDrop, mRet, mRetN, mIfS, mRaise, mSet, mAsg, mPar, mPar3, mAug, mFld, mFldAug, gNm, gSub', gFld, gNl, gCn, gTp, setA, putFD, mVar, mC, mB, mU, mTB, mAnd, mOr, mNot, mIf, mAndV, mOrV, mNotV, mChain, mNil, mCons, mTup, mLst, mSl, oNo, oE, mCB, fAbs, fMax2, fMin2, fInt, lenD, fLen, fTuple, fList, itemsD, fIsi, tyD, mAttr, mCall, mMeth, mMake, mBM, tyF, SM.bind, SM.pure, toRS, toRSA, toRST, Y.sb, List.lookup, put_f, put_n, alloc_f, alloc_n, put_put, alloc_put, okI, okB, orF, dSub, dFdiv, dMod, dPow, dShl, dShr, dAnd, dOr, dXor, dNeg, dLt, dLe, dGt, dGe, dIs, t1, fApp, fr, sz, rw', nr1, nr2]
        · rw [if_neg (by simp)]
          have hw2 := WsAt.snoc (a := j) (w := v :: vs) fj2 (Nat.lt_succ_of_lt j2) (by omega) (by omega) hw
          refine WsAt.mono (S := (S'.put ip (.dic (plD pl'))).alloc (.lst [])) ?_ ?_ hw2
          · exact Nat.le_refl _
          · exact fun a h q1 q2 => if_neg q2
end
end K11

set_option Elab.async false
set_option linter.all false
set_option maxRecDepth 100000
set_option maxHeartbeats 4000000
namespace K11
open PySem PySem.Spec PyProof.Rows L2 Y TL
section
variable {x1 : Option D} {ip ir iL : Nat} {S0 : Sr} {X : D}
theorem addN_len : ∀ {ns : List (List Nat)} {pl pl' : List (List Nat × Int)} {c : Int}, addN ns pl c = some pl' → pl'.length = pl.length + ns.length
  | [], pl, pl', c, e => by cases e; rfl
  | n :: r, pl, pl', c, e => by
    unfold addN at e
    split at e
    · cases e
    · rw [addN_len e, List.length_append, List.length_singleton, List.length_cons]
      omega
/-- the bound on all names -/
def nmB (parts : List (List Nat)) : Nat := (parts.map fun p => match lpL p with
  | some (ns, _) => ns.length
  | none => 0).sum
theorem lines_loop {parts : List (List Nat)} (hs : ∀ p ∈ parts, Sgn p ∧ p.length ≤ 1000) (hn : parts.length ≤ 900) : ∀ (r idx : Nat) (pl : List (List Nat × Int)) (rows : List (List (List Nat))) (as : List Nat) (S : Sr) (x4 x5 x6 x7 x8 x9 : Option D), idx + r = parts.length → AI S0 S ip ir iL parts pl rows as → rows.length ≤ idx → pl.length + nmB (parts.drop idx) ≤ 900 →
    (match asmL (parts.drop idx) pl rows with
    | none => ∃ S', forG (sqa iL parts.length) (mStep (gNm 4) b_assemble_L47) r idx [some X, x1, some (.adr ip), some (.adr ir), x4, x5, x6, x7, x8, x9] S = .ex "CodeError" S' ∧ Xt S0 S'
    | some (pl', rows') => ∃ S' y4 y5 y6 y7 as', forG (sqa iL parts.length) (mStep (gNm 4) b_assemble_L47) r idx [some X, x1, some (.adr ip), some (.adr ir), x4, x5, x6, x7, x8, x9] S = .nx [some X, x1, some (.adr ip), some (.adr ir), y4, y5, y6, y7, x8, x9] S' ∧ AI S0 S' ip ir iL parts pl' rows' as')
  | 0, idx, pl, rows, as, S, x4, x5, x6, x7, x8, x9, h, a, _, _ => by
    rw [List.drop_eq_nil_of_le (by omega)]
    refine ⟨S, x4, x5, x6, x7, as, fo_end ?_, a⟩
    rw [nx_sqa a.spl, List.getElem?_eq_none (by rw [List.length_map]; omega)]
  | r + 1, idx, pl, rows, as, S, x4, x5, x6, x7, x8, x9, h, a, hr, hp => by
    have hl : idx < parts.length := by omega
    have hmem := List.getElem_mem hl
    have en : (sqa iL parts.length).nxt idx S = some (some (strL parts[idx])) := by
      rw [nx_sqa a.spl, List.getElem?_map, List.getElem?_eq_getElem hl]
      rfl
    rw [List.drop_eq_getElem_cons hl] at hp ⊢
    have st := line_step (X := X) (x1 := x1) (x4 := x4) (x5 := x5) (x6 := x6) (x7 := x7) (x8 := x8) (x9 := x9) a (hs _ hmem).1 (hs _ hmem).2 (by omega) (by omega)
    unfold asmL
    unfold nmB at hp
    rw [List.map_cons, List.sum_cons] at hp
    cases hlp : lpL parts[idx] with
    | none =>
      rw [hlp] at st
      obtain ⟨S', e, xt⟩ := st
      exact ⟨S', fo_ex en e, xt⟩
    | some pr =>
      obtain ⟨ns, ws⟩ := pr
      rw [hlp] at st hp
      dsimp only at st hp ⊢
      cases hA : addN ns pl (rows.length : Int) with
      | none =>
        rw [hA] at st
        obtain ⟨S', e, xt⟩ := st
        exact ⟨S', fo_ex en e, xt⟩
      | some pl' =>
        rw [hA] at st
        obtain ⟨S', y5, y6, y7, as', e, a'⟩ := st
        have ih := lines_loop hs hn r (idx + 1) pl' (if ws = [] then rows else rows ++ [ws]) as' S' (some (strL parts[idx])) y5 y6 y7 x8 x9 (by omega) a' (by
          split
          · omega
          · rw [List.length_append, List.length_singleton]; omega) (by rw [addN_len hA]; unfold nmB; omega)
        dsimp only
        cases hB : asmL (parts.drop (idx + 1)) pl' (if ws = [] then rows else rows ++ [ws]) with
        | none =>
          rw [hB] at ih
          obtain ⟨S2, e2, xt⟩ := ih
          exact ⟨S2, (fo_nx en e).trans e2, xt⟩
        | some q =>
          obtain ⟨pl2, rows2⟩ := q
          rw [hB] at ih
          obtain ⟨S2, z4, z5, z6, z7, as2, e2, a2⟩ := ih
          exact ⟨S2, z4, z5, z6, z7, as2, (fo_nx en e).trans e2, a2⟩
end
/-! ### all instructions -/
def ios (pl : List (List Nat × Int)) : List (List (List Nat)) → Option (List (List Nat × Int))
  | [] => some []
  | w :: ws => match io w pl with
    | none => none
    | some r => (ios pl ws).map (r :: ·)
theorem io_ins {w : List (List Nat)} {pl : List (List Nat × Int)} {r : List Nat × Int} (h : io w pl = some r) : r.1 ∈ INS := by
  cases w with
  | nil => cases h
  | cons v rr =>
    by_cases c : v ∉ INS ∨ rr.length ≠ (if v ∈ PLN then 0 else 1)
    · have e : io (v :: rr) pl = none := by unfold io; exact if_pos c
      rw [e] at h; cases h
    · have hin : v ∈ INS := by
        by_cases q : v ∈ INS
        · exact q
        · exact absurd (.inl q) c
      have e : io (v :: rr) pl = (if v ∈ PLN then some (v, 0)
    else match rr with
      | [] => none
      | a :: _ => match (if v ∈ JMP then look pl a else none) with
        | some n => some (v, n)
        | none => if 3 < a.length ∨ a.all digB = false then none else some (v, (NumText.digitsVal a : Nat))) := by
        conv => lhs; unfold io
        exact if_neg c
      rw [e] at h
      have : r.1 = v := by
        by_cases q : v ∈ PLN
        · rw [if_pos q] at h; cases h; rfl
        · rw [if_neg q] at h
          cases rr with
          | nil => cases h
          | cons a t =>
            dsimp only at h
            generalize (if v ∈ JMP then look pl a else none) = z at h
            cases z with
            | some n => cases h; rfl
            | none =>
              dsimp only at h
              by_cases q2 : 3 < a.length ∨ a.all digB = false
              · rw [if_pos q2] at h; cases h
              · rw [if_neg q2] at h; cases h; rfl
      rw [this]; exact hin
theorem ios_ins {pl : List (List Nat × Int)} : ∀ {ws : List (List (List Nat))} {rs : List (List Nat × Int)}, ios pl ws = some rs → (∀ r ∈ rs, r.1 ∈ INS) ∧ rs.length = ws.length
  | [], rs, h => by
    cases h
    exact ⟨fun r hr => (nomatch hr), rfl⟩
  | w :: ws, rs, h => by
    unfold ios at h
    cases h1 : io w pl with
    | none => rw [h1] at h; cases h
    | some r =>
      rw [h1] at h
      dsimp only at h
      cases h2 : ios pl ws with
      | none => rw [h2] at h; cases h
      | some t =>
        rw [h2] at h
        cases h
        obtain ⟨a, b⟩ := ios_ins h2
        refine ⟨fun q hq => ?_, by simp [b]⟩
        rcases List.mem_cons.mp hq with e | e
        · rw [e]; exact io_ins h1
        · exact a q e
section
variable {x1 x4 x5 x7 x8 x9 X : Option D} {ip ir D0 : Nat} {S : Sr} {rows : List (List (List Nat))} {as : List Nat} {pl : List (List Nat × Int)}
abbrev gA (X x1 x4 x5 x6 x7 x8 x9 : Option D) (ip ir : Nat) : Gm := [X, x1, some (.adr ip), some (.adr ir), x4, x5, x6, x7, x8, x9]
abbrev eIns : ME := mCall f_instruction_of 2 [] (mCons (mVar 6) (mCons (mVar 2) mNil))
theorem comp_loop (hw : WsAt S ip ir as rows) (hd : S.f ip = some (.dic (plD pl))) (hr : S.f ir = some (.lst (as.map D.adr))) (n0 : ip < D0) (n1 : ir < D0) (nD : D0 = S.n) (ok : ∀ w ∈ rows, w ≠ [] ∧ w.length ≤ 1001 ∧ ∀ x ∈ w, Sgn x ∧ x.length ≤ 1000 ∧ x ≠ []) (hn : rows.length ≤ 2000) :
    ∀ (r idx : Nat) (acc : List (List Nat × Int)), idx + r = rows.length → acc.length ≤ idx →
    (match ios pl (rows.drop idx) with
    | none => ∃ a', lcG (sqa ir as.length) (.nm 6) mYes eIns (gA X x1 x4 x5 none x7 x8 x9 ip ir) D0 r idx ((S.alloc (.lst [])).put D0 (.lst (acc.map rowN))) = .exc "CodeError" ((S.alloc (.lst [])).put D0 (.lst a'))
    | some rs => lcG (sqa ir as.length) (.nm 6) mYes eIns (gA X x1 x4 x5 none x7 x8 x9 ip ir) D0 r idx ((S.alloc (.lst [])).put D0 (.lst (acc.map rowN))) = .ok () ((S.alloc (.lst [])).put D0 (.lst ((acc ++ rs).map rowN))))
  | 0, idx, acc, h, _ => by
    rw [List.drop_eq_nil_of_le (by omega)]
    show lcG _ _ _ _ _ _ _ _ _ = _
    rw [List.append_nil]
    refine lc_end ?_
    have hr' : ((S.alloc (.lst [])).put D0 (.lst (acc.map rowN))).f ir = some (.lst (as.map D.adr)) := at_put_ne (at_old hr (by omega)) (by omega)
    rw [nx_sqa hr', List.getElem?_eq_none (by rw [List.length_map, hw.len]; omega)]
  | r + 1, idx, acc, h, hz => by
    have hl : idx < rows.length := by omega
    obtain ⟨a, ha, fa, la, na1, na2⟩ := WsAt.get hl hw
    rw [List.drop_eq_getElem_cons hl]
    have hr' : ((S.alloc (.lst [])).put D0 (.lst (acc.map rowN))).f ir = some (.lst (as.map D.adr)) := at_put_ne (at_old hr (by omega)) (by omega)
    have hd' : ((S.alloc (.lst [])).put D0 (.lst (acc.map rowN))).f ip = some (.dic (plD pl)) := at_put_ne (at_old hd (by omega)) (by omega)
    have fa' : ((S.alloc (.lst [])).put D0 (.lst (acc.map rowN))).f a = some (.lst (rows[idx].map strL)) := at_put_ne (at_old fa la) (by omega)
    have en : (sqa ir as.length).nxt idx ((S.alloc (.lst [])).put D0 (.lst (acc.map rowN))) = some (some (.adr a)) := by
      rw [nx_sqa hr', List.getElem?_map, ha]
      rfl
    obtain ⟨k1, k2, k3⟩ := ok _ (List.getElem_mem hl)
    have ei := e_instr fa' hd' k1 k3 k2
    have eg : eIns (gA X x1 x4 x5 (some (.adr a)) x7 x8 x9 ip ir) ((S.alloc (.lst [])).put D0 (.lst (acc.map rowN))) = f_instruction_of [.adr a, .adr ip] ((S.alloc (.lst [])).put D0 (.lst (acc.map rowN))) := by
      simp (decide := true) [mSeq, mPass, mBrk, mCnt, mDrop, mRet, mRetN, mIfS, mRaise, mSet, mAsg, mPar, mPar3, mAug, mFld, mFldAug, gNm, gSub', gFld, gNl, gCn, gTp, setA, putFD, mVar, mC, mB, mU, mTB, mAnd, mOr, mNot, mIf, mAndV, mOrV, mNotV, mChain, mNil, mCons, mTup, mLst, mSl, oNo, oE, mCB, fAbs, fMax2, fMin2, fInt, lenD, fLen, fTuple, fList, itemsD, fIsi, tyD, mAttr, mCall, mMeth, mMake, mBM, tyF, SM.bind, SM.pure, toRS, toRSA, toRST, Y.sb, List.lookup, put_f, put_n, alloc_f, alloc_n, put_put, alloc_put, okI, okB, orF, dSub, dFdiv, dMod, dPow, dShl, dShr, dAnd, dOr, dXor, dNeg, dLt, dLe, dGt, dGe, dIs]
    unfold ios
    cases h1 : io rows[idx] pl with
    | none =>
      rw [h1] at ei
      exact ⟨_, lc_exc en rfl rfl (eg.trans ei)⟩
    | some row =>
      rw [h1] at ei
      dsimp only
      have sz : (acc.map rowN).length < sizeLine := by rw [List.length_map, sizeLine_eq]; omega
      have e1 := lc_nx (r := r) en (g0 := gA X x1 x4 x5 none x7 x8 x9 ip ir) (t := .nm 6) (mt := mYes) (me := eIns) rfl rfl (eg.trans ei) (at_put (i := D0) (S := S.alloc (.lst []))) sz
      rw [put_put] at e1
      have ea : (acc.map rowN ++ [rowN row] : List D) = (acc ++ [row]).map rowN := by rw [List.map_append]; rfl
      rw [ea] at e1
      have ih := comp_loop hw hd hr n0 n1 nD ok hn r (idx + 1) (acc ++ [row]) (by omega) (by rw [List.length_append, List.length_singleton]; omega)
      cases h2 : ios pl (rows.drop (idx + 1)) with
      | none =>
        rw [h2] at ih
        obtain ⟨a', e2⟩ := ih
        exact ⟨a', e1.trans e2⟩
      | some t =>
        rw [h2] at ih
        show lcG _ _ _ _ _ _ _ _ _ = _
        rw [e1, ih, List.append_assoc]
        rfl
end
/-! ### all checked -/
section
variable {x2 x3 x4 x5 x6 x7 X : Option D} {iz iF d k : Nat} {S : Sr} {rs : List (List Nat × Int)}
theorem check_loop (hz : S.f iz = some (.ins "Size" (sizF d k))) (hf : S.f iF = some (.lst (rs.map rowN))) (hd : d ≤ 8) (hk : k ≤ 8) (hi : ∀ r ∈ rs, r.1 ∈ INS) : ∀ (r idx : Nat) (x9 : Option D), idx + r = rs.length →
    (if ((rs.drop idx).all (fits d k)) = true then ∃ y9, forG (sqa iF rs.length) (mStep (gNm 9) b_assemble_L58) r idx [X, some (.adr iz), x2, x3, x4, x5, x6, x7, some (.adr iF), x9] S = .nx [X, some (.adr iz), x2, x3, x4, x5, x6, x7, some (.adr iF), y9] S
    else forG (sqa iF rs.length) (mStep (gNm 9) b_assemble_L58) r idx [X, some (.adr iz), x2, x3, x4, x5, x6, x7, some (.adr iF), x9] S = .ex "CodeError" S)
  | 0, idx, x9, h => by
    rw [List.drop_eq_nil_of_le (by omega), if_pos (show ([] : List (List Nat × Int)).all (fits d k) = true from rfl)]
    refine ⟨x9, fo_end ?_⟩
    rw [nx_sqa hf, List.getElem?_eq_none (by rw [List.length_map]; omega)]
  | r + 1, idx, x9, h => by
    have hl : idx < rs.length := by omega
    rw [List.drop_eq_getElem_cons hl, List.all_cons]
    have en : (sqa iF rs.length).nxt idx S = some (some (rowN rs[idx])) := by
      rw [nx_sqa hf, List.getElem?_map, List.getElem?_eq_getElem hl]
      rfl
    have ec := e_check hz hd hk (hi _ (List.getElem_mem hl))
    cases hc : fits d k rs[idx] with
    | false =>
      rw [hc] at ec
      have ec2 : f_check_instruction [rowN rs[idx], .adr iz] S = .exc "CodeError" S := ec
      rw [Bool.false_and, if_neg Bool.false_ne_true]
      refine fo_ex en ?_
      simp (decide := true) [mStep, b_assemble_L58, mSeq, mPass, mBrk, mCnt, mDrop, mRet, mRetN, mIfS, mRaise, mSet, mAsg, mPar, mPar3, mAug, mFld, mFldAug, gNm, gSub', gFld, gNl, gCn, gTp, setA, putFD, mVar, mC, mB, mU, mTB, mAnd, mOr, mNot, mIf, mAndV, mOrV, mNotV, mChain, mNil, mCons, mTup, mLst, mSl, oNo, oE, mCB, fAbs, fMax2, fMin2, fInt, lenD, fLen, fTuple, fList, itemsD, fIsi, tyD, mAttr, mCall, mMeth, mMake, mBM, tyF, SM.bind, SM.pure, toRS, toRSA, toRST, Y.sb, List.lookup, put_f, put_n, alloc_f, alloc_n, put_put, alloc_put, okI, okB, orF, dSub, dFdiv, dMod, dPow, dShl, dShr, dAnd, dOr, dXor, dNeg, dLt, dLe, dGt, dGe, dIs, ec2]
    | true =>
      rw [hc] at ec
      have ec2 : f_check_instruction [rowN rs[idx], .adr iz] S = .ok .non S := ec
      rw [Bool.true_and]
      have es : mStep (gNm 9) b_assemble_L58 (rowN rs[idx]) [X, some (.adr iz), x2, x3, x4, x5, x6, x7, some (.adr iF), x9] S = .nx [X, some (.adr iz), x2, x3, x4, x5, x6, x7, some (.adr iF), some (rowN rs[idx])] S := by
        simp (decide := true) [mStep, b_assemble_L58, mSeq, mPass, mBrk, mCnt, mDrop, mRet, mRetN, mIfS, mRaise, mSet, mAsg, mPar, mPar3, mAug, mFld, mFldAug, gNm, gSub', gFld, gNl, gCn, gTp, setA, putFD, mVar, mC, mB, mU, mTB, mAnd, mOr, mNot, mIf, mAndV, mOrV, mNotV, mChain, mNil, mCons, mTup, mLst, mSl, oNo, oE, mCB, fAbs, fMax2, fMin2, fInt, lenD, fLen, fTuple, fList, itemsD, fIsi, tyD, mAttr, mCall, mMeth, mMake, mBM, tyF, SM.bind, SM.pure, toRS, toRSA, toRST, Y.sb, List.lookup, put_f, put_n, alloc_f, alloc_n, put_put, alloc_put, okI, okB, orF, dSub, dFdiv, dMod, dPow, dShl, dShr, dAnd, dOr, dXor, dNeg, dLt, dLe, dGt, dGe, dIs, ec2]
      have ih := check_loop hz hf hd hk hi r (idx + 1) (some (rowN rs[idx])) (by omega)
      by_cases ha : ((rs.drop (idx + 1)).all (fits d k)) = true
      · rw [if_pos ha] at ih ⊢
        obtain ⟨y9, e⟩ := ih
        exact ⟨y9, (fo_nx en es).trans e⟩
      · rw [if_neg ha] at ih ⊢
        exact (fo_nx en es).trans ih
end
/-! ### assemble -/
def asm (d k : Nat) (parts : List (List Nat)) : Option (List (List Nat × Int)) := match asmL parts [] [] with
  | none => none
  | some (pl, rows) => match ios pl rows with
    | none => none
    | some rs => if 2 ^ k < rs.length then none else if rs.all (fits d k) = true then some rs else none
theorem asmL_ok {parts : List (List Nat)} (hs : ∀ p ∈ parts, Sgn p ∧ p.length ≤ 1000) : ∀ {l : List (List Nat)} {pl pl' : List (List Nat × Int)} {rows rows' : List (List (List Nat))}, (∀ p ∈ l, p ∈ parts) → asmL l pl rows = some (pl', rows') → (∀ w ∈ rows, w ≠ [] ∧ w.length ≤ 1001 ∧ ∀ x ∈ w, Sgn x ∧ x.length ≤ 1000 ∧ x ≠ []) →
    (∀ w ∈ rows', w ≠ [] ∧ w.length ≤ 1001 ∧ ∀ x ∈ w, Sgn x ∧ x.length ≤ 1000 ∧ x ≠ []) ∧ rows'.length ≤ rows.length + l.length
  | [], pl, pl', rows, rows', _, e, h => by
    cases e
    exact ⟨h, by simp⟩
  | p :: l, pl, pl', rows, rows', hm, e, h => by
    unfold asmL at e
    cases h1 : lpL p with
    | none => rw [h1] at e; cases e
    | some q =>
      obtain ⟨ns, ws⟩ := q
      rw [h1] at e
      dsimp only at e
      cases h2 : addN ns pl (rows.length : Int) with
      | none => rw [h2] at e; cases e
      | some pl2 =>
        rw [h2] at e
        dsimp only at e
        obtain ⟨l1, l2, l3⟩ := lp_ok (hs p (hm p List.mem_cons_self)).1 (hs p (hm p List.mem_cons_self)).2 h1
        obtain ⟨i1, i2⟩ := asmL_ok hs (fun q hq => hm q (List.mem_cons_of_mem _ hq)) e (by
          split
          · exact h
          · rename_i hne
            intro w hw
            rcases List.mem_append.mp hw with hw | hw
            · exact h w hw
            · rw [List.mem_singleton.mp hw]
              exact ⟨hne, l2, l1⟩)
        refine ⟨i1, ?_⟩
        rw [List.length_cons]
        split at i2
        · omega
        · rw [List.length_append, List.length_singleton] at i2; omega
end K11

set_option Elab.async false
set_option linter.all false
set_option maxRecDepth 100000
set_option maxHeartbeats 4000000
namespace K11
open PySem PySem.Spec PyProof.Rows L2 Y TL
theorem split_strs {x : Str} {parts : List (List Nat)} (h : spl [10] 0 [] (tl x) = parts) : (Txt.split x ("\n" : Str)).map D.str = parts.map strL := by
  have e : tl ("\n" : Str) = [10] := by decide +kernel
  have h1 := split_spl x ("\n" : Str) (by rw [e]; simp) (kind_ok (by decide +kernel))
  rw [e, h] at h1
  rw [← h1, List.map_map]
  congr 1
theorem powS (k : Nat) (hk : k ≤ 8) : powB 1 (k : Int) = true := by
  unfold powB
  exact decide_eq_true ⟨by omega, by omega, by decide⟩
theorem e_assemble {x : Str} {iz d k : Nat} {S : Sr} {parts : List (List Nat)} (hz : S.f iz = some (.ins "Size" (sizF d k))) (hi : iz < S.n) (hd : d ≤ 8) (hk : k ≤ 8) (hp : spl [10] 0 [] (tl x) = parts) (hx : x.length ≤ 5000) (hs : ∀ p ∈ parts, Sgn p ∧ p.length ≤ 1000) (hn : parts.length ≤ 900) (hb : nmB parts ≤ 900) :
    match asm d k parts with
    | some rs => ∃ S', f_assemble [.str x, .adr iz] S = .ok (.tup (rs.map rowN)) S' ∧ Xt S S'
    | none => ∃ S', f_assemble [.str x, .adr iz] S = .exc "CodeError" S' ∧ Xt S S' := by
  have sz2 : 2 ≤ sizeLine := by rw [sizeLine_eq]; omega
  have z0 : 0 ≤ sizeLine := Nat.zero_le _
  have zx : x.length + 2 ≤ sizeLine := by rw [sizeLine_eq]; omega
  have eb : (("\n" : Str).length == 0) = false := by decide +kernel
  have ep := split_strs hp
  let S1 : Sr := (S.alloc (.dic (plD []))).alloc (.lst (([] : List Nat).map D.adr))
  let S2 : Sr := S1.alloc (.lst (parts.map strL))
  have e1 : mAsg (mTup (mCons mEmp (mCons (mLst mNil) mNil))) (gTp 2 (gCn (gNm 2) (gCn (gNm 3) gNl))) [some (.str x), some (.adr iz), none, none, none, none, none, none, none, none] S = .nx [some (.str x), some (.adr iz), some (.adr S.n), some (.adr (S.n + 1)), none, none, none, none, none, none] S1 := by
    simp (decide := true) [mSeq, mPass, mBrk, mCnt, mDrop, mRet, mRetN, mIfS, mRaise, mSet, mAsg, mPar, mPar3, mAug, mFld, mFldAug, gNm, gSub', gFld, gNl, gCn, gTp, setA, putFD, mVar, mC, mB, mU, mTB, mAnd, mOr, mNot, mIf, mAndV, mOrV, mNotV, mChain, mNil, mCons, mTup, mLst, mSl, oNo, oE, mCB, fAbs, fMax2, fMin2, fInt, lenD, fLen, fTuple, fList, itemsD, fIsi, tyD, mAttr, mCall, mMeth, mMake, mBM, tyF, SM.bind, SM.pure, toRS, toRSA, toRST, Y.sb, List.lookup, put_f, put_n, alloc_f, alloc_n, put_put, alloc_put, okI, okB, orF, dSub, dFdiv, dMod, dPow, dShl, dShr, dAnd, dOr, dXor, dNeg, dLt, dLe, dGt, dGe, dIs, mEmp, sz2, S1, plD]
  have es : mSrc (mBM "str" fSplit (mVar 0) (mCons (mC (.str "\n")) mNil)) [some (.str x), some (.adr iz), some (.adr S.n), some (.adr (S.n + 1)), none, none, none, none, none, none] S1 = .ok (sqa (S.n + 2) parts.length) S2 := by
    simp (decide := true) [mSrc, mSrcD, fSplit, zx, eb, ep, mSeq, mPass, mBrk, mCnt, mDrop, mRet, mRetN, mIfS, mRaise, mSet, mAsg, mPar, mPar3, mAug, mFld, mFldAug, gNm, gSub', gFld, gNl, gCn, gTp, setA, putFD, mVar, mC, mB, mU, mTB, mAnd, mOr, mNot, mIf, mAndV, mOrV, mNotV, mChain, mNil, mCons, mTup, mLst, mSl, oNo, oE, mCB, fAbs, fMax2, fMin2, fInt, lenD, fLen, fTuple, fList, itemsD, fIsi, tyD, mAttr, mCall, mMeth, mMake, mBM, tyF, SM.bind, SM.pure, toRS, toRSA, toRST, Y.sb, List.lookup, put_f, put_n, alloc_f, alloc_n, put_put, alloc_put, okI, okB, orF, dSub, dFdiv, dMod, dPow, dShl, dShr, dAnd, dOr, dXor, dNeg, dLt, dLe, dGt, dGe, dIs, S2, S1]
  have a0 : AI S S2 S.n (S.n + 1) (S.n + 2) parts [] [] [] := by
    refine ⟨(Xt.alloc.trans Xt.alloc).trans Xt.alloc, ?_, ?_, trivial, ?_, ?_⟩
    · exact at_old (at_old at_new (Nat.lt_succ_self _)) (show S.n < S.n + 1 + 1 by omega)
    · exact at_old (at_new (S := S.alloc _)) (show S.n + 1 < S.n + 1 + 1 by omega)
    · exact at_new (S := S1)
    · refine ⟨by omega, by omega, by omega, by omega, by omega, ?_, ?_, ?_⟩
      · show S.n < S.n + 1 + 1 + 1; omega
      · show S.n + 1 < S.n + 1 + 1 + 1; omega
      · show S.n + 2 < S.n + 1 + 1 + 1; omega
  have L := lines_loop (X := .str x) (x1 := some (.adr iz)) hs hn parts.length 0 [] [] [] S2 none none none none none none (Nat.zero_add _) a0 (Nat.zero_le _) (by rw [List.drop_zero]; simpa using hb)
  rw [List.drop_zero] at L
  unfold asm f_assemble mFun
  have eg : ([D.str x, D.adr iz].map some ++ List.replicate (10 - [D.str x, D.adr iz].length) none : Gm) = [some (.str x), some (.adr iz), none, none, none, none, none, none, none, none] := rfl
  rw [eg]
  unfold b_assemble
  rw [sq_nx e1]
  cases hA : asmL parts [] [] with
  | none =>
    rw [hA] at L
    obtain ⟨S', e, xt⟩ := L
    refine ⟨S', ?_, xt⟩
    rw [sq_ex ((mFor_of es).trans e)]
  | some q =>
    obtain ⟨pl, rows⟩ := q
    rw [hA] at L
    obtain ⟨S3, y4, y5, y6, y7, as, e, a⟩ := L
    obtain ⟨ok, len⟩ := asmL_ok hs (fun p hp => hp) hA (fun w h => nomatch h)
    rw [sq_nx ((mFor_of es).trans e)]
    dsimp only
    obtain ⟨n1, n2, n3, b1, b2, b3, b4, b5⟩ := a.pr
    have C := comp_loop (X := some (.str x)) (x1 := some (.adr iz)) (x4 := y4) (x5 := y5) (x7 := y7) (x8 := none) (x9 := none) (D0 := S3.n) a.ws a.dic a.rw_ b3 b4 rfl ok (by simp at len; omega) rows.length 0 [] (Nat.zero_add _) (Nat.le_refl _)
    rw [List.drop_zero, put_same (show (S3.alloc (.lst [])).f S3.n = some (.lst (([] : List (List Nat × Int)).map rowN)) from at_new)] at C
    have er : mSrc (mVar 3) [some (.str x), some (.adr iz), some (.adr S.n), some (.adr (S.n + 1)), y4, y5, y6, y7, none, none] S3 = .ok (sqa (S.n + 1) as.length) S3 := by
      have h := a.rw_
      simp [mSrc, mVar, SM.bind, mSrcD, h]
    have wl : as.length = rows.length := a.ws.len
    cases hI : ios pl rows with
    | none =>
      rw [hI] at C
      obtain ⟨a', e2⟩ := C
      have xt : Xt S ((S3.alloc (.lst [])).put S3.n (.lst a')) := a.xt.alloc'.put a.xt.le
      refine ⟨_, ?_, xt⟩
      have e3 : mLc (mSrc (mVar 3)) (.nm 6) mYes eIns [6] [some (.str x), some (.adr iz), some (.adr S.n), some (.adr (S.n + 1)), y4, y5, y6, y7, none, none] S3 = .exc "CodeError" ((S3.alloc (.lst [])).put S3.n (.lst a')) := by
        refine mLc_exc er ?_
        rw [← wl] at e2
        exact e2
      rw [sq_ex (S' := (S3.alloc (.lst [])).put S3.n (.lst a')) (q := "CodeError") (by unfold mSet toRS; rw [e3])]
    | some rs =>
      rw [hI] at C
      have C : lcG _ _ _ _ _ _ _ _ _ = _ := C
      rw [List.nil_append] at C
      obtain ⟨rin, rlen⟩ := ios_ins hI
      let S4 : Sr := (S3.alloc (.lst [])).put S3.n (.lst (rs.map rowN))
      have xt4 : Xt S S4 := a.xt.alloc'.put a.xt.le
      have e3 : mLc (mSrc (mVar 3)) (.nm 6) mYes eIns [6] [some (.str x), some (.adr iz), some (.adr S.n), some (.adr (S.n + 1)), y4, y5, y6, y7, none, none] S3 = .ok (.adr S3.n) S4 := by
        refine mLc_ok er ?_
        rw [← wl] at C
        exact C
      have e4 : mSet 8 (mLc (mSrc (mVar 3)) (.nm 6) mYes eIns [6]) [some (.str x), some (.adr iz), some (.adr S.n), some (.adr (S.n + 1)), y4, y5, y6, y7, none, none] S3 = .nx [some (.str x), some (.adr iz), some (.adr S.n), some (.adr (S.n + 1)), y4, y5, y6, y7, some (.adr S3.n), none] S4 := by
        unfold mSet toRS
        rw [e3]
        rfl
      rw [sq_nx e4]
      dsimp only
      have f4 : S4.f S3.n = some (.lst (rs.map rowN)) := at_put
      have z4 : S4.f iz = some (.ins "Size" (sizF d k)) := xt4.at_ hz hi
      have pk := powS k hk
      have lz : rs.length ≤ sizeLine := by rw [sizeLine_eq]; simp at len; omega
      by_cases big : 2 ^ k < rs.length
      · rw [if_pos big]
        refine ⟨S4, ?_, xt4⟩
        have bc : (2 : Int) ^ k < (rs.length : Int) := by exact_mod_cast big
        have e5 : mIfS (mTB (mB dGt (mCB fLen (mCons (mVar 8) mNil)) (mB dShl (mC (.int 1)) (mAttr ["Size"] "code" (mVar 1))))) (mRaise "CodeError") mPass [some (.str x), some (.adr iz), some (.adr S.n), some (.adr (S.n + 1)), y4, y5, y6, y7, some (.adr S3.n), none] S4 = .ex "CodeError" S4 := by
          simp (decide := true) [mSeq, mPass, mBrk, mCnt, mDrop, mRet, mRetN, mIfS, mRaise, mSet, mAsg, mPar, mPar3, mAug, mFld, mFldAug, gNm, gSub', gFld, gNl, gCn, gTp, setA, putFD, mVar, mC, mB, mU, mTB, mAnd, mOr, mNot, mIf, mAndV, mOrV, mNotV, mChain, mNil, mCons, mTup, mLst, mSl, oNo, oE, mCB, fAbs, fMax2, fMin2, fInt, lenD, fLen, fTuple, fList, itemsD, fIsi, tyD, mAttr, mCall, mMeth, mMake, mBM, tyF, SM.bind, SM.pure, toRS, toRSA, toRST, Y.sb, List.lookup, put_f, put_n, alloc_f, alloc_n, put_put, alloc_put, okI, okB, orF, dSub, dFdiv, dMod, dPow, dShl, dShr, dAnd, dOr, dXor, dNeg, dLt, dLe, dGt, dGe, dIs, f4, z4, sizF, pk, bc]
        rw [sq_ex e5]
      · rw [if_neg big]
        have bc : ¬ (2 : Int) ^ k < (rs.length : Int) := by exact_mod_cast big
        have e5 : mIfS (mTB (mB dGt (mCB fLen (mCons (mVar 8) mNil)) (mB dShl (mC (.int 1)) (mAttr ["Size"] "code" (mVar 1))))) (mRaise "CodeError") mPass [some (.str x), some (.adr iz), some (.adr S.n), some (.adr (S.n + 1)), y4, y5, y6, y7, some (.adr S3.n), none] S4 = .nx [some (.str x), some (.adr iz), some (.adr S.n), some (.adr (S.n + 1)), y4, y5, y6, y7, some (.adr S3.n), none] S4 := by
          simp (decide := true) [mSeq, mPass, mBrk, mCnt, mDrop, mRet, mRetN, mIfS, mRaise, mSet, mAsg, mPar, mPar3, mAug, mFld, mFldAug, gNm, gSub', gFld, gNl, gCn, gTp, setA, putFD, mVar, mC, mB, mU, mTB, mAnd, mOr, mNot, mIf, mAndV, mOrV, mNotV, mChain, mNil, mCons, mTup, mLst, mSl, oNo, oE, mCB, fAbs, fMax2, fMin2, fInt, lenD, fLen, fTuple, fList, itemsD, fIsi, tyD, mAttr, mCall, mMeth, mMake, mBM, tyF, SM.bind, SM.pure, toRS, toRSA, toRST, Y.sb, List.lookup, put_f, put_n, alloc_f, alloc_n, put_put, alloc_put, okI, okB, orF, dSub, dFdiv, dMod, dPow, dShl, dShr, dAnd, dOr, dXor, dNeg, dLt, dLe, dGt, dGe, dIs, f4, z4, sizF, pk, bc]
        rw [sq_nx e5]
        have K := check_loop (X := some (.str x)) (x2 := some (.adr S.n)) (x3 := some (.adr (S.n + 1))) (x4 := y4) (x5 := y5) (x6 := y6) (x7 := y7) z4 f4 hd hk rin rs.length 0 none (Nat.zero_add _)
        rw [List.drop_zero] at K
        have e6 : mSrc (mVar 8) [some (.str x), some (.adr iz), some (.adr S.n), some (.adr (S.n + 1)), y4, y5, y6, y7, some (.adr S3.n), none] S4 = .ok (sqa S3.n rs.length) S4 := by
          simp [mSrc, mVar, SM.bind, mSrcD, f4]
        by_cases ha : (rs.all (fits d k)) = true
        · rw [if_pos ha] at K ⊢
          obtain ⟨y9, e7⟩ := K
          refine ⟨S4, ?_, xt4⟩
          rw [sq_nx ((mFor_of e6).trans e7)]
          simp (decide := true) [mSeq, mPass, mBrk, mCnt, mDrop, mRet, mRetN, mIfS, mRaise, mSet, mAsg, mPar, mPar3, mAug, mFld, mFldAug, gNm, gSub', gFld, gNl, gCn, gTp, setA, putFD, mVar, mC, mB, mU, mTB, mAnd, mOr, mNot, mIf, mAndV, mOrV, mNotV, mChain, mNil, mCons, mTup, mLst, mSl, oNo, oE, mCB, fAbs, fMax2, fMin2, fInt, lenD, fLen, fTuple, fList, itemsD, fIsi, tyD, mAttr, mCall, mMeth, mMake, mBM, tyF, SM.bind, SM.pure, toRS, toRSA, toRST, Y.sb, List.lookup, put_f, put_n, alloc_f, alloc_n, put_put, alloc_put, okI, okB, orF, dSub, dFdiv, dMod, dPow, dShl, dShr, dAnd, dOr, dXor, dNeg, dLt, dLe, dGt, dGe, dIs, f4]
        · rw [if_neg ha] at K ⊢
          refine ⟨S4, ?_, xt4⟩
          rw [sq_ex ((mFor_of e6).trans K)]
end K11

set_option Elab.async false
set_option linter.all false
set_option maxRecDepth 100000
set_option maxHeartbeats 4000000
namespace K11
open PySem PySem.Spec PyProof.Rows L2 Y TL
/-! ### texts as lists of signs -/
theorem sg_app (a b : List Nat) : sg a ++ sg b = sg (a ++ b) := ext_tl (by rw [tl_append, tl_sg, tl_sg, tl_sg])
theorem sg_str (s : String) : Str.ofString s = sg (wd s) := (sg_tl _).symm
def nmI (n : Int) : List Nat := numL n.toNat
theorem toStr_int {n : Int} (h : 0 ≤ n) : Str.ofString (toString n) = sg (nmI n) := by
  refine ext_tl ?_
  have e : ((n.toNat : Nat) : Int) = n := Int.toNat_of_nonneg h
  rw [tl_sg, nmI, ← tl_num, e]
theorem log_ok {n : Int} (h : 0 ≤ n) (h2 : n < 100000000) : n.natAbs.log2 < 1920 := by
  have h3 : n.natAbs < 2 ^ 27 := by omega
  have h4 := Nat.log2_lt (n := n.natAbs) (k := 27)
  by_cases z : n.natAbs = 0
  · rw [z]; decide
  · have := (h4 z).mpr h3
    omega
theorem nmI_len {n : Int} (h2 : n < 1000) : (nmI n).length ≤ 3 := numL_len (k := 3) (by omega) (by omega)
/-! ### the code that is listed -/
def Cd (cd : D) (S : Sr) (rows : List (List Nat × Int)) : Prop := cd = .tup (rows.map rowN) ∨ ∃ i, cd = .adr i ∧ S.f i = some (.lst (rows.map rowN)) ∧ i < S.n
section
variable {cd : D} {S S' : Sr} {rows : List (List Nat × Int)}
theorem Cd.mono (x : Xt S S') (h : Cd cd S rows) : Cd cd S' rows := by
  rcases h with h | ⟨i, e, h, l⟩
  · exact .inl h
  · exact .inr ⟨i, e, x.at_ h l, Nat.lt_of_lt_of_le l x.le⟩
theorem Cd.len (h : Cd cd S rows) : lenD S cd = some rows.length := by
  rcases h with rfl | ⟨i, rfl, h, l⟩
  · show some (rows.map rowN).length = _
    rw [List.length_map]
  · show (match S.f i with
      | some (.lst l) => some l.length
      | some (.dic l) => some l.length
      | _ => none) = _
    rw [h]
    show some (rows.map rowN).length = _
    rw [List.length_map]
def cdS (cd : D) (rows : List (List Nat × Int)) : Src := match cd with
  | .adr j => sqa j rows.length
  | _ => sqn (rows.map rowN)
theorem Cd.src (h : Cd cd S rows) : (∀ g : Gm, g[0]? = some (some cd) → mSrc (mVar 0) g S = .ok (cdS cd rows) S ∧ mEnu (mCons (mVar 0) mNil) g S = .ok (sqe (cdS cd rows)) S) ∧ (cdS cd rows).n = rows.length ∧ ∀ i S', Xt S S' → (cdS cd rows).nxt i S' = some (rows[i]?.map rowN) := by
  rcases h with rfl | ⟨j, rfl, h, l⟩
  · refine ⟨fun g hg => ⟨?_, ?_⟩, ?_, fun i S' _ => ?_⟩
    · simp [mSrc, mVar, SM.bind, mSrcD, hg, cdS]
    · simp [mEnu, mSrc, mVar, SM.bind, mSrcD, hg, mCons, mNil, SM.pure, cdS]
    · show (rows.map rowN).length = _
      rw [List.length_map]
    · show some (rows.map rowN)[i]? = _
      rw [List.getElem?_map]
  · refine ⟨fun g hg => ⟨?_, ?_⟩, rfl, fun i S' x => ?_⟩
    · simp [mSrc, mVar, SM.bind, mSrcD, hg, h, cdS]
    · simp [mEnu, mSrc, mVar, SM.bind, mSrcD, hg, h, mCons, mNil, SM.pure, cdS]
    · show (sqa j rows.length).nxt i S' = _
      rw [nx_sqa (x.at_ h l), List.getElem?_map]
end
/-! ### the goals -/
def gsL (rows : List (List Nat × Int)) : List Int := (rows.filter fun r => decide (r.1 ∈ JMP)).map (·.2)
theorem look_put {κ : Type} [DecidableEq κ] {l : List (κ × D)} {k k1 : κ} {v : D} : (lookD (putD l k v) k1).isSome = (decide (k1 = k) || (lookD l k1).isSome) := by
  have e : ∀ l : List (κ × D), (lookD l k1).isSome = l.any fun q => decide (q.1 = k1) := fun l => by
    unfold lookD
    rw [Option.isSome_map, Bool.eq_iff_iff, List.find?_isSome, List.any_eq_true]
  rw [e, e]
  unfold putD
  by_cases h : (l.any fun q => decide (q.1 = k)) = true
  · rw [if_pos h, List.any_map]
    have : ((fun q => decide (q.1 = k1)) ∘ fun q : κ × D => if q.1 = k then (q.1, v) else q) = fun q => decide (q.1 = k1) := by
      funext q
      show decide ((if q.1 = k then (q.1, v) else q).1 = k1) = _
      by_cases z : q.1 = k
      · rw [if_pos z]
      · rw [if_neg z]
    rw [this]
    by_cases z : k1 = k
    · rw [z, h]; simp
    · rw [decide_eq_false z, Bool.false_or]
  · rw [if_neg h, List.any_append, Bool.or_comm]
    congr 1
    simp only [List.any_cons, List.any_nil, Bool.or_false]
    exact decide_eq_decide.mpr ⟨fun h => h.symm, fun h => h.symm⟩
theorem put_len {κ : Type} [DecidableEq κ] {l : List (κ × D)} {k : κ} {v : D} : (putD l k v).length ≤ l.length + 1 := by
  unfold putD
  split <;> simp
/-- the dict of goals -/
def Gd (acc : List (Key × D)) (gs : List Int) : Prop := ∀ i : Int, (lookD acc (.inl i)).isSome = decide (i ∈ gs)
section
variable {cd : D} {S : Sr} {D0 : Nat} {rows : List (List Nat × Int)} {sr : Src} {x2 x3 x4 x5 x6 x7 : Option D}
abbrev gL (cd : D) (x1 x2 x3 x4 x5 x6 x7 x8 : Option D) : Gm := [some cd, x1, x2, x3, x4, x5, x6, x7, x8]
theorem dc_end {t : Tg} {mt : MT} {mk mv : ME} {g0 : Gm} {D0 r i : Nat} {S : Sr} (h : sr.nxt i S = some none) : dcG sr t mt mk mv g0 D0 r i S = .ok () S := by
  cases r <;> (unfold dcG; rw [h])
theorem goals_loop (hn : ∀ i S', Xt S S' → sr.nxt i S' = some (rows[i]?.map rowN)) (hD : S.n ≤ D0) : ∀ (r idx : Nat) (acc : List (Key × D)) (S1 : Sr), idx + r = rows.length → rows.length ≤ 3000 → acc.length ≤ idx → Xt S S1 → S1.f D0 = some (.dic acc) → Gd acc (gsL (rows.take idx)) →
    ∃ acc', dcG sr (.nm 8) (mTB (mB (dIn false) (mB dIx (mVar 8) (mC (.int 0))) (mC K_JUMPS))) (mB dIx (mVar 8) (mC (.int 1))) (mC (.bl true)) (gL cd none x2 x3 x4 x5 x6 x7 none) D0 r idx S1 = .ok () (S1.put D0 (.dic acc')) ∧ Gd acc' (gsL rows)
  | 0, idx, acc, S1, h, _, ha, xt, fd, hg => by
    refine ⟨acc, ?_, ?_⟩
    · rw [put_same fd]
      refine dc_end ?_
      rw [hn _ _ xt, List.getElem?_eq_none (by omega)]
      rfl
    · rw [List.take_of_length_le (by omega)] at hg
      exact hg
  | r + 1, idx, acc, S1, h, hz, ha, xt, fd, hg => by
    have hl : idx < rows.length := by omega
    have en := hn idx S1 xt
    rw [List.getElem?_eq_getElem hl] at en
    have et : gsL (rows.take (idx + 1)) = gsL (rows.take idx) ++ (if rows[idx].1 ∈ JMP then [rows[idx].2] else []) := by
      unfold gsL
      rw [List.take_succ_eq_append_getElem hl, List.filter_append, List.map_append]
      congr 1
      by_cases z : rows[idx].1 ∈ JMP
      · rw [if_pos z, List.filter_cons_of_pos (by simpa using z)]; rfl
      · rw [if_neg z, List.filter_cons_of_neg (by simpa using z)]; rfl
    have n3 := iJmp (x := rows[idx].1) (S := S1)
    have j0 : dIx (rowN rows[idx]) (.int 0) S1 = .ok (strL rows[idx].1) S1 := ixT0
    have j1 : dIx (rowN rows[idx]) (.int 1) S1 = .ok (.int rows[idx].2) S1 := ixT1
    have sz : acc.length < sizeLine := by rw [sizeLine_eq]; omega
    by_cases z : rows[idx].1 ∈ JMP
    · have st : dcG sr (.nm 8) (mTB (mB (dIn false) (mB dIx (mVar 8) (mC (.int 0))) (mC K_JUMPS))) (mB dIx (mVar 8) (mC (.int 1))) (mC (.bl true)) (gL cd none x2 x3 x4 x5 x6 x7 none) D0 (r + 1) idx S1 = dcG sr (.nm 8) (mTB (mB (dIn false) (mB dIx (mVar 8) (mC (.int 0))) (mC K_JUMPS))) (mB dIx (mVar 8) (mC (.int 1))) (mC (.bl true)) (gL cd none x2 x3 x4 x5 x6 x7 none) D0 r (idx + 1) (S1.put D0 (.dic (putD acc (.inl rows[idx].2) (.bl true)))) := by
        conv => lhs; unfold dcG
        simp (decide := true) [en, mSeq, mPass, mBrk, mCnt, mDrop, mRet, mRetN, mIfS, mRaise, mSet, mAsg, mPar, mPar3, mAug, mFld, mFldAug, gNm, gSub', gFld, gNl, gCn, gTp, setA, putFD, mVar, mC, mB, mU, mTB, mAnd, mOr, mNot, mIf, mAndV, mOrV, mNotV, mChain, mNil, mCons, mTup, mLst, mSl, oNo, oE, mCB, fAbs, fMax2, fMin2, fInt, lenD, fLen, fTuple, fList, itemsD, fIsi, tyD, mAttr, mCall, mMeth, mMake, mBM, tyF, SM.bind, SM.pure, toRS, toRSA, toRST, Y.sb, List.lookup, put_f, put_n, alloc_f, alloc_n, put_put, alloc_put, okI, okB, orF, dSub, dFdiv, dMod, dPow, dShl, dShr, dAnd, dOr, dXor, dNeg, dLt, dLe, dGt, dGe, dIs, Tg.put, j0, j1, n3, z, fd, sz, keyD]
      obtain ⟨acc', e, g'⟩ := goals_loop hn hD r (idx + 1) (putD acc (.inl rows[idx].2) (.bl true)) (S1.put D0 (.dic (putD acc (.inl rows[idx].2) (.bl true)))) (by omega) hz (by have := put_len (l := acc) (k := (Sum.inl rows[idx].2 : Key)) (v := .bl true); omega) (xt.put hD) at_put (by
        intro i
        rw [look_put, hg i, et, if_pos z, ← Bool.decide_or]
        refine decide_eq_decide.mpr ?_
        rw [List.mem_append, List.mem_singleton]
        constructor
        · rintro (h | h)
          · exact .inr (Sum.inl.inj h)
          · exact .inl h
        · rintro (h | h)
          · exact .inr h
          · exact .inl (by rw [h]))
      refine ⟨acc', ?_, g'⟩
      rw [st, e, put_put]
    · have st : dcG sr (.nm 8) (mTB (mB (dIn false) (mB dIx (mVar 8) (mC (.int 0))) (mC K_JUMPS))) (mB dIx (mVar 8) (mC (.int 1))) (mC (.bl true)) (gL cd none x2 x3 x4 x5 x6 x7 none) D0 (r + 1) idx S1 = dcG sr (.nm 8) (mTB (mB (dIn false) (mB dIx (mVar 8) (mC (.int 0))) (mC K_JUMPS))) (mB dIx (mVar 8) (mC (.int 1))) (mC (.bl true)) (gL cd none x2 x3 x4 x5 x6 x7 none) D0 r (idx + 1) S1 := by
        conv => lhs; unfold dcG
        simp (decide := true) [en, mSeq, mPass, mBrk, mCnt, mDrop, mRet, mRetN, mIfS, mRaise, mSet, mAsg, mPar, mPar3, mAug, mFld, mFldAug, gNm, gSub', gFld, gNl, gCn, gTp, setA, putFD, mVar, mC, mB, mU, mTB, mAnd, mOr, mNot, mIf, mAndV, mOrV, mNotV, mChain, mNil, mCons, mTup, mLst, mSl, oNo, oE, mCB, fAbs, fMax2, fMin2, fInt, lenD, fLen, fTuple, fList, itemsD, fIsi, tyD, mAttr, mCall, mMeth, mMake, mBM, tyF, SM.bind, SM.pure, toRS, toRSA, toRST, Y.sb, List.lookup, put_f, put_n, alloc_f, alloc_n, put_put, alloc_put, okI, okB, orF, dSub, dFdiv, dMod, dPow, dShl, dShr, dAnd, dOr, dXor, dNeg, dLt, dLe, dGt, dGe, dIs, Tg.put, j0, j1, n3, z]
      obtain ⟨acc', e, g'⟩ := goals_loop hn hD r (idx + 1) acc S1 (by omega) hz (by omega) xt fd (by
        intro i
        rw [hg i, et, if_neg z, List.append_nil])
      exact ⟨acc', st.trans e, g'⟩
end
/-! ### the lines -/
def nameL (gs : List Int) (p : Nat) : List Nat := if (p : Int) ∈ gs then 112 :: (numL p ++ [58, 32]) else []
def restL (many : Nat) (r : List Nat × Int) : List Nat := if r.1 ∈ JMP then (if r.2 < (many : Int) then 32 :: 112 :: nmI r.2 else 32 :: nmI r.2) else if r.1 ∈ PLN then [] else 32 :: nmI r.2
def lnL (gs : List Int) (many p : Nat) (r : List Nat × Int) : List Nat := nameL gs p ++ r.1 ++ restL many r ++ [10]
def lnsL (gs : List Int) (many : Nat) : Nat → List (List Nat × Int) → List (List Nat)
  | _, [] => []
  | p, r :: t => lnL gs many p r :: lnsL gs many (p + 1) t
def RowOk (r : List Nat × Int) : Prop := r.1.length ≤ 10 ∧ 0 ≤ r.2 ∧ r.2 < 1000
theorem lnL_len {gs : List Int} {many p : Nat} {r : List Nat × Int} (h : RowOk r) (hp : p < 1000) : (nameL gs p).length ≤ 6 ∧ (restL many r).length ≤ 5 ∧ (lnL gs many p r).length ≤ 22 := by
  obtain ⟨h1, h2, h3⟩ := h
  have a : (nameL gs p).length ≤ 6 := by
    unfold nameL
    have := numL_len (n := p) (k := 3) (by omega) (by omega)
    split
    · rw [List.length_cons, List.length_append]
      show (numL p).length + 2 + 1 ≤ 6
      omega
    · simp
  have b : (restL many r).length ≤ 5 := by
    unfold restL
    have := nmI_len h3
    split
    · split
      · simp only [List.length_cons]; omega
      · simp only [List.length_cons]; omega
    · split
      · simp
      · simp only [List.length_cons]; omega
  refine ⟨a, b, ?_⟩
  unfold lnL
  rw [List.length_append, List.length_append, List.length_append, List.length_singleton]
  omega
section
variable {cd : D} {S : Sr} {D0 L0 : Nat} {rows : List (List Nat × Int)} {sr : Src} {acc : List (Key × D)} {gs : List Int}
theorem line_text {S1 : Sr} {p : Nat} {r : List Nat × Int} {ls : List D} {x6 x7 x8 : Option D} (hd : S1.f D0 = some (.dic acc)) (hg : Gd acc gs) (hc : lenD S1 cd = some rows.length) (hL : S1.f L0 = some (.lst ls)) (hz : ls.length < 5000) (ok : RowOk r) (hp : p < 1000) :
    b_listing_L75 (gL cd (some (.adr D0)) (some (.adr L0)) (some (.int (p : Nat))) (some (strL r.1)) (some (.int r.2)) x6 x7 x8) S1 = .nx (gL cd (some (.adr D0)) (some (.adr L0)) (some (.int (p : Nat))) (some (strL r.1)) (some (.int r.2)) (some (strL (nameL gs p))) (some (strL (restL rows.length r))) x8) (S1.put L0 (.lst (ls ++ [strL (lnL gs rows.length p r)]))) := by
  obtain ⟨l1, l2, l3⟩ := lnL_len (gs := gs) (many := rows.length) ok hp
  obtain ⟨h1, h2, h3⟩ := ok
  have sz : ls.length < sizeLine := by rw [sizeLine_eq]; omega
  have n2 := iPln (x := r.1) (S := S1)
  have n3 := iJmp (x := r.1) (S := S1)
  have ein : dIn false (.int (p : Nat)) (.adr D0) S1 = .ok (.bl (decide ((p : Int) ∈ gs))) S1 := by
    have e := hg (p : Nat)
    simp [dIn, orF, inSeq, inTxt, inDic, itemsD, dicAt, hd, keyD, e]
  have zS : ∀ l : List Nat, l.length ≤ 100 → (sg l).length ≤ sizeLine := fun l h => by rw [sg_len, sizeLine_eq]; omega
  have tp : Str.ofString (toString ((p : Nat) : Int)) = sg (numL p) := by
    refine ext_tl ?_
    rw [tl_sg]
    exact tl_num p
  have tr := toStr_int h2
  have lp : ((p : Nat) : Int).natAbs.log2 < 1920 := log_ok (by omega) (by omega)
  have lr : r.2.natAbs.log2 < 1920 := log_ok h2 (by omega)
  have e0 : Str.empty = sg [] := rfl
  have w1 : Str.ofString "p" = sg [112] := by rw [sg_str]; decide +kernel
  have w2 : Str.ofString ": " = sg [58, 32] := by rw [sg_str]; decide +kernel
  have w3 : Str.ofString " p" = sg [32, 112] := by rw [sg_str]; decide +kernel
  have w4 : Str.ofString " " = sg [32] := by rw [sg_str]; decide +kernel
  have w5 : Str.ofString "\n" = sg [10] := by rw [sg_str]; decide +kernel
  have w6 : Str.ofString "" = sg [] := by rw [sg_str]; decide +kernel
  have np := numL_len (n := p) (k := 3) (by omega) (by omega)
  have nr := nmI_len h3
  have s1 : mSet 6 (mIf (mTB (mB (dIn false) (mVar 3) (mVar 1))) (mJs [(mC (.str "p")), (mFmt (mVar 3)), (mC (.str ": "))] PySem.Str.empty) (mC (.str ""))) (gL cd (some (.adr D0)) (some (.adr L0)) (some (.int (p : Nat))) (some (strL r.1)) (some (.int r.2)) x6 x7 x8) S1 = .nx (gL cd (some (.adr D0)) (some (.adr L0)) (some (.int (p : Nat))) (some (strL r.1)) (some (.int r.2)) (some (strL (nameL gs p))) x7 x8) S1 := by
    by_cases z : (p : Int) ∈ gs
    · have q1 := zS ([] ++ [112]) (by simp)
      have q2 := zS ([] ++ [112] ++ numL p) (by simp; omega)
      have q3 := zS ([] ++ [112] ++ numL p ++ [58, 32]) (by simp; omega)
      have en : nameL gs p = [] ++ [112] ++ numL p ++ [58, 32] := by unfold nameL; rw [if_pos z]; rfl
      rw [en]
      simp (decide := true) only [mSeq, mPass, mBrk, mCnt, mDrop, mRet, mRetN, mIfS, mRaise, mSet, mAsg, mPar, mPar3, mAug, mFld, mFldAug, gNm, gSub', gFld, gNl, gCn, gTp, setA, putFD, mVar, mC, mB, mU, mTB, mAnd, mOr, mNot, mIf, mAndV, mOrV, mNotV, mChain, mNil, mCons, mTup, mLst, mSl, oNo, oE, mCB, fAbs, fMax2, fMin2, fInt, lenD, fLen, fTuple, fList, itemsD, fIsi, tyD, mAttr, mCall, mMeth, mMake, mBM, tyF, SM.bind, SM.pure, toRS, toRSA, toRST, Y.sb, List.lookup, put_f, put_n, alloc_f, alloc_n, put_put, alloc_put, okI, okB, orF, dSub, dFdiv, dMod, dPow, dShl, dShr, dAnd, dOr, dXor, dNeg, dLt, dLe, dGt, dGe, dIs, mJs, mFmt, ein, z, e0, w1, w2, tp, lp, sg_app, q1, q2, q3, decide_true, if_true, List.getElem?_cons_succ, List.getElem?_cons_zero, List.set_cons_succ, List.set_cons_zero, gL]
    · have en : nameL gs p = [] := if_neg z
      rw [en]
      simp (decide := true) [mSeq, mPass, mBrk, mCnt, mDrop, mRet, mRetN, mIfS, mRaise, mSet, mAsg, mPar, mPar3, mAug, mFld, mFldAug, gNm, gSub', gFld, gNl, gCn, gTp, setA, putFD, mVar, mC, mB, mU, mTB, mAnd, mOr, mNot, mIf, mAndV, mOrV, mNotV, mChain, mNil, mCons, mTup, mLst, mSl, oNo, oE, mCB, fAbs, fMax2, fMin2, fInt, lenD, fLen, fTuple, fList, itemsD, fIsi, tyD, mAttr, mCall, mMeth, mMake, mBM, tyF, SM.bind, SM.pure, toRS, toRSA, toRST, Y.sb, List.lookup, put_f, put_n, alloc_f, alloc_n, put_put, alloc_put, okI, okB, orF, dSub, dFdiv, dMod, dPow, dShl, dShr, dAnd, dOr, dXor, dNeg, dLt, dLe, dGt, dGe, dIs, ein, z, w6]
  have s2 : mIfS (mTB (mB (dIn false) (mVar 4) (mC K_JUMPS))) (mSet 7 (mIf (mTB (mB dLt (mVar 5) (mCB fLen (mCons (mVar 0) mNil)))) (mJs [(mC (.str " p")), (mFmt (mVar 5))] PySem.Str.empty) (mJs [(mC (.str " ")), (mFmt (mVar 5))] PySem.Str.empty))) (mSet 7 (mIf (mTB (mB (dIn false) (mVar 4) (mC K_PLAIN))) (mC (.str "")) (mJs [(mC (.str " ")), (mFmt (mVar 5))] PySem.Str.empty))) (gL cd (some (.adr D0)) (some (.adr L0)) (some (.int (p : Nat))) (some (strL r.1)) (some (.int r.2)) (some (strL (nameL gs p))) x7 x8) S1 = .nx (gL cd (some (.adr D0)) (some (.adr L0)) (some (.int (p : Nat))) (some (strL r.1)) (some (.int r.2)) (some (strL (nameL gs p))) (some (strL (restL rows.length r))) x8) S1 := by
    have q1 := zS ([] ++ [32, 112]) (by simp)
    have q2 := zS ([] ++ [32, 112] ++ nmI r.2) (by simp; omega)
    have q3 := zS ([] ++ [32]) (by simp)
    have q4 := zS ([] ++ [32] ++ nmI r.2) (by simp; omega)
    unfold restL
    by_cases z : r.1 ∈ JMP
    · rw [if_pos z]
      by_cases z2 : r.2 < (rows.length : Int)
      · rw [if_pos z2]
        have en : 32 :: 112 :: nmI r.2 = [] ++ [32, 112] ++ nmI r.2 := rfl
        rw [en]
        simp (decide := true) only [mIfS, mTB, mB, mVar, mC, SM.bind, SM.pure, mSet, toRS, toRST, toRSA, setA, mIf, dLt, orF, okB, mCB, mCons, mNil, fLen, hc, mJs, mFmt, n3, z, z2, e0, w3, tr, lr, sg_app, q1, q2, decide_true, decide_false, if_true, if_false, Bool.false_eq_true, List.getElem?_cons_succ, List.getElem?_cons_zero, List.set_cons_succ, List.set_cons_zero, gL]
      · rw [if_neg z2]
        have en : 32 :: nmI r.2 = [] ++ [32] ++ nmI r.2 := rfl
        rw [en]
        simp (decide := true) only [mIfS, mTB, mB, mVar, mC, SM.bind, SM.pure, mSet, toRS, toRST, toRSA, setA, mIf, dLt, orF, okB, mCB, mCons, mNil, fLen, hc, mJs, mFmt, n3, z, z2, e0, w4, tr, lr, sg_app, q3, q4, decide_true, decide_false, if_true, if_false, Bool.false_eq_true, List.getElem?_cons_succ, List.getElem?_cons_zero, List.set_cons_succ, List.set_cons_zero, gL]
    · rw [if_neg z]
      by_cases z2 : r.1 ∈ PLN
      · rw [if_pos z2]
        simp (decide := true) [mSeq, mPass, mBrk, mCnt, mDrop, mRet, mRetN, mIfS, mRaise, mSet, mAsg, mPar, mPar3, mAug, mFld, mFldAug, gNm, gSub', gFld, gNl, gCn, gTp, setA, putFD, mVar, mC, mB, mU, mTB, mAnd, mOr, mNot, mIf, mAndV, mOrV, mNotV, mChain, mNil, mCons, mTup, mLst, mSl, oNo, oE, mCB, fAbs, fMax2, fMin2, fInt, lenD, fLen, fTuple, fList, itemsD, fIsi, tyD, mAttr, mCall, mMeth, mMake, mBM, tyF, SM.bind, SM.pure, toRS, toRSA, toRST, Y.sb, List.lookup, put_f, put_n, alloc_f, alloc_n, put_put, alloc_put, okI, okB, orF, dSub, dFdiv, dMod, dPow, dShl, dShr, dAnd, dOr, dXor, dNeg, dLt, dLe, dGt, dGe, dIs, n2, n3, z, z2, w6]
      · rw [if_neg z2]
        have en : 32 :: nmI r.2 = [] ++ [32] ++ nmI r.2 := rfl
        rw [en]
        simp (decide := true) only [mSeq, mPass, mBrk, mCnt, mDrop, mRet, mRetN, mIfS, mRaise, mSet, mAsg, mPar, mPar3, mAug, mFld, mFldAug, gNm, gSub', gFld, gNl, gCn, gTp, setA, putFD, mVar, mC, mB, mU, mTB, mAnd, mOr, mNot, mIf, mAndV, mOrV, mNotV, mChain, mNil, mCons, mTup, mLst, mSl, oNo, oE, mCB, fAbs, fMax2, fMin2, fInt, lenD, fLen, fTuple, fList, itemsD, fIsi, tyD, mAttr, mCall, mMeth, mMake, mBM, tyF, SM.bind, SM.pure, toRS, toRSA, toRST, Y.sb, List.lookup, put_f, put_n, alloc_f, alloc_n, put_put, alloc_put, okI, okB, orF, dSub, dFdiv, dMod, dPow, dShl, dShr, dAnd, dOr, dXor, dNeg, dLt, dLe, dGt, dGe, dIs, mJs, mFmt, n2, n3, z, z2, e0, w4, tr, lr, sg_app, q3, q4, decide_true, decide_false, Bool.false_eq_true, if_false, if_true, List.getElem?_cons_succ, List.getElem?_cons_zero, List.set_cons_succ, List.set_cons_zero, gL]
  unfold b_listing_L75
  rw [sq_nx s1, sq_nx s2]
  have q0 := zS ([] ++ nameL gs p) (by simp; omega)
  have q1 := zS ([] ++ nameL gs p ++ r.1) (by simp; omega)
  have q2 := zS ([] ++ nameL gs p ++ r.1 ++ restL rows.length r) (by simp; omega)
  have q3 := zS ([] ++ nameL gs p ++ r.1 ++ restL rows.length r ++ [10]) (by simp; omega)
  have a1 := zS (nameL gs p) (by omega)
  have a2 := zS r.1 (by omega)
  have a3 := zS (restL rows.length r) (by omega)
  have en : lnL gs rows.length p r = [] ++ nameL gs p ++ r.1 ++ restL rows.length r ++ [10] := rfl
  rw [en]
  simp (decide := true) only [mSeq, mPass, mBrk, mCnt, mDrop, mRet, mRetN, mIfS, mRaise, mSet, mAsg, mPar, mPar3, mAug, mFld, mFldAug, gNm, gSub', gFld, gNl, gCn, gTp, setA, putFD, mVar, mC, mB, mU, mTB, mAnd, mOr, mNot, mIf, mAndV, mOrV, mNotV, mChain, mNil, mCons, mTup, mLst, mSl, oNo, oE, mCB, fAbs, fMax2, fMin2, fInt, lenD, fLen, fTuple, fList, itemsD, fIsi, tyD, mAttr, mCall, mMeth, mMake, mBM, tyF, SM.bind, SM.pure, toRS, toRSA, toRST, Y.sb, List.lookup, put_f, put_n, alloc_f, alloc_n, put_put, alloc_put, okI, okB, orF, dSub, dFdiv, dMod, dPow, dShl, dShr, dAnd, dOr, dXor, dNeg, dLt, dLe, dGt, dGe, dIs, mJs, mFmt, mBM, tyF, fApp, hL, sz, e0, w5, sg_app, q0, q1, q2, q3, a1, a2, a3, if_true, List.getElem?_cons_succ, List.getElem?_cons_zero, gL]
end
end K11

set_option Elab.async false
set_option linter.all false
set_option maxRecDepth 100000
set_option maxHeartbeats 4000000
namespace K11
open PySem PySem.Spec PyProof.Rows L2 Y TL
section
variable {cd : D} {S : Sr} {D0 L0 : Nat} {rows : List (List Nat × Int)} {sr : Src} {acc : List (Key × D)} {gs : List Int}
theorem list_loop (hn : ∀ i S', Xt S S' → sr.nxt i S' = some (rows[i]?.map rowN)) (hc : Cd cd S rows) (hg : Gd acc gs) (hr : rows.length < 900) (ok : ∀ r ∈ rows, RowOk r) (hL : S.n ≤ L0) (hDL : D0 ≠ L0) : ∀ (r idx : Nat) (ls : List (List Nat)) (S1 : Sr) (x3 x4 x5 x6 x7 : Option D), idx + r = rows.length → ls.length ≤ idx → Xt S S1 → S1.f D0 = some (.dic acc) → S1.f L0 = some (.lst (ls.map strL)) →
    ∃ g', forG (sqe sr) (mStep (gTp 2 (gCn (gNm 3) (gCn (gTp 2 (gCn (gNm 4) (gCn (gNm 5) gNl))) gNl))) b_listing_L75) r idx (gL cd (some (.adr D0)) (some (.adr L0)) x3 x4 x5 x6 x7 none) S1 = .nx g' (S1.put L0 (.lst ((ls ++ lnsL gs rows.length idx (rows.drop idx)).map strL))) ∧ g'[2]? = some (some (.adr L0))
  | 0, idx, ls, S1, x3, x4, x5, x6, x7, h, hl, xt, hd, fl => by
    refine ⟨gL cd (some (.adr D0)) (some (.adr L0)) x3 x4 x5 x6 x7 none, ?_, rfl⟩
    rw [List.drop_eq_nil_of_le (by omega)]
    unfold lnsL
    rw [List.append_nil, put_same fl]
    refine fo_end ?_
    show (match sr.nxt idx S1 with
      | some (some d) => some (some (D.tup [.int (idx : Int), d]))
      | some none => some none
      | none => none) = _
    rw [hn idx S1 xt, List.getElem?_eq_none (by omega)]
    rfl
  | r + 1, idx, ls, S1, x3, x4, x5, x6, x7, h, hl, xt, hd, fl => by
    have li : idx < rows.length := by omega
    have en : (sqe sr).nxt idx S1 = some (some (.tup [.int (idx : Int), rowN rows[idx]])) := by
      show (match sr.nxt idx S1 with
        | some (some d) => some (some (D.tup [.int (idx : Int), d]))
        | some none => some none
        | none => none) = _
      rw [hn idx S1 xt, List.getElem?_eq_getElem li]
      rfl
    have lt := line_text (x6 := x6) (x7 := x7) (x8 := none) (p := idx) hd hg (hc.mono xt).len fl (by rw [List.length_map]; omega) (ok _ (List.getElem_mem li)) (by omega)
    have st : mStep (gTp 2 (gCn (gNm 3) (gCn (gTp 2 (gCn (gNm 4) (gCn (gNm 5) gNl))) gNl))) b_listing_L75 (.tup [.int (idx : Int), rowN rows[idx]]) (gL cd (some (.adr D0)) (some (.adr L0)) x3 x4 x5 x6 x7 none) S1 = b_listing_L75 (gL cd (some (.adr D0)) (some (.adr L0)) (some (.int (idx : Nat))) (some (strL rows[idx].1)) (some (.int rows[idx].2)) x6 x7 none) S1 := by
      simp (decide := true) [mStep, mSeq, mPass, mBrk, mCnt, mDrop, mRet, mRetN, mIfS, mRaise, mSet, mAsg, mPar, mPar3, mAug, mFld, mFldAug, gNm, gSub', gFld, gNl, gCn, gTp, setA, putFD, mVar, mC, mB, mU, mTB, mAnd, mOr, mNot, mIf, mAndV, mOrV, mNotV, mChain, mNil, mCons, mTup, mLst, mSl, oNo, oE, mCB, fAbs, fMax2, fMin2, fInt, lenD, fLen, fTuple, fList, itemsD, fIsi, tyD, mAttr, mCall, mMeth, mMake, mBM, tyF, SM.bind, SM.pure, toRS, toRSA, toRST, Y.sb, List.lookup, put_f, put_n, alloc_f, alloc_n, put_put, alloc_put, okI, okB, orF, dSub, dFdiv, dMod, dPow, dShl, dShr, dAnd, dOr, dXor, dNeg, dLt, dLe, dGt, dGe, dIs]
    have ea : ls.map strL ++ [strL (lnL gs rows.length idx rows[idx])] = (ls ++ [lnL gs rows.length idx rows[idx]]).map strL := by rw [List.map_append]; rfl
    rw [ea] at lt
    obtain ⟨g', e, hg'⟩ := list_loop hn hc hg hr ok hL hDL r (idx + 1) (ls ++ [lnL gs rows.length idx rows[idx]]) (S1.put L0 (.lst ((ls ++ [lnL gs rows.length idx rows[idx]]).map strL))) (some (.int (idx : Nat))) (some (strL rows[idx].1)) (some (.int rows[idx].2)) (some (strL (nameL gs idx))) (some (strL (restL rows.length rows[idx]))) (by omega) (by rw [List.length_append, List.length_singleton]; omega) (xt.put hL) (at_put_ne hd hDL) at_put
    refine ⟨g', (fo_nx en (st.trans lt)).trans ?_, hg'⟩
    rw [e, put_put, List.append_assoc, List.drop_eq_getElem_cons li]
    rfl
end
theorem joinL_nil : ∀ l : List (List Nat), TL.joinL [] l = l.flatten
  | [] => rfl
  | [a] => by simp [TL.joinL]
  | a :: b :: r => by
    show a ++ ([] ++ TL.joinL [] (b :: r)) = _
    rw [joinL_nil (b :: r)]
    rfl
theorem map_tl_sg (l : List (List Nat)) : (l.map sg).map tl = l := by
  rw [List.map_map]
  exact List.map_id l
theorem strs_of_map (l : List (List Nat)) : strsOf (l.map strL) = some (l.map sg) := by
  have e := strs_of (l.map sg)
  rw [List.map_map] at e
  exact e
theorem sum_le {l : List (List Nat)} {B : Nat} (h : ∀ x ∈ l, x.length ≤ B) : ((l.map sg).map (·.length)).sum ≤ l.length * B := by
  induction l with
  | nil => exact Nat.zero_le _
  | cons a l ih =>
    have h1 := ih fun x hx => h x (List.mem_cons_of_mem _ hx)
    have h2 := h a List.mem_cons_self
    rw [List.map_cons, List.map_cons, List.sum_cons, List.length_cons, sg_len, Nat.succ_mul]
    omega
theorem lns_len {gs : List Int} {many : Nat} : ∀ {p : Nat} {rows : List (List Nat × Int)}, (lnsL gs many p rows).length = rows.length
  | _, [] => rfl
  | p, r :: t => congrArg (· + 1) (lns_len (p := p + 1) (rows := t))
theorem lns_each {gs : List Int} {many : Nat} : ∀ {p : Nat} {rows : List (List Nat × Int)}, (∀ r ∈ rows, RowOk r) → p + rows.length ≤ 1000 → ∀ x ∈ lnsL gs many p rows, x.length ≤ 22
  | _, [], _, _, x, hx => nomatch hx
  | p, r :: t, h, hp, x, hx => by
    rw [List.length_cons] at hp
    rcases List.mem_cons.mp hx with e | e
    · rw [e]
      exact (lnL_len (h r List.mem_cons_self) (by omega)).2.2
    · exact lns_each (fun r hr => h r (List.mem_cons_of_mem _ hr)) (by omega) x e
/-- the text of a listing -/
def lstT (rows : List (List Nat × Int)) : List Nat := (lnsL (gsL rows) rows.length 0 rows).flatten
theorem e_listing {cd : D} {S : Sr} {rows : List (List Nat × Int)} (hc : Cd cd S rows) (hr : rows.length < 900) (ok : ∀ r ∈ rows, RowOk r) : ∃ S', f_listing [cd] S = .ok (strL (lstT rows)) S' ∧ Xt S S' := by
  have z0 : 0 ≤ sizeLine := Nat.zero_le _
  obtain ⟨h1, h2, h3⟩ := hc.src
  unfold f_listing mFun
  have eg : ([cd].map some ++ List.replicate (9 - [cd].length) none : Gm) = gL cd none none none none none none none none := rfl
  rw [eg]
  unfold b_listing
  obtain ⟨gd, e1, hg⟩ := goals_loop (cd := cd) (x2 := none) (x3 := none) (x4 := none) (x5 := none) (x6 := none) (x7 := none) (D0 := S.n) h3 (Nat.le_refl _) rows.length 0 [] (S.alloc (.dic [])) (Nat.zero_add _) (by omega) (Nat.le_refl _) Xt.alloc at_new (by
    intro i
    rfl)
  let S1 : Sr := (S.alloc (.dic [])).put S.n (.dic gd)
  have xt1 : Xt S S1 := Xt.alloc.put (Nat.le_refl _)
  have d1 : mSet 1 (mDc (mSrc (mVar 0)) (.nm 8) (mTB (mB (dIn false) (mB dIx (mVar 8) (mC (.int 0))) (mC K_JUMPS))) (mB dIx (mVar 8) (mC (.int 1))) (mC (.bl true)) [8]) (gL cd none none none none none none none none) S = .nx (gL cd (some (.adr S.n)) none none none none none none none) S1 := by
    have e0 := (h1 (gL cd none none none none none none none none) rfl).1
    unfold mSet toRS mDc SM.bind
    rw [e0]
    dsimp only
    rw [h2]
    have e1' : dcG (cdS cd rows) (.nm 8) (mTB (mB (dIn false) (mB dIx (mVar 8) (mC (.int 0))) (mC K_JUMPS))) (mB dIx (mVar 8) (mC (.int 1))) (mC (.bl true)) (wipeD (gL cd none none none none none none none none) [8]) S.n rows.length 0 (S.alloc (.dic [])) = .ok () S1 := e1
    rw [e1']
    rfl
  rw [sq_nx d1]
  let S2 : Sr := S1.alloc (.lst (([] : List (List Nat)).map strL))
  have d2 : mSet 2 (mLst mNil) (gL cd (some (.adr S.n)) none none none none none none none) S1 = .nx (gL cd (some (.adr S.n)) (some (.adr S1.n)) none none none none none none) S2 := by
    simp (decide := true) [mSeq, mPass, mBrk, mCnt, mDrop, mRet, mRetN, mIfS, mRaise, mSet, mAsg, mPar, mPar3, mAug, mFld, mFldAug, gNm, gSub', gFld, gNl, gCn, gTp, setA, putFD, mVar, mC, mB, mU, mTB, mAnd, mOr, mNot, mIf, mAndV, mOrV, mNotV, mChain, mNil, mCons, mTup, mLst, mSl, oNo, oE, mCB, fAbs, fMax2, fMin2, fInt, lenD, fLen, fTuple, fList, itemsD, fIsi, tyD, mAttr, mCall, mMeth, mMake, mBM, tyF, SM.bind, SM.pure, toRS, toRSA, toRST, Y.sb, List.lookup, put_f, put_n, alloc_f, alloc_n, put_put, alloc_put, okI, okB, orF, dSub, dFdiv, dMod, dPow, dShl, dShr, dAnd, dOr, dXor, dNeg, dLt, dLe, dGt, dGe, dIs, S2]
  rw [sq_nx d2]
  have hc2 : Cd cd S2 rows := hc.mono xt1.alloc'
  have n1 : S1.n = S.n + 1 := rfl
  have e3 := (hc2.src.1 (gL cd (some (.adr S.n)) (some (.adr S1.n)) none none none none none none) rfl).2
  have xt2 : Xt S S2 := xt1.alloc'
  obtain ⟨g', e4, hg'⟩ := list_loop (cd := cd) (S := S) (D0 := S.n) (L0 := S1.n) (gs := gsL rows) (acc := gd) h3 hc hg hr ok (by omega) (by omega) rows.length 0 [] S2 none none none none none (Nat.zero_add _) (Nat.le_refl _) xt2 (at_old at_put (by omega)) at_new
  rw [List.drop_zero, List.nil_append] at e4
  have e5 : mFor (mEnu (mCons (mVar 0) mNil)) (gTp 2 (gCn (gNm 3) (gCn (gTp 2 (gCn (gNm 4) (gCn (gNm 5) gNl))) gNl))) b_listing_L75 (gL cd (some (.adr S.n)) (some (.adr S1.n)) none none none none none none) S2 = .nx g' (S2.put S1.n (.lst ((lnsL (gsL rows) rows.length 0 rows).map strL))) := by
    refine (mFor_of e3).trans ?_
    rw [show (sqe (cdS cd rows)).n = rows.length from h2]
    exact e4
  rw [sq_nx e5]
  refine ⟨_, ?_, xt2.put (i := S1.n) (x := .lst ((lnsL (gsL rows) rows.length 0 rows).map strL)) (by omega)⟩
  have ew : Str.ofString "" = sg [] := by rw [sg_str]; decide +kernel
  have ej : Txt.join (sg []) ((lnsL (gsL rows) rows.length 0 rows).map sg) = sg (lstT rows) := by
    refine ext_tl ?_
    rw [join_eq, tl_join, map_tl_sg, tl_sg, joinL_nil]
    rfl
  have sz : (((lnsL (gsL rows) rows.length 0 rows).map sg).map (·.length)).sum + ((lnsL (gsL rows) rows.length 0 rows).map sg).length * (sg []).length ≤ 16777216 := by
    have h1 := sum_le (lns_each (gs := gsL rows) (many := rows.length) (p := 0) ok (by omega))
    rw [lns_len] at h1
    rw [sg_len, List.length_nil, Nat.mul_zero]
    omega
  have esm := strs_of_map (lnsL (gsL rows) rows.length 0 rows)
  have fin : mRet (mBM "str" fJoin (mC (.str "")) (mCons (mVar 2) mNil)) g' (S2.put S1.n (.lst ((lnsL (gsL rows) rows.length 0 rows).map strL))) = .rt (strL (lstT rows)) (S2.put S1.n (.lst ((lnsL (gsL rows) rows.length 0 rows).map strL))) := by
    have at' : (S2.put S1.n (.lst ((lnsL (gsL rows) rows.length 0 rows).map strL))).f S1.n = some (.lst ((lnsL (gsL rows) rows.length 0 rows).map strL)) := at_put
    simp (decide := true) only [mRet, mBM, mC, mCons, mVar, mNil, SM.bind, SM.pure, hg', tyF, fJoin, Y.joinL, at', esm, ew, ej, sz, if_true, toRS]
  rw [fin]
end K11

set_option Elab.async false
set_option linter.all false
set_option maxRecDepth 100000
set_option maxHeartbeats 4000000
namespace K11
open PySem PySem.Spec PyProof.Rows L2 Y TL
/-! ### words of a line -/
theorem aln_ok : ∀ c : Nat, alnB c = true → Unicode.isSpace c = false ∧ c ≠ 47 ∧ c ≠ 58 ∧ c ≠ 10 ∧ c < 0x110000 := by
  have h : ∀ c, c < 128 → alnB c = true → Unicode.isSpace c = false := by decide +kernel
  intro c hc
  have h2 : (97 ≤ c ∧ c ≤ 122) ∨ (48 ≤ c ∧ c ≤ 57) := by simpa [alnB, digB] using hc
  refine ⟨h c (by omega) hc, by omega, by omega, by omega, by omega⟩
/-- a word of letters and digits -/
def An (w : List Nat) : Prop := w ≠ [] ∧ ∀ c ∈ w, alnB c = true
theorem An.sp {w : List Nat} (h : An w) : ∀ c ∈ w, Unicode.isSpace c = false := fun c hc => (aln_ok c (h.2 c hc)).1
theorem An.free {w : List Nat} {s : Nat} (h : An w) (hs : s = 47 ∨ s = 58 ∨ s = 10) : s ∉ w := fun hm => by
  obtain ⟨_, h1, h2, h3, _⟩ := aln_ok s (h.2 s hm)
  omega
theorem An.sgn {w : List Nat} (h : An w) : Sgn w := fun c hc => (aln_ok c (h.2 c hc)).2.2.2.2
def wf (ws : List (List Nat)) (l : List Nat) : List (List Nat) := wfin (l.foldl wstep (ws, []))
theorem ws_wf (l : List Nat) : wsL l = wf [] l := rfl
theorem sp32 : Unicode.isSpace 32 = true := by decide +kernel
theorem wf_nil (ws : List (List Nat)) : wf ws [] = ws := rfl
theorem wf_sp (ws : List (List Nat)) (l : List Nat) : wf ws (32 :: l) = wf ws l := by
  unfold wf
  rw [List.foldl_cons]
  have : wstep (ws, []) 32 = (ws, []) := (if_pos sp32).trans (if_pos rfl)
  rw [this]
theorem wf_ws {w : List Nat} (h0 : w ≠ []) (h : ∀ c ∈ w, Unicode.isSpace c = false) (ws : List (List Nat)) (l : List Nat) : wf ws (w ++ 32 :: l) = wf (ws ++ [w]) l := by
  unfold wf
  rw [List.foldl_append, wfold_word w ws [] h, List.nil_append, List.foldl_cons]
  have : wstep (ws, w) 32 = (ws ++ [w], []) := (if_pos sp32).trans (if_neg h0)
  rw [this]
theorem wf_end {w : List Nat} (h0 : w ≠ []) (h : ∀ c ∈ w, Unicode.isSpace c = false) (ws : List (List Nat)) : wf ws w = ws ++ [w] := by
  unfold wf
  rw [wfold_word w ws [] h, List.nil_append]
  exact if_neg h0
theorem lab_sp {n : List Nat} (h : An n) : ∀ c ∈ n ++ [58], Unicode.isSpace c = false := fun c hc => by
  rcases List.mem_append.mp hc with hc | hc
  · exact h.sp c hc
  · rw [List.mem_singleton.mp hc]
    decide +kernel
/-- the names before the word -/
def nmsL (ns : List (List Nat)) : List Nat := (ns.map (· ++ [58, 32])).flatten
theorem wf_names : ∀ {ns : List (List Nat)} (ws : List (List Nat)) (l : List Nat), (∀ n ∈ ns, An n) → wf ws (nmsL ns ++ l) = wf (ws ++ ns.map (· ++ [58])) l
  | [], ws, l, _ => by
    rw [List.map_nil, List.append_nil]
    rfl
  | n :: ns, ws, l, h => by
    have hn := h n List.mem_cons_self
    have e : nmsL (n :: ns) ++ l = (n ++ [58]) ++ 32 :: (nmsL ns ++ l) := by
      show (n ++ [58, 32]) ++ nmsL ns ++ l = _
      simp
    rw [e, wf_ws (by simp) (lab_sp hn), wf_names _ _ fun m hm => h m (List.mem_cons_of_mem _ hm), List.append_assoc]
    rfl
theorem lp_names : ∀ {ns : List (List Nat)} {r : List (List Nat)}, (∀ n ∈ ns, labB n = true) → lpW (ns.map (· ++ [58]) ++ r) = (lpW r).map fun p => (ns ++ p.1, p.2)
  | [], r, _ => by
    show lpW r = _
    cases lpW r <;> rfl
  | n :: ns, r, h => by
    have hn := h n List.mem_cons_self
    rw [List.map_cons, List.cons_append]
    conv => lhs; unfold lpW
    rw [if_pos (by simp), List.dropLast_concat, if_pos hn, lp_names fun m hm => h m (List.mem_cons_of_mem _ hm)]
    cases lpW r <;> rfl
theorem lp_word {w : List Nat} {r : List (List Nat)} (h : 58 ∉ w) : lpW (w :: r) = some ([], w :: r) := by
  unfold lpW
  rw [if_neg]
  intro e
  exact h (List.mem_of_getLast? e)
theorem bef_free {l : List Nat} (h : 47 ∉ l) : bef l = l := by
  unfold bef
  rw [par_none1 h]
theorem bef_cut {l r : List Nat} (h : 47 ∉ l) : bef (l ++ ([47, 47] ++ r)) = l := by
  unfold bef
  rw [par_part1 (S := [47]) h]
  rfl
theorem nms_free {ns : List (List Nat)} {s : Nat} (h : ∀ n ∈ ns, An n) (hs : s = 47 ∨ s = 10) : s ∉ nmsL ns := by
  intro hm
  obtain ⟨x, hx, hm⟩ := List.mem_flatten.mp hm
  obtain ⟨n, hn, rfl⟩ := List.mem_map.mp hx
  rcases List.mem_append.mp hm with hm | hm
  · exact (h n hn).free (by omega) hm
  · simp at hm
    omega
/-- a line: blanks, names, a word, a rest -/
theorem line_parse {sp : List Nat} {ns : List (List Nat)} {w t : List Nat} {as : List (List Nat)} (hsp : sp = [] ∨ sp = [32, 32]) (hn : ∀ n ∈ ns, An n ∧ labB n = true) (hw : An w) (ht : (t = [] ∧ as = []) ∨ (t = [32, 47, 47, 32, 120] ∧ as = []) ∨ ∃ a, An a ∧ as = [a] ∧ (t = 32 :: a ∨ t = 32 :: 32 :: a)) :
    lpL (sp ++ nmsL ns ++ w ++ t) = some (ns, w :: as) := by
  have h47 : 47 ∉ sp ++ nmsL ns ++ w := by
    rw [List.mem_append, List.mem_append]
    rintro ((h | h) | h)
    · rcases hsp with rfl | rfl <;> simp at h
    · exact nms_free (fun n hn' => (hn n hn').1) (.inl rfl) h
    · exact hw.free (.inl rfl) h
  have hwf : ∀ l, wf [] (sp ++ nmsL ns ++ l) = wf (ns.map (· ++ [58])) l := fun l => by
    rw [List.append_assoc]
    have : wf [] (sp ++ (nmsL ns ++ l)) = wf [] (nmsL ns ++ l) := by
      rcases hsp with rfl | rfl
      · rfl
      · exact (wf_sp _ _).trans (wf_sp _ _)
    rw [this, wf_names _ _ fun n hn' => (hn n hn').1]
    rfl
  have key : wsL (bef (sp ++ nmsL ns ++ w ++ t)) = ns.map (· ++ [58]) ++ (w :: as) := by
    rw [ws_wf]
    rcases ht with ⟨rfl, rfl⟩ | ⟨rfl, rfl⟩ | ⟨a, ha, rfl, rfl | rfl⟩
    · rw [List.append_nil, bef_free h47, hwf, wf_end hw.1 hw.sp]
    · have e : sp ++ nmsL ns ++ w ++ [32, 47, 47, 32, 120] = (sp ++ nmsL ns ++ w ++ [32]) ++ ([47, 47] ++ [32, 120]) := by simp
      rw [e, bef_cut (by
        rw [List.mem_append]
        rintro (h | h)
        · exact h47 h
        · simp at h), List.append_assoc (sp ++ nmsL ns), hwf, wf_ws hw.1 hw.sp, wf_nil]
    · rw [bef_free (by
        rw [List.mem_append]
        rintro (h | h)
        · exact h47 h
        · rcases List.mem_cons.mp h with h | h
          · omega
          · exact ha.free (.inl rfl) h), List.append_assoc (sp ++ nmsL ns), hwf, wf_ws hw.1 hw.sp, wf_end ha.1 ha.sp, List.append_assoc]
      rfl
    · rw [bef_free (by
        rw [List.mem_append]
        rintro (h | h)
        · exact h47 h
        · rcases List.mem_cons.mp h with h | h
          · omega
          · rcases List.mem_cons.mp h with h | h
            · omega
            · exact ha.free (.inl rfl) h), List.append_assoc (sp ++ nmsL ns), hwf, wf_ws hw.1 hw.sp, wf_sp, wf_end ha.1 ha.sp, List.append_assoc]
      rfl
  unfold lpL
  rw [key, lp_names fun n hn' => (hn n hn').2, lp_word (hw.free (.inr (.inl rfl)))]
  simp
/-! ### lists of lines -/
theorem asmL_cons {p : List Nat} {r : List (List Nat)} {pl : List (List Nat × Int)} {rows : List (List (List Nat))} : asmL (p :: r) pl rows = match lpL p with
    | none => none
    | some (ns, ws) => match addN ns pl (rows.length : Int) with
      | none => none
      | some pl' => asmL r pl' (if ws = [] then rows else rows ++ [ws]) := rfl
theorem ios_cons {pl : List (List Nat × Int)} {w : List (List Nat)} {ws : List (List (List Nat))} : ios pl (w :: ws) = match io w pl with
    | none => none
    | some r => (ios pl ws).map (r :: ·) := rfl
theorem asmL_app : ∀ {a b : List (List Nat)} {pl : List (List Nat × Int)} {rows : List (List (List Nat))}, asmL (a ++ b) pl rows = (asmL a pl rows).bind fun q => asmL b q.1 q.2
  | [], b, pl, rows => rfl
  | p :: a, b, pl, rows => by
    rw [List.cons_append, asmL_cons, asmL_cons]
    cases lpL p with
    | none => rfl
    | some q =>
      obtain ⟨ns, ws⟩ := q
      dsimp only
      cases addN ns pl (rows.length : Int) with
      | none => rfl
      | some pl' => exact asmL_app
theorem asmL_one {p : List Nat} {ns ws : List (List Nat)} {pl pl' : List (List Nat × Int)} {rows : List (List (List Nat))} (h : lpL p = some (ns, ws)) (h2 : addN ns pl (rows.length : Int) = some pl') : asmL [p] pl rows = some (pl', if ws = [] then rows else rows ++ [ws]) := by
  unfold asmL
  rw [h]
  dsimp only
  rw [h2]
  rfl
theorem asmL_bad {p : List Nat} {ns ws : List (List Nat)} {pl : List (List Nat × Int)} {rows : List (List (List Nat))} {t : List (List Nat)} (h : lpL p = none ∨ ∃ ns ws, lpL p = some (ns, ws) ∧ addN ns pl (rows.length : Int) = none) : asmL (p :: t) pl rows = none := by
  unfold asmL
  rcases h with h | ⟨ns, ws, h, h2⟩
  · rw [h]
  · rw [h]
    dsimp only
    rw [h2]
theorem ios_app {pl : List (List Nat × Int)} : ∀ {a b : List (List (List Nat))}, ios pl (a ++ b) = (ios pl a).bind fun x => (ios pl b).map (x ++ ·)
  | [], b => by
    show ios pl b = (ios pl b).map _
    cases ios pl b <;> rfl
  | w :: a, b => by
    rw [List.cons_append, ios_cons, ios_cons]
    cases io w pl with
    | none => rfl
    | some r =>
      dsimp only
      rw [ios_app]
      cases ios pl a with
      | none => rfl
      | some x =>
        cases ios pl b with
        | none => rfl
        | some y => rfl
theorem addN_app {c : Int} : ∀ {ns : List (List Nat)} {pl : List (List Nat × Int)}, ns.Nodup → (∀ n ∈ ns, look pl n = none) → addN ns pl c = some (pl ++ ns.map fun n => (n, c))
  | [], pl, _, _ => by
    rw [List.map_nil, List.append_nil]
    rfl
  | n :: ns, pl, hd, h => by
    unfold addN
    rw [if_neg (by rw [h n List.mem_cons_self]; simp)]
    obtain ⟨h1, h2⟩ := List.nodup_cons.mp hd
    rw [addN_app h2 (by
      intro m hm
      have hne : n ≠ m := fun e => h1 (e ▸ hm)
      have := h m (List.mem_cons_of_mem _ hm)
      unfold look at this ⊢
      rw [Option.map_eq_none_iff] at this ⊢
      rw [List.find?_append, this]
      simp [hne]), List.append_assoc]
    rfl
theorem look_app {a b : List (List Nat × Int)} {n : List Nat} : look (a ++ b) n = (look a n).or (look b n) := by
  unfold look
  rw [List.find?_append]
  cases List.find? (fun q => decide (q.1 = n)) a <;> rfl
theorem look_not {pl : List (List Nat × Int)} {n : List Nat} (h : ∀ q ∈ pl, q.1 ≠ n) : look pl n = none := by
  unfold look
  rw [Option.map_eq_none_iff, List.find?_eq_none]
  intro q hq
  simpa using h q hq
end K11

set_option Elab.async false
set_option linter.all false
set_option maxRecDepth 100000
set_option maxHeartbeats 4000000
namespace K11
open PySem PySem.Spec PyProof.Rows L2 Y TL
theorem ins_an : ∀ w ∈ INS, An w ∧ w.length ≤ 5 := by
  have h : ∀ w ∈ INS, (!decide (w = []) && w.all alnB && decide (w.length ≤ 5)) = true := by decide +kernel
  intro w hw
  have := h w hw
  simp only [Bool.and_eq_true, decide_eq_true_eq, Bool.not_eq_true', decide_eq_false_iff_not] at this
  exact ⟨⟨this.1.1, fun c hc => List.all_eq_true.mp this.1.2 c hc⟩, this.2⟩
theorem num_an (n : Nat) : An (numL n) := ⟨numL_ne n, fun c hc => by
  have := numL_digits n c hc
  unfold alnB digB
  simp
  omega⟩
def pn (p : Nat) : List Nat := 112 :: numL p
theorem pn_an (p : Nat) : An (pn p) := ⟨by simp [pn], fun c hc => by
  rcases List.mem_cons.mp hc with h | h
  · rw [h]; decide
  · exact (num_an p).2 c h⟩
theorem pn_lab {p : Nat} (h : p < 1000) : labB (pn p) = true := by
  have h1 := numL_len (n := p) (k := 3) (by omega) (by omega)
  have h2 : (pn p).all alnB = true := List.all_eq_true.mpr (pn_an p).2
  unfold labB
  rw [h2]
  have : (pn p).length ≤ 20 := by unfold pn; rw [List.length_cons]; omega
  simp [this]
  constructor
  · simp [pn]
  · simp [pn]; decide
theorem pn_inj {p q : Nat} (h : pn p = pn q) : p = q := numL_inj (List.cons.inj h).2
theorem dig_all (n : Nat) : (numL n).all digB = true := List.all_eq_true.mpr fun c hc => by
  have := numL_digits n c hc
  unfold digB
  simp
  omega
def arL (many : Nat) (r : List Nat × Int) : List (List Nat) := if r.1 ∈ JMP then [if r.2 < (many : Int) then pn r.2.toNat else nmI r.2] else if r.1 ∈ PLN then [] else [nmI r.2]
def bdL (gs : List Int) (many p : Nat) (r : List Nat × Int) : List Nat := nameL gs p ++ r.1 ++ restL many r
def nsG (gs : List Int) (p : Nat) : List (List Nat) := if (p : Int) ∈ gs then [pn p] else []
theorem bd_parse {gs : List Int} {many p : Nat} {r : List Nat × Int} (hr : r.1 ∈ INS) (hp : p < 1000) : lpL (bdL gs many p r) = some (nsG gs p, r.1 :: arL many r) := by
  have e : bdL gs many p r = [] ++ nmsL (nsG gs p) ++ r.1 ++ restL many r := by
    unfold bdL nameL nsG
    by_cases z : (p : Int) ∈ gs
    · rw [if_pos z, if_pos z]
      simp [nmsL, pn]
    · rw [if_neg z, if_neg z]
      rfl
  rw [e]
  refine line_parse (.inl rfl) ?_ (ins_an _ hr).1 ?_
  · intro n hn
    unfold nsG at hn
    split at hn
    · rw [List.mem_singleton.mp hn]
      exact ⟨pn_an p, pn_lab hp⟩
    · cases hn
  · unfold arL restL
    by_cases z : r.1 ∈ JMP
    · rw [if_pos z, if_pos z]
      by_cases z2 : r.2 < (many : Int)
      · rw [if_pos z2, if_pos z2]
        exact .inr (.inr ⟨_, pn_an _, rfl, .inl rfl⟩)
      · rw [if_neg z2, if_neg z2]
        exact .inr (.inr ⟨_, num_an _, rfl, .inl rfl⟩)
    · rw [if_neg z, if_neg z]
      by_cases z2 : r.1 ∈ PLN
      · rw [if_pos z2, if_pos z2]
        exact .inl ⟨rfl, rfl⟩
      · rw [if_neg z2, if_neg z2]
        exact .inr (.inr ⟨_, num_an _, rfl, .inl rfl⟩)
def bdsL (gs : List Int) (many : Nat) : Nat → List (List Nat × Int) → List (List Nat)
  | _, [] => []
  | p, r :: t => bdL gs many p r :: bdsL gs many (p + 1) t
theorem lns_bds {gs : List Int} {many : Nat} : ∀ {p : Nat} {rows : List (List Nat × Int)}, lnsL gs many p rows = (bdsL gs many p rows).map (· ++ [10])
  | _, [] => rfl
  | p, r :: t => by
    show lnL gs many p r :: lnsL gs many (p + 1) t = _
    rw [lns_bds]
    rfl
theorem bds_len {gs : List Int} {many : Nat} : ∀ {p : Nat} {rows : List (List Nat × Int)}, (bdsL gs many p rows).length = rows.length
  | _, [] => rfl
  | p, r :: t => congrArg (· + 1) (bds_len (p := p + 1) (rows := t))
theorem bds_get {gs : List Int} {many : Nat} : ∀ {p : Nat} {rows : List (List Nat × Int)} {i : Nat} (h : i < rows.length), (bdsL gs many p rows)[i]? = some (bdL gs many (p + i) rows[i])
  | p, r :: t, 0, _ => rfl
  | p, r :: t, i + 1, h => by
    have := bds_get (gs := gs) (many := many) (p := p + 1) (rows := t) (i := i) (by simpa using h)
    show (bdsL gs many (p + 1) t)[i]? = _
    rw [this]
    simp [Nat.add_assoc, Nat.add_comm 1 i]
theorem splT : ∀ {l : List (List Nat)} {rest : List Nat}, (∀ p ∈ l, 10 ∉ p) → spl [10] 0 [] ((l.map (· ++ [10])).flatten ++ rest) = l ++ spl [10] 0 [] rest
  | [], rest, _ => rfl
  | p :: l, rest, h => by
    have e : (((p :: l).map (· ++ [10])).flatten ++ rest) = p ++ ([10] ++ ((l.map (· ++ [10])).flatten ++ rest)) := by simp
    rw [e]
    have := spl_part1 (s := 10) (S := []) (p := p) (rest := (l.map (· ++ [10])).flatten ++ rest) (acc := []) (h p List.mem_cons_self)
    rw [this, splT fun q hq => h q (List.mem_cons_of_mem _ hq)]
    rfl
theorem an_ten {w : List Nat} (h : An w) : 10 ∉ w := h.free (.inr (.inr rfl))
theorem bd_free {gs : List Int} {many p : Nat} {r : List Nat × Int} (hr : r.1 ∈ INS) : 10 ∉ bdL gs many p r := by
  unfold bdL nameL restL
  have h1 := an_ten (ins_an _ hr).1
  have h2 := an_ten (num_an p)
  have h3 : 10 ∉ nmI r.2 := an_ten (num_an _)
  rw [List.mem_append, List.mem_append]
  rintro ((h | h) | h)
  · split at h
    · simp [h2] at h
    · cases h
  · exact h1 h
  · split at h
    · split at h
      · simp [h3] at h
      · simp [h3] at h
    · split at h
      · cases h
      · simp [h3] at h
theorem bds_mem {gs : List Int} {many : Nat} {P : List Nat → Prop} : ∀ {p : Nat} {rows : List (List Nat × Int)}, (∀ q, ∀ r ∈ rows, q < p + rows.length → P (bdL gs many q r)) → ∀ x ∈ bdsL gs many p rows, P x
  | _, [], _, x, hx => nomatch hx
  | p, r :: t, h, x, hx => by
    rcases List.mem_cons.mp hx with e | e
    · rw [e]
      exact h p r List.mem_cons_self (by rw [List.length_cons]; omega)
    · exact bds_mem (fun q r hr hq => h q r (List.mem_cons_of_mem _ hr) (by rw [List.length_cons]; omega)) x e
/-- what is drawn -/
def RowG (d k : Nat) (r : List Nat × Int) : Prop := r.1 ∈ INS ∧ (r.1 ∈ PLN → r.2 = 0) ∧ fits d k r = true ∧ RowOk r
theorem spl_list {rows : List (List Nat × Int)} (h : ∀ r ∈ rows, r.1 ∈ INS) : spl [10] 0 [] (lstT rows) = bdsL (gsL rows) rows.length 0 rows ++ [[]] := by
  unfold lstT
  rw [lns_bds]
  have := splT (l := bdsL (gsL rows) rows.length 0 rows) (rest := []) (bds_mem fun q r hr _ => bd_free (h r hr))
  rw [List.append_nil] at this
  rw [this]
  rfl
def PG (gs : List Int) : Nat → List (List Nat × Int)
  | 0 => []
  | p + 1 => PG gs p ++ (nsG gs p).map fun n => (n, (p : Int))
theorem PG_look {gs : List Int} {i : Nat} : ∀ {p : Nat}, look (PG gs p) (pn i) = if i < p ∧ (i : Int) ∈ gs then some (i : Int) else none
  | 0 => by rw [if_neg (by omega)]; rfl
  | p + 1 => by
    show look (PG gs p ++ _) _ = _
    rw [look_app, PG_look]
    by_cases z : (i : Int) ∈ gs
    · by_cases z2 : i < p
      · rw [if_pos ⟨z2, z⟩, if_pos ⟨by omega, z⟩]; rfl
      · rw [if_neg (fun h => z2 h.1)]
        by_cases z3 : i = p
        · rw [if_pos ⟨by omega, z⟩, z3]
          unfold nsG
          rw [← z3, if_pos z]
          simp [look]
        · rw [if_neg (fun h => by omega)]
          show look _ _ = none
          refine look_not fun q hq => ?_
          obtain ⟨n, hn, rfl⟩ := List.mem_map.mp hq
          unfold nsG at hn
          split at hn
          · rw [List.mem_singleton.mp hn]
            exact fun e => z3 (pn_inj e).symm
          · cases hn
    · rw [if_neg (fun h => z h.2), if_neg (fun h => z h.2)]
      show look _ _ = none
      refine look_not fun q hq => ?_
      obtain ⟨n, hn, rfl⟩ := List.mem_map.mp hq
      unfold nsG at hn
      split at hn
      · rename_i h
        rw [List.mem_singleton.mp hn]
        exact fun e => z (by rw [← pn_inj e]; exact h)
      · cases hn
theorem PG_digit {gs : List Int} {n : Nat} : ∀ {p : Nat}, look (PG gs p) (numL n) = none
  | 0 => rfl
  | p + 1 => by
    show look (PG gs p ++ _) _ = _
    rw [look_app, PG_digit]
    show look _ _ = none
    refine look_not fun q hq => ?_
    obtain ⟨m, hn, rfl⟩ := List.mem_map.mp hq
    unfold nsG at hn
    split at hn
    · rw [List.mem_singleton.mp hn]
      intro e
      have := numL_digits n 112 (by rw [← e]; exact List.mem_cons_self)
      omega
    · cases hn
theorem PG_add {gs : List Int} {p : Nat} : addN (nsG gs p) (PG gs p) (p : Int) = some (PG gs (p + 1)) := by
  refine addN_app ?_ ?_
  · unfold nsG
    split <;> simp
  · intro n hn
    unfold nsG at hn
    split at hn
    · rw [List.mem_singleton.mp hn, PG_look, if_neg (by omega)]
    · cases hn
theorem asm_bds {gs : List Int} {many : Nat} : ∀ {t : List (List Nat × Int)} {p : Nat} {wss : List (List (List Nat))}, (∀ r ∈ t, r.1 ∈ INS) → p + t.length ≤ 1000 → wss.length = p → asmL (bdsL gs many p t) (PG gs p) wss = some (PG gs (p + t.length), wss ++ t.map fun r => r.1 :: arL many r)
  | [], p, wss, _, _, _ => by
    rw [List.map_nil, List.append_nil]
    rfl
  | r :: t, p, wss, h, hp, hw => by
    show asmL (bdL gs many p r :: bdsL gs many (p + 1) t) _ _ = _
    rw [List.length_cons] at hp ⊢
    rw [asmL_cons, bd_parse (h r List.mem_cons_self) (by omega)]
    dsimp only
    rw [hw, PG_add]
    dsimp only
    rw [if_neg (by simp), asm_bds (fun q hq => h q (List.mem_cons_of_mem _ hq)) (by omega) (by rw [List.length_append, List.length_singleton, hw]), List.append_assoc]
    have e : p + 1 + t.length = p + (t.length + 1) := by omega
    rw [e]
    rfl
theorem pln_jmp : ∀ w ∈ PLN, w ∉ JMP := by decide +kernel
theorem num_ok {n : Int} (h1 : 0 ≤ n) (h2 : n < 1000) : ¬ (3 < (nmI n).length ∨ (nmI n).all digB = false) ∧ ((NumText.digitsVal (nmI n) : Nat) : Int) = n := by
  refine ⟨?_, ?_⟩
  · have a := nmI_len h2
    have b : (nmI n).all digB = true := dig_all _
    rw [b]
    simp
    omega
  · unfold nmI
    rw [numL_val]
    exact Int.toNat_of_nonneg h1
theorem io_cons {w : List Nat} {r : List (List Nat)} {pl : List (List Nat × Int)} : io (w :: r) pl = if w ∉ INS ∨ r.length ≠ (if w ∈ PLN then 0 else 1) then none
    else if w ∈ PLN then some (w, 0)
    else match r with
      | [] => none
      | a :: _ => match (if w ∈ JMP then look pl a else none) with
        | some n => some (w, n)
        | none => if 3 < a.length ∨ a.all digB = false then none else some (w, (NumText.digitsVal a : Nat)) := rfl
/-- an instruction with a number -/
theorem io_num {w : List Nat} {n : Int} {pl : List (List Nat × Int)} (hw : w ∈ INS) (hp : w ∉ PLN) (h1 : 0 ≤ n) (h2 : n < 1000) (hl : w ∈ JMP → look pl (nmI n) = none) : io [w, nmI n] pl = some (w, n) := by
  obtain ⟨a, b⟩ := num_ok h1 h2
  have e : (if w ∈ JMP then look pl (nmI n) else none) = none := by
    by_cases z : w ∈ JMP
    · rw [if_pos z, hl z]
    · rw [if_neg z]
  rw [io_cons, if_neg (by simp [hw, hp]), if_neg hp]
  dsimp only
  rw [e]
  dsimp only
  rw [if_neg a, b]
theorem io_name {w a : List Nat} {n : Int} {pl : List (List Nat × Int)} (hw : w ∈ INS) (hp : w ∉ PLN) (hj : w ∈ JMP) (hl : look pl a = some n) : io [w, a] pl = some (w, n) := by
  rw [io_cons, if_neg (by simp [hw, hp]), if_neg hp]
  dsimp only
  rw [if_pos hj, hl]
theorem io_plain {w : List Nat} {pl : List (List Nat × Int)} (hw : w ∈ INS) (hp : w ∈ PLN) : io [w] pl = some (w, 0) := by
  rw [io_cons, if_neg (by simp [hw, hp]), if_pos hp]
theorem io_list {rows : List (List Nat × Int)} {d k : Nat} {r : List Nat × Int} (h : RowG d k r) (hm : r ∈ rows) : io (r.1 :: arL rows.length r) (PG (gsL rows) rows.length) = some r := by
  obtain ⟨w, n⟩ := r
  obtain ⟨h1, h2, h3, h4, h5, h6⟩ := h
  have h1 : w ∈ INS := h1
  have h2 : w ∈ PLN → n = 0 := h2
  have h5 : 0 ≤ n := h5
  have h6 : n < 1000 := h6
  unfold arL
  by_cases z : w ∈ JMP
  · have np : w ∉ PLN := fun h => pln_jmp w h z
    rw [if_pos z]
    by_cases z2 : n < (rows.length : Int)
    · rw [if_pos z2]
      refine io_name h1 np z ?_
      rw [PG_look]
      have e : ((n.toNat : Nat) : Int) = n := Int.toNat_of_nonneg h5
      rw [e]
      refine if_pos ⟨by omega, ?_⟩
      exact List.mem_map.mpr ⟨(w, n), List.mem_filter.mpr ⟨hm, by simpa using z⟩, rfl⟩
    · rw [if_neg z2]
      exact io_num h1 np h5 h6 fun _ => PG_digit
  · rw [if_neg z]
    by_cases z2 : w ∈ PLN
    · rw [if_pos z2, h2 z2]
      exact io_plain h1 z2
    · rw [if_neg z2]
      exact io_num h1 z2 h5 h6 fun h => absurd h z
theorem ios_map {f : List Nat × Int → List (List Nat)} {pl : List (List Nat × Int)} : ∀ {l : List (List Nat × Int)}, (∀ r ∈ l, io (f r) pl = some r) → ios pl (l.map f) = some l
  | [], _ => rfl
  | r :: l, h => by
    rw [List.map_cons, ios_cons, h r List.mem_cons_self]
    dsimp only
    rw [ios_map fun q hq => h q (List.mem_cons_of_mem _ hq)]
    rfl
theorem lp_nil : lpL [] = some ([], []) := rfl
/-- a listing's lines give the code -/
theorem asm_list {rows : List (List Nat × Int)} {d k : Nat} (h : ∀ r ∈ rows, RowG d k r) (hr : rows.length ≤ 900) (hk : rows.length ≤ 2 ^ k) : asm d k (spl [10] 0 [] (lstT rows)) = some rows := by
  rw [spl_list fun r hr => (h r hr).1]
  unfold asm
  rw [asmL_app, show ([] : List (List Nat × Int)) = PG (gsL rows) 0 from rfl, asm_bds (p := 0) (wss := []) (fun r hr => (h r hr).1) (by omega) rfl]
  rw [Option.bind_some, asmL_one lp_nil rfl]
  dsimp only
  rw [if_pos rfl, List.nil_append, Nat.zero_add, ios_map fun r hr => io_list (h r hr) hr]
  dsimp only
  rw [if_neg (by omega), if_pos (List.all_eq_true.mpr fun r hr => (h r hr).2.2.1)]
end K11

set_option Elab.async false
set_option linter.all false
set_option maxRecDepth 100000
set_option maxHeartbeats 4000000
namespace K11
open PySem PySem.Spec PyProof.Rows L2 Y TL
/-! ### the names of the drawn lines -/
def xj (j : Nat) : List Nat := [120, 48 + j]
theorem xj_inj {i j : Nat} (h : xj i = xj j) : i = j := by
  have := (List.cons.inj (List.cons.inj h).2).1
  omega
theorem xj_an {j : Nat} (h : j < 3) : An (xj j) ∧ labB (xj j) = true := by
  have : j = 0 ∨ j = 1 ∨ j = 2 := by omega
  rcases this with rfl | rfl | rfl
  · exact ⟨⟨by decide, by decide⟩, by decide⟩
  · exact ⟨⟨by decide, by decide⟩, by decide⟩
  · exact ⟨⟨by decide, by decide⟩, by decide⟩
def nsP (p : Nat → Int) (k : Int) : List (List Nat) := (([0, 1, 2] : List Nat).filter fun j => decide (p j = k)).map xj
theorem nsP_mem {p : Nat → Int} {k : Int} {n : List Nat} (h : n ∈ nsP p k) : ∃ j, j < 3 ∧ p j = k ∧ n = xj j := by
  obtain ⟨j, hj, rfl⟩ := List.mem_map.mp h
  obtain ⟨h1, h2⟩ := List.mem_filter.mp hj
  refine ⟨j, ?_, of_decide_eq_true h2, rfl⟩
  simp at h1
  omega
theorem nsP_in {p : Nat → Int} {j : Nat} (h : j < 3) : xj j ∈ nsP p (p j) := List.mem_map.mpr ⟨j, List.mem_filter.mpr ⟨by simp; omega, decide_eq_true rfl⟩, rfl⟩
theorem nsP_nodup {p : Nat → Int} {k : Int} : (nsP p k).Nodup := by
  unfold nsP
  by_cases a : p 0 = k <;> by_cases b : p 1 = k <;> by_cases c : p 2 = k <;> simp [a, b, c, xj]
theorem nsP_len {p : Nat → Int} {k : Int} : (nsP p k).length ≤ 3 := by
  unfold nsP
  rw [List.length_map]
  exact List.length_filter_le _ _
def PP (p : Nat → Int) : Nat → List (List Nat × Int)
  | 0 => []
  | k + 1 => PP p k ++ (nsP p k).map fun n => (n, (k : Int))
theorem look_map {ns : List (List Nat)} {c : Int} {n : List Nat} : look (ns.map fun n => (n, c)) n = if n ∈ ns then some c else none := by
  by_cases h : n ∈ ns
  · rw [if_pos h]
    induction ns with
    | nil => cases h
    | cons m ns ih =>
      rw [List.map_cons]
      unfold look
      by_cases e : m = n
      · rw [List.find?_cons_of_pos (by simp [e])]
        rfl
      · rw [List.find?_cons_of_neg (by simp [e])]
        rcases List.mem_cons.mp h with h | h
        · exact absurd h.symm e
        · exact ih h
  · rw [if_neg h]
    refine look_not fun q hq => ?_
    obtain ⟨m, hm, rfl⟩ := List.mem_map.mp hq
    exact fun e => h (e ▸ hm)
theorem PP_look {p : Nat → Int} {j : Nat} (hj : j < 3) (h0 : 0 ≤ p j) : ∀ {k : Nat}, look (PP p k) (xj j) = if p j < (k : Int) then some (p j) else none
  | 0 => by
    rw [if_neg (by omega)]
    rfl
  | k + 1 => by
    show look (PP p k ++ _) _ = _
    rw [look_app, PP_look hj h0, look_map]
    by_cases z : p j < (k : Int)
    · have e2 : (if p j < ((k + 1 : Nat) : Int) then some (p j) else none) = some (p j) := if_pos (by omega)
      rw [if_pos z, e2]; rfl
    · rw [if_neg z]
      by_cases z2 : p j = (k : Int)
      · have e2 : (if p j < ((k + 1 : Nat) : Int) then some (p j) else none) = some (p j) := if_pos (by omega)
        rw [e2, if_pos (z2 ▸ nsP_in hj), z2]; rfl
      · rw [if_neg (fun h => by
          obtain ⟨i, _, h1, h2⟩ := nsP_mem h
          rw [← xj_inj h2] at h1
          exact z2 h1), if_neg (by omega)]; rfl
theorem PP_other {p : Nat → Int} {n : List Nat} (h : ∀ j, j < 3 → n ≠ xj j) : ∀ {k : Nat}, look (PP p k) n = none
  | 0 => rfl
  | k + 1 => by
    show look (PP p k ++ _) _ = _
    rw [look_app, PP_other h, look_map, if_neg (fun hm => by
      obtain ⟨j, hj, _, e⟩ := nsP_mem hm
      exact h j hj e)]
    rfl
theorem num_xj {n j : Nat} : numL n ≠ xj j := fun e => by
  have := numL_digits n 120 (by rw [e]; exact List.mem_cons_self)
  omega
theorem PP_add {p : Nat → Int} {k : Nat} (h0 : ∀ j, j < 3 → 0 ≤ p j) : addN (nsP p k) (PP p k) (k : Int) = some (PP p (k + 1)) := by
  refine addN_app nsP_nodup fun n hn => ?_
  obtain ⟨j, hj, e, rfl⟩ := nsP_mem hn
  rw [PP_look hj (h0 j hj), if_neg (by omega)]
/-- the names' places are all told -/
def Gpl (p : Nat → Int) (pl : List (List Nat × Int)) : Prop := (∀ j, j < 3 → look pl (xj j) = some (p j)) ∧ ∀ n, (∀ j, j < 3 → n ≠ xj j) → look pl n = none
def NOTE : List Nat := [47, 47, 32, 110, 111, 116, 101]
structure Ln (p : Nat → Int) (d c : Nat) (k : Nat) (l : List Nat) (r : List Nat × Int) : Prop where
  row : RowG d c r
  ex : ∃ (nt : Bool) (sp t : List Nat) (as : List (List Nat)), l = (if nt = true then NOTE ++ [10] else []) ++ (sp ++ nmsL (nsP p k) ++ r.1 ++ t) ∧ (sp = [] ∨ sp = [32, 32]) ∧
    ((t = [] ∧ as = []) ∨ (t = [32, 47, 47, 32, 120] ∧ as = []) ∨ ∃ a, An a ∧ as = [a] ∧ (t = 32 :: a ∨ t = 32 :: 32 :: a)) ∧ t.length ≤ 12 ∧ ∀ pl, Gpl p pl → io (r.1 :: as) pl = some r
inductive Lns (p : Nat → Int) (d c : Nat) : Nat → List (List Nat) → List (List Nat × Int) → Prop
  | nil : Lns p d c 0 [] []
  | snoc {k ls rows l r} : Lns p d c k ls rows → Ln p d c k l r → Lns p d c (k + 1) (ls ++ [l]) (rows ++ [r])
theorem nmB_app {a b : List (List Nat)} : nmB (a ++ b) = nmB a + nmB b := by
  unfold nmB
  rw [List.map_append, List.sum_append]
theorem nmB_asm : ∀ {parts : List (List Nat)} {pl pl' : List (List Nat × Int)} {rows rows' : List (List (List Nat))}, asmL parts pl rows = some (pl', rows') → nmB parts + pl.length = pl'.length
  | [], pl, pl', rows, rows', e => by
    cases e
    show 0 + _ = _
    omega
  | q :: parts, pl, pl', rows, rows', e => by
    rw [asmL_cons] at e
    have eb : nmB (q :: parts) = (match lpL q with
      | some (ns, _) => ns.length
      | none => 0) + nmB parts := by
      unfold nmB
      rw [List.map_cons, List.sum_cons]
      all_goals rfl
    rw [eb]
    cases h1 : lpL q with
    | none => rw [h1] at e; cases e
    | some x =>
      obtain ⟨ns, ws⟩ := x
      rw [h1] at e
      dsimp only at e ⊢
      cases h2 : addN ns pl (rows.length : Int) with
      | none => rw [h2] at e; cases e
      | some pl2 =>
        rw [h2] at e
        have i := nmB_asm e
        have j := addN_len h2
        omega
theorem sgn_app {a b : List Nat} (h1 : Sgn a) (h2 : Sgn b) : Sgn (a ++ b) := fun c hc => (List.mem_append.mp hc).elim (h1 c) (h2 c)
theorem nms_sgn {ns : List (List Nat)} (h : ∀ n ∈ ns, An n) : Sgn (nmsL ns) := fun c hc => by
  obtain ⟨x, hx, hm⟩ := List.mem_flatten.mp hc
  obtain ⟨n, hn, rfl⟩ := List.mem_map.mp hx
  rcases List.mem_append.mp hm with hm | hm
  · exact (h n hn).sgn c hm
  · simp at hm
    omega
theorem nsP_nms {p : Nat → Int} {k : Int} : (nmsL (nsP p k)).length ≤ 12 := by
  unfold nsP nmsL
  by_cases a : p 0 = k <;> by_cases b : p 1 = k <;> by_cases c : p 2 = k <;> simp [a, b, c, xj]
theorem nsP_an {p : Nat → Int} {k : Int} : ∀ n ∈ nsP p k, An n ∧ labB n = true := fun n hn => by
  obtain ⟨j, hj, _, rfl⟩ := nsP_mem hn
  exact xj_an hj
/-- what the parts of a text are good for -/
structure Pk (p : Nat → Int) (d c k : Nat) (t : List Nat) (parts : List (List Nat)) (wss : List (List (List Nat))) (rows : List (List Nat × Int)) : Prop where
  spl_ : ∀ rest, spl [10] 0 [] (t ++ rest) = parts ++ spl [10] 0 [] rest
  asm_ : asmL parts [] [] = some (PP p k, wss)
  ios_ : ∀ pl, Gpl p pl → ios pl wss = some rows
  row : ∀ r ∈ rows, RowG d c r
  sz : (∀ q ∈ parts, Sgn q ∧ q.length ≤ 1000) ∧ Sgn t
theorem ln_parts {p : Nat → Int} {d c k : Nat} {l : List Nat} {r : List Nat × Int} (h : Ln p d c k l r) : ∃ (pr : List (List Nat)) (b : List Nat) (as : List (List Nat)), (pr = [] ∨ pr = [NOTE]) ∧ (∀ rest, spl [10] 0 [] (l ++ 10 :: rest) = pr ++ b :: spl [10] 0 [] rest) ∧ lpL b = some (nsP p k, r.1 :: as) ∧ (∀ pl, Gpl p pl → io (r.1 :: as) pl = some r) ∧ Sgn b ∧ b.length ≤ 60 ∧ l.length ≤ 60 ∧ Sgn l := by
  obtain ⟨row, nt, sp, t, as, rfl, hsp, ht, tl, hio⟩ := h
  obtain ⟨an, wl⟩ := ins_an _ row.1
  have lb := line_parse hsp (nsP_an (p := p) (k := k)) an ht
  have ts : Sgn t ∧ 10 ∉ t := by
    rcases ht with ⟨rfl, _⟩ | ⟨rfl, _⟩ | ⟨a, ha, _, rfl | rfl⟩
    · exact ⟨fun c hc => (nomatch hc), by simp⟩
    · exact ⟨sgn_of (by decide), by decide⟩
    · refine ⟨fun c hc => ?_, ?_⟩
      · rcases List.mem_cons.mp hc with h | h
        · omega
        · exact ha.sgn c h
      · simp [an_ten ha]
    · refine ⟨fun c hc => ?_, ?_⟩
      · rcases List.mem_cons.mp hc with h | h
        · omega
        · rcases List.mem_cons.mp h with h | h
          · omega
          · exact ha.sgn c h
      · simp [an_ten ha]
  have ss : Sgn sp ∧ 10 ∉ sp ∧ sp.length ≤ 2 := by
    rcases hsp with rfl | rfl
    · exact ⟨fun c hc => (nomatch hc), by simp, by simp⟩
    · exact ⟨sgn_of (by decide), by decide, by simp⟩
  have bs : Sgn (sp ++ nmsL (nsP p k) ++ r.1 ++ t) := sgn_app (sgn_app (sgn_app ss.1 (nms_sgn fun n hn => (nsP_an n hn).1)) an.sgn) ts.1
  have bf : 10 ∉ sp ++ nmsL (nsP p k) ++ r.1 ++ t := by
    rw [List.mem_append, List.mem_append, List.mem_append]
    rintro (((h | h) | h) | h)
    · exact ss.2.1 h
    · exact nms_free (fun n hn => (nsP_an n hn).1) (.inr rfl) h
    · exact an_ten an h
    · exact ts.2 h
  have bl : (sp ++ nmsL (nsP p k) ++ r.1 ++ t).length ≤ 40 := by
    have := nsP_nms (p := p) (k := k)
    rw [List.length_append, List.length_append, List.length_append]
    omega
  have one : ∀ (b rest : List Nat), 10 ∉ b → spl [10] 0 [] (b ++ 10 :: rest) = b :: spl [10] 0 [] rest := fun b rest h => by
    have := spl_part1 (s := 10) (S := []) (p := b) (rest := rest) (acc := []) h
    exact this
  refine ⟨if nt = true then [NOTE] else [], sp ++ nmsL (nsP p k) ++ r.1 ++ t, as, ?_, fun rest => ?_, lb, hio, bs, by omega, ?_, ?_⟩
  · split <;> simp
  · cases nt with
    | false =>
      rw [if_neg Bool.false_ne_true, if_neg Bool.false_ne_true, List.nil_append]
      exact one _ _ bf
    | true =>
      rw [if_pos rfl, if_pos rfl]
      have e : NOTE ++ [10] ++ (sp ++ nmsL (nsP p k) ++ r.1 ++ t) ++ 10 :: rest = NOTE ++ 10 :: ((sp ++ nmsL (nsP p k) ++ r.1 ++ t) ++ 10 :: rest) := by simp
      rw [e, one _ _ (by decide), one _ _ bf]
      rfl
  · rw [List.length_append]
    have : (if nt = true then NOTE ++ [10] else []).length ≤ 8 := by split <;> simp [NOTE]
    omega
  · refine sgn_app ?_ bs
    split
    · exact sgn_of (by decide)
    · exact fun c hc => nomatch hc
theorem note_parse : lpL NOTE = some ([], []) := by decide +kernel
theorem lns_pk {p : Nat → Int} {d c : Nat} (h0 : ∀ j, j < 3 → 0 ≤ p j) : ∀ {k : Nat} {ls : List (List Nat)} {rows : List (List Nat × Int)}, Lns p d c k ls rows → ∃ parts wss, Pk p d c k ((ls.map (· ++ [10])).flatten) parts wss rows ∧ wss.length = k ∧ rows.length = k ∧ ls.length = k ∧ parts.length ≤ 2 * k ∧ ((ls.map (· ++ [10])).flatten).length ≤ 61 * k := by
  intro k ls rows h
  induction h with
  | nil => exact ⟨[], [], ⟨fun rest => rfl, rfl, fun pl _ => rfl, fun r hr => (nomatch hr), fun q hq => (nomatch hq), fun c hc => (nomatch hc)⟩, rfl, rfl, rfl, Nat.le_refl _, Nat.le_refl _⟩
  | @snoc k ls rows l r a b ih =>
    obtain ⟨parts, wss, pk, e1, e2, e3, e4, e5⟩ := ih
    obtain ⟨pr, bd, as, hpr, hspl, hlp, hio, s1, s2, s3, s4⟩ := ln_parts b
    have et : ((ls ++ [l]).map (· ++ [10])).flatten = (ls.map (· ++ [10])).flatten ++ (l ++ [10]) := by simp
    have apr : asmL pr (PP p k) wss = some (PP p k, wss) := by
      rcases hpr with rfl | rfl
      · rfl
      · exact (asmL_one note_parse rfl).trans (by rw [if_pos rfl])
    refine ⟨parts ++ (pr ++ [bd]), wss ++ [r.1 :: as], ⟨fun rest => ?_, ?_, fun pl g => ?_, fun q hq => ?_, fun q hq => ?_, ?_⟩, ?_, ?_, ?_, ?_, ?_⟩
    · rw [et, List.append_assoc, List.append_assoc, pk.spl_]
      show parts ++ spl [10] 0 [] (l ++ (10 :: rest)) = _
      rw [hspl]
      simp
    · rw [asmL_app, pk.asm_, Option.bind_some, asmL_app, apr, Option.bind_some]
      have := asmL_one (pl := PP p k) (rows := wss) hlp (by rw [e1]; exact PP_add h0)
      rw [this, if_neg (by simp)]
    · rw [ios_app, pk.ios_ pl g, Option.bind_some, ios_cons, hio pl g]
      rfl
    · rcases List.mem_append.mp hq with hq | hq
      · exact pk.row q hq
      · rw [List.mem_singleton.mp hq]
        exact b.row
    · rcases List.mem_append.mp hq with hq | hq
      · exact pk.sz.1 q hq
      · rcases List.mem_append.mp hq with hq | hq
        · rcases hpr with rfl | rfl
          · cases hq
          · rw [List.mem_singleton.mp hq]
            exact ⟨sgn_of (by decide), by decide⟩
        · rw [List.mem_singleton.mp hq]
          exact ⟨s1, by omega⟩
    · rw [et]
      exact sgn_app pk.sz.2 (sgn_app s4 (sgn_of (by decide)))
    · rw [List.length_append, e1]; rfl
    · rw [List.length_append, e2]; rfl
    · rw [List.length_append, e3]; rfl
    · rw [List.length_append, List.length_append]
      have : pr.length ≤ 1 := by rcases hpr with rfl | rfl <;> simp
      rw [List.length_singleton]
      omega
    · rw [et, List.length_append, List.length_append, List.length_singleton]
      omega
end K11

set_option Elab.async false
set_option linter.all false
set_option maxRecDepth 100000
set_option maxHeartbeats 4000000
namespace K11
open PySem PySem.Spec PyProof.Rows L2 Y TL
theorem lp_name {n : List Nat} (h : An n) (hl : labB n = true) : lpL (n ++ [58]) = some ([n], []) := by
  unfold lpL
  rw [bef_free (by
    rw [List.mem_append]
    rintro (h' | h')
    · exact h.free (.inl rfl) h'
    · simp at h'), ws_wf, wf_end (by simp) (lab_sp h)]
  have := lp_names (ns := [n]) (r := []) (fun m hm => by rw [List.mem_singleton.mp hm]; exact hl)
  exact this
theorem asm_names : ∀ {ns : List (List Nat)} {pl : List (List Nat × Int)} {rows : List (List (List Nat))}, (∀ n ∈ ns, An n ∧ labB n = true) → asmL (ns.map (· ++ [58])) pl rows = (addN ns pl (rows.length : Int)).map fun q => (q, rows)
  | [], pl, rows, _ => rfl
  | n :: ns, pl, rows, h => by
    obtain ⟨h1, h2⟩ := h n List.mem_cons_self
    rw [List.map_cons, asmL_cons, lp_name h1 h2]
    dsimp only
    have e : ∀ z, addN (n :: ns) pl z = if (look pl n).isSome = true then none else addN ns (pl ++ [(n, z)]) z := fun z => rfl
    have e1 : ∀ z, addN [n] pl z = if (look pl n).isSome = true then none else some (pl ++ [(n, z)]) := fun z => rfl
    rw [e, e1]
    by_cases q : (look pl n).isSome = true
    · rw [if_pos q, if_pos q]; rfl
    · rw [if_neg q, if_neg q]
      dsimp only
      rw [if_pos rfl]
      exact asm_names fun m hm => h m (List.mem_cons_of_mem _ hm)
/-- the text's end -/
def endT (p : Nat → Int) (k : Int) : List Nat := ((nsP p k).map (· ++ [58, 10])).flatten
theorem spl_names : ∀ {ns : List (List Nat)} {rest : List Nat}, (∀ n ∈ ns, An n) → spl [10] 0 [] ((ns.map (· ++ [58, 10])).flatten ++ rest) = ns.map (· ++ [58]) ++ spl [10] 0 [] rest
  | [], rest, _ => rfl
  | n :: ns, rest, h => by
    have e : ((n :: ns).map (· ++ [58, 10])).flatten ++ rest = (n ++ [58]) ++ ([10] ++ ((ns.map (· ++ [58, 10])).flatten ++ rest)) := by simp
    have hf : 10 ∉ n ++ [58] := by
      rw [List.mem_append]
      rintro (h' | h')
      · exact an_ten (h n List.mem_cons_self) h'
      · simp at h'
    rw [e, spl_part1 (s := 10) (S := []) hf, spl_names fun m hm => h m (List.mem_cons_of_mem _ hm)]
    rfl
theorem PP_gpl {p : Nat → Int} {k : Nat} (h : ∀ j, j < 3 → 0 ≤ p j ∧ p j ≤ (k : Int)) : Gpl p (PP p (k + 1)) := by
  refine ⟨fun j hj => ?_, fun n hn => PP_other hn⟩
  obtain ⟨h1, h2⟩ := h j hj
  rw [PP_look hj h1, if_pos (by omega)]
structure Tx (p : Nat → Int) (d c k : Nat) (t : List Nat) (parts : List (List Nat)) (wss : List (List (List Nat))) (rows : List (List Nat × Int)) : Prop where
  spl_ : ∀ rest, spl [10] 0 [] (t ++ rest) = parts ++ spl [10] 0 [] rest
  asm_ : asmL parts [] [] = some (PP p (k + 1), wss)
  gpl : Gpl p (PP p (k + 1))
  ios_ : ios (PP p (k + 1)) wss = some rows
  row : ∀ r ∈ rows, RowG d c r
  sz : (∀ q ∈ parts, Sgn q ∧ q.length ≤ 1000) ∧ Sgn t
  ln : wss.length = k ∧ rows.length = k
  len : parts.length ≤ 2 * k + 3 ∧ t.length ≤ 61 * k + 12
theorem tx_of {p : Nat → Int} {d c k : Nat} {ls : List (List Nat)} {rows : List (List Nat × Int)} (hp : ∀ j, j < 3 → 0 ≤ p j ∧ p j ≤ (k : Int)) (h : Lns p d c k ls rows) : ∃ parts wss, Tx p d c k ((ls.map (· ++ [10])).flatten ++ endT p k) parts wss rows := by
  obtain ⟨parts, wss, pk, e1, e2, e3, e4, e5⟩ := lns_pk (fun j hj => (hp j hj).1) h
  have g := PP_gpl hp
  have el : (endT p (k : Int)).length ≤ 12 := by
    unfold endT nsP
    by_cases a : p 0 = (k : Int) <;> by_cases b : p 1 = (k : Int) <;> by_cases c : p 2 = (k : Int) <;> simp [a, b, c, xj]
  refine ⟨parts ++ (nsP p k).map (· ++ [58]), wss, fun rest => ?_, ?_, g, pk.ios_ _ g, pk.row, ⟨fun q hq => ?_, ?_⟩, ⟨e1, e2⟩, ?_, ?_⟩
  · rw [List.append_assoc, pk.spl_, List.append_assoc]
    unfold endT
    rw [spl_names fun n hn => (nsP_an n hn).1]
  · rw [asmL_app, pk.asm_, Option.bind_some, asm_names nsP_an, e1, PP_add fun j hj => (hp j hj).1]
    rfl
  · rcases List.mem_append.mp hq with hq | hq
    · exact pk.sz.1 q hq
    · obtain ⟨n, hn, rfl⟩ := List.mem_map.mp hq
      obtain ⟨j, hj, _, rfl⟩ := nsP_mem hn
      exact ⟨sgn_app (xj_an hj).1.sgn (sgn_of (by decide)), by simp [xj]⟩
  · refine sgn_app pk.sz.2 fun c hc => ?_
    obtain ⟨x, hx, hm⟩ := List.mem_flatten.mp hc
    obtain ⟨n, hn, rfl⟩ := List.mem_map.mp hx
    rcases List.mem_append.mp hm with hm | hm
    · exact (nsP_an n hn).1.sgn c hm
    · simp at hm
      omega
  · rw [List.length_append, List.length_map]
    have := nsP_len (p := p) (k := (k : Int))
    omega
  · rw [List.length_append]
    omega
/-- lines joined -/
theorem joinL_end : ∀ {ls : List (List Nat)}, ls ≠ [] → TL.joinL [10] ls ++ [10] = (ls.map (· ++ [10])).flatten
  | [], h => absurd rfl h
  | [a], _ => by simp [TL.joinL]
  | a :: b :: r, _ => by
    have e : TL.joinL [10] (a :: b :: r) = a ++ ([10] ++ TL.joinL [10] (b :: r)) := rfl
    rw [e, List.append_assoc, List.append_assoc, joinL_end (ls := b :: r) (by simp)]
    simp
section
variable {p : Nat → Int} {d c k : Nat} {t : List Nat} {parts : List (List Nat)} {wss : List (List (List Nat))} {rows : List (List Nat × Int)}
/-- the text gives the code -/
theorem tx_good (h : Tx p d c k t parts wss rows) (hk : k ≤ 2 ^ c) : asm d c (parts ++ [[]]) = some rows := by
  unfold asm
  rw [asmL_app, h.asm_, Option.bind_some, asmL_one lp_nil rfl]
  dsimp only
  rw [if_pos rfl, h.ios_]
  dsimp only
  rw [h.ln.2, if_neg (by omega), if_pos (List.all_eq_true.mpr fun r hr => (h.row r hr).2.2.1)]
/-- a wrong line -/
def badB (d c : Nat) (b : List Nat) : Bool := match lpL b with
  | none => true
  | some (ns, ws) => if ns = [] then !decide (ws = []) && ((match ws with
      | _ :: a :: _ => !decide (a ∈ [xj 0, xj 1, xj 2]) || !decide (ws.headD [] ∈ JMP)
      | _ => true) && (match io ws [] with
      | none => true
      | some r => !fits d c r)) else decide (ns = [xj 0])
theorem io_same {ws : List (List Nat)} {pl : List (List Nat × Int)} (h : ∀ w a r, ws = w :: a :: r → w ∈ JMP → look pl a = none) : io ws pl = io ws [] := by
  cases ws with
  | nil => rfl
  | cons w r =>
    rw [io_cons, io_cons]
    cases r with
    | nil => rfl
    | cons a r =>
      have e : (if w ∈ JMP then look pl a else none) = (if w ∈ JMP then look [] a else none) := by
        by_cases z : w ∈ JMP
        · rw [if_pos z, if_pos z, h w a r rfl z]
          rfl
        · rw [if_neg z, if_neg z]
      dsimp only
      rw [e]
theorem tx_bad (h : Tx p d c k t parts wss rows) (hk : k ≤ 2 ^ c) {b : List Nat} {rest : List (List Nat)} (hb : badB d c b = true) (hr : rest = [[]] ∨ b.getLast? ≠ some 58 ∧ (∀ ws, lpL b ≠ some ([], ws))) : asm d c (parts ++ b :: rest) = none := by
  unfold asm
  rw [asmL_app, h.asm_, Option.bind_some, asmL_cons]
  dsimp only
  unfold badB at hb
  cases hl : lpL b with
  | none => rfl
  | some q =>
    obtain ⟨ns, ws⟩ := q
    rw [hl] at hb
    dsimp only at hb ⊢
    by_cases hn : ns = []
    · rw [if_pos hn] at hb
      subst hn
      have hr' : rest = [[]] := by
        rcases hr with hr | hr
        · exact hr
        · exact absurd hl (hr.2 ws)
      subst hr'
      simp only [Bool.and_eq_true, Bool.not_eq_true', decide_eq_false_iff_not] at hb
      obtain ⟨b1, b2, b3⟩ := hb
      have ea : addN [] (PP p (k + 1)) (wss.length : Int) = some (PP p (k + 1)) := rfl
      rw [ea]
      dsimp only
      rw [if_neg b1, asmL_one lp_nil rfl]
      dsimp only
      rw [if_pos rfl, ios_app, h.ios_, Option.bind_some]
      have es : io ws (PP p (k + 1)) = io ws [] := io_same fun w a r e hw => by
        subst e
        refine PP_other fun j hj => ?_
        dsimp only at b2
        rw [Bool.or_eq_true] at b2
        rcases b2 with b2 | b2
        · simp only [Bool.not_eq_true', decide_eq_false_iff_not] at b2
          intro e
          apply b2
          rw [e]
          have : j = 0 ∨ j = 1 ∨ j = 2 := by omega
          rcases this with rfl | rfl | rfl <;> simp
        · simp only [Bool.not_eq_true', decide_eq_false_iff_not] at b2
          exact absurd hw b2
      rw [ios_cons, es]
      cases hi : io ws [] with
      | none => rfl
      | some r =>
        rw [hi] at b3
        have b3 : (!fits d c r) = true := b3
        dsimp only [ios]
        show (if 2 ^ c < (rows ++ [r]).length then none else if (rows ++ [r]).all (fits d c) = true then some (rows ++ [r]) else none) = none
        by_cases big : 2 ^ c < (rows ++ [r]).length
        · rw [if_pos big]
        · rw [if_neg big, if_neg]
          rw [List.all_append, Bool.and_eq_true]
          rintro ⟨_, z⟩
          rw [List.all_cons, Bool.and_eq_true] at z
          rw [z.1] at b3
          cases b3
    · rw [if_neg hn] at hb
      have e := of_decide_eq_true hb
      subst e
      have : addN [xj 0] (PP p (k + 1)) (wss.length : Int) = none := by
        unfold addN
        rw [h.gpl.1 0 (by omega)]
        rfl
      rw [this]
end
/-! ### the longest code -/
def OUTL : List Nat := [111, 117, 116]
def fulL (n : Nat) : List Nat := ((List.replicate n OUTL).map (· ++ [10])).flatten
theorem spl_full (n : Nat) : spl [10] 0 [] (fulL n) = List.replicate n OUTL ++ [[]] := by
  unfold fulL
  have := splT (l := List.replicate n OUTL) (rest := []) (fun q hq => by rw [List.eq_of_mem_replicate hq]; decide)
  rw [List.append_nil] at this
  exact this
theorem out_parse : lpL OUTL = some ([], [OUTL]) := by decide +kernel
theorem asm_outs : ∀ {n : Nat} {rows : List (List (List Nat))}, asmL (List.replicate n OUTL) [] rows = some ([], rows ++ List.replicate n [OUTL])
  | 0, rows => by
    show some ([], rows) = _
    rw [List.replicate_zero, List.append_nil]
  | n + 1, rows => by
    rw [List.replicate_succ, asmL_cons, out_parse]
    dsimp only
    have : addN [] [] (rows.length : Int) = some [] := rfl
    rw [this]
    dsimp only
    rw [if_neg (by simp), asm_outs, List.append_assoc]
    rfl
theorem io_out {pl : List (List Nat × Int)} : io [OUTL] pl = some (OUTL, 0) := io_plain (by decide +kernel) (by decide +kernel)
theorem ios_outs : ∀ {n : Nat}, ios [] (List.replicate n [OUTL]) = some (List.replicate n (OUTL, (0 : Int)))
  | 0 => rfl
  | n + 1 => by
    rw [List.replicate_succ, ios_cons, io_out]
    dsimp only
    rw [ios_outs]
    rfl
theorem out_pln : OUTL ∈ PLN := by decide +kernel
theorem asm_full {d c n : Nat} : asm d c (List.replicate n OUTL ++ [[]]) = if 2 ^ c < n then none else some (List.replicate n (OUTL, (0 : Int))) := by
  unfold asm
  rw [asmL_app, asm_outs, Option.bind_some, asmL_one lp_nil rfl]
  dsimp only
  rw [if_pos rfl, List.nil_append, ios_outs]
  dsimp only
  rw [List.length_replicate]
  by_cases h : 2 ^ c < n
  · rw [if_pos h, if_pos h]
  · rw [if_neg h, if_neg h, if_pos]
    refine List.all_eq_true.mpr fun r hr => ?_
    rw [List.eq_of_mem_replicate hr]
    unfold fits bitsN
    rw [if_pos out_pln]
    decide
end K11

set_option Elab.async false
set_option linter.all false
set_option maxRecDepth 100000
set_option maxHeartbeats 4000000
namespace K11
open PySem PySem.Spec PyProof.Rows L2 Y TL
theorem mulB_lit {a b : Int} (h : -(2 ^ 64) < b ∧ b < 2 ^ 64) : mulB a b = true := by
  unfold mulB
  rw [Bool.or_eq_true]
  exact .inr (decide_eq_true h)
theorem at3 {a b c : D} : atI [a, b, c] 0 = some a ∧ atI [a, b, c] 1 = some b ∧ atI [a, b, c] 2 = some c := ⟨rfl, rfl, rfl⟩
theorem ixN3 : ixN 3 0 = some 0 ∧ ixN 3 1 = some 1 ∧ ixN 3 2 = some 2 := ⟨rfl, rfl, rfl⟩
theorem e_roll {S : Sr} {i : Nat} {a b c many : Int} (h : S.f i = some (.lst [.int a, .int b, .int c])) (h1 : 0 < many) (h2 : many ≤ 100000000) :
    ∃ r a' b' c', 0 ≤ r ∧ r < many ∧ f__law_roll [.adr i, .int many] S = .ok (.int r) (S.put i (.lst [.int a', .int b', .int c'])) := by
  have g1 : many < 1073741824 := by omega
  have g2 : ¬ 100000000 < many := by omega
  by_cases p1 : c = 2
  · refine ⟨a % many, a / many, b, c, Int.emod_nonneg _ (by omega), Int.emod_lt_of_pos _ h1, ?_⟩
    simp (decide := true) [f__law_roll, mFun, b__law_roll, mSeq, mPass, mBrk, mCnt, mDrop, mRet, mRetN, mIfS, mRaise, mSet, mAsg, mPar, mPar3, mAug, mFld, mFldAug, gNm, gSub', gFld, gNl, gCn, gTp, setA, putFD, mVar, mC, mB, mU, mTB, mAnd, mOr, mNot, mIf, mAndV, mOrV, mNotV, mChain, mNil, mCons, mTup, mLst, mSl, oNo, oE, mCB, fAbs, fMax2, fMin2, fInt, lenD, fLen, fTuple, fList, itemsD, fIsi, tyD, mAttr, mCall, mMeth, mMake, mBM, tyF, SM.bind, SM.pure, toRS, toRSA, toRST, Y.sb, List.lookup, put_f, put_n, alloc_f, alloc_n, put_put, alloc_put, okI, okB, orF, dSub, dFdiv, dMod, dPow, dShl, dShr, dAnd, dOr, dXor, dNeg, dLt, dLe, dGt, dGe, dIs, dIx, ixSeq, Y.putAt, putSeq, h, at3, ixN3, ev_eqI, p1, h1, g1]
  · by_cases p2 : c = 1 ∧ 0 < a
    · refine ⟨a % many, a / many, b, c, Int.emod_nonneg _ (by omega), Int.emod_lt_of_pos _ h1, ?_⟩
      simp (decide := true) [f__law_roll, mFun, b__law_roll, mSeq, mPass, mBrk, mCnt, mDrop, mRet, mRetN, mIfS, mRaise, mSet, mAsg, mPar, mPar3, mAug, mFld, mFldAug, gNm, gSub', gFld, gNl, gCn, gTp, setA, putFD, mVar, mC, mB, mU, mTB, mAnd, mOr, mNot, mIf, mAndV, mOrV, mNotV, mChain, mNil, mCons, mTup, mLst, mSl, oNo, oE, mCB, fAbs, fMax2, fMin2, fInt, lenD, fLen, fTuple, fList, itemsD, fIsi, tyD, mAttr, mCall, mMeth, mMake, mBM, tyF, SM.bind, SM.pure, toRS, toRSA, toRST, Y.sb, List.lookup, put_f, put_n, alloc_f, alloc_n, put_put, alloc_put, okI, okB, orF, dSub, dFdiv, dMod, dPow, dShl, dShr, dAnd, dOr, dXor, dNeg, dLt, dLe, dGt, dGe, dIs, dIx, ixSeq, Y.putAt, putSeq, h, at3, ixN3, ev_eqI, p1, p2.1, p2.2, h1, g1]
    · refine ⟨(a * 48271 + b * 69621 + 11) % 2147483647 / 7 % many, (a * 48271 + b * 69621 + 11) % 2147483647, b + 1, 0, Int.emod_nonneg _ (by omega), Int.emod_lt_of_pos _ h1, ?_⟩
      by_cases p3 : c = 1
      · have p4 : ¬ 0 < a := fun z => p2 ⟨p3, z⟩
        simp (decide := true) [f__law_roll, mFun, b__law_roll, mSeq, mPass, mBrk, mCnt, mDrop, mRet, mRetN, mIfS, mRaise, mSet, mAsg, mPar, mPar3, mAug, mFld, mFldAug, gNm, gSub', gFld, gNl, gCn, gTp, setA, putFD, mVar, mC, mB, mU, mTB, mAnd, mOr, mNot, mIf, mAndV, mOrV, mNotV, mChain, mNil, mCons, mTup, mLst, mSl, oNo, oE, mCB, fAbs, fMax2, fMin2, fInt, lenD, fLen, fTuple, fList, itemsD, fIsi, tyD, mAttr, mCall, mMeth, mMake, mBM, tyF, SM.bind, SM.pure, toRS, toRSA, toRST, Y.sb, List.lookup, put_f, put_n, alloc_f, alloc_n, put_put, alloc_put, okI, okB, orF, dSub, dFdiv, dMod, dPow, dShl, dShr, dAnd, dOr, dXor, dNeg, dLt, dLe, dGt, dGe, dIs, dIx, ixSeq, Y.putAt, putSeq, h, at3, ixN3, ev_eqI, p1, p3, p4, h1, g1, g2, dMulS, dMul, dAdd, mulB_lit]
      · simp (decide := true) [f__law_roll, mFun, b__law_roll, mSeq, mPass, mBrk, mCnt, mDrop, mRet, mRetN, mIfS, mRaise, mSet, mAsg, mPar, mPar3, mAug, mFld, mFldAug, gNm, gSub', gFld, gNl, gCn, gTp, setA, putFD, mVar, mC, mB, mU, mTB, mAnd, mOr, mNot, mIf, mAndV, mOrV, mNotV, mChain, mNil, mCons, mTup, mLst, mSl, oNo, oE, mCB, fAbs, fMax2, fMin2, fInt, lenD, fLen, fTuple, fList, itemsD, fIsi, tyD, mAttr, mCall, mMeth, mMake, mBM, tyF, SM.bind, SM.pure, toRS, toRSA, toRST, Y.sb, List.lookup, put_f, put_n, alloc_f, alloc_n, put_put, alloc_put, okI, okB, orF, dSub, dFdiv, dMod, dPow, dShl, dShr, dAnd, dOr, dXor, dNeg, dLt, dLe, dGt, dGe, dIs, dIx, ixSeq, Y.putAt, putSeq, h, at3, ixN3, ev_eqI, p1, p3, h1, g1, g2, dMulS, dMul, dAdd, mulB_lit]

def DiceAt (S : Sr) (i : Nat) : Prop := ∃ a b c : Int, S.f i = some (.lst [.int a, .int b, .int c])
/-- all but these stay -/
def Fr (l : List Nat) (S S' : Sr) : Prop := S.n ≤ S'.n ∧ ∀ j, j < S.n → j ∉ l → S'.f j = S.f j
theorem Fr.refl {l : List Nat} {S : Sr} : Fr l S S := ⟨Nat.le_refl _, fun _ _ _ => rfl⟩
theorem Fr.trans {l : List Nat} {S S1 S2 : Sr} (a : Fr l S S1) (b : Fr l S1 S2) : Fr l S S2 := ⟨Nat.le_trans a.1 b.1, fun j hj h => (b.2 j (Nat.lt_of_lt_of_le hj a.1) h).trans (a.2 j hj h)⟩
theorem Fr.put {l : List Nat} {S : Sr} {i : Nat} {x : MO} (h : i ∈ l) : Fr l S (S.put i x) := ⟨Nat.le_refl _, fun j _ hj => if_neg (fun e : j = i => hj (by rw [e]; exact h))⟩
theorem Fr.alloc {l : List Nat} {S : Sr} {x : MO} : Fr l S (S.alloc x) := ⟨Nat.le_succ _, fun j hj _ => if_neg (Nat.ne_of_lt hj)⟩
theorem Xt.fr {l : List Nat} {S S' : Sr} (h : Xt S S') : Fr l S S' := ⟨h.le, fun j hj _ => h.eq j hj⟩
theorem Fr.xt {S S' : Sr} (h : Fr [] S S') : Xt S S' := ⟨h.1, fun j hj => h.2 j hj List.not_mem_nil⟩
theorem roll_at {S : Sr} {i : Nat} {many : Int} (h : DiceAt S i) (h1 : 0 < many) (h2 : many ≤ 100000000) : ∃ r x, 0 ≤ r ∧ r < many ∧ f__law_roll [.adr i, .int many] S = .ok (.int r) (S.put i x) ∧ DiceAt (S.put i x) i := by
  obtain ⟨a, b, c, h⟩ := h
  obtain ⟨r, a', b', c', r0, r1, e⟩ := e_roll h h1 h2
  exact ⟨r, _, r0, r1, e, a', b', c', if_pos rfl⟩
theorem dice_alloc {S : Sr} {i : Nat} {x : MO} (h : DiceAt S i) (hi : i < S.n) : DiceAt (S.alloc x) i := by
  obtain ⟨a, b, c, h⟩ := h
  exact ⟨a, b, c, (if_neg (Nat.ne_of_lt hi)).trans h⟩
theorem Fr.weak {l l' : List Nat} {S S' : Sr} (h : Fr l S S') (hl : ∀ j, j ∈ l → j ∈ l') : Fr l' S S' := ⟨h.1, fun j hj hn => h.2 j hj fun hm => hn (hl j hm)⟩
theorem Fr.at {l : List Nat} {S S' : Sr} {j : Nat} {x : MO} (h : Fr l S S') (hj : j < S.n) (hn : j ∉ l) (e : S.f j = some x) : S'.f j = some x := (h.2 j hj hn).trans e
theorem Fr.dice {l : List Nat} {S S' : Sr} {j : Nat} (h : Fr l S S') (hj : j < S.n) (hn : j ∉ l) (e : DiceAt S j) : DiceAt S' j := by
  obtain ⟨a, b, c, e⟩ := e
  exact ⟨a, b, c, h.at hj hn e⟩
theorem Fr.putNew {l : List Nat} {S S' : Sr} {q : Nat} {x : MO} (h : Fr l S S') (hq : S.n ≤ q) : Fr l S (S'.put q x) := ⟨h.1, fun j hj hn => (if_neg (by omega)).trans (h.2 j hj hn)⟩
section
variable {S : Sr} {i : Nat}
theorem dice_put {q : Nat} {x : MO} (h : DiceAt S i) (hq : i ≠ q) : DiceAt (S.put q x) i := by
  obtain ⟨a, b, c, h⟩ := h
  exact ⟨a, b, c, (if_neg hq).trans h⟩
end
theorem ne_refl {S : Sr} {x : D} {a : PyData} (h : toPy S 9 x = some a) (hs : SeqAt.shaped a = true) : dNe x x S = .ok (.bl false) S := by
  have hp : a.plain = true := PyData.plain_of_canLay0 a (SeqAt.canLay_of_shaped hs)
  rw [ev_neP h h hs hs, SeqAt.eqv_refl_plain a hp]
  rfl
theorem eq_refl' {S : Sr} {x : D} {a : PyData} (h : toPy S 9 x = some a) (hs : SeqAt.shaped a = true) : dEq x x S = .ok (.bl true) S := by
  have hp : a.plain = true := PyData.plain_of_canLay0 a (SeqAt.canLay_of_shaped hs)
  rw [ev_eqP h h hs hs, SeqAt.eqv_refl_plain a hp]
section
variable {S : Sr}
theorem e_dice (z : Int) : ∃ a b c : Int, f__law_dice [.int z] S = .ok (.adr S.n) (S.alloc (.lst [.int a, .int b, .int c])) := by
  have sz : 3 ≤ sizeLine := by rw [sizeLine_eq]; omega
  have pw : powB 10 18 = true := by decide
  by_cases h0 : -10 < z
  · by_cases h1 : z < 10
    · refine ⟨if z < 0 then -z else z, 0, 2, ?_⟩
      simp (maxSteps := 4000000) (decide := true) [f__law_dice, mFun, b__law_dice, mSeq, mPass, mBrk, mCnt, mDrop, mRet, mRetN, mIfS, mRaise, mSet, mAsg, mPar, mPar3, mAug, mFld, mFldAug, gNm, gSub', gFld, gNl, gCn, gTp, setA, putFD, mVar, mC, mB, mU, mTB, mAnd, mOr, mNot, mIf, mAndV, mOrV, mNotV, mChain, mNil, mCons, mTup, mLst, mSl, oNo, oE, mCB, fAbs, fMax2, fMin2, fInt, lenD, fLen, fTuple, fList, itemsD, fIsi, tyD, mAttr, mCall, mMeth, mMake, mBM, tyF, SM.bind, SM.pure, toRS, toRSA, toRST, Y.sb, List.lookup, put_f, put_n, alloc_f, alloc_n, put_put, alloc_put, okI, okB, orF, dSub, dFdiv, dMod, dPow, dShl, dShr, dAnd, dOr, dXor, dNeg, dLt, dLe, dGt, dGe, dIs, h0, h1, sz]
    · refine ⟨z, 1 + z % 1009, if 10 ^ 18 ≤ z then 1 else 0, ?_⟩
      simp (maxSteps := 4000000) (decide := true) [f__law_dice, mFun, b__law_dice, mSeq, mPass, mBrk, mCnt, mDrop, mRet, mRetN, mIfS, mRaise, mSet, mAsg, mPar, mPar3, mAug, mFld, mFldAug, gNm, gSub', gFld, gNl, gCn, gTp, setA, putFD, mVar, mC, mB, mU, mTB, mAnd, mOr, mNot, mIf, mAndV, mOrV, mNotV, mChain, mNil, mCons, mTup, mLst, mSl, oNo, oE, mCB, fAbs, fMax2, fMin2, fInt, lenD, fLen, fTuple, fList, itemsD, fIsi, tyD, mAttr, mCall, mMeth, mMake, mBM, tyF, SM.bind, SM.pure, toRS, toRSA, toRST, Y.sb, List.lookup, put_f, put_n, alloc_f, alloc_n, put_put, alloc_put, okI, okB, orF, dSub, dFdiv, dMod, dPow, dShl, dShr, dAnd, dOr, dXor, dNeg, dLt, dLe, dGt, dGe, dIs, h0, h1, sz, pw, dAdd]
  · refine ⟨z, 1 + z % 1009, if 10 ^ 18 ≤ z then 1 else 0, ?_⟩
    simp (maxSteps := 4000000) (decide := true) [f__law_dice, mFun, b__law_dice, mSeq, mPass, mBrk, mCnt, mDrop, mRet, mRetN, mIfS, mRaise, mSet, mAsg, mPar, mPar3, mAug, mFld, mFldAug, gNm, gSub', gFld, gNl, gCn, gTp, setA, putFD, mVar, mC, mB, mU, mTB, mAnd, mOr, mNot, mIf, mAndV, mOrV, mNotV, mChain, mNil, mCons, mTup, mLst, mSl, oNo, oE, mCB, fAbs, fMax2, fMin2, fInt, lenD, fLen, fTuple, fList, itemsD, fIsi, tyD, mAttr, mCall, mMeth, mMake, mBM, tyF, SM.bind, SM.pure, toRS, toRSA, toRST, Y.sb, List.lookup, put_f, put_n, alloc_f, alloc_n, put_put, alloc_put, okI, okB, orF, dSub, dFdiv, dMod, dPow, dShl, dShr, dAnd, dOr, dXor, dNeg, dLt, dLe, dGt, dGe, dIs, h0, sz, pw, dAdd]
theorem lc_one {sr : Src} {t : Tg} {mt : MT} {me : ME} {g0 g : Gm} {D0 : Nat} {S S1 : Sr} {d y : D} (h0 : sr.nxt 0 S = some (some d)) (h1 : t.put d g0 = some g) (h2 : mt g S = .ok true S) (h3 : me g S = .ok y S1) (h4 : S1.f D0 = some (.lst [])) (h5 : sr.nxt 1 (S1.put D0 (.lst [y])) = some none) :
    lcG sr t mt me g0 D0 1 0 S = .ok () (S1.put D0 (.lst [y])) := by
  rw [lc_nx h0 h1 h2 h3 h4 (by rw [sizeLine_eq]; decide)]
  exact lc_end h5
/-- the comprehension over one cell at q -/
theorem e_cells {g : Gm} {q : Nat} {z : Int} (hq : S.f q = some (.lst [.int z])) (hl : q < S.n) :
    Tells (mLc (mSrc (mVar 2)) (.nm 3) mYes (mCall f__law_dice 1 [] (mCons (mVar 3) mNil)) [3] [g.getD 0 none, g.getD 1 none, some (.adr q), none] S) fun r S' => r = .adr S.n ∧ S'.f S.n = some (.lst [.adr (S.n + 1)]) ∧ DiceAt S' (S.n + 1) ∧ S'.n = S.n + 2 := by
  obtain ⟨a, b, c, e⟩ := e_dice (S := S.alloc (.lst [])) z
  have hn : q ≠ S.n := Nat.ne_of_lt hl
  have hn2 : q ≠ S.n + 1 := by omega
  have l := lc_one (sr := sqa q 1) (t := .nm 3) (mt := mYes) (me := mCall f__law_dice 1 [] (mCons (mVar 3) mNil)) (g0 := wipeD [g.getD 0 none, g.getD 1 none, some (.adr q), none] [3]) (g := [g.getD 0 none, g.getD 1 none, some (.adr q), some (.int z)]) (D0 := S.n) (S := S.alloc (.lst [])) (d := .int z) (y := .adr (S.n + 1)) (S1 := (S.alloc (.lst [])).alloc (.lst [.int a, .int b, .int c]))
    (by simp [sqa, alloc_f, hn, hq]) (by rfl) (by rfl) (by
      simp [mCall, mCons, mNil, mVar, SM.bind, SM.pure, e, alloc_n]) (by simp [alloc_f, alloc_n]) (by simp [sqa, alloc_f, alloc_n, put_f, hn, hn2, hq])
  have e2 : mLc (mSrc (mVar 2)) (.nm 3) mYes (mCall f__law_dice 1 [] (mCons (mVar 3) mNil)) [3] [g.getD 0 none, g.getD 1 none, some (.adr q), none] S = .ok (D.adr S.n) (((S.alloc (.lst [])).alloc (.lst [.int a, .int b, .int c])).put S.n (.lst [.adr (S.n + 1)])) := by
    have es : mSrc (mVar 2) [g.getD 0 none, g.getD 1 none, some (.adr q), none] S = .ok (sqa q 1) S := by
      simp [mSrc, mSrcD, mVar, SM.bind, hq]
    exact mLc_ok es l
  rw [e2]
  have h1 : S.n + 1 ≠ S.n := Nat.succ_ne_self _
  exact ⟨rfl, if_pos rfl, ⟨a, b, c, by simp [put_f, alloc_f, alloc_n]⟩, rfl⟩
theorem e_rounds {script : D} {ns : List Int} (hs : slD script none (some 1) S = .ok (.adr S.n) (S.alloc (.lst ((ns.take 1).map D.int)))) :
    Tells (f__law_rounds [script, .int 1] S) fun r S' => ∃ a i, r = .adr a ∧ S'.f a = some (.lst [.adr i]) ∧ DiceAt S' i ∧ i < S'.n ∧ a < S'.n ∧ a ≠ i ∧ S.n ≤ S'.n := by
  have t1 : S.n + 1 ≠ S.n := Nat.succ_ne_self _
  have ee : dEq (.adr S.n) (.adr (S.n + 1)) ((S.alloc (.lst ((ns.take 1).map D.int))).alloc (.lst [])) = .ok (.bl (ns.take 1).isEmpty) ((S.alloc (.lst ((ns.take 1).map D.int))).alloc (.lst [])) := eq_empty (by simp [alloc_f, alloc_n]) (by simp [alloc_f, alloc_n])
  have sz : 1 ≤ sizeLine := by rw [sizeLine_eq]; omega
  cases ns with
  | nil =>
    have ee : dEq (.adr S.n) (.adr (S.n + 1)) ((S.alloc (.lst [])).alloc (.lst [])) = .ok (.bl true) ((S.alloc (.lst [])).alloc (.lst [])) := ee
    have hs : slD script none (some 1) S = .ok (.adr S.n) (S.alloc (.lst [])) := hs
    have ec := (e_cells (S := ((S.alloc (.lst [])).alloc (.lst [])).alloc (.lst [.int 0])) (g := [some script, some (.int 1)]) (q := S.n + 2) (z := 0) (by simp [alloc_f, alloc_n]) (by simp [alloc_n])).get
    obtain ⟨r, S', e, rfl, h1, h2, h3⟩ := ec
    simp (maxSteps := 4000000) (decide := true) [Tells, f__law_rounds, mFun, b__law_rounds, mSeq, mSet, mSl, oNo, oE, mVar, mC, SM.bind, SM.pure, toRS, toRST, mIfS, mTB, mB, mLst, mCons, mNil, mPass, mRet, alloc_n, hs, ee, sz] at e ⊢
    rw [e]
    refine ⟨_, rfl, _, h1, h2, ?_, ?_, ?_, ?_⟩
    all_goals (simp only [alloc_n] at h3 ⊢; omega)
  | cons z t =>
    have ee : dEq (.adr S.n) (.adr (S.n + 1)) ((S.alloc (.lst [.int z])).alloc (.lst [])) = .ok (.bl false) ((S.alloc (.lst [.int z])).alloc (.lst [])) := ee
    have hs : slD script none (some 1) S = .ok (.adr S.n) (S.alloc (.lst [.int z])) := hs
    have ec := (e_cells (S := (S.alloc (.lst [.int z])).alloc (.lst [])) (g := [some script, some (.int 1)]) (q := S.n) (z := z) (by simp [alloc_f, alloc_n]) (by simp only [alloc_n]; omega)).get
    obtain ⟨r, S', e, rfl, h1, h2, h3⟩ := ec
    simp (maxSteps := 4000000) (decide := true) [Tells, f__law_rounds, mFun, b__law_rounds, mSeq, mSet, mSl, oNo, oE, mVar, mC, SM.bind, SM.pure, toRS, toRST, mIfS, mTB, mB, mLst, mCons, mNil, mPass, mRet, alloc_n, hs, ee, sz] at e ⊢
    rw [e]
    refine ⟨_, rfl, _, h1, h2, ?_, ?_, ?_, ?_⟩
    all_goals (simp only [alloc_n] at h3 ⊢; omega)
end
end K11

set_option Elab.async false
set_option linter.all false
set_option maxRecDepth 100000
set_option maxHeartbeats 4000000
namespace K11
open PySem PySem.Spec PyProof.Rows L2 Y TL
section
variable {S : Sr} {i : Nat} {d k m : Nat} {x0 x2 x3 x4 x5 x6 x7 x8 x9 : Option D} {t : Gm}
theorem l111 (hd : DiceAt S i) : ∃ d k : Nat, (2 ≤ d ∧ d ≤ 8) ∧ (5 ≤ k ∧ k ≤ 8) ∧ ∃ S', b_law_s111 (x0 :: some (.adr i) :: x2 :: x3 :: t) S = .nx (x0 :: some (.adr i) :: some (.int (d : Int)) :: some (.int (k : Int)) :: t) S' ∧ DiceAt S' i ∧ Fr [i] S S' := by
  obtain ⟨r1, y1, a0, a1, e1, d1⟩ := roll_at hd (many := 7) (by decide) (by decide)
  obtain ⟨r2, y2, b0, b1, e2, d2⟩ := roll_at d1 (many := 4) (by decide) (by decide)
  have sz : 2 ≤ sizeLine := by rw [sizeLine_eq]; omega
  refine ⟨(2 + r1).toNat, (5 + r2).toNat, by omega, by omega, (S.put i y1).put i y2, ?_, d2, (Fr.put (by simp)).trans (Fr.put (by simp))⟩
  have h1 : (((2 + r1).toNat : Nat) : Int) = 2 + r1 := by omega
  have h2 : (((5 + r2).toNat : Nat) : Int) = 5 + r2 := by omega
  rw [h1, h2]
  rw [put_put] at e2 ⊢
  simp (maxSteps := 4000000) (decide := true) [b_law_s111, mSeq, mPass, mBrk, mCnt, mDrop, mRet, mRetN, mIfS, mRaise, mSet, mAsg, mPar, mPar3, mAug, mFld, mFldAug, gNm, gSub', gFld, gNl, gCn, gTp, setA, putFD, mVar, mC, mB, mU, mTB, mAnd, mOr, mNot, mIf, mAndV, mOrV, mNotV, mChain, mNil, mCons, mTup, mLst, mSl, oNo, oE, mCB, fAbs, fMax2, fMin2, fInt, lenD, fLen, fTuple, fList, itemsD, fIsi, tyD, mAttr, mCall, mMeth, mMake, mBM, tyF, SM.bind, SM.pure, toRS, toRSA, toRST, Y.sb, List.lookup, put_f, put_n, alloc_f, alloc_n, put_put, alloc_put, okI, okB, orF, dSub, dFdiv, dMod, dPow, dShl, dShr, dAnd, dOr, dXor, dNeg, dLt, dLe, dGt, dGe, dIs, e1, e2, dAdd, sz]
theorem l112 (hd : DiceAt S i) (hi : i < S.n) (h2 : 2 ≤ d ∧ d ≤ 8) (h3 : 5 ≤ k ∧ k ≤ 8) : ∃ m : Nat, 1 ≤ m ∧ m ≤ 20 ∧ ∃ S', b_law_s112 (x0 :: some (.adr i) :: some (.int (d : Int)) :: some (.int (k : Int)) :: x4 :: x5 :: t) S = .nx (x0 :: some (.adr i) :: some (.int (d : Int)) :: some (.int (k : Int)) :: some (.adr S.n) :: some (.int (m : Int)) :: t) S' ∧
    DiceAt S' i ∧ Fr [i] S S' ∧ S'.f S.n = some (.ins "Size" (sizF d k)) ∧ S.n < S'.n := by
  have hn : i ≠ S.n := Nat.ne_of_lt hi
  have sz : 2 ≤ sizeLine := by rw [sizeLine_eq]; omega
  have c1 : (2 : Int) ≤ d := by omega
  have c2 : (d : Int) ≤ 8 := by omega
  have c3 : (2 : Int) ≤ k := by omega
  have c4 : (k : Int) ≤ 8 := by omega
  have e0 : f_Size___init__ [.adr S.n, .int (d : Int), .int (k : Int)] (S.alloc (.ins "Size" [])) = .ok .non (S.alloc (.ins "Size" (sizF d k))) := by
    simp (maxSteps := 4000000) (decide := true) [f_Size___init__, mFun, b_Size___init__, mSeq, mPass, mBrk, mCnt, mDrop, mRet, mRetN, mIfS, mRaise, mSet, mAsg, mPar, mPar3, mAug, mFld, mFldAug, gNm, gSub', gFld, gNl, gCn, gTp, setA, putFD, mVar, mC, mB, mU, mTB, mAnd, mOr, mNot, mIf, mAndV, mOrV, mNotV, mChain, mNil, mCons, mTup, mLst, mSl, oNo, oE, mCB, fAbs, fMax2, fMin2, fInt, lenD, fLen, fTuple, fList, itemsD, fIsi, tyD, mAttr, mCall, mMeth, mMake, mBM, tyF, SM.bind, SM.pure, toRS, toRSA, toRST, Y.sb, List.lookup, put_f, put_n, alloc_f, alloc_n, put_put, alloc_put, okI, okB, orF, dSub, dFdiv, dMod, dPow, dShl, dShr, dAnd, dOr, dXor, dNeg, dLt, dLe, dGt, dGe, dIs, sizF, c1, c2, c3, c4]
  have dz : DiceAt (S.alloc (.ins "Size" (sizF d k))) i := dice_alloc hd hi
  obtain ⟨r1, y1, a0, a1, e1, d1⟩ := roll_at dz (many := 20) (by decide) (by decide)
  refine ⟨(1 + r1).toNat, by omega, by omega, (S.alloc (.ins "Size" (sizF d k))).put i y1, ?_, d1, Fr.alloc.trans (Fr.put (by simp)), ?_, ?_⟩
  · have h1 : (((1 + r1).toNat : Nat) : Int) = 1 + r1 := by omega
    rw [h1]
    simp (maxSteps := 4000000) (decide := true) [b_law_s112, mSeq, mPass, mBrk, mCnt, mDrop, mRet, mRetN, mIfS, mRaise, mSet, mAsg, mPar, mPar3, mAug, mFld, mFldAug, gNm, gSub', gFld, gNl, gCn, gTp, setA, putFD, mVar, mC, mB, mU, mTB, mAnd, mOr, mNot, mIf, mAndV, mOrV, mNotV, mChain, mNil, mCons, mTup, mLst, mSl, oNo, oE, mCB, fAbs, fMax2, fMin2, fInt, lenD, fLen, fTuple, fList, itemsD, fIsi, tyD, mAttr, mCall, mMeth, mMake, mBM, tyF, SM.bind, SM.pure, toRS, toRSA, toRST, Y.sb, List.lookup, put_f, put_n, alloc_f, alloc_n, put_put, alloc_put, okI, okB, orF, dSub, dFdiv, dMod, dPow, dShl, dShr, dAnd, dOr, dXor, dNeg, dLt, dLe, dGt, dGe, dIs, e0, e1, dAdd, sz]
  · rw [put_f, if_neg (Ne.symm hn), alloc_f, if_pos rfl]
  · show S.n < S.n + 1
    omega
abbrev eP : ME := mCall f__law_roll 2 [] (mCons (mVar 1) (mCons (mB dAdd (mVar 5) (mC (.int 1))) mNil))
theorem p_step {D0 idx r : Nat} {acc : List D} {sr : Src} {g0 g : Gm} (hd : DiceAt S i) (hS : S.f D0 = some (.lst acc)) (hl : acc.length < 3) (hn : D0 ≠ i) (hsr : sr.nxt idx S = some (some (.int (idx : Int)))) (hm : m ≤ 20) (ht : (Tg.nm 9).put (.int (idx : Int)) g0 = some g) (h1 : g[1]? = some (some (.adr i))) (h5 : g[5]? = some (some (.int (m : Int)))) :
    ∃ (q : Int) (S' : Sr), 0 ≤ q ∧ q ≤ (m : Int) ∧ lcG sr (.nm 9) mYes eP g0 D0 (r + 1) idx S = lcG sr (.nm 9) mYes eP g0 D0 r (idx + 1) S' ∧ S'.f D0 = some (.lst (acc ++ [.int q])) ∧ DiceAt S' i ∧ Fr [i, D0] S S' := by
  obtain ⟨q, y, a0, a1, e1, d1⟩ := roll_at hd (many := (m : Int) + 1) (by omega) (by omega)
  have e2 : eP g S = .ok (.int q) (S.put i y) := by
    simp [eP, mCall, mCons, mNil, mVar, mC, mB, SM.bind, SM.pure, h1, h5, dAdd, orF, okI, e1]
  refine ⟨q, _, a0, by omega, lc_nx hsr ht rfl e2 (at_put_ne hS hn) (by rw [sizeLine_eq]; omega), at_put, dice_put d1 (Ne.symm hn), (Fr.put (by simp)).trans (Fr.put (by simp))⟩
theorem l113 {t : Gm} {x10 : Option D} (hd : DiceAt S i) (hi : i < S.n) (hm : m ≤ 20) : ∃ (p : Nat → Int) (S' : Sr), (∀ j, j < 3 → 0 ≤ p j ∧ p j ≤ (m : Int)) ∧ b_law_s113 (x0 :: some (.adr i) :: x2 :: x3 :: x4 :: some (.int (m : Int)) :: x6 :: x7 :: x8 :: x9 :: x10 :: t) S = .nx (x0 :: some (.adr i) :: x2 :: x3 :: x4 :: some (.int (m : Int)) :: some (.adr S.n) :: some (.adr (S.n + 1)) :: some (.adr (S.n + 2)) :: x9 :: x10 :: t) S' ∧
    DiceAt S' i ∧ Fr [i] S S' ∧ S'.f S.n = some (.lst []) ∧ S'.f (S.n + 1) = some (.lst []) ∧ S'.f (S.n + 2) = some (.lst [.int (p 0), .int (p 1), .int (p 2)]) ∧ S.n + 2 < S'.n := by
  have z0 : 0 ≤ sizeLine := Nat.zero_le _
  have sz3 : 3 ≤ sizeLine := by rw [sizeLine_eq]; omega
  let S2 : Sr := (S.alloc (.lst [])).alloc (.lst [])
  let S3 : Sr := S2.alloc (.lst [])
  let g : Gm := x0 :: some (.adr i) :: x2 :: x3 :: x4 :: some (.int (m : Int)) :: x6 :: x7 :: x8 :: x9 :: x10 :: t
  have hi3 : i ≠ S.n + 2 := by omega
  have d3 : DiceAt S3 i := dice_alloc (dice_alloc (dice_alloc hd hi) (Nat.lt_succ_of_lt hi)) (Nat.lt_succ_of_lt (Nat.lt_succ_of_lt hi))
  have nx : ∀ (idx : Nat) (S : Sr), idx < 3 → (sqr 0 1 3).nxt idx S = some (some (.int (idx : Int))) := fun idx S h => by
    simp [sqr, h]
  let g0 : Gm := wipeD g [9]
  have tg : ∀ idx : Int, (Tg.nm 9).put (.int idx) g0 = some (x0 :: some (.adr i) :: x2 :: x3 :: x4 :: some (.int (m : Int)) :: x6 :: x7 :: x8 :: some (.int idx) :: x10 :: t) := fun idx => rfl
  obtain ⟨q0, S4, a0, a1, e1, f1, c1, r1⟩ := p_step (D0 := S.n + 2) (idx := 0) (r := 2) (acc := []) (g0 := g0) d3 (at_new (S := S2)) (by simp) (Ne.symm hi3) (nx 0 _ (by omega)) hm (tg _) rfl rfl
  obtain ⟨q1, S5, b0, b1, e2, f2, c2, r2⟩ := p_step (D0 := S.n + 2) (idx := 1) (r := 1) (g0 := g0) c1 f1 (by simp) (Ne.symm hi3) (nx 1 _ (by omega)) hm (tg _) rfl rfl
  obtain ⟨q2, S6, c0, c1', e3, f3, c3, r3⟩ := p_step (D0 := S.n + 2) (idx := 2) (r := 0) (g0 := g0) c2 f2 (by simp) (Ne.symm hi3) (nx 2 _ (by omega)) hm (tg _) rfl rfl
  have e4 : lcG (sqr 0 1 3) (.nm 9) mYes eP g0 (S.n + 2) 3 0 S3 = .ok () S6 := by
    rw [e1, e2, e3]
    refine lc_end ?_
    simp [sqr]
  have er : mRng1 (mCons (mC (.int 3)) mNil) g S2 = .ok (sqr 0 1 3) S2 := by
    simp (decide := true) [mRng1, mSeq, mPass, mBrk, mCnt, mDrop, mRet, mRetN, mIfS, mRaise, mSet, mAsg, mPar, mPar3, mAug, mFld, mFldAug, gNm, gSub', gFld, gNl, gCn, gTp, setA, putFD, mVar, mC, mB, mU, mTB, mAnd, mOr, mNot, mIf, mAndV, mOrV, mNotV, mChain, mNil, mCons, mTup, mLst, mSl, oNo, oE, mCB, fAbs, fMax2, fMin2, fInt, lenD, fLen, fTuple, fList, itemsD, fIsi, tyD, mAttr, mCall, mMeth, mMake, mBM, tyF, SM.bind, SM.pure, toRS, toRSA, toRST, Y.sb, List.lookup, put_f, put_n, alloc_f, alloc_n, put_put, alloc_put, okI, okB, orF, dSub, dFdiv, dMod, dPow, dShl, dShr, dAnd, dOr, dXor, dNeg, dLt, dLe, dGt, dGe, dIs]
  have e5 : mLc (mRng1 (mCons (mC (.int 3)) mNil)) (.nm 9) mYes eP [9] g S2 = .ok (.adr (S.n + 2)) S6 := mLc_ok er e4
  have fr : Fr [i, S.n + 2] S3 S6 := (r1.trans r2).trans r3
  refine ⟨fun j => if j = 0 then q0 else if j = 1 then q1 else q2, S6, ?_, ?_, c3, ?_, ?_, ?_, f3, ?_⟩
  · intro j hj
    have : j = 0 ∨ j = 1 ∨ j = 2 := by omega
    rcases this with rfl | rfl | rfl
    · exact ⟨a0, a1⟩
    · exact ⟨b0, b1⟩
    · exact ⟨c0, c1'⟩
  · have eS : (S.alloc (.lst [])).alloc (.lst []) = S2 := rfl
    show b_law_s113 g S = _
    have ea : mTup (mCons (mLst mNil) (mCons (mLst mNil) (mCons (mLc (mRng1 (mCons (mC (.int 3)) mNil)) (.nm 9) mYes eP [9]) mNil))) g S = .ok (.tup [.adr S.n, .adr (S.n + 1), .adr (S.n + 2)]) S6 := by
      simp only [mTup, mCons, mLst, mNil, SM.bind, SM.pure, List.length_nil, z0, if_true, alloc_n, eS, e5, List.length_cons, sz3]
    unfold b_law_s113 mAsg
    rw [ea]
    simp (decide := true) [mSeq, mPass, mBrk, mCnt, mDrop, mRet, mRetN, mIfS, mRaise, mSet, mAsg, mPar, mPar3, mAug, mFld, mFldAug, gNm, gSub', gFld, gNl, gCn, gTp, setA, putFD, mVar, mC, mB, mU, mTB, mAnd, mOr, mNot, mIf, mAndV, mOrV, mNotV, mChain, mNil, mCons, mTup, mLst, mSl, oNo, oE, mCB, fAbs, fMax2, fMin2, fInt, lenD, fLen, fTuple, fList, itemsD, fIsi, tyD, mAttr, mCall, mMeth, mMake, mBM, tyF, SM.bind, SM.pure, toRS, toRSA, toRST, Y.sb, List.lookup, put_f, put_n, alloc_f, alloc_n, put_put, alloc_put, okI, okB, orF, dSub, dFdiv, dMod, dPow, dShl, dShr, dAnd, dOr, dXor, dNeg, dLt, dLe, dGt, dGe, dIs, g]
  · exact ⟨Nat.le_trans (show S.n ≤ S3.n from by show S.n ≤ S.n + 1 + 1 + 1; omega) fr.1, fun j hj hn => by
      rw [fr.2 j (show j < S.n + 1 + 1 + 1 by omega) (by simp at hn ⊢; omega)]
      show (if j = S.n + 1 + 1 then _ else if j = S.n + 1 then _ else if j = S.n then _ else _) = _
      rw [if_neg (by omega), if_neg (by omega), if_neg (by omega)]⟩
  · refine fr.at (show S.n < S.n + 1 + 1 + 1 by omega) (by simp; omega) ?_
    exact at_old (at_old at_new (Nat.lt_succ_self _)) (show S.n < S.n + 1 + 1 by omega)
  · refine fr.at (show S.n + 1 < S.n + 1 + 1 + 1 by omega) (by simp; omega) ?_
    exact at_old (at_new (S := S.alloc _)) (show S.n + 1 < S.n + 1 + 1 by omega)
  · have := fr.1
    have h3 : S3.n = S.n + 3 := rfl
    omega
end
end K11

set_option Elab.async false
set_option linter.all false
set_option maxRecDepth 100000
set_option maxHeartbeats 4000000
namespace K11
open PySem PySem.Spec PyProof.Rows L2 Y TL
theorem addT {a b : List Nat} {S : Sr} (h : a.length + b.length ≤ 100000) : dAdd (strL a) (strL b) S = .ok (strL (a ++ b)) S := by
  have : (sg a).length + (sg b).length ≤ sizeLine := by rw [sg_len, sg_len, sizeLine_eq]; omega
  have e := sg_app a b
  simp [dAdd, orF, okI, addS, this, e]
theorem str_num {n : Nat} : Str.ofString (toString ((n : Nat) : Int)) = sg (numL n) := by
  refine ext_tl ?_
  rw [tl_sg]
  exact tl_num n
theorem fStr_n {n : Nat} {S : Sr} (h : n < 100000) : fStr [.int (n : Int)] S = .ok (strL (numL n)) S := by
  have l : ((n : Nat) : Int).natAbs.log2 < 1920 := log_ok (by omega) (by omega)
  show (if ((n : Nat) : Int).natAbs.log2 < 1920 then R.ok (D.str (Str.ofString (toString ((n : Nat) : Int)))) S else .bad) = _
  rw [if_pos l, str_num]
theorem fStr_i {n : Int} {S : Sr} (h0 : 0 ≤ n) (h : n < 100000) : fStr [.int n] S = .ok (strL (nmI n)) S := by
  have e : ((n.toNat : Nat) : Int) = n := Int.toNat_of_nonneg h0
  have := fStr_n (n := n.toNat) (S := S) (by omega)
  rw [e] at this
  exact this
theorem pln_lst : PLN.map strL = [.str "halt", .str "out", .str "in", .str "half"] := by simp only [PLN, List.map_cons, List.map_nil, strL_wd]
theorem jmp_lst : JMP.map strL = [.str "jump", .str "zero", .str "less"] := by simp only [JMP, List.map_cons, List.map_nil, strL_wd]
structure LF (p : Nat → Int) (i R L P m : Nat) (S : Sr) (rows : List (List Nat × Int)) (ls : List (List Nat)) : Prop where
  di : DiceAt S i
  fp : S.f P = some (.lst [.int (p 0), .int (p 1), .int (p 2)])
  fr : S.f R = some (.lst (rows.map rowN))
  fl : S.f L = some (.lst (ls.map strL))
  lt : i < S.n ∧ R < S.n ∧ L < S.n ∧ P < S.n
  ne : i ≠ R ∧ i ≠ L ∧ i ≠ P ∧ R ≠ L ∧ R ≠ P ∧ L ≠ P
  pb : ∀ j, j < 3 → 0 ≤ p j ∧ p j ≤ (m : Int)
section
variable {p : Nat → Int} {i R L P m k d c : Nat} {S S' : Sr} {rows : List (List Nat × Int)} {ls : List (List Nat)} {w nm bl : List Nat} {x0 x4 x9 x10 x11 x12 x13 x14 x15 : Option D} {t : Gm}
theorem LF.mv (a : LF p i R L P m S rows ls) (f : Fr [i] S S') (h : DiceAt S' i) : LF p i R L P m S' rows ls := by
  obtain ⟨di, fp, fr, fl, lt, ne, pb⟩ := a
  have := f.1
  exact ⟨h, f.at lt.2.2.2 (by simp; omega) fp, f.at lt.2.1 (by simp; omega) fr, f.at lt.2.2.1 (by simp; omega) fl, by omega, ne, pb⟩
theorem LF.al (a : LF p i R L P m S rows ls) {x : MO} : LF p i R L P m (S.alloc x) rows ls := a.mv Fr.alloc (dice_alloc a.di a.lt.1)
theorem LF.roll (a : LF p i R L P m S rows ls) {many : Int} (h1 : 0 < many) (h2 : many ≤ 100000000) : ∃ r S', 0 ≤ r ∧ r < many ∧ f__law_roll [.adr i, .int many] S = .ok (.int r) S' ∧ LF p i R L P m S' rows ls ∧ Fr [i] S S' := by
  obtain ⟨r, x, r0, r1, e, d1⟩ := roll_at a.di h1 h2
  exact ⟨r, _, r0, r1, e, a.mv (Fr.put (by simp)) d1, Fr.put (by simp)⟩
theorem LF.row (a : LF p i R L P m S rows ls) {r : List Nat × Int} : LF p i R L P m (S.put R (.lst ((rows ++ [r]).map rowN))) (rows ++ [r]) ls := by
  obtain ⟨di, fp, fr, fl, lt, ne, pb⟩ := a
  exact ⟨dice_put di ne.1, at_put_ne fp (Ne.symm ne.2.2.2.2.1), at_put, at_put_ne fl (Ne.symm ne.2.2.2.1), lt, ne, pb⟩
theorem LF.line (a : LF p i R L P m S rows ls) {l : List Nat} : LF p i R L P m (S.put L (.lst ((ls ++ [l]).map strL))) rows (ls ++ [l]) := by
  obtain ⟨di, fp, fr, fl, lt, ne, pb⟩ := a
  exact ⟨dice_put di ne.2.1, at_put_ne fp (Ne.symm ne.2.2.2.2.2), at_put_ne fr ne.2.2.2.1, at_put, lt, ne, pb⟩
abbrev EV (x0 : Option D) (i d c : Nat) (x4 : Option D) (m R L P : Nat) (x9 x10 x11 x12 x13 x14 x15 : Option D) (t : Gm) : Gm := x0 :: some (.adr i) :: some (.int (d : Int)) :: some (.int (c : Int)) :: x4 :: some (.int (m : Int)) :: some (.adr R) :: some (.adr L) :: some (.adr P) :: x9 :: x10 :: x11 :: x12 :: x13 :: x14 :: x15 :: t
theorem l115 (a : LF p i R L P m S rows ls) : ∃ w S', w ∈ INS ∧ b_law_s115 (EV x0 i d c x4 m R L P x9 x10 x11 x12 x13 x14 x15 t) S = .nx (EV x0 i d c x4 m R L P x9 (some (strL w)) x11 x12 x13 x14 x15 t) S' ∧ LF p i R L P m S' rows ls ∧ Fr [i] S S' := by
  obtain ⟨r, S', r0, r1, e, a', f⟩ := a.roll (many := 16) (by decide) (by decide)
  have hl : INS.length = 16 := rfl
  have hr : r.toNat < INS.length := by omega
  have ex : dIx K_INSTRUCTIONS (.int r) S' = .ok (strL INS[r.toNat]) S' := by
    rw [k_ins]
    refine ixK r0 ?_
    rw [List.getElem?_map, List.getElem?_eq_getElem hr]
    rfl
  refine ⟨INS[r.toNat], S', List.getElem_mem hr, ?_, a', f⟩
  simp (decide := true) [b_law_s115, mSeq, mPass, mBrk, mCnt, mDrop, mRet, mRetN, mIfS, mRaise, mSet, mAsg, mPar, mPar3, mAug, mFld, mFldAug, gNm, gSub', gFld, gNl, gCn, gTp, setA, putFD, mVar, mC, mB, mU, mTB, mAnd, mOr, mNot, mIf, mAndV, mOrV, mNotV, mChain, mNil, mCons, mTup, mLst, mSl, oNo, oE, mCB, fAbs, fMax2, fMin2, fInt, lenD, fLen, fTuple, fList, itemsD, fIsi, tyD, mAttr, mCall, mMeth, mMake, mBM, tyF, SM.bind, SM.pure, toRS, toRSA, toRST, Y.sb, List.lookup, put_f, put_n, alloc_f, alloc_n, put_put, alloc_put, okI, okB, orF, dSub, dFdiv, dMod, dPow, dShl, dShr, dAnd, dOr, dXor, dNeg, dLt, dLe, dGt, dGe, dIs, e, ex]
abbrev eN : ME := mB dAdd (mB dAdd (mC (.str "x")) (mCB fStr (mCons (mVar 13) mNil))) (mC (.str ": "))
abbrev eT : MT := mTB (mB dEq (mB dIx (mVar 8) (mVar 13)) (mVar 9))
theorem n_step {D0 idx r : Nat} {acc : List (List Nat)} {sr : Src} {g0 g : Gm} {K : Int} (h3 : idx < 3) (hS : S.f D0 = some (.lst (acc.map strL))) (hl : acc.length < 3) (hn : D0 ≠ P) (fp : S.f P = some (.lst [.int (p 0), .int (p 1), .int (p 2)])) (hsr : sr.nxt idx S = some (some (.int (idx : Int)))) (ht : (Tg.nm 13).put (.int (idx : Int)) g0 = some g) (h8 : g[8]? = some (some (.adr P))) (h9 : g[9]? = some (some (.int K))) (h13 : g[13]? = some (some (.int (idx : Int)))) :
    ∃ acc', lcG sr (.nm 13) eT eN g0 D0 (r + 1) idx S = lcG sr (.nm 13) eT eN g0 D0 r (idx + 1) (S.put D0 (.lst (acc'.map strL))) ∧ acc' = acc ++ (if p idx = K then [xj idx ++ [58, 32]] else []) := by
  have ix : dIx (.adr P) (.int (idx : Int)) S = .ok (.int (p idx)) S := by
    refine ixL fp (by omega) ?_
    have : idx = 0 ∨ idx = 1 ∨ idx = 2 := by omega
    rcases this with rfl | rfl | rfl <;> rfl
  have et : eT g S = .ok (decide (p idx = K)) S := by
    simp [eT, mTB, mB, mVar, SM.bind, SM.pure, h8, h9, h13, ix, ev_eqI]
  by_cases z : p idx = K
  · refine ⟨acc ++ [xj idx ++ [58, 32]], ?_, by rw [if_pos z]⟩
    have w1 : Str.ofString "x" = sg [120] := by rw [sg_str]; decide +kernel
    have w2 : Str.ofString ": " = sg [58, 32] := by rw [sg_str]; decide +kernel
    have nl : numL idx = [48 + idx] := numL_lt (by omega)
    have fs := fStr_n (n := idx) (S := S) (by omega)
    rw [nl] at fs
    have a1 : dAdd (strL [120]) (strL [48 + idx]) S = .ok (strL ([120] ++ [48 + idx])) S := addT (by simp)
    have a2 : dAdd (strL ([120] ++ [48 + idx])) (strL [58, 32]) S = .ok (strL ([120] ++ [48 + idx] ++ [58, 32])) S := addT (by simp)
    have ee : eN g S = .ok (strL (xj idx ++ [58, 32])) S := by
      simp only [eN, mB, mC, mCB, mCons, mVar, mNil, SM.bind, SM.pure, h13, w1, w2, fs, a1, a2]
      rfl
    rw [decide_eq_true z] at et
    rw [lc_nx hsr ht et ee hS (by rw [List.length_map, sizeLine_eq]; omega), List.map_append]
    rfl
  · refine ⟨acc, ?_, by rw [if_neg z, List.append_nil]⟩
    rw [decide_eq_false z] at et
    rw [lc_skip hsr ht et, put_same hS]
theorem l116 {K : Int} (a : LF p i R L P m S rows ls) : ∃ S', b_law_s116 (EV x0 i d c x4 m R L P (some (.int K)) x10 x11 x12 x13 x14 x15 t) S = .nx (EV x0 i d c x4 m R L P (some (.int K)) x10 (some (strL (nmsL (nsP p K)))) x12 x13 x14 x15 t) S' ∧ LF p i R L P m S' rows ls ∧ Fr [i] S S' := by
  have ltP := a.lt.2.2.2
  let g : Gm := EV x0 i d c x4 m R L P (some (.int K)) x10 x11 x12 x13 x14 x15 t
  let g0 : Gm := wipeD g [13]
  have nx : ∀ (idx : Nat) (S : Sr), idx < 3 → (sqr 0 1 3).nxt idx S = some (some (.int (idx : Int))) := fun idx S h => by
    simp [sqr, h]
  have tg : ∀ idx : Int, (Tg.nm 13).put (.int idx) g0 = some (EV x0 i d c x4 m R L P (some (.int K)) x10 x11 x12 (some (.int idx)) x14 x15 t) := fun idx => rfl
  have fp := a.fp
  have hn : S.n ≠ P := by omega
  have q0 : (S.alloc (.lst (([] : List (List Nat)).map strL))).f P = some (.lst [.int (p 0), .int (p 1), .int (p 2)]) := at_old fp ltP
  obtain ⟨a0, e0, r0⟩ := n_step (p := p) (P := P) (K := K) (D0 := S.n) (idx := 0) (r := 2) (acc := []) (g0 := g0) (S := S.alloc (.lst (([] : List (List Nat)).map strL))) (by omega) at_new (by simp) hn q0 (nx 0 _ (by omega)) (tg _) rfl rfl rfl
  obtain ⟨a1, e1, r1⟩ := n_step (p := p) (P := P) (K := K) (D0 := S.n) (idx := 1) (r := 1) (acc := a0) (g0 := g0) (S := (S.alloc (.lst (([] : List (List Nat)).map strL))).put S.n (.lst (a0.map strL))) (by omega) at_put (by rw [r0]; split <;> simp) hn (at_put_ne q0 (Ne.symm hn)) (nx 1 _ (by omega)) (tg _) rfl rfl rfl
  rw [put_put] at e1
  obtain ⟨a2, e2, r2⟩ := n_step (p := p) (P := P) (K := K) (D0 := S.n) (idx := 2) (r := 0) (acc := a1) (g0 := g0) (S := (S.alloc (.lst (([] : List (List Nat)).map strL))).put S.n (.lst (a1.map strL))) (by omega) at_put (by rw [r1, r0]; split <;> split <;> simp) hn (at_put_ne q0 (Ne.symm hn)) (nx 2 _ (by omega)) (tg _) rfl rfl rfl
  rw [put_put] at e2
  have e4 : lcG (sqr 0 1 3) (.nm 13) eT eN g0 S.n 3 0 (S.alloc (.lst (([] : List (List Nat)).map strL))) = .ok () ((S.alloc (.lst (([] : List (List Nat)).map strL))).put S.n (.lst (a2.map strL))) := by
    rw [e0, e1, e2]
    refine lc_end ?_
    simp [sqr]
  have er : mRng1 (mCons (mC (.int 3)) mNil) g S = .ok (sqr 0 1 3) S := by
    simp (decide := true) [mRng1, mSeq, mPass, mBrk, mCnt, mDrop, mRet, mRetN, mIfS, mRaise, mSet, mAsg, mPar, mPar3, mAug, mFld, mFldAug, gNm, gSub', gFld, gNl, gCn, gTp, setA, putFD, mVar, mC, mB, mU, mTB, mAnd, mOr, mNot, mIf, mAndV, mOrV, mNotV, mChain, mNil, mCons, mTup, mLst, mSl, oNo, oE, mCB, fAbs, fMax2, fMin2, fInt, lenD, fLen, fTuple, fList, itemsD, fIsi, tyD, mAttr, mCall, mMeth, mMake, mBM, tyF, SM.bind, SM.pure, toRS, toRSA, toRST, Y.sb, List.lookup, put_f, put_n, alloc_f, alloc_n, put_put, alloc_put, okI, okB, orF, dSub, dFdiv, dMod, dPow, dShl, dShr, dAnd, dOr, dXor, dNeg, dLt, dLe, dGt, dGe, dIs]
  have e5 : mLc (mRng1 (mCons (mC (.int 3)) mNil)) (.nm 13) eT eN [13] g S = .ok (.adr S.n) ((S.alloc (.lst (([] : List (List Nat)).map strL))).put S.n (.lst (a2.map strL))) := mLc_ok er e4
  have ea : a2 = (nsP p K).map (· ++ [58, 32]) := by
    rw [r2, r1, r0]
    unfold nsP
    by_cases b0 : p 0 = K <;> by_cases b1 : p 1 = K <;> by_cases b2 : p 2 = K <;> simp [b0, b1, b2]
  have fr : Fr [i] S ((S.alloc (.lst (([] : List (List Nat)).map strL))).put S.n (.lst (a2.map strL))) := Fr.putNew Fr.alloc (Nat.le_refl _)
  refine ⟨_, ?_, a.mv fr (dice_put (dice_alloc a.di a.lt.1) (Nat.ne_of_lt a.lt.1)), fr⟩
  have ew : Str.ofString "" = sg [] := by rw [sg_str]; decide +kernel
  have ej : Txt.join (sg []) (a2.map sg) = sg (nmsL (nsP p K)) := by
    refine ext_tl ?_
    rw [join_eq, tl_join, map_tl_sg, tl_sg, joinL_nil, ea]
    rfl
  have sz : ((a2.map sg).map (·.length)).sum + (a2.map sg).length * (sg []).length ≤ 16777216 := by
    have h1 := sum_le (l := a2) (B := 10) (fun x hx => by
      rw [ea] at hx
      obtain ⟨n, hn, rfl⟩ := List.mem_map.mp hx
      obtain ⟨j, _, _, rfl⟩ := nsP_mem hn
      simp [xj])
    have h2 : a2.length ≤ 3 := by rw [ea, List.length_map]; exact nsP_len
    rw [sg_len, List.length_nil, Nat.mul_zero]
    omega
  have esm := strs_of_map a2
  have at' : ((S.alloc (.lst (([] : List (List Nat)).map strL))).put S.n (.lst (a2.map strL))).f S.n = some (.lst (a2.map strL)) := at_put
  have e6 : b_law_s116 g S = .nx (EV x0 i d c x4 m R L P (some (.int K)) x10 (some (strL (nmsL (nsP p K)))) x12 x13 x14 x15 t) ((S.alloc (.lst (([] : List (List Nat)).map strL))).put S.n (.lst (a2.map strL))) := by
    simp (decide := true) only [b_law_s116, mSet, mBM, mC, mCons, mNil, SM.bind, SM.pure, e5, tyF, fJoin, Y.joinL, at', esm, ew, ej, sz, if_true, toRS]
    rfl
  exact e6
end
end K11

set_option Elab.async false
set_option linter.all false
set_option maxRecDepth 100000
set_option maxHeartbeats 4000000
namespace K11
open PySem PySem.Spec PyProof.Rows L2 Y TL
def Blk (bl : List Nat) : Prop := bl = [] ∨ bl = [32, 32] ∨ bl = NOTE ++ [10]
section
variable {p : Nat → Int} {i R L P m k d c : Nat} {S S' : Sr} {rows : List (List Nat × Int)} {ls : List (List Nat)} {w nm bl : List Nat} {x0 x4 x9 x10 x11 x12 x13 x14 x15 : Option D} {t : Gm}
theorem l117 (a : LF p i R L P m S rows ls) : ∃ bl S', Blk bl ∧ b_law_s117 (EV x0 i d c x4 m R L P x9 x10 x11 x12 x13 x14 x15 t) S = .nx (EV x0 i d c x4 m R L P x9 x10 x11 (some (strL bl)) x13 x14 x15 t) S' ∧ LF p i R L P m S' rows ls ∧ Fr [i] S S' := by
  have sz3 : 3 ≤ sizeLine := by rw [sizeLine_eq]; omega
  have w1 : Str.ofString "" = sg [] := by rw [sg_str]; decide +kernel
  have w2 : Str.ofString "  " = sg [32, 32] := by rw [sg_str]; decide +kernel
  have w3 : Str.ofString "// note\n" = sg (NOTE ++ [10]) := by rw [sg_str]; decide +kernel
  let l3 : List D := [strL [], strL [32, 32], strL (NOTE ++ [10])]
  obtain ⟨r, S', r0, r1, e, a', f⟩ := (a.al (x := .lst l3)).roll (many := 3) (by decide) (by decide)
  have hS : S'.f S.n = some (.lst l3) := f.at (Nat.lt_succ_self _) (by have := a.lt.1; simp; omega) at_new
  have hb : ∃ bl, l3[r.toNat]? = some (strL bl) ∧ Blk bl := by
    have : r = 0 ∨ r = 1 ∨ r = 2 := by omega
    rcases this with rfl | rfl | rfl
    · exact ⟨_, rfl, .inl rfl⟩
    · exact ⟨_, rfl, .inr (.inl rfl)⟩
    · exact ⟨_, rfl, .inr (.inr rfl)⟩
  obtain ⟨bl, eb, hb⟩ := hb
  have ex : dIx (.adr S.n) (.int r) S' = .ok (strL bl) S' := ixL hS r0 eb
  refine ⟨bl, S', hb, ?_, a', Fr.alloc.trans f⟩
  have el : [D.str (Str.ofString ""), D.str (Str.ofString "  "), D.str (Str.ofString "// note\n")] = l3 := by rw [w1, w2, w3]
  have hl3 : l3.length ≤ sizeLine := sz3
  simp (decide := true) [b_law_s117, mSeq, mPass, mBrk, mCnt, mDrop, mRet, mRetN, mIfS, mRaise, mSet, mAsg, mPar, mPar3, mAug, mFld, mFldAug, gNm, gSub', gFld, gNl, gCn, gTp, setA, putFD, mVar, mC, mB, mU, mTB, mAnd, mOr, mNot, mIf, mAndV, mOrV, mNotV, mChain, mNil, mCons, mTup, mLst, mSl, oNo, oE, mCB, fAbs, fMax2, fMin2, fInt, lenD, fLen, fTuple, fList, itemsD, fIsi, tyD, mAttr, mCall, mMeth, mMake, mBM, tyF, SM.bind, SM.pure, toRS, toRSA, toRST, Y.sb, List.lookup, put_f, put_n, alloc_f, alloc_n, put_put, alloc_put, okI, okB, orF, dSub, dFdiv, dMod, dPow, dShl, dShr, dAnd, dOr, dXor, dNeg, dLt, dLe, dGt, dGe, dIs, el, hl3, e, ex]
theorem bl_len (h : Blk bl) : bl.length ≤ 8 := by rcases h with rfl | rfl | rfl <;> simp [NOTE]
theorem app_row {r : List Nat × Int} (a : LF p i R L P m S rows ls) (h : rows.length ≤ 100) : fApp (.adr R) [rowN r] S = .ok .non (S.put R (.lst ((rows ++ [r]).map rowN))) := by
  have h1 := a.fr
  have sz : (rows.map rowN).length < sizeLine := by rw [List.length_map, sizeLine_eq]; omega
  unfold fApp
  simp only [h1]
  rw [if_pos sz, List.map_append]
  rfl
theorem app_line {l : List Nat} (a : LF p i R L P m S rows ls) (h : ls.length ≤ 100) : fApp (.adr L) [strL l] S = .ok .non (S.put L (.lst ((ls ++ [l]).map strL))) := by
  have h1 := a.fl
  have sz : (ls.map strL).length < sizeLine := by rw [List.length_map, sizeLine_eq]; omega
  unfold fApp
  simp only [h1]
  rw [if_pos sz, List.map_append]
  rfl
theorem l119 (a : LF p i R L P m S rows ls) (h : rows.length ≤ 100) : b_law_s119 (EV x0 i d c x4 m R L P x9 (some (strL w)) x11 x12 x13 x14 x15 t) S = .nx (EV x0 i d c x4 m R L P x9 (some (strL w)) x11 x12 x13 x14 x15 t) (S.put R (.lst ((rows ++ [(w, 0)]).map rowN))) := by
  have sz2 : 2 ≤ sizeLine := by rw [sizeLine_eq]; omega
  have e := app_row (r := (w, 0)) a h
  have e : fApp (.adr R) [.tup [strL w, .int 0]] S = .ok .non (S.put R (.lst ((rows ++ [(w, 0)]).map rowN))) := e
  simp (decide := true) [b_law_s119, mSeq, mPass, mBrk, mCnt, mDrop, mRet, mRetN, mIfS, mRaise, mSet, mAsg, mPar, mPar3, mAug, mFld, mFldAug, gNm, gSub', gFld, gNl, gCn, gTp, setA, putFD, mVar, mC, mB, mU, mTB, mAnd, mOr, mNot, mIf, mAndV, mOrV, mNotV, mChain, mNil, mCons, mTup, mLst, mSl, oNo, oE, mCB, fAbs, fMax2, fMin2, fInt, lenD, fLen, fTuple, fList, itemsD, fIsi, tyD, mAttr, mCall, mMeth, mMake, mBM, tyF, SM.bind, SM.pure, toRS, toRSA, toRST, Y.sb, List.lookup, put_f, put_n, alloc_f, alloc_n, put_put, alloc_put, okI, okB, orF, dSub, dFdiv, dMod, dPow, dShl, dShr, dAnd, dOr, dXor, dNeg, dLt, dLe, dGt, dGe, dIs, mBM, tyF, sz2, e, a.fr]
theorem l120 (a : LF p i R L P m S rows ls) (h : ls.length ≤ 100) (hb : Blk bl) (hn : nm.length ≤ 12) (hw : w.length ≤ 5) : ∃ tl S', (tl = [] ∨ tl = [32, 47, 47, 32, 120]) ∧ b_law_s120 (EV x0 i d c x4 m R L P x9 (some (strL w)) (some (strL nm)) (some (strL bl)) x13 x14 x15 t) S = .nx (EV x0 i d c x4 m R L P x9 (some (strL w)) (some (strL nm)) (some (strL bl)) x13 x14 x15 t) S' ∧ LF p i R L P m S' rows (ls ++ [bl ++ nm ++ w ++ tl]) ∧ Fr [i, L] S S' := by
  have sz2 : 2 ≤ sizeLine := by rw [sizeLine_eq]; omega
  have w1 : Str.ofString "" = sg [] := by rw [sg_str]; decide +kernel
  have w2 : Str.ofString " // x" = sg [32, 47, 47, 32, 120] := by rw [sg_str]; decide +kernel
  let l2 : List D := [strL [], strL [32, 47, 47, 32, 120]]
  obtain ⟨r, S', r0, r1, e, a', f⟩ := (a.al (x := .lst l2)).roll (many := 2) (by decide) (by decide)
  have hS : S'.f S.n = some (.lst l2) := f.at (Nat.lt_succ_self _) (by have := a.lt.1; simp; omega) at_new
  have ht : ∃ tl, l2[r.toNat]? = some (strL tl) ∧ (tl = [] ∨ tl = [32, 47, 47, 32, 120]) := by
    have : r = 0 ∨ r = 1 := by omega
    rcases this with rfl | rfl
    · exact ⟨_, rfl, .inl rfl⟩
    · exact ⟨_, rfl, .inr rfl⟩
  obtain ⟨tl, et, ht⟩ := ht
  have ex : dIx (.adr S.n) (.int r) S' = .ok (strL tl) S' := ixL hS r0 et
  have lb := bl_len hb
  have lt : tl.length ≤ 5 := by rcases ht with rfl | rfl <;> simp
  have b1 : dAdd (strL bl) (strL nm) S = .ok (strL (bl ++ nm)) S := addT (by omega)
  have b2 : dAdd (strL (bl ++ nm)) (strL w) S = .ok (strL (bl ++ nm ++ w)) S := addT (by rw [List.length_append]; omega)
  have b3 : dAdd (strL (bl ++ nm ++ w)) (strL tl) S' = .ok (strL (bl ++ nm ++ w ++ tl)) S' := addT (by rw [List.length_append, List.length_append]; omega)
  have ap := app_line (l := bl ++ nm ++ w ++ tl) a' h
  refine ⟨tl, _, ht, ?_, a'.line, (Fr.alloc.trans (f.weak (by simp))).trans (Fr.put (by simp))⟩
  have el : [D.str (Str.ofString ""), D.str (Str.ofString " // x")] = l2 := by rw [w1, w2]
  have fl := a.fl
  have fl' := a'.fl
  have hl2 : l2.length ≤ sizeLine := sz2
  simp (decide := true) only [b_law_s120, hl2, List.append_nil, mDrop, mBM, mB, mVar, mC, mCons, mNil, mLst, mCall, SM.bind, SM.pure, EV, List.getElem?_cons_succ, List.getElem?_cons_zero, b1, b2, el, List.length_cons, List.length_nil, sz2, if_true, alloc_n, e, ex, b3, tyF, fl, fl', ap, toRS]
end
end K11

set_option Elab.async false
set_option linter.all false
set_option maxRecDepth 100000
set_option maxHeartbeats 4000000
namespace K11
open PySem PySem.Spec PyProof.Rows L2 Y TL
section
variable {p : Nat → Int} {i R L P m k d c : Nat} {S S' : Sr} {rows : List (List Nat × Int)} {ls : List (List Nat)} {w nm bl : List Nat} {x0 x4 x9 x10 x11 x12 x13 x14 x15 : Option D} {t : Gm}
theorem l122 (a : LF p i R L P m S rows ls) (hm : m ≤ 20) : ∃ (j n : Nat) (S' : Sr), j < 3 ∧ n ≤ m ∧ b_law_s122 (EV x0 i d c x4 m R L P x9 x10 x11 x12 x13 x14 x15 t) S = .nx (EV x0 i d c x4 m R L P x9 x10 x11 x12 (some (.int (j : Int))) (some (.int (n : Int))) x15 t) S' ∧ LF p i R L P m S' rows ls ∧ Fr [i] S S' := by
  obtain ⟨r1, S1, a0, a1, e1, l1, f1⟩ := a.roll (many := 3) (by decide) (by decide)
  obtain ⟨r2, S2, b0, b1, e2, l2, f2⟩ := l1.roll (many := (m : Int) + 1) (by omega) (by omega)
  refine ⟨r1.toNat, r2.toNat, S2, by omega, by omega, ?_, l2, f1.trans f2⟩
  rw [Int.toNat_of_nonneg a0, Int.toNat_of_nonneg b0]
  have sz2 : 2 ≤ sizeLine := by rw [sizeLine_eq]; omega
  simp (decide := true) [b_law_s122, mSeq, mPass, mBrk, mCnt, mDrop, mRet, mRetN, mIfS, mRaise, mSet, mAsg, mPar, mPar3, mAug, mFld, mFldAug, gNm, gSub', gFld, gNl, gCn, gTp, setA, putFD, mVar, mC, mB, mU, mTB, mAnd, mOr, mNot, mIf, mAndV, mOrV, mNotV, mChain, mNil, mCons, mTup, mLst, mSl, oNo, oE, mCB, fAbs, fMax2, fMin2, fInt, lenD, fLen, fTuple, fList, itemsD, fIsi, tyD, mAttr, mCall, mMeth, mMake, mBM, tyF, SM.bind, SM.pure, toRS, toRSA, toRST, Y.sb, List.lookup, put_f, put_n, alloc_f, alloc_n, put_put, alloc_put, okI, okB, orF, dSub, dFdiv, dMod, dPow, dShl, dShr, dAnd, dOr, dXor, dNeg, dLt, dLe, dGt, dGe, dIs, e1, e2, dAdd, sz2]
theorem l123 (a : LF p i R L P m S rows ls) : ∃ (b : Bool) (S' : Sr), b_law_s123 (EV x0 i d c x4 m R L P x9 x10 x11 x12 x13 x14 x15 t) S = .nx (EV x0 i d c x4 m R L P x9 x10 x11 x12 x13 x14 (some (.bl b)) t) S' ∧ LF p i R L P m S' rows ls ∧ Fr [i] S S' := by
  obtain ⟨r1, S1, a0, a1, e1, l1, f1⟩ := a.roll (many := 2) (by decide) (by decide)
  refine ⟨decide (r1 = 0), S1, ?_, l1, f1⟩
  simp (decide := true) [b_law_s123, mSeq, mPass, mBrk, mCnt, mDrop, mRet, mRetN, mIfS, mRaise, mSet, mAsg, mPar, mPar3, mAug, mFld, mFldAug, gNm, gSub', gFld, gNl, gCn, gTp, setA, putFD, mVar, mC, mB, mU, mTB, mAnd, mOr, mNot, mIf, mAndV, mOrV, mNotV, mChain, mNil, mCons, mTup, mLst, mSl, oNo, oE, mCB, fAbs, fMax2, fMin2, fInt, lenD, fLen, fTuple, fList, itemsD, fIsi, tyD, mAttr, mCall, mMeth, mMake, mBM, tyF, SM.bind, SM.pure, toRS, toRSA, toRST, Y.sb, List.lookup, put_f, put_n, alloc_f, alloc_n, put_put, alloc_put, okI, okB, orF, dSub, dFdiv, dMod, dPow, dShl, dShr, dAnd, dOr, dXor, dNeg, dLt, dLe, dGt, dGe, dIs, e1, ev_eqI]
theorem l124 {j n : Nat} {b : Bool} (a : LF p i R L P m S rows ls) (h : rows.length ≤ 100) (hj : j < 3) : b_law_s124 (EV x0 i d c x4 m R L P x9 (some (strL w)) x11 x12 (some (.int (j : Int))) (some (.int (n : Int))) (some (.bl b)) t) S = .nx (EV x0 i d c x4 m R L P x9 (some (strL w)) x11 x12 (some (.int (j : Int))) (some (.int (n : Int))) (some (.bl b)) t) (S.put R (.lst ((rows ++ [(w, if b = true then p j else (n : Int))]).map rowN))) := by
  have sz2 : 2 ≤ sizeLine := by rw [sizeLine_eq]; omega
  have ix : dIx (.adr P) (.int (j : Int)) S = .ok (.int (p j)) S := by
    refine ixL a.fp (by omega) ?_
    have : j = 0 ∨ j = 1 ∨ j = 2 := by omega
    rcases this with rfl | rfl | rfl <;> rfl
  cases b with
  | true =>
    have e := app_row (r := (w, p j)) a h
    have e : fApp (.adr R) [.tup [strL w, .int (p j)]] S = .ok .non (S.put R (.lst ((rows ++ [(w, p j)]).map rowN))) := e
    simp (decide := true) [b_law_s124, mSeq, mPass, mBrk, mCnt, mDrop, mRet, mRetN, mIfS, mRaise, mSet, mAsg, mPar, mPar3, mAug, mFld, mFldAug, gNm, gSub', gFld, gNl, gCn, gTp, setA, putFD, mVar, mC, mB, mU, mTB, mAnd, mOr, mNot, mIf, mAndV, mOrV, mNotV, mChain, mNil, mCons, mTup, mLst, mSl, oNo, oE, mCB, fAbs, fMax2, fMin2, fInt, lenD, fLen, fTuple, fList, itemsD, fIsi, tyD, mAttr, mCall, mMeth, mMake, mBM, tyF, SM.bind, SM.pure, toRS, toRSA, toRST, Y.sb, List.lookup, put_f, put_n, alloc_f, alloc_n, put_put, alloc_put, okI, okB, orF, dSub, dFdiv, dMod, dPow, dShl, dShr, dAnd, dOr, dXor, dNeg, dLt, dLe, dGt, dGe, dIs, mBM, tyF, sz2, e, a.fr, ix]
  | false =>
    have e := app_row (r := (w, (n : Int))) a h
    have e : fApp (.adr R) [.tup [strL w, .int (n : Int)]] S = .ok .non (S.put R (.lst ((rows ++ [(w, (n : Int))]).map rowN))) := e
    simp (decide := true) [b_law_s124, mSeq, mPass, mBrk, mCnt, mDrop, mRet, mRetN, mIfS, mRaise, mSet, mAsg, mPar, mPar3, mAug, mFld, mFldAug, gNm, gSub', gFld, gNl, gCn, gTp, setA, putFD, mVar, mC, mB, mU, mTB, mAnd, mOr, mNot, mIf, mAndV, mOrV, mNotV, mChain, mNil, mCons, mTup, mLst, mSl, oNo, oE, mCB, fAbs, fMax2, fMin2, fInt, lenD, fLen, fTuple, fList, itemsD, fIsi, tyD, mAttr, mCall, mMeth, mMake, mBM, tyF, SM.bind, SM.pure, toRS, toRSA, toRST, Y.sb, List.lookup, put_f, put_n, alloc_f, alloc_n, put_put, alloc_put, okI, okB, orF, dSub, dFdiv, dMod, dPow, dShl, dShr, dAnd, dOr, dXor, dNeg, dLt, dLe, dGt, dGe, dIs, mBM, tyF, sz2, e, a.fr, ix]
theorem l125 {j n : Nat} {b : Bool} (a : LF p i R L P m S rows ls) (h : ls.length ≤ 100) (hb : Blk bl) (hn : nm.length ≤ 12) (hw : w.length ≤ 5) (hj : j < 3) (hm : n < 1000) : b_law_s125 (EV x0 i d c x4 m R L P x9 (some (strL w)) (some (strL nm)) (some (strL bl)) (some (.int (j : Int))) (some (.int (n : Int))) (some (.bl b)) t) S = .nx (EV x0 i d c x4 m R L P x9 (some (strL w)) (some (strL nm)) (some (strL bl)) (some (.int (j : Int))) (some (.int (n : Int))) (some (.bl b)) t) (S.put L (.lst ((ls ++ [bl ++ nm ++ w ++ [32, 32] ++ (if b = true then xj j else numL n)]).map strL))) := by
  have lb := bl_len hb
  have w1 : Str.ofString "  " = sg [32, 32] := by rw [sg_str]; decide +kernel
  have w2 : Str.ofString "x" = sg [120] := by rw [sg_str]; decide +kernel
  have nl : numL j = [48 + j] := numL_lt (by omega)
  have fj := fStr_n (n := j) (S := S) (by omega)
  rw [nl] at fj
  have fn := fStr_n (n := n) (S := S) (by omega)
  have ln := numL_len (n := n) (k := 3) (by omega) (by omega)
  have b1 : dAdd (strL bl) (strL nm) S = .ok (strL (bl ++ nm)) S := addT (by omega)
  have b2 : dAdd (strL (bl ++ nm)) (strL w) S = .ok (strL (bl ++ nm ++ w)) S := addT (by rw [List.length_append]; omega)
  have b3 : dAdd (strL (bl ++ nm ++ w)) (strL [32, 32]) S = .ok (strL (bl ++ nm ++ w ++ [32, 32])) S := addT (by rw [List.length_append, List.length_append]; simp; omega)
  have b4 : dAdd (strL [120]) (strL [48 + j]) S = .ok (strL (xj j)) S := addT (by simp)
  have fl := a.fl
  cases b with
  | true =>
    have b5 : dAdd (strL (bl ++ nm ++ w ++ [32, 32])) (strL (xj j)) S = .ok (strL (bl ++ nm ++ w ++ [32, 32] ++ xj j)) S := addT (by rw [List.length_append, List.length_append, List.length_append]; simp [xj]; omega)
    have ap := app_line (l := bl ++ nm ++ w ++ [32, 32] ++ xj j) a h
    simp (decide := true) only [b_law_s125, mDrop, mBM, mB, mVar, mC, mCons, mNil, mCB, mIf, mTB, SM.bind, SM.pure, EV, List.getElem?_cons_succ, List.getElem?_cons_zero, w1, w2, b1, b2, b3, b4, b5, fj, fn, if_true, tyF, fl, ap, toRS]
  | false =>
    have b5 : dAdd (strL (bl ++ nm ++ w ++ [32, 32])) (strL (numL n)) S = .ok (strL (bl ++ nm ++ w ++ [32, 32] ++ numL n)) S := addT (by rw [List.length_append, List.length_append, List.length_append]; simp; omega)
    have ap := app_line (l := bl ++ nm ++ w ++ [32, 32] ++ numL n) a h
    simp (decide := true) only [b_law_s125, mDrop, mBM, mB, mVar, mC, mCons, mNil, mCB, mIf, mTB, SM.bind, SM.pure, EV, List.getElem?_cons_succ, List.getElem?_cons_zero, w1, w2, b1, b2, b3, b4, b5, fj, fn, if_true, if_false, Bool.false_eq_true, tyF, fl, ap, toRS]
theorem l127 (a : LF p i R L P m S rows ls) (hd : d ≤ 8) : ∃ (n : Nat) (S' : Sr), n < 2 ^ d ∧ b_law_s127 (EV x0 i d c x4 m R L P x9 x10 x11 x12 x13 x14 x15 t) S = .nx (EV x0 i d c x4 m R L P x9 x10 x11 x12 x13 (some (.int (n : Int))) x15 t) S' ∧ LF p i R L P m S' rows ls ∧ Fr [i] S S' := by
  have p8 : (2 : Int) ^ d ≤ 256 := by exact_mod_cast (Nat.pow_le_pow_right (n := 2) (by decide) hd)
  have pp : 0 < (2 : Int) ^ d := by exact_mod_cast Nat.pow_pos (n := d) (show 0 < 2 by decide)
  have pw := powS d hd
  obtain ⟨r2, S2, b0, b1, e2, l2, f2⟩ := a.roll (many := 2 ^ d) pp (by omega)
  refine ⟨r2.toNat, S2, ?_, ?_, l2, f2⟩
  · have : ((2 ^ d : Nat) : Int) = 2 ^ d := by push_cast; rfl
    omega
  · rw [Int.toNat_of_nonneg b0]
    simp (decide := true) [b_law_s127, mSeq, mPass, mBrk, mCnt, mDrop, mRet, mRetN, mIfS, mRaise, mSet, mAsg, mPar, mPar3, mAug, mFld, mFldAug, gNm, gSub', gFld, gNl, gCn, gTp, setA, putFD, mVar, mC, mB, mU, mTB, mAnd, mOr, mNot, mIf, mAndV, mOrV, mNotV, mChain, mNil, mCons, mTup, mLst, mSl, oNo, oE, mCB, fAbs, fMax2, fMin2, fInt, lenD, fLen, fTuple, fList, itemsD, fIsi, tyD, mAttr, mCall, mMeth, mMake, mBM, tyF, SM.bind, SM.pure, toRS, toRSA, toRST, Y.sb, List.lookup, put_f, put_n, alloc_f, alloc_n, put_put, alloc_put, okI, okB, orF, dSub, dFdiv, dMod, dPow, dShl, dShr, dAnd, dOr, dXor, dNeg, dLt, dLe, dGt, dGe, dIs, e2, pw]
theorem l128 {n : Nat} (a : LF p i R L P m S rows ls) (h : rows.length ≤ 100) : b_law_s128 (EV x0 i d c x4 m R L P x9 (some (strL w)) x11 x12 x13 (some (.int (n : Int))) x15 t) S = .nx (EV x0 i d c x4 m R L P x9 (some (strL w)) x11 x12 x13 (some (.int (n : Int))) x15 t) (S.put R (.lst ((rows ++ [(w, (n : Int))]).map rowN))) := by
  have sz2 : 2 ≤ sizeLine := by rw [sizeLine_eq]; omega
  have e := app_row (r := (w, (n : Int))) a h
  have e : fApp (.adr R) [.tup [strL w, .int (n : Int)]] S = .ok .non (S.put R (.lst ((rows ++ [(w, (n : Int))]).map rowN))) := e
  simp (decide := true) [b_law_s128, mSeq, mPass, mBrk, mCnt, mDrop, mRet, mRetN, mIfS, mRaise, mSet, mAsg, mPar, mPar3, mAug, mFld, mFldAug, gNm, gSub', gFld, gNl, gCn, gTp, setA, putFD, mVar, mC, mB, mU, mTB, mAnd, mOr, mNot, mIf, mAndV, mOrV, mNotV, mChain, mNil, mCons, mTup, mLst, mSl, oNo, oE, mCB, fAbs, fMax2, fMin2, fInt, lenD, fLen, fTuple, fList, itemsD, fIsi, tyD, mAttr, mCall, mMeth, mMake, mBM, tyF, SM.bind, SM.pure, toRS, toRSA, toRST, Y.sb, List.lookup, put_f, put_n, alloc_f, alloc_n, put_put, alloc_put, okI, okB, orF, dSub, dFdiv, dMod, dPow, dShl, dShr, dAnd, dOr, dXor, dNeg, dLt, dLe, dGt, dGe, dIs, mBM, tyF, sz2, e, a.fr]
theorem l129 {n : Nat} (a : LF p i R L P m S rows ls) (h : ls.length ≤ 100) (hn : nm.length ≤ 12) (hw : w.length ≤ 5) (hm : n < 1000) : b_law_s129 (EV x0 i d c x4 m R L P x9 (some (strL w)) (some (strL nm)) x12 x13 (some (.int (n : Int))) x15 t) S = .nx (EV x0 i d c x4 m R L P x9 (some (strL w)) (some (strL nm)) x12 x13 (some (.int (n : Int))) x15 t) (S.put L (.lst ((ls ++ [nm ++ w ++ [32] ++ numL n]).map strL))) := by
  have w1 : Str.ofString " " = sg [32] := by rw [sg_str]; decide +kernel
  have fn := fStr_n (n := n) (S := S) (by omega)
  have ln := numL_len (n := n) (k := 3) (by omega) (by omega)
  have b1 : dAdd (strL nm) (strL w) S = .ok (strL (nm ++ w)) S := addT (by omega)
  have b3 : dAdd (strL (nm ++ w)) (strL [32]) S = .ok (strL (nm ++ w ++ [32])) S := addT (by rw [List.length_append]; simp; omega)
  have b5 : dAdd (strL (nm ++ w ++ [32])) (strL (numL n)) S = .ok (strL (nm ++ w ++ [32] ++ numL n)) S := addT (by rw [List.length_append, List.length_append]; simp; omega)
  have fl := a.fl
  have ap := app_line (l := nm ++ w ++ [32] ++ numL n) a h
  simp (decide := true) only [b_law_s129, if_true, mDrop, mBM, mB, mVar, mC, mCons, mNil, mCB, SM.bind, SM.pure, EV, List.getElem?_cons_succ, List.getElem?_cons_zero, w1, b1, b3, b5, fn, tyF, fl, ap, toRS]
/-! ### the tests -/
theorem lst4 {S : Sr} {g : Gm} : mLst (mCons (mC (.str "halt")) (mCons (mC (.str "out")) (mCons (mC (.str "in")) (mCons (mC (.str "half")) mNil)))) g S = .ok (.adr S.n) (S.alloc (.lst (PLN.map strL))) := by
  have sz : 4 ≤ sizeLine := by rw [sizeLine_eq]; omega
  rw [pln_lst]
  simp (decide := true) [mLst, mCons, mNil, mC, SM.bind, SM.pure, sz]
theorem lst3 {S : Sr} {g : Gm} : mLst (mCons (mC (.str "jump")) (mCons (mC (.str "zero")) (mCons (mC (.str "less")) mNil))) g S = .ok (.adr S.n) (S.alloc (.lst (JMP.map strL))) := by
  have sz : 3 ≤ sizeLine := by rw [sizeLine_eq]; omega
  rw [jmp_lst]
  simp (decide := true) [mLst, mCons, mNil, mC, SM.bind, SM.pure, sz]
theorem t118 {g : Gm} (h : g[10]? = some (some (strL w))) : mTB (mB (dIn false) (mVar 10) (mLst (mCons (mC (.str "halt")) (mCons (mC (.str "out")) (mCons (mC (.str "in")) (mCons (mC (.str "half")) mNil)))))) g S = .ok (decide (w ∈ PLN)) (S.alloc (.lst (PLN.map strL))) := by
  have e := in_adr (x := w) (l := PLN) (S := S.alloc (.lst (PLN.map strL))) (neg := false) at_new
  have q := lst4 (S := S) (g := g)
  simp only [mTB, mB, mVar, SM.bind, h, q, e]
  rfl
theorem t121 {g : Gm} (h : g[10]? = some (some (strL w))) : mTB (mB (dIn false) (mVar 10) (mLst (mCons (mC (.str "jump")) (mCons (mC (.str "zero")) (mCons (mC (.str "less")) mNil))))) g S = .ok (decide (w ∈ JMP)) (S.alloc (.lst (JMP.map strL))) := by
  have e := in_adr (x := w) (l := JMP) (S := S.alloc (.lst (JMP.map strL))) (neg := false) at_new
  have q := lst3 (S := S) (g := g)
  simp only [mTB, mB, mVar, SM.bind, h, q, e]
  rfl
theorem ifs_t {tt : MT} {u v : MS} {g : Gm} (h : tt g S = .ok true S') : mIfS tt u v g S = u g S' := by
  unfold mIfS toRST
  rw [h]
  rfl
theorem ifs_f {tt : MT} {u v : MS} {g : Gm} (h : tt g S = .ok false S') : mIfS tt u v g S = v g S' := by
  unfold mIfS toRST
  rw [h]
  rfl
end
end K11

set_option Elab.async false
set_option linter.all false
set_option maxRecDepth 100000
set_option maxHeartbeats 4000000
namespace K11
open PySem PySem.Spec PyProof.Rows L2 Y TL
theorem Blk.sp {bl : List Nat} (h : Blk bl) : ∃ (nt : Bool) (sp : List Nat), (sp = [] ∨ sp = [32, 32]) ∧ bl = (if nt = true then NOTE ++ [10] else []) ++ sp := by
  rcases h with rfl | rfl | rfl
  · exact ⟨false, [], .inl rfl, rfl⟩
  · exact ⟨false, [32, 32], .inr rfl, rfl⟩
  · exact ⟨true, [], .inl rfl, rfl⟩
section
variable {p : Nat → Int} {i R L P m k d c : Nat} {S S' : Sr} {rows : List (List Nat × Int)} {ls : List (List Nat)} {w nm bl tl : List Nat} {as : List (List Nat)} {n : Int} {x0 x4 x9 x10 x11 x12 x13 x14 x15 : Option D} {t : Gm}
theorem ln_of (hb : Blk bl) (hr : RowG d c (w, n)) (ht : (tl = [] ∧ as = []) ∨ (tl = [32, 47, 47, 32, 120] ∧ as = []) ∨ ∃ a, An a ∧ as = [a] ∧ (tl = 32 :: a ∨ tl = 32 :: 32 :: a)) (hl : tl.length ≤ 12) (hio : ∀ pl, Gpl p pl → io (w :: as) pl = some (w, n)) : Ln p d c k (bl ++ nmsL (nsP p k) ++ w ++ tl) (w, n) := by
  obtain ⟨nt, sp, hs, rfl⟩ := hb.sp
  refine ⟨hr, nt, sp, tl, as, ?_, hs, ht, hl, hio⟩
  simp only [List.append_assoc]
theorem fits_j (hw : w ∈ INS) (hj : w ∈ JMP) (h0 : 0 ≤ n) (h1 : n ≤ 20) (hc : 5 ≤ c) : RowG d c (w, n) := by
  have np : w ∉ PLN := fun h => pln_jmp w h hj
  refine ⟨hw, fun h => absurd h np, ?_, ?_, h0, show n < 1000 by omega⟩
  · unfold fits bitsN
    rw [if_neg np, if_pos hj]
    have : (32 : Int) ≤ 2 ^ c := by
      have := Nat.pow_le_pow_right (n := 2) (by decide) hc
      have e : ((2 ^ c : Nat) : Int) = 2 ^ c := by push_cast; rfl
      omega
    rw [Bool.and_eq_true]
    exact ⟨decide_eq_true h0, decide_eq_true (show n < 2 ^ c by omega)⟩
  · have := (ins_an w hw).2
    show w.length ≤ 10
    omega
theorem fits_p (hw : w ∈ INS) (hp : w ∈ PLN) : RowG d c (w, 0) := by
  refine ⟨hw, fun _ => rfl, ?_, ?_, Int.le_refl _, show (0 : Int) < 1000 by decide⟩
  · unfold fits bitsN
    rw [if_pos hp]
    rfl
  · have := (ins_an w hw).2
    show w.length ≤ 10
    omega
theorem fits_d {n : Nat} (hw : w ∈ INS) (hp : w ∉ PLN) (hj : w ∉ JMP) (hn : n < 2 ^ d) (hd : d ≤ 8) : RowG d c (w, (n : Int)) := by
  have p8 : 2 ^ d ≤ 256 := Nat.pow_le_pow_right (n := 2) (by decide) hd
  refine ⟨hw, fun h => absurd h hp, ?_, ?_, show (0 : Int) ≤ n by omega, show (n : Int) < 1000 by omega⟩
  · unfold fits bitsN
    rw [if_neg hp, if_neg hj, Bool.and_eq_true]
    refine ⟨decide_eq_true (show (0 : Int) ≤ n by omega), decide_eq_true (show (n : Int) < 2 ^ d from ?_)⟩
    have e : ((2 ^ d : Nat) : Int) = 2 ^ d := by push_cast; rfl
    omega
  · have := (ins_an w hw).2
    show w.length ≤ 10
    omega
theorem io_n {n : Nat} {pl : List (List Nat × Int)} (g : Gpl p pl) (hw : w ∈ INS) (hp : w ∉ PLN) (hn : n < 1000) : io [w, numL n] pl = some (w, (n : Int)) := by
  have := io_num (w := w) (n := (n : Int)) (pl := pl) hw hp (by omega) (by omega) (fun _ => by
    show look pl (numL _) = none
    exact g.2 _ fun j _ => num_xj)
  exact this
theorem body (a : LF p i R L P m S rows ls) (hr : rows.length ≤ 50) (hl : ls.length ≤ 50) (hm : m ≤ 20) (hd : d ≤ 8) (hc : 5 ≤ c) : ∃ y10 y11 y12 y13 y14 y15 S' r l, b_law_L114 (EV x0 i d c x4 m R L P (some (.int (k : Int))) x10 x11 x12 x13 x14 x15 t) S = .nx (EV x0 i d c x4 m R L P (some (.int (k : Int))) y10 y11 y12 y13 y14 y15 t) S' ∧ LF p i R L P m S' (rows ++ [r]) (ls ++ [l]) ∧ Fr [i, R, L] S S' ∧ Ln p d c k l r := by
  obtain ⟨w, S1, hw, e1, a1, f1⟩ := l115 (x0 := x0) (d := d) (c := c) (x4 := x4) (x9 := some (.int (k : Int))) (x10 := x10) (x11 := x11) (x12 := x12) (x13 := x13) (x14 := x14) (x15 := x15) (t := t) a
  obtain ⟨S2, e2, a2, f2⟩ := l116 (x0 := x0) (d := d) (c := c) (x4 := x4) (K := (k : Int)) (x10 := some (strL w)) (x11 := x11) (x12 := x12) (x13 := x13) (x14 := x14) (x15 := x15) (t := t) a1
  obtain ⟨bl, S3, hb, e3, a3, f3⟩ := l117 (x0 := x0) (d := d) (c := c) (x4 := x4) (x9 := some (.int (k : Int))) (x10 := some (strL w)) (x11 := some (strL (nmsL (nsP p k)))) (x12 := x12) (x13 := x13) (x14 := x14) (x15 := x15) (t := t) a2
  have a4 := a3.al (x := .lst (PLN.map strL))
  have f4 : Fr [i, R, L] S (S3.alloc (.lst (PLN.map strL))) := (((f1.trans f2).trans f3).trans Fr.alloc).weak (by simp)
  have wl := (ins_an w hw).2
  have nl := nsP_nms (p := p) (k := (k : Int))
  unfold b_law_L114
  rw [sq_nx e1, sq_nx e2, sq_nx e3]
  have t1 := t118 (S := S3) (w := w) (g := EV x0 i d c x4 m R L P (some (.int (k : Int))) (some (strL w)) (some (strL (nmsL (nsP p k)))) (some (strL bl)) x13 x14 x15 t) rfl
  unfold b_law_s118
  by_cases z : w ∈ PLN
  · rw [decide_eq_true z] at t1
    rw [ifs_t t1]
    have e5 := l119 (x0 := x0) (d := d) (c := c) (x4 := x4) (x9 := some (.int (k : Int))) (w := w) (x11 := some (strL (nmsL (nsP p k)))) (x12 := some (strL bl)) (x13 := x13) (x14 := x14) (x15 := x15) (t := t) a4 (by omega)
    rw [sq_nx e5]
    obtain ⟨tl, S6, ht, e6, a6, f6⟩ := l120 (x0 := x0) (d := d) (c := c) (x4 := x4) (x9 := some (.int (k : Int))) (w := w) (nm := nmsL (nsP p k)) (bl := bl) (x13 := x13) (x14 := x14) (x15 := x15) (t := t) (a4.row (r := (w, 0))) (by omega) hb nl wl
    refine ⟨_, _, _, _, _, _, S6, _, _, e6, a6, (f4.trans (Fr.put (by simp))).trans (f6.weak (by simp)), ?_⟩
    refine ln_of (as := []) hb (fits_p hw z) ?_ ?_ fun pl g => io_plain hw z
    · rcases ht with rfl | rfl
      · exact .inl ⟨rfl, rfl⟩
      · exact .inr (.inl ⟨rfl, rfl⟩)
    · rcases ht with rfl | rfl <;> simp
  · rw [decide_eq_false z] at t1
    rw [ifs_f t1]
    have t2 := t121 (S := S3.alloc (.lst (PLN.map strL))) (w := w) (g := EV x0 i d c x4 m R L P (some (.int (k : Int))) (some (strL w)) (some (strL (nmsL (nsP p k)))) (some (strL bl)) x13 x14 x15 t) rfl
    have a5 := a4.al (x := .lst (JMP.map strL))
    have f5 : Fr [i, R, L] S ((S3.alloc (.lst (PLN.map strL))).alloc (.lst (JMP.map strL))) := f4.trans Fr.alloc
    unfold b_law_s121
    by_cases z2 : w ∈ JMP
    · rw [decide_eq_true z2] at t2
      rw [ifs_t t2]
      obtain ⟨j, n, S6, hj, hn, e6, a6, f6⟩ := l122 (x0 := x0) (d := d) (c := c) (x4 := x4) (x9 := some (.int (k : Int))) (x10 := some (strL w)) (x11 := some (strL (nmsL (nsP p k)))) (x12 := some (strL bl)) (x13 := x13) (x14 := x14) (x15 := x15) (t := t) a5 hm
      obtain ⟨b, S7, e7, a7, f7⟩ := l123 (x0 := x0) (d := d) (c := c) (x4 := x4) (x9 := some (.int (k : Int))) (x10 := some (strL w)) (x11 := some (strL (nmsL (nsP p k)))) (x12 := some (strL bl)) (x13 := some (.int (j : Int))) (x14 := some (.int (n : Int))) (x15 := x15) (t := t) a6
      have e8 := l124 (x0 := x0) (d := d) (c := c) (x4 := x4) (x9 := some (.int (k : Int))) (w := w) (x11 := some (strL (nmsL (nsP p k)))) (x12 := some (strL bl)) (j := j) (n := n) (b := b) (t := t) a7 (by omega) hj
      have e9 := l125 (x0 := x0) (d := d) (c := c) (x4 := x4) (x9 := some (.int (k : Int))) (w := w) (nm := nmsL (nsP p k)) (bl := bl) (j := j) (n := n) (b := b) (t := t) (a7.row (r := (w, if b = true then p j else (n : Int)))) (by omega) hb nl wl hj (by omega)
      rw [sq_nx e6, sq_nx e7, sq_nx e8]
      have np : w ∉ PLN := z
      have pj := a.pb j hj
      refine ⟨_, _, _, _, _, _, _, _, _, e9, (a7.row (r := (w, if b = true then p j else (n : Int)))).line, (((f5.trans (f6.weak (by simp))).trans (f7.weak (by simp))).trans (Fr.put (by simp))).trans (Fr.put (by simp)), ?_⟩
      have hln := numL_len (n := n) (k := 3) (by omega) (by omega)
      cases b with
      | true =>
        rw [if_pos rfl, if_pos rfl]
        have := ln_of (k := k) (p := p) (tl := [32, 32] ++ xj j) (as := [xj j]) hb (fits_j (d := d) (c := c) hw z2 pj.1 (by omega) hc) (.inr (.inr ⟨_, (xj_an hj).1, rfl, .inr rfl⟩)) (by simp [xj]) (fun pl g => io_name hw np z2 (g.1 j hj))
        rw [← List.append_assoc] at this
        exact this
      | false =>
        rw [if_neg Bool.false_ne_true, if_neg Bool.false_ne_true]
        have := ln_of (k := k) (p := p) (tl := [32, 32] ++ numL n) (as := [numL n]) hb (fits_j (d := d) (c := c) (n := (n : Int)) hw z2 (by omega) (by omega) hc) (.inr (.inr ⟨_, num_an n, rfl, .inr rfl⟩)) (by simp; omega) (fun pl g => io_n g hw np (by omega))
        rw [← List.append_assoc] at this
        exact this
    · rw [decide_eq_false z2] at t2
      rw [ifs_f t2]
      obtain ⟨n, S6, hn, e6, a6, f6⟩ := l127 (x0 := x0) (d := d) (c := c) (x4 := x4) (x9 := some (.int (k : Int))) (x10 := some (strL w)) (x11 := some (strL (nmsL (nsP p k)))) (x12 := some (strL bl)) (x13 := x13) (x14 := x14) (x15 := x15) (t := t) a5 hd
      have p8 : 2 ^ d ≤ 256 := Nat.pow_le_pow_right (n := 2) (by decide) hd
      have e7 := l128 (x0 := x0) (d := d) (c := c) (x4 := x4) (x9 := some (.int (k : Int))) (w := w) (x11 := some (strL (nmsL (nsP p k)))) (x12 := some (strL bl)) (x13 := x13) (n := n) (x15 := x15) (t := t) a6 (by omega)
      have e8 := l129 (x0 := x0) (d := d) (c := c) (x4 := x4) (x9 := some (.int (k : Int))) (w := w) (nm := nmsL (nsP p k)) (x12 := some (strL bl)) (x13 := x13) (n := n) (x15 := x15) (t := t) (a6.row (r := (w, (n : Int)))) (by omega) nl wl (by omega)
      rw [sq_nx e6, sq_nx e7]
      refine ⟨_, _, _, _, _, _, _, _, _, e8, (a6.row (r := (w, (n : Int)))).line, ((f5.trans (f6.weak (by simp))).trans (Fr.put (by simp))).trans (Fr.put (by simp)), ?_⟩
      have hln := numL_len (n := n) (k := 3) (by omega) (by omega)
      have := ln_of (k := k) (p := p) (bl := []) (tl := [32] ++ numL n) (as := [numL n]) (.inl rfl) (fits_d (d := d) (c := c) hw z z2 hn hd) (.inr (.inr ⟨_, num_an n, rfl, .inl rfl⟩)) (by simp; omega) (fun pl g => io_n g hw z (by omega))
      rw [← List.append_assoc, List.nil_append] at this
      exact this
theorem loop114 (hm : m ≤ 20) (hd : d ≤ 8) (hc : 5 ≤ c) : ∀ (r idx : Nat) (rows : List (List Nat × Int)) (ls : List (List Nat)) (S : Sr) (x9 x10 x11 x12 x13 x14 x15 : Option D), idx + r = m → LF p i R L P m S rows ls → Lns p d c idx ls rows → rows.length = idx → ls.length = idx →
    ∃ y9 y10 y11 y12 y13 y14 y15 S' rows' ls', forG (sqr 0 1 m) (mStep (gNm 9) b_law_L114) r idx (EV x0 i d c x4 m R L P x9 x10 x11 x12 x13 x14 x15 t) S = .nx (EV x0 i d c x4 m R L P y9 y10 y11 y12 y13 y14 y15 t) S' ∧ LF p i R L P m S' rows' ls' ∧ Fr [i, R, L] S S' ∧ Lns p d c m ls' rows'
  | 0, idx, rows, ls, S, x9, x10, x11, x12, x13, x14, x15, h, a, l, _, _ => by
    have : idx = m := by omega
    subst this
    exact ⟨x9, x10, x11, x12, x13, x14, x15, S, rows, ls, fo_end (by simp [sqr]), a, Fr.refl, l⟩
  | r + 1, idx, rows, ls, S, x9, x10, x11, x12, x13, x14, x15, h, a, l, q1, q2 => by
    have en : (sqr 0 1 m).nxt idx S = some (some (.int (idx : Int))) := by
      have : idx < m := by omega
      simp [sqr, this]
    obtain ⟨y10, y11, y12, y13, y14, y15, S1, rw_, ln, e, a1, f1, hl⟩ := body (k := idx) (x0 := x0) (x4 := x4) (x10 := x10) (x11 := x11) (x12 := x12) (x13 := x13) (x14 := x14) (x15 := x15) (t := t) a (by omega) (by omega) hm hd hc
    have st : mStep (gNm 9) b_law_L114 (.int (idx : Int)) (EV x0 i d c x4 m R L P x9 x10 x11 x12 x13 x14 x15 t) S = b_law_L114 (EV x0 i d c x4 m R L P (some (.int (idx : Int))) x10 x11 x12 x13 x14 x15 t) S := rfl
    obtain ⟨z9, z10, z11, z12, z13, z14, z15, S2, rows2, ls2, e2, a2, f2, hl2⟩ := loop114 hm hd hc r (idx + 1) (rows ++ [rw_]) (ls ++ [ln]) S1 (some (.int (idx : Int))) y10 y11 y12 y13 y14 y15 (by omega) a1 (.snoc l hl) (by rw [List.length_append, q1]; rfl) (by rw [List.length_append, q2]; rfl)
    exact ⟨z9, z10, z11, z12, z13, z14, z15, S2, rows2, ls2, (fo_nx en (st.trans e)).trans e2, a2, f1.trans f2, hl2⟩
theorem rng_of {a : MA} {g : Gm} {S : Sr} {j : Int} {n : Nat} (h : a g S = .ok [.int j] S) (hj : j = (n : Int)) (hn : n ≤ 1000) : mRng1 a g S = .ok (sqr 0 1 n) S := by
  have c1 : -(2 ^ 62) ≤ j ∧ j < 2 ^ 62 := by
    rw [hj]
    exact ⟨Int.le_trans (by decide) (Int.natCast_nonneg n), Int.lt_of_le_of_lt (b := 1000) (by omega) (by decide)⟩
  have c2 : j.toNat = n := by rw [hj]; exact Int.toNat_natCast n
  unfold mRng1 SM.bind
  rw [h]
  dsimp only
  rw [if_pos c1, c2]
theorem l114 (a : LF p i R L P m S [] []) (hm : m ≤ 20) (hd : d ≤ 8) (hc : 5 ≤ c) : ∃ y9 y10 y11 y12 y13 y14 y15 S' rows' ls', b_law_s114 (EV x0 i d c x4 m R L P x9 x10 x11 x12 x13 x14 x15 t) S = .nx (EV x0 i d c x4 m R L P y9 y10 y11 y12 y13 y14 y15 t) S' ∧ LF p i R L P m S' rows' ls' ∧ Fr [i, R, L] S S' ∧ Lns p d c m ls' rows' := by
  obtain ⟨y9, y10, y11, y12, y13, y14, y15, S2, rows2, ls2, e2, a2, f2, hl2⟩ := loop114 (x0 := x0) (x4 := x4) (t := t) hm hd hc m 0 [] [] S x9 x10 x11 x12 x13 x14 x15 (Nat.zero_add _) a .nil rfl rfl
  refine ⟨y9, y10, y11, y12, y13, y14, y15, S2, rows2, ls2, ?_, a2, f2, hl2⟩
  have es : mRng1 (mCons (mVar 5) mNil) (EV x0 i d c x4 m R L P x9 x10 x11 x12 x13 x14 x15 t) S = .ok (sqr 0 1 m) S := by
    exact rng_of (j := (m : Int)) rfl rfl (by omega)
  unfold b_law_s114
  exact (mFor_of es).trans e2
end
end K11

set_option Elab.async false
set_option linter.all false
set_option maxRecDepth 100000
set_option maxHeartbeats 4000000
namespace K11
open PySem PySem.Spec PyProof.Rows L2 Y TL
section
variable {p : Nat → Int} {i R L P m k d c : Nat} {S S' : Sr} {rows : List (List Nat × Int)} {ls : List (List Nat)} {x0 x4 x9 x10 x11 x12 x13 x14 x15 x16 x17 x18 x19 x20 x21 : Option D} {t : Gm}
abbrev eN2 : ME := mB dAdd (mB dAdd (mC (.str "x")) (mCB fStr (mCons (mVar 13) mNil))) (mC (.str ":\n"))
abbrev eT2 : MT := mTB (mB dEq (mB dIx (mVar 8) (mVar 13)) (mVar 5))
theorem n_step2 {D0 idx r : Nat} {acc : List (List Nat)} {sr : Src} {g0 g : Gm} {K : Int} (h3 : idx < 3) (hS : S.f D0 = some (.lst (acc.map strL))) (hl : acc.length < 3) (hn : D0 ≠ P) (fp : S.f P = some (.lst [.int (p 0), .int (p 1), .int (p 2)])) (hsr : sr.nxt idx S = some (some (.int (idx : Int)))) (ht : (Tg.nm 13).put (.int (idx : Int)) g0 = some g) (h8 : g[8]? = some (some (.adr P))) (h9 : g[5]? = some (some (.int K))) (h13 : g[13]? = some (some (.int (idx : Int)))) :
    ∃ acc', lcG sr (.nm 13) eT2 eN2 g0 D0 (r + 1) idx S = lcG sr (.nm 13) eT2 eN2 g0 D0 r (idx + 1) (S.put D0 (.lst (acc'.map strL))) ∧ acc' = acc ++ (if p idx = K then [xj idx ++ [58, 10]] else []) := by
  have ix : dIx (.adr P) (.int (idx : Int)) S = .ok (.int (p idx)) S := by
    refine ixL fp (by omega) ?_
    have : idx = 0 ∨ idx = 1 ∨ idx = 2 := by omega
    rcases this with rfl | rfl | rfl <;> rfl
  have et : eT2 g S = .ok (decide (p idx = K)) S := by
    simp [eT2, mTB, mB, mVar, SM.bind, SM.pure, h8, h9, h13, ix, ev_eqI]
  by_cases z : p idx = K
  · refine ⟨acc ++ [xj idx ++ [58, 10]], ?_, by rw [if_pos z]⟩
    have w1 : Str.ofString "x" = sg [120] := by rw [sg_str]; decide +kernel
    have w2 : Str.ofString ":\n" = sg [58, 10] := by rw [sg_str]; decide +kernel
    have nl : numL idx = [48 + idx] := numL_lt (by omega)
    have fs := fStr_n (n := idx) (S := S) (by omega)
    rw [nl] at fs
    have a1 : dAdd (strL [120]) (strL [48 + idx]) S = .ok (strL ([120] ++ [48 + idx])) S := addT (by simp)
    have a2 : dAdd (strL ([120] ++ [48 + idx])) (strL [58, 10]) S = .ok (strL ([120] ++ [48 + idx] ++ [58, 10])) S := addT (by simp)
    have ee : eN2 g S = .ok (strL (xj idx ++ [58, 10])) S := by
      simp only [eN2, mB, mC, mCB, mCons, mVar, mNil, SM.bind, SM.pure, h13, w1, w2, fs, a1, a2]
      rfl
    rw [decide_eq_true z] at et
    rw [lc_nx hsr ht et ee hS (by rw [List.length_map, sizeLine_eq]; omega), List.map_append]
    rfl
  · refine ⟨acc, ?_, by rw [if_neg z, List.append_nil]⟩
    rw [decide_eq_false z] at et
    rw [lc_skip hsr ht et, put_same hS]
theorem l130 (a : LF p i R L P m S rows ls) (hne : ls ≠ []) (hlen : (TL.joinL [10] ls).length ≤ 5000) : ∃ S', b_law_s130 (EV x0 i d c x4 m R L P x9 x10 x11 x12 x13 x14 x15 (x16 :: t)) S = .nx (EV x0 i d c x4 m R L P x9 x10 x11 x12 x13 x14 x15 (some (strL ((ls.map (· ++ [10])).flatten ++ endT p m)) :: t)) S' ∧ Xt S S' := by
  have ltP := a.lt.2.2.2
  let g : Gm := EV x0 i d c x4 m R L P x9 x10 x11 x12 x13 x14 x15 (x16 :: t)
  let g0 : Gm := wipeD g [13]
  have nx : ∀ (idx : Nat) (S : Sr), idx < 3 → (sqr 0 1 3).nxt idx S = some (some (.int (idx : Int))) := fun idx S h => by
    simp [sqr, h]
  have tg : ∀ idx : Int, (Tg.nm 13).put (.int idx) g0 = some (EV x0 i d c x4 m R L P x9 x10 x11 x12 (some (.int idx)) x14 x15 (x16 :: t)) := fun idx => rfl
  have fp := a.fp
  have hn : S.n ≠ P := by omega
  have q0 : (S.alloc (.lst (([] : List (List Nat)).map strL))).f P = some (.lst [.int (p 0), .int (p 1), .int (p 2)]) := at_old fp ltP
  obtain ⟨a0, e0, r0⟩ := n_step2 (p := p) (P := P) (K := (m : Int)) (D0 := S.n) (idx := 0) (r := 2) (acc := []) (g0 := g0) (S := S.alloc (.lst (([] : List (List Nat)).map strL))) (by omega) at_new (by simp) hn q0 (nx 0 _ (by omega)) (tg _) rfl rfl rfl
  obtain ⟨a1, e1, r1⟩ := n_step2 (p := p) (P := P) (K := (m : Int)) (D0 := S.n) (idx := 1) (r := 1) (acc := a0) (g0 := g0) (S := (S.alloc (.lst (([] : List (List Nat)).map strL))).put S.n (.lst (a0.map strL))) (by omega) at_put (by rw [r0]; split <;> simp) hn (at_put_ne q0 (Ne.symm hn)) (nx 1 _ (by omega)) (tg _) rfl rfl rfl
  rw [put_put] at e1
  obtain ⟨a2, e2, r2⟩ := n_step2 (p := p) (P := P) (K := (m : Int)) (D0 := S.n) (idx := 2) (r := 0) (acc := a1) (g0 := g0) (S := (S.alloc (.lst (([] : List (List Nat)).map strL))).put S.n (.lst (a1.map strL))) (by omega) at_put (by rw [r1, r0]; split <;> split <;> simp) hn (at_put_ne q0 (Ne.symm hn)) (nx 2 _ (by omega)) (tg _) rfl rfl rfl
  rw [put_put] at e2
  have e4 : lcG (sqr 0 1 3) (.nm 13) eT2 eN2 g0 S.n 3 0 (S.alloc (.lst (([] : List (List Nat)).map strL))) = .ok () ((S.alloc (.lst (([] : List (List Nat)).map strL))).put S.n (.lst (a2.map strL))) := by
    rw [e0, e1, e2]
    refine lc_end ?_
    simp [sqr]
  have er : mRng1 (mCons (mC (.int 3)) mNil) g S = .ok (sqr 0 1 3) S := by
    simp (decide := true) [mRng1, mSeq, mPass, mBrk, mCnt, mDrop, mRet, mRetN, mIfS, mRaise, mSet, mAsg, mPar, mPar3, mAug, mFld, mFldAug, gNm, gSub', gFld, gNl, gCn, gTp, setA, putFD, mVar, mC, mB, mU, mTB, mAnd, mOr, mNot, mIf, mAndV, mOrV, mNotV, mChain, mNil, mCons, mTup, mLst, mSl, oNo, oE, mCB, fAbs, fMax2, fMin2, fInt, lenD, fLen, fTuple, fList, itemsD, fIsi, tyD, mAttr, mCall, mMeth, mMake, mBM, tyF, SM.bind, SM.pure, toRS, toRSA, toRST, Y.sb, List.lookup, put_f, put_n, alloc_f, alloc_n, put_put, alloc_put, okI, okB, orF, dSub, dFdiv, dMod, dPow, dShl, dShr, dAnd, dOr, dXor, dNeg, dLt, dLe, dGt, dGe, dIs]
  have e5 : mLc (mRng1 (mCons (mC (.int 3)) mNil)) (.nm 13) eT2 eN2 [13] g S = .ok (.adr S.n) ((S.alloc (.lst (([] : List (List Nat)).map strL))).put S.n (.lst (a2.map strL))) := mLc_ok er e4
  have ea : a2 = (nsP p (m : Int)).map (· ++ [58, 10]) := by
    rw [r2, r1, r0]
    unfold nsP
    by_cases b0 : p 0 = (m : Int) <;> by_cases b1 : p 1 = (m : Int) <;> by_cases b2 : p 2 = (m : Int) <;> simp [b0, b1, b2]
  have xt : Xt S ((S.alloc (.lst (([] : List (List Nat)).map strL))).put S.n (.lst (a2.map strL))) := Xt.alloc.put (Nat.le_refl _)
  refine ⟨_, ?_, xt⟩
  have ew : Str.ofString "" = sg [] := by rw [sg_str]; decide +kernel
  have w1 : Str.ofString "\n" = sg [10] := by rw [sg_str]; decide +kernel
  have ej : Txt.join (sg []) (a2.map sg) = sg (endT p m) := by
    refine ext_tl ?_
    rw [join_eq, tl_join, map_tl_sg, tl_sg, joinL_nil, ea]
    rfl
  have ej2 : Txt.join (sg [10]) (ls.map sg) = sg (TL.joinL [10] ls) := by
    refine ext_tl ?_
    rw [join_eq, tl_join, map_tl_sg, tl_sg]
  have sz : ((a2.map sg).map (·.length)).sum + (a2.map sg).length * (sg []).length ≤ 16777216 := by
    have h1 := sum_le (l := a2) (B := 10) (fun x hx => by
      rw [ea] at hx
      obtain ⟨n, hn, rfl⟩ := List.mem_map.mp hx
      obtain ⟨j, _, _, rfl⟩ := nsP_mem hn
      simp [xj])
    have h2 : a2.length ≤ 3 := by rw [ea, List.length_map]; exact nsP_len
    rw [sg_len, List.length_nil, Nat.mul_zero]
    omega
  have sz2 : ((ls.map sg).map (·.length)).sum + (ls.map sg).length * (sg [10]).length ≤ 16777216 := by
    have : ∀ l : List (List Nat), ((l.map sg).map (·.length)).sum + l.length ≤ (TL.joinL [10] l).length + 1 := by
      intro l
      induction l with
      | nil => exact Nat.zero_le _
      | cons a r ih =>
        cases r with
        | nil => simp [TL.joinL, sg_len]
        | cons b r =>
          have e : TL.joinL [10] (a :: b :: r) = a ++ ([10] ++ TL.joinL [10] (b :: r)) := rfl
          rw [e, List.length_append, List.length_append, List.map_cons, List.map_cons, List.sum_cons, sg_len, List.length_cons, List.length_singleton]
          omega
    have h := this ls
    rw [sg_len, List.length_map, List.length_singleton]
    omega
  have esm := strs_of_map a2
  have esm2 := strs_of_map ls
  have at' : ((S.alloc (.lst (([] : List (List Nat)).map strL))).put S.n (.lst (a2.map strL))).f S.n = some (.lst (a2.map strL)) := at_put
  have fl := a.fl
  have el : (endT p (m : Int)).length ≤ 12 := by
    unfold endT nsP
    by_cases a : p 0 = (m : Int) <;> by_cases b : p 1 = (m : Int) <;> by_cases c : p 2 = (m : Int) <;> simp [a, b, c, xj]
  have b1 : dAdd (strL (TL.joinL [10] ls)) (strL [10]) S = .ok (strL (TL.joinL [10] ls ++ [10])) S := addT (by simp; omega)
  have b2 : dAdd (strL (TL.joinL [10] ls ++ [10])) (strL (endT p m)) ((S.alloc (.lst (([] : List (List Nat)).map strL))).put S.n (.lst (a2.map strL))) = .ok (strL (TL.joinL [10] ls ++ [10] ++ endT p m)) ((S.alloc (.lst (([] : List (List Nat)).map strL))).put S.n (.lst (a2.map strL))) := addT (by rw [List.length_append]; simp; omega)
  rw [← joinL_end hne]
  have e6 : b_law_s130 g S = .nx (EV x0 i d c x4 m R L P x9 x10 x11 x12 x13 x14 x15 (some (strL (TL.joinL [10] ls ++ [10] ++ endT p m)) :: t)) ((S.alloc (.lst (([] : List (List Nat)).map strL))).put S.n (.lst (a2.map strL))) := by
    have h7 : g[7]? = some (some (.adr L)) := rfl
    simp (decide := true) only [b_law_s130, mSet, mB, mBM, mC, mCons, mNil, mVar, SM.bind, SM.pure, h7, e5, tyF, fJoin, Y.joinL, fl, at', esm, esm2, ew, w1, ej, ej2, sz, sz2, if_true, b1, b2, toRS]
    rfl
  exact e6
end
/-! ### the runs of assemble -/
theorem PP_len {p : Nat → Int} : ∀ {k : Nat}, (PP p k).length ≤ 3 * k
  | 0 => Nat.le_refl _
  | k + 1 => by
    have h1 := PP_len (p := p) (k := k)
    have h2 := nsP_len (p := p) (k := (k : Int))
    show (PP p k ++ (nsP p k).map _).length ≤ _
    rw [List.length_append, List.length_map]
    omega
section
variable {p : Nat → Int} {d c k z : Nat} {T : List Nat} {parts : List (List Nat)} {wss : List (List (List Nat))} {rows : List (List Nat × Int)} {S : Sr}
theorem asm_run (h : Tx p d c k T parts wss rows) (hk : k ≤ 20) (hd : d ≤ 8) (hc : c ≤ 8) (hz : S.f z = some (.ins "Size" (sizF d c))) (hl : z < S.n) {r : List Nat} {rp : List (List Nat)} (hr : spl [10] 0 [] r = rp) (h1 : ∀ q ∈ rp, Sgn q ∧ q.length ≤ 1000) (h2 : rp.length ≤ 10) (h3 : nmB rp ≤ 10) (h4 : r.length ≤ 1000) :
    match asm d c (parts ++ rp) with
    | some rs => ∃ S', f_assemble [strL (T ++ r), .adr z] S = .ok (.tup (rs.map rowN)) S' ∧ Xt S S'
    | none => ∃ S', f_assemble [strL (T ++ r), .adr z] S = .exc "CodeError" S' ∧ Xt S S' := by
  have l := h.len
  refine e_assemble (x := sg (T ++ r)) hz hl hd hc ?_ ?_ ?_ ?_ ?_
  · rw [tl_sg, h.spl_, hr]
  · rw [sg_len, List.length_append]
    omega
  · intro q hq
    rcases List.mem_append.mp hq with hq | hq
    · exact h.sz.1 q hq
    · exact h1 q hq
  · rw [List.length_append]
    omega
  · rw [nmB_app]
    have e := nmB_asm h.asm_
    have l2 := PP_len (p := p) (k := k + 1)
    rw [List.length_nil] at e
    omega
theorem asm_text (h : Tx p d c k T parts wss rows) (hk : k ≤ 20) (hd : d ≤ 8) (hc : 5 ≤ c ∧ c ≤ 8) (hz : S.f z = some (.ins "Size" (sizF d c))) (hl : z < S.n) : ∃ S', f_assemble [strL T, .adr z] S = .ok (.tup (rows.map rowN)) S' ∧ Xt S S' := by
  have e := asm_run h hk hd hc.2 hz hl (r := []) (rp := [[]]) rfl (fun q hq => by rw [List.mem_singleton.mp hq]; exact ⟨sgn_nil, Nat.zero_le _⟩) (by decide) (by decide +kernel) (Nat.zero_le _)
  have p32 : 2 ^ 5 ≤ 2 ^ c := Nat.pow_le_pow_right (by decide) hc.1
  rw [tx_good h (by omega)] at e
  rw [List.append_nil] at e
  exact e
theorem asm_listed (h : ∀ r ∈ rows, RowG d c r) (hr : rows.length ≤ 20) (hd : d ≤ 8) (hc : 5 ≤ c ∧ c ≤ 8) (hz : S.f z = some (.ins "Size" (sizF d c))) (hl : z < S.n) : ∃ S', f_assemble [strL (lstT rows), .adr z] S = .ok (.tup (rows.map rowN)) S' ∧ Xt S S' := by
  have p32 : 2 ^ 5 ≤ 2 ^ c := Nat.pow_le_pow_right (by decide) hc.1
  have g := asm_list h (by omega) (k := c) (by omega)
  have hsp := spl_list fun r hr => (h r hr).1
  have e := e_assemble (x := sg (lstT rows)) (parts := bdsL (gsL rows) rows.length 0 rows ++ [[]]) hz hl hd hc.2 (by rw [tl_sg]; exact hsp) ?_ ?_ ?_ ?_
  · rw [← hsp, g] at e
    exact e
  · rw [sg_len]
    have h1 := sum_le (lns_each (gs := gsL rows) (many := rows.length) (p := 0) (fun r hr => (h r hr).2.2.2) (by omega))
    rw [lns_len] at h1
    have : ∀ l : List (List Nat), ((l.map sg).map (·.length)).sum = l.flatten.length := fun l => by
      induction l with
      | nil => rfl
      | cons a l ih => rw [List.map_cons, List.map_cons, List.sum_cons, List.flatten_cons, List.length_append, sg_len, ih]
    rw [this] at h1
    unfold lstT
    omega
  · intro q0 hq0
    rcases List.mem_append.mp hq0 with hq0 | hq0
    · refine (?_ : ∀ q ∈ bdsL (gsL rows) rows.length 0 rows, Sgn q ∧ q.length ≤ 1000) q0 hq0
      refine bds_mem (P := fun q => Sgn q ∧ q.length ≤ 1000) fun q r hr' hq => ?_
      obtain ⟨a, b, _⟩ := lnL_len (gs := gsL rows) (many := rows.length) (p := q) (h r hr').2.2.2 (by omega)
      have an := ins_an _ (h r hr').1
      refine ⟨?_, ?_⟩
      · unfold bdL nameL restL
        have s1 : Sgn (numL q) := (num_an q).sgn
        have s2 : Sgn (nmI r.2) := (num_an _).sgn
        have c1 : ∀ {x : Nat} {l : List Nat}, x < 0x110000 → Sgn l → Sgn (x :: l) := fun hx hl c hc => (List.mem_cons.mp hc).elim (fun e => e ▸ hx) (hl c)
        refine sgn_app (sgn_app ?_ an.1.sgn) ?_
        · split
          · exact c1 (by decide) (sgn_app s1 (sgn_of (by decide)))
          · exact sgn_nil
        · split
          · split
            · exact c1 (by decide) (c1 (by decide) s2)
            · exact c1 (by decide) s2
          · split
            · exact sgn_nil
            · exact c1 (by decide) s2
      · unfold bdL
        rw [List.length_append, List.length_append]
        omega
    · rw [List.mem_singleton.mp hq0]
      exact ⟨sgn_nil, Nat.zero_le _⟩
  · rw [List.length_append, bds_len, List.length_singleton]
    omega
  · rw [nmB_app]
    have e := nmB_asm (asm_bds (gs := gsL rows) (many := rows.length) (p := 0) (wss := []) (fun r hr => (h r hr).1) (by omega) rfl)
    have pl : ∀ n, (PG (gsL rows) n).length ≤ n := fun n => by
      induction n with
      | zero => exact Nat.le_refl _
      | succ n ih =>
        show (PG (gsL rows) n ++ (nsG (gsL rows) n).map _).length ≤ _
        rw [List.length_append, List.length_map]
        have : (nsG (gsL rows) n).length ≤ 1 := by unfold nsG; split <;> simp
        omega
    have := pl (0 + rows.length)
    have e0 : nmB [[]] = 0 := by decide +kernel
    rw [e0]
    omega
end
end K11

set_option Elab.async false
set_option linter.all false
set_option maxRecDepth 100000
set_option maxHeartbeats 4000000
namespace K11
open PySem PySem.Spec PyProof.Rows L2 Y TL
def pyRow (r : List Nat × Int) : PyData := .tuple [.str (sg r.1), .int r.2]
theorem py_row {S : Sr} {k : Nat} (r : List Nat × Int) : toPy S (k + 2) (rowN r) = some (pyRow r) := rfl
theorem mapO_map {α β γ : Type} {f : β → Option γ} {g : α → β} {h : α → γ} (e : ∀ a, f (g a) = some (h a)) : ∀ l : List α, mapO f (l.map g) = some (l.map h)
  | [] => rfl
  | a :: l => by
    rw [List.map_cons, mapO, mapO_map e l, e]
    rfl
theorem py_rows {S : Sr} {a : Nat} {rows : List (List Nat × Int)} (h : S.f a = some (.lst (rows.map rowN))) : toPy S 9 (.adr a) = some (.list (rows.map pyRow)) := by
  show (match S.f a with
    | some (.lst l) => (mapO (toPy S 8) l).map PyData.list
    | _ => none) = _
  rw [h]
  show (mapO (toPy S 8) (rows.map rowN)).map PyData.list = _
  rw [mapO_map (h := pyRow) (fun r => py_row r)]
  rfl
theorem lay_rows : ∀ l : List (List Nat × Int), (∀ r ∈ l, Sgn r.1) → PyData.canLayAll0 (l.map pyRow) = true ∧ PyData.depthAll (l.map pyRow) ≤ 1
  | [], _ => ⟨rfl, by show (0 : Nat) ≤ 1; omega⟩
  | r :: l, h => by
    obtain ⟨h1, h2⟩ := lay_rows l fun x hx => h x (List.mem_cons_of_mem _ hx)
    have hs := strOk_of (x := sg r.1) (h r List.mem_cons_self)
    refine ⟨?_, ?_⟩
    · show (PyData.canLay0 (pyRow r) && PyData.canLayAll0 (l.map pyRow)) = true
      rw [h1, Bool.and_true]
      show ((PyData.canLay0 (.str (sg r.1))) && (PyData.canLay0 (.int r.2) && PyData.canLayAll0 [])) = true
      show (PyData.strOk (sg r.1) && (true && true)) = true
      rw [hs]
      rfl
    · show max (PyData.depth (pyRow r)) (PyData.depthAll (l.map pyRow)) ≤ 1
      have : PyData.depth (pyRow r) = 1 := rfl
      rw [this]
      omega
theorem shaped_rows {l : List (List Nat × Int)} (h : ∀ r ∈ l, Sgn r.1) : SeqAt.shaped (.list (l.map pyRow)) = true := by
  obtain ⟨h1, h2⟩ := lay_rows l h
  unfold SeqAt.shaped
  have e1 : PyData.canLay0 (.list (l.map pyRow)) = true := h1
  have e2 : PyData.depth (.list (l.map pyRow)) = PyData.depthAll (l.map pyRow) + 1 := rfl
  rw [e1, e2, Bool.true_and]
  exact decide_eq_true (by omega)
theorem ne_rows {S : Sr} {a b : Nat} {l : List (List Nat × Int)} (h : S.f a = some (.lst (l.map rowN))) (h2 : S.f b = some (.lst (l.map rowN))) (hs : ∀ r ∈ l, Sgn r.1) : dNe (.adr a) (.adr b) S = .ok (.bl false) S := by
  have hp := PyData.plain_of_canLay0 _ (SeqAt.canLay_of_shaped (shaped_rows hs))
  rw [ev_neP (py_rows h) (py_rows h2) (shaped_rows hs) (shaped_rows hs), SeqAt.eqv_refl_plain _ hp]
  rfl
theorem ne_strs {S : Sr} {a b : Nat} {l : List (List Nat)} (h : S.f a = some (.lst (l.map strL))) (h2 : S.f b = some (.lst (l.map strL))) (hs : ∀ r ∈ l, Sgn r) : dNe (.adr a) (.adr b) S = .ok (.bl false) S := by
  have hp := PyData.plain_of_canLay0 _ (SeqAt.canLay_of_shaped (shaped_strs hs))
  rw [ev_neP (py_strs h) (py_strs h2) (shaped_strs hs) (shaped_strs hs), SeqAt.eqv_refl_plain _ hp]
  rfl
theorem eq_nilS {S : Sr} {i j : Nat} {l : List (List Nat)} (h : S.f i = some (.lst (l.map strL))) (h2 : S.f j = some (.lst [])) (hs : ∀ x ∈ l, Sgn x) : dEq (.adr i) (.adr j) S = .ok (.bl l.isEmpty) S := by
  rw [ev_eqP (py_strs h) (py_strs (l := []) h2) (shaped_strs hs) (shaped_strs (l := []) fun x hx => nomatch hx)]
  cases l with
  | nil => rfl
  | cons a l =>
    have e : PyData.eqv (.list ((a :: l).map fun x => PyData.str (sg x))) (.list (([] : List (List Nat)).map fun x => PyData.str (sg x))) = false := by
      rw [PyData.eqv.eq_def]
      rfl
    rw [e]
    rfl
theorem cut_init {l : List D} {x : D} : Y.cutD (l ++ [x]) none (some (-1)) = l := by
  have e : HT.sIx (l ++ [x]).length (l ++ [x]).length (some (-1)) = l.length := by
    show (if (-1 : Int) < 0 then ((-1 : Int) + ((l ++ [x]).length : Int)).toNat else min (-1 : Int).toNat (l ++ [x]).length) = _
    rw [if_pos (by decide), List.length_append, List.length_singleton]
    omega
  have e0 : HT.sIx (l ++ [x]).length 0 none = 0 := rfl
  unfold Y.cutD
  rw [e, e0]
  simp
section
variable {a b : MT} {g : Gm} {S S1 S2 : Sr} {v : Bool}
theorem or_f (h1 : a g S = .ok false S1) (h2 : b g S1 = .ok v S2) : mOr a b g S = .ok v S2 := by
  unfold mOr SM.bind
  rw [h1]
  exact h2
theorem tb_of {e : ME} (h : e g S = .ok (.bl v) S1) : mTB e g S = .ok v S1 := by
  unfold mTB SM.bind
  rw [h]
end
end K11

set_option Elab.async false
set_option linter.all false
set_option maxRecDepth 100000
set_option maxHeartbeats 4000000
namespace K11
open PySem PySem.Spec PyProof.Rows L2 Y TL
/-- what stands after the drawing -/
structure CT (d c z R : Nat) (rows : List (List Nat × Int)) (S : Sr) : Prop where
  sz : S.f z = some (.ins "Size" (sizF d c))
  zl : z < S.n
  ro : S.f R = some (.lst (rows.map rowN))
  rl : R < S.n
theorem CT.mono {d c z R : Nat} {rows : List (List Nat × Int)} {S S' : Sr} (h : CT d c z R rows S) (x : Xt S S') : CT d c z R rows S' := ⟨x.at_ h.sz h.zl, Nat.lt_of_lt_of_le h.zl x.le, x.at_ h.ro h.rl, Nat.lt_of_lt_of_le h.rl x.le⟩
/-- what is known of the drawn -/
structure DR (p : Nat → Int) (d c m : Nat) (T : List Nat) (parts : List (List Nat)) (wss : List (List (List Nat))) (rows : List (List Nat × Int)) : Prop where
  tx : Tx p d c m T parts wss rows
  m1 : 1 ≤ m ∧ m ≤ 20
  d1 : 2 ≤ d ∧ d ≤ 8
  c1 : 5 ≤ c ∧ c ≤ 8
section
variable {p : Nat → Int} {d c m z R : Nat} {T : List Nat} {parts : List (List Nat)} {wss : List (List (List Nat))} {rows : List (List Nat × Int)} {S : Sr}
theorem DR.len (h : DR p d c m T parts wss rows) : rows.length ≤ 20 := by have := h.tx.ln.2; have := h.m1; omega
theorem DR.sgn (h : DR p d c m T parts wss rows) : ∀ r ∈ rows, Sgn r.1 := fun r hr => (ins_an _ (h.tx.row r hr).1).1.sgn
theorem DR.asm1 (h : DR p d c m T parts wss rows) (t : CT d c z R rows S) : ∃ S', f_assemble [strL T, .adr z] S = .ok (.tup (rows.map rowN)) S' ∧ Xt S S' := asm_text h.tx h.m1.2 h.d1.2 h.c1 t.sz t.zl
theorem DR.asm2 (h : DR p d c m T parts wss rows) (t : CT d c z R rows S) : ∃ S', f_assemble [strL (lstT rows), .adr z] S = .ok (.tup (rows.map rowN)) S' ∧ Xt S S' := asm_listed h.tx.row h.len h.d1.2 h.c1 t.sz t.zl
theorem DR.lst (h : DR p d c m T parts wss rows) (t : CT d c z R rows S) : ∃ S', f_listing [.adr R] S = .ok (strL (lstT rows)) S' ∧ Xt S S' := e_listing (.inr ⟨R, rfl, t.ro, t.rl⟩) (by have := h.len; omega) fun r hr => (h.tx.row r hr).2.2.2
theorem lstT_len (h : DR p d c m T parts wss rows) : (lstT rows).length ≤ 500 := by
  have hl := h.len
  have h1 := sum_le (lns_each (gs := gsL rows) (many := rows.length) (p := 0) (fun r hr => (h.tx.row r hr).2.2.2) (by omega))
  rw [lns_len] at h1
  have : ∀ l : List (List Nat), ((l.map sg).map (·.length)).sum = l.flatten.length := fun l => by
    induction l with
    | nil => rfl
    | cons a l ih => rw [List.map_cons, List.map_cons, List.sum_cons, List.flatten_cons, List.length_append, sg_len, ih]
  rw [this] at h1
  unfold lstT
  omega
def bds (rows : List (List Nat × Int)) : List (List Nat) := bdsL (gsL rows) rows.length 0 rows
/-- the listing's lines -/
theorem lines_of (h : DR p d c m T parts wss rows) (t : CT d c z R rows S) {g : Gm} (h6 : g[6]? = some (some (.adr R))) : ∃ S' j, mSl slD (mBM "str" fSplit (mCall f_listing 1 [] (mCons (mVar 6) mNil)) (mCons (mC (.str "\n")) mNil)) oNo (oE (mU dNeg (mC (.int 1)))) g S = .ok (.adr j) S' ∧ Xt S S' ∧ S'.f j = some (.lst ((bds rows).map strL)) ∧ j < S'.n := by
  obtain ⟨S1, e1, x1⟩ := h.lst t
  have hsp := spl_list fun r hr => (h.tx.row r hr).1
  have ep := split_strs (x := sg (lstT rows)) (parts := bds rows ++ [[]]) (by rw [tl_sg]; exact hsp)
  have ll := lstT_len h
  have zx : (sg (lstT rows)).length + 2 ≤ sizeLine := by rw [sg_len, sizeLine_eq]; omega
  have eb : (("\n" : Str).length == 0) = false := by decide +kernel
  have ec : Y.cutD ((bds rows ++ [[]]).map strL) none (some (-1)) = (bds rows).map strL := by
    rw [List.map_append]
    exact cut_init
  refine ⟨(S1.alloc (.lst ((bds rows ++ [[]]).map strL))).alloc (.lst ((bds rows).map strL)), S1.n + 1, ?_, (x1.alloc').alloc', at_new (S := S1.alloc _), Nat.lt_succ_self _⟩
  have en : fSplit (strL (lstT rows)) [.str "\n"] S1 = .ok (.adr S1.n) (S1.alloc (.lst ((bds rows ++ [[]]).map strL))) := by
    unfold fSplit
    simp only [eb, zx, and_self, if_true, ep]
  have es : slD (.adr S1.n) none (some (-1)) (S1.alloc (.lst ((bds rows ++ [[]]).map strL))) = .ok (.adr (S1.n + 1)) ((S1.alloc (.lst ((bds rows ++ [[]]).map strL))).alloc (.lst ((bds rows).map strL))) := by
    show (match (S1.alloc (.lst ((bds rows ++ [[]]).map strL))).f S1.n with
      | some (.lst l) => Y.R.ok (D.adr (S1.alloc (.lst ((bds rows ++ [[]]).map strL))).n) ((S1.alloc (.lst ((bds rows ++ [[]]).map strL))).alloc (.lst (Y.cutD l none (some (-1)))))
      | _ => Y.R.bad) = _
    rw [at_new]
    dsimp only
    rw [ec]
    rfl
  have ty : tyF "str" (strL (lstT rows)) S1 = true := rfl
  simp (decide := true) only [List.length_cons, List.length_nil, mSl, mBM, mCall, mCons, mNil, mVar, mC, mU, oNo, oE, SM.bind, SM.pure, h6, List.append_nil, e1, ty, if_true, en, dNeg, es]
theorem bd_line (h : DR p d c m T parts wss rows) {q : Nat} {r : List Nat × Int} (hr : r ∈ rows) (hq : q < rows.length) : Sgn (bdL (gsL rows) rows.length q r) ∧ (bdL (gsL rows) rows.length q r).length ≤ 1000 := by
  have hl := h.len
  obtain ⟨a, b, _⟩ := lnL_len (gs := gsL rows) (many := rows.length) (p := q) (h.tx.row r hr).2.2.2 (by omega)
  have an := ins_an _ (h.tx.row r hr).1
  refine ⟨?_, ?_⟩
  · unfold bdL nameL restL
    have s1 : Sgn (numL q) := (num_an q).sgn
    have s2 : Sgn (nmI r.2) := (num_an _).sgn
    have c1 : ∀ {x : Nat} {l : List Nat}, x < 0x110000 → Sgn l → Sgn (x :: l) := fun hx hl c hc => (List.mem_cons.mp hc).elim (fun e => e ▸ hx) (hl c)
    refine sgn_app (sgn_app ?_ an.1.sgn) ?_
    · split
      · exact c1 (by decide) (sgn_app s1 (sgn_of (by decide)))
      · exact sgn_nil
    · split
      · split
        · exact c1 (by decide) (c1 (by decide) s2)
        · exact c1 (by decide) s2
      · split
        · exact sgn_nil
        · exact c1 (by decide) s2
  · unfold bdL
    rw [List.length_append, List.length_append]
    omega
/-- the parts of a listing's line -/
theorem line_at (h : DR p d c m T parts wss rows) {idx : Nat} (hi : idx < rows.length) {S1 : Sr} : ∃ l as, (bds rows)[idx]? = some l ∧ ∃ S' i j, f_line_parts [strL l] S1 = .ok (.tup [.adr i, .adr j]) S' ∧ Xt S1 S' ∧ i < S'.n ∧ j < S'.n ∧ S'.f i = some (.lst ((nsG (gsL rows) idx).map strL)) ∧ S'.f j = some (.lst ((rows[idx].1 :: as).map strL)) ∧ ∀ x ∈ rows[idx].1 :: as, Sgn x := by
  have hl := h.len
  have hm := List.getElem_mem hi
  obtain ⟨s1, s2⟩ := bd_line h hm hi
  have bp := bd_parse (gs := gsL rows) (many := rows.length) (p := idx) (h.tx.row _ hm).1 (by omega)
  have P := e_parts (x := sg (bdL (gsL rows) rows.length idx rows[idx])) (S := S1) (by rw [sg_len]; exact s2) (by rw [tl_sg]; exact s1)
  rw [tl_sg, bp] at P
  obtain ⟨S', i, j, e, xt, i1, i2, j1, j2, ij, fi, fj⟩ := P
  have lo := lp_ok s1 s2 bp
  refine ⟨_, arL rows.length rows[idx], ?_, S', i, j, e, xt, i2, j2, fi, fj, fun x hx => (lo.1 x hx).1⟩
  unfold bds
  rw [bds_get hi, Nat.zero_add]
end
end K11

set_option Elab.async false
set_option linter.all false
set_option maxRecDepth 100000
set_option maxHeartbeats 4000000
namespace K11
open PySem PySem.Spec PyProof.Rows L2 Y TL
/-! ### the goals' dict, sorted -/
def pairI (l : List Int) : List (Key × D) := l.map fun i => (Sum.inl i, D.int 1)
theorem pairs_ints (l : List Int) : pairsD (l.map fun i => D.tup [.int i, .int 1]) = some (pairI l) := by
  induction l with
  | nil => rfl
  | cons i l ih =>
    rw [List.map_cons]
    show (match keyD (.int i), pairsD (l.map fun i => D.tup [.int i, .int 1]) with
      | some a, some l => some ((a, D.int 1) :: l)
      | _, _ => none) = _
    rw [ih]
    rfl
def AllI (l : List (Key × D)) : Prop := ∀ q ∈ l, ∃ i : Int, q.1 = Sum.inl i
theorem AllI.put {l : List (Key × D)} (h : AllI l) {i : Int} {v : D} : AllI (putD l (Sum.inl i) v) := by
  unfold putD
  split
  · intro q hq
    obtain ⟨q0, h0, rfl⟩ := List.mem_map.mp hq
    split
    · exact h q0 h0
    · exact h q0 h0
  · intro q hq
    rcases List.mem_append.mp hq with hq | hq
    · exact h q hq
    · rw [List.mem_singleton.mp hq]
      exact ⟨i, rfl⟩
theorem merge_ints : ∀ {l : List Int} {acc : List (Key × D)}, AllI acc → AllI (mergeD acc (pairI l)) ∧ (mergeD acc (pairI l)).length ≤ acc.length + l.length ∧ ∀ i : Int, (lookD (mergeD acc (pairI l)) (Sum.inl i)).isSome = (decide (i ∈ l) || (lookD acc (Sum.inl i)).isSome)
  | [], acc, h => ⟨h, Nat.le_refl _, fun i => by simp [pairI, mergeD]⟩
  | j :: l, acc, h => by
    have e : mergeD acc (pairI (j :: l)) = mergeD (putD acc (Sum.inl j) (.int 1)) (pairI l) := rfl
    obtain ⟨h1, h2, h3⟩ := merge_ints (l := l) (h.put (i := j) (v := .int 1))
    have pl := put_len (l := acc) (k := (Sum.inl j : Key)) (v := .int 1)
    rw [e]
    refine ⟨h1, by rw [List.length_cons]; omega, fun i => ?_⟩
    rw [h3 i, look_put, ← Bool.or_assoc]
    congr 1
    have : decide ((Sum.inl i : Key) = Sum.inl j) = decide (i = j) := decide_eq_decide.mpr ⟨fun h => Sum.inl.inj h, fun h => by rw [h]⟩
    rw [this, Bool.or_comm, ← Bool.decide_or]
    exact decide_eq_decide.mpr List.mem_cons.symm
theorem keys_ints : ∀ {l : List (Key × D)}, AllI l → ∃ ks, intKeys l = some ks ∧ ks.length = l.length ∧ ∀ i : Int, decide (i ∈ ks) = (lookD l (Sum.inl i)).isSome
  | [], _ => ⟨[], rfl, rfl, fun i => rfl⟩
  | (q, v) :: l, h => by
    obtain ⟨j, hj⟩ := h (q, v) List.mem_cons_self
    have hj : q = Sum.inl j := hj
    subst hj
    obtain ⟨ks, h1, h2, h3⟩ := keys_ints (l := l) fun q hq => h q (List.mem_cons_of_mem _ hq)
    refine ⟨j :: ks, ?_, by rw [List.length_cons, h2]; rfl, fun i => ?_⟩
    · show (intKeys l).map (j :: ·) = _
      rw [h1]
      rfl
    · rw [look_cons]
      by_cases z : i = j
      · rw [if_pos (by rw [z])]
        simp [z]
      · rw [if_neg (fun h => z (Sum.inl.inj h).symm), ← h3]
        simp [z]
theorem in_ints {x : Int} {l : List Int} {S : Sr} {i : Nat} (h : S.f i = some (.lst (l.map D.int))) : dIn false (.int x) (.adr i) S = .ok (.bl (decide (x ∈ l))) S := by
  have h1 : mapO flatD (l.map D.int) = some (l.map V.int) := mapO_map (f := flatD) (g := D.int) (h := V.int) (fun a => rfl) l
  have h2 : inV (.int x) (l.map V.int) = decide (x ∈ l) := by
    clear h1 h
    induction l with
    | nil => rfl
    | cons a l ih =>
      unfold inV at ih ⊢
      rw [List.map_cons, List.any_cons, ih]
      have e : eqV (.int a) (.int x) = decide (x = a) := by
        show (a == x) = _
        rw [Bool.eq_iff_iff, decide_eq_true_iff, beq_iff_eq]
        exact eq_comm
      rw [e, ← Bool.decide_or]
      exact decide_eq_decide.mpr List.mem_cons.symm
  simp [dIn, orF, inSeq, itemsD, flatD, h1, h2, h]
section
variable {p : Nat → Int} {d c m z R : Nat} {T : List Nat} {parts : List (List Nat)} {wss : List (List (List Nat))} {rows : List (List Nat × Int)} {S : Sr} {x0 x1 x2 x3 x5 x7 x8 x9 x10 x11 x12 x13 x14 x15 x16 x17 x18 x19 x20 x21 : Option D}
abbrev GG (x0 x1 x2 x3 : Option D) (z : Nat) (x5 : Option D) (R : Nat) (x7 x8 x9 x10 x11 x12 x13 x14 x15 x16 x17 x18 x19 x20 x21 : Option D) : Gm := [x0, x1, x2, x3, some (.adr z), x5, some (.adr R), x7, x8, x9, x10, x11, x12, x13, x14, x15, x16, x17, x18, x19, x20, x21]
abbrev eT3 : MT := mTB (mB dEq (mB dIx (mCall f_line_parts 1 [] (mCons (mVar 20) mNil)) (mC (.int 1))) (mLst mNil))
theorem loop3 (h : DR p d c m T parts wss rows) {S0 : Sr} {j0 D0 : Nat} (hj : S0.f j0 = some (.lst ((bds rows).map strL))) (hl : j0 < S0.n) : ∀ (r idx : Nat) (S1 : Sr), idx + r = rows.length → Xt S0 S1 →
    ∃ S2, lcG (sqa j0 rows.length) (.nm 20) eT3 (mVar 20) (GG x0 x1 x2 x3 z x5 R x7 x8 x9 x10 x11 x12 x13 x14 x15 x16 x17 x18 x19 none x21) D0 r idx S1 = .ok () S2 ∧ Xt S0 S2
  | 0, idx, S1, e, xt => by
    refine ⟨S1, lc_end ?_, xt⟩
    rw [nx_sqa (xt.at_ hj hl), List.getElem?_eq_none (by unfold bds; rw [List.length_map, bds_len]; omega)]
  | r + 1, idx, S1, e, xt => by
    have hi : idx < rows.length := by omega
    obtain ⟨l, as, el, S', i, j, e1, xl, i2, j2, fi, fj, sg1⟩ := line_at h hi (S1 := S1)
    have en : (sqa j0 rows.length).nxt idx S1 = some (some (strL l)) := by
      rw [nx_sqa (xt.at_ hj hl), List.getElem?_map, el]
      rfl
    have eq := eq_nilS (S := S'.alloc (.lst [])) (j := S'.n) (at_old fj j2) at_new sg1
    have eq : dEq (.adr j) (.adr S'.n) (S'.alloc (.lst [])) = .ok (.bl false) (S'.alloc (.lst [])) := eq
    have i1 : dIx (.tup [.adr i, .adr j]) (.int 1) S' = .ok (.adr j) S' := ixT1
    have et : eT3 (GG x0 x1 x2 x3 z x5 R x7 x8 x9 x10 x11 x12 x13 x14 x15 x16 x17 x18 x19 (some (strL l)) x21) S1 = .ok false (S'.alloc (.lst [])) := by
      simp (decide := true) [eT3, mSeq, mPass, mBrk, mCnt, mDrop, mRet, mRetN, mIfS, mRaise, mSet, mAsg, mPar, mPar3, mAug, mFld, mFldAug, gNm, gSub', gFld, gNl, gCn, gTp, setA, putFD, mVar, mC, mB, mU, mTB, mAnd, mOr, mNot, mIf, mAndV, mOrV, mNotV, mChain, mNil, mCons, mTup, mLst, mSl, oNo, oE, mCB, fAbs, fMax2, fMin2, fInt, lenD, fLen, fTuple, fList, itemsD, fIsi, tyD, mAttr, mCall, mMeth, mMake, mBM, tyF, SM.bind, SM.pure, toRS, toRSA, toRST, Y.sb, List.lookup, put_f, put_n, alloc_f, alloc_n, put_put, alloc_put, okI, okB, orF, dSub, dFdiv, dMod, dPow, dShl, dShr, dAnd, dOr, dXor, dNeg, dLt, dLe, dGt, dGe, dIs, e1, i1, eq]
    obtain ⟨S2, e2, xm⟩ := loop3 h hj hl r (idx + 1) (S'.alloc (.lst [])) (by omega) ((xt.trans xl).alloc')
    exact ⟨S2, (lc_skip en rfl et).trans e2, xm⟩
theorem l131 (h : DR p d c m T parts wss rows) (t : CT d c z R rows S) : ∃ S', b_law_s131 (GG x0 x1 x2 x3 z x5 R x7 x8 x9 x10 x11 x12 x13 x14 x15 (some (strL T)) x17 x18 x19 x20 x21) S = .nx (GG x0 x1 x2 x3 z x5 R x7 x8 x9 x10 x11 x12 x13 x14 x15 (some (strL T)) x17 x18 x19 x20 x21) S' ∧ Xt S S' := by
  let g : Gm := GG x0 x1 x2 x3 z x5 R x7 x8 x9 x10 x11 x12 x13 x14 x15 (some (strL T)) x17 x18 x19 x20 x21
  obtain ⟨S1, e1, xa⟩ := h.asm1 t
  have t1 := t.mono xa
  have n1 : dNe (.adr S1.n) (.adr R) (S1.alloc (.lst (rows.map rowN))) = .ok (.bl false) (S1.alloc (.lst (rows.map rowN))) := ne_rows at_new (at_old t1.ro t1.rl) h.sgn
  have T1 : mTB (mB dNe (mCB fList (mCons (mCall f_assemble 2 [] (mCons (mVar 16) (mCons (mVar 4) mNil))) mNil)) (mVar 6)) g S = .ok false (S1.alloc (.lst (rows.map rowN))) := by
    simp (decide := true) [mSeq, mPass, mBrk, mCnt, mDrop, mRet, mRetN, mIfS, mRaise, mSet, mAsg, mPar, mPar3, mAug, mFld, mFldAug, gNm, gSub', gFld, gNl, gCn, gTp, setA, putFD, mVar, mC, mB, mU, mTB, mAnd, mOr, mNot, mIf, mAndV, mOrV, mNotV, mChain, mNil, mCons, mTup, mLst, mSl, oNo, oE, mCB, fAbs, fMax2, fMin2, fInt, lenD, fLen, fTuple, fList, itemsD, fIsi, tyD, mAttr, mCall, mMeth, mMake, mBM, tyF, SM.bind, SM.pure, toRS, toRSA, toRST, Y.sb, List.lookup, put_f, put_n, alloc_f, alloc_n, put_put, alloc_put, okI, okB, orF, dSub, dFdiv, dMod, dPow, dShl, dShr, dAnd, dOr, dXor, dNeg, dLt, dLe, dGt, dGe, dIs, g, e1, n1]
  have t2 : CT d c z R rows (S1.alloc (.lst (rows.map rowN))) := t1.mono Xt.alloc
  obtain ⟨S2, e2, xb⟩ := h.lst t2
  have t3 := t2.mono xb
  obtain ⟨S3, e3, xc⟩ := h.asm2 t3
  have t4 := t3.mono xc
  have n2 : dNe (.adr S3.n) (.adr R) (S3.alloc (.lst (rows.map rowN))) = .ok (.bl false) (S3.alloc (.lst (rows.map rowN))) := ne_rows at_new (at_old t4.ro t4.rl) h.sgn
  have T2 : mTB (mB dNe (mCB fList (mCons (mCall f_assemble 2 [] (mCons (mCall f_listing 1 [] (mCons (mVar 6) mNil)) (mCons (mVar 4) mNil))) mNil)) (mVar 6)) g (S1.alloc (.lst (rows.map rowN))) = .ok false (S3.alloc (.lst (rows.map rowN))) := by
    simp (decide := true) [mSeq, mPass, mBrk, mCnt, mDrop, mRet, mRetN, mIfS, mRaise, mSet, mAsg, mPar, mPar3, mAug, mFld, mFldAug, gNm, gSub', gFld, gNl, gCn, gTp, setA, putFD, mVar, mC, mB, mU, mTB, mAnd, mOr, mNot, mIf, mAndV, mOrV, mNotV, mChain, mNil, mCons, mTup, mLst, mSl, oNo, oE, mCB, fAbs, fMax2, fMin2, fInt, lenD, fLen, fTuple, fList, itemsD, fIsi, tyD, mAttr, mCall, mMeth, mMake, mBM, tyF, SM.bind, SM.pure, toRS, toRSA, toRST, Y.sb, List.lookup, put_f, put_n, alloc_f, alloc_n, put_put, alloc_put, okI, okB, orF, dSub, dFdiv, dMod, dPow, dShl, dShr, dAnd, dOr, dXor, dNeg, dLt, dLe, dGt, dGe, dIs, g, e2, e3, n2]
  have t5 : CT d c z R rows (S3.alloc (.lst (rows.map rowN))) := t4.mono Xt.alloc
  obtain ⟨S4, j0, e4, xd, f4, l4⟩ := lines_of h t5 (g := g) rfl
  have es : mSrc (mSl slD (mBM "str" fSplit (mCall f_listing 1 [] (mCons (mVar 6) mNil)) (mCons (mC (.str "\n")) mNil)) oNo (oE (mU dNeg (mC (.int 1))))) g (S3.alloc (.lst (rows.map rowN))) = .ok (sqa j0 rows.length) S4 := by
    have bl : ((bds rows).map strL).length = rows.length := by unfold bds; rw [List.length_map, bds_len]
    unfold mSrc SM.bind
    rw [e4]
    show (match S4.f j0 with
      | some (.lst l) => Y.R.ok (sqa j0 l.length) S4
      | _ => Y.R.bad) = _
    rw [f4]
    dsimp only
    rw [bl]
  obtain ⟨S5, e5, xe⟩ := loop3 (x0 := x0) (x1 := x1) (x2 := x2) (x3 := x3) (z := z) (x5 := x5) (R := R) (x7 := x7) (x8 := x8) (x9 := x9) (x10 := x10) (x11 := x11) (x12 := x12) (x13 := x13) (x14 := x14) (x15 := x15) (x16 := some (strL T)) (x17 := x17) (x18 := x18) (x19 := x19) (x21 := x21) h (S0 := S4.alloc (.lst [])) (D0 := S4.n) (at_old f4 l4) (Nat.lt_succ_of_lt l4) rows.length 0 (S4.alloc (.lst [])) (Nat.zero_add _) (Xt.refl _)
  have e6 : mLc (mSrc (mSl slD (mBM "str" fSplit (mCall f_listing 1 [] (mCons (mVar 6) mNil)) (mCons (mC (.str "\n")) mNil)) oNo (oE (mU dNeg (mC (.int 1)))))) (.nm 20) eT3 (mVar 20) [20] g (S3.alloc (.lst (rows.map rowN))) = .ok (.adr S4.n) S5 := mLc_ok es e5
  have f5 : S5.f S4.n = some (.lst (([] : List (List Nat)).map strL)) := xe.at_ at_new (Nat.lt_succ_self _)
  have l5 : S4.n < S5.n := Nat.lt_of_lt_of_le (Nat.lt_succ_self _) xe.le
  have n3 : dNe (.adr S4.n) (.adr S5.n) (S5.alloc (.lst [])) = .ok (.bl false) (S5.alloc (.lst [])) := ne_strs (l := []) (at_old f5 l5) at_new (fun r hr => nomatch hr)
  have z0 : 0 ≤ sizeLine := Nat.zero_le _
  have T3 : mTB (mB dNe (mLc (mSrc (mSl slD (mBM "str" fSplit (mCall f_listing 1 [] (mCons (mVar 6) mNil)) (mCons (mC (.str "\n")) mNil)) oNo (oE (mU dNeg (mC (.int 1)))))) (.nm 20) eT3 (mVar 20) [20]) (mLst mNil)) g (S3.alloc (.lst (rows.map rowN))) = .ok false (S5.alloc (.lst [])) := by
    have el : mLst mNil g S5 = .ok (.adr S5.n) (S5.alloc (.lst [])) := by
      simp [mLst, mNil, SM.bind, SM.pure, z0]
    unfold mTB mB SM.bind
    rw [e6]
    dsimp only
    rw [el]
    dsimp only
    rw [n3]
  refine ⟨S5.alloc (.lst []), ?_, ((((xa.alloc'.trans xb).trans xc).alloc'.trans xd).trans (Xt.alloc.trans xe)).alloc'⟩
  unfold b_law_s131
  rw [ifs_f (or_f T1 (or_f T2 T3))]
  rfl
end
end K11

set_option Elab.async false
set_option linter.all false
set_option maxRecDepth 100000
set_option maxHeartbeats 4000000
namespace K11
open PySem PySem.Spec PyProof.Rows L2 Y TL
section
variable {p : Nat → Int} {d c m z R : Nat} {T : List Nat} {parts : List (List Nat)} {wss : List (List (List Nat))} {rows : List (List Nat × Int)} {S : Sr} {x0 x1 x2 x3 x5 x7 x8 x9 x10 x11 x12 x13 x14 x15 x16 x17 x18 x19 x20 x21 : Option D}
abbrev eT5 : MT := mAnd (mTB (mB (dIn false) (mB dIx (mVar 21) (mC (.int 0))) (mLst (mCons (mC (.str "jump")) (mCons (mC (.str "zero")) (mCons (mC (.str "less")) mNil)))))) (mTB (mB dLt (mB dIx (mVar 21) (mC (.int 1))) (mVar 5)))
abbrev eV5 : ME := mTup (mCons (mB dIx (mVar 21) (mC (.int 1))) (mCons (mC (.int 1)) mNil))
def glL (m : Nat) (rows : List (List Nat × Int)) : List Int := (rows.filter fun r => decide (r.1 ∈ JMP) && decide (r.2 < (m : Int))).map (·.2)
theorem glL_mem {i : Int} : i ∈ glL m rows ↔ i ∈ gsL rows ∧ i < (m : Int) := by
  unfold glL gsL
  constructor
  · intro h
    obtain ⟨r, hr, rfl⟩ := List.mem_map.mp h
    obtain ⟨h1, h2⟩ := List.mem_filter.mp hr
    rw [Bool.and_eq_true] at h2
    exact ⟨List.mem_map.mpr ⟨r, List.mem_filter.mpr ⟨h1, h2.1⟩, rfl⟩, of_decide_eq_true h2.2⟩
  · rintro ⟨h, hi⟩
    obtain ⟨r, hr, rfl⟩ := List.mem_map.mp h
    obtain ⟨h1, h2⟩ := List.mem_filter.mp hr
    exact List.mem_map.mpr ⟨r, List.mem_filter.mpr ⟨h1, by rw [h2, decide_eq_true hi]; rfl⟩, rfl⟩
theorem loop5 {S0 : Sr} {D0 : Nat} (hr : S0.f R = some (.lst (rows.map rowN))) (hl : R < S0.n) (hD : S0.n ≤ D0) (hz : rows.length ≤ 100) : ∀ (r idx : Nat) (acc : List Int) (S1 : Sr), idx + r = rows.length → acc.length ≤ idx → Xt S0 S1 → D0 < S1.n → S1.f D0 = some (.lst (acc.map fun i => D.tup [.int i, .int 1])) →
    ∃ S2, lcG (sqa R rows.length) (.nm 21) eT5 eV5 (GG x0 x1 x2 x3 z (some (.int (m : Int))) R x7 x8 x9 x10 x11 x12 x13 x14 x15 x16 x17 x18 x19 x20 none) D0 r idx S1 = .ok () S2 ∧ Xt S0 S2 ∧ S2.f D0 = some (.lst ((acc ++ glL m (rows.drop idx)).map fun i => D.tup [.int i, .int 1]))
  | 0, idx, acc, S1, e, ha, xt, hd, fd => by
    refine ⟨S1, lc_end ?_, xt, ?_⟩
    · rw [nx_sqa (xt.at_ hr hl), List.getElem?_eq_none (by rw [List.length_map]; omega)]
    · rw [List.drop_eq_nil_of_le (by omega)]
      show _ = some (MO.lst ((acc ++ []).map _))
      rw [List.append_nil]
      exact fd
  | r + 1, idx, acc, S1, e, ha, xt, hd, fd => by
    have hi : idx < rows.length := by omega
    have en : (sqa R rows.length).nxt idx S1 = some (some (rowN rows[idx])) := by
      rw [nx_sqa (xt.at_ hr hl), List.getElem?_map, List.getElem?_eq_getElem hi]
      rfl
    let g : Gm := GG x0 x1 x2 x3 z (some (.int (m : Int))) R x7 x8 x9 x10 x11 x12 x13 x14 x15 x16 x17 x18 x19 x20 (some (rowN rows[idx]))
    have i0 : ∀ S, dIx (rowN rows[idx]) (.int 0) S = .ok (strL rows[idx].1) S := fun S => ixT0
    have i1 : ∀ S, dIx (rowN rows[idx]) (.int 1) S = .ok (.int rows[idx].2) S := fun S => ixT1
    have ein := in_adr (x := rows[idx].1) (l := JMP) (S := S1.alloc (.lst (JMP.map strL))) (neg := false) at_new
    have el := lst3 (S := S1) (g := g)
    have ta : mTB (mB (dIn false) (mB dIx (mVar 21) (mC (.int 0))) (mLst (mCons (mC (.str "jump")) (mCons (mC (.str "zero")) (mCons (mC (.str "less")) mNil))))) g S1 = .ok (decide (rows[idx].1 ∈ JMP)) (S1.alloc (.lst (JMP.map strL))) := by
      have e0 : mB dIx (mVar 21) (mC (.int 0)) g S1 = .ok (strL rows[idx].1) S1 := by
        have h21 : g[21]? = some (some (rowN rows[idx])) := rfl
        simp only [mB, mVar, mC, SM.bind, SM.pure, h21, i0]
      unfold mTB SM.bind
      have : mB (dIn false) (mB dIx (mVar 21) (mC (.int 0))) (mLst (mCons (mC (.str "jump")) (mCons (mC (.str "zero")) (mCons (mC (.str "less")) mNil)))) g S1 = .ok (.bl (decide (rows[idx].1 ∈ JMP))) (S1.alloc (.lst (JMP.map strL))) := by
        show SM.bind (mB dIx (mVar 21) (mC (.int 0)) g) (fun x => SM.bind (mLst (mCons (mC (.str "jump")) (mCons (mC (.str "zero")) (mCons (mC (.str "less")) mNil))) g) (fun y => dIn false x y)) S1 = _
        simp only [SM.bind, e0, el, ein]
        rfl
      rw [this]
    have tb : ∀ S, mTB (mB dLt (mB dIx (mVar 21) (mC (.int 1))) (mVar 5)) g S = .ok (decide (rows[idx].2 < (m : Int))) S := fun S => by
      have h21 : g[21]? = some (some (rowN rows[idx])) := rfl
      have h5 : g[5]? = some (some (.int (m : Int))) := rfl
      simp only [mTB, mB, mVar, mC, SM.bind, SM.pure, h21, h5, i1, dLt, orF, okB]
    have et : eT5 g S1 = .ok (decide (rows[idx].1 ∈ JMP) && decide (rows[idx].2 < (m : Int))) (S1.alloc (.lst (JMP.map strL))) := by
      show SM.bind (mTB (mB (dIn false) (mB dIx (mVar 21) (mC (.int 0))) (mLst (mCons (mC (.str "jump")) (mCons (mC (.str "zero")) (mCons (mC (.str "less")) mNil))))) g) (fun k => if k = true then mTB (mB dLt (mB dIx (mVar 21) (mC (.int 1))) (mVar 5)) g else SM.pure false) S1 = _
      unfold SM.bind
      rw [ta]
      dsimp only
      by_cases z : rows[idx].1 ∈ JMP
      · rw [decide_eq_true z, if_pos rfl, tb]
        rfl
      · rw [decide_eq_false z, if_neg Bool.false_ne_true]
        rfl
    have fd1 : (S1.alloc (.lst (JMP.map strL))).f D0 = some (.lst (acc.map fun i => D.tup [.int i, .int 1])) := at_old fd hd
    have gd : glL m (rows.drop idx) = (if (decide (rows[idx].1 ∈ JMP) && decide (rows[idx].2 < (m : Int))) = true then [rows[idx].2] else []) ++ glL m (rows.drop (idx + 1)) := by
      rw [List.drop_eq_getElem_cons hi]
      unfold glL
      by_cases q : (decide (rows[idx].1 ∈ JMP) && decide (rows[idx].2 < (m : Int))) = true
      · rw [List.filter_cons, if_pos q, if_pos q]
        rfl
      · rw [List.filter_cons, if_neg q, if_neg q]
        rfl
    by_cases q : (decide (rows[idx].1 ∈ JMP) && decide (rows[idx].2 < (m : Int))) = true
    · rw [q] at et
      have sz2 : 2 ≤ sizeLine := by rw [sizeLine_eq]; omega
      have ev : eV5 g (S1.alloc (.lst (JMP.map strL))) = .ok (.tup [.int rows[idx].2, .int 1]) (S1.alloc (.lst (JMP.map strL))) := by
        have h21 : g[21]? = some (some (rowN rows[idx])) := rfl
        simp (decide := true) only [eV5, mTup, mCons, mNil, mB, mVar, mC, SM.bind, SM.pure, h21, i1, List.length_cons, List.length_nil, sz2, if_true]
      have e1 := lc_nx (r := r) en (g0 := GG x0 x1 x2 x3 z (some (.int (m : Int))) R x7 x8 x9 x10 x11 x12 x13 x14 x15 x16 x17 x18 x19 x20 none) (t := .nm 21) (g := g) rfl et ev fd1 (by rw [List.length_map, sizeLine_eq]; omega)
      have ea : (acc.map fun i => D.tup [.int i, .int 1]) ++ [D.tup [.int rows[idx].2, .int 1]] = (acc ++ [rows[idx].2]).map fun i => D.tup [.int i, .int 1] := by rw [List.map_append]; rfl
      rw [ea] at e1
      obtain ⟨S2, e2, xm, f2⟩ := loop5 hr hl hD hz r (idx + 1) (acc ++ [rows[idx].2]) _ (by omega) (by rw [List.length_append, List.length_singleton]; omega) (xt.alloc'.put (x := .lst ((acc ++ [rows[idx].2]).map fun i => D.tup [.int i, .int 1])) hD) (Nat.lt_succ_of_lt hd) at_put
      refine ⟨S2, e1.trans e2, xm, ?_⟩
      rw [f2, gd, if_pos q, List.append_assoc]
    · have q' : (decide (rows[idx].1 ∈ JMP) && decide (rows[idx].2 < (m : Int))) = false := by simpa using q
      rw [q'] at et
      have e1 := lc_skip (r := r) en (g0 := GG x0 x1 x2 x3 z (some (.int (m : Int))) R x7 x8 x9 x10 x11 x12 x13 x14 x15 x16 x17 x18 x19 x20 none) (t := .nm 21) (g := g) (me := eV5) (D0 := D0) rfl et
      obtain ⟨S2, e2, xm, f2⟩ := loop5 hr hl hD hz r (idx + 1) acc _ (by omega) (by omega) xt.alloc' (Nat.lt_succ_of_lt hd) fd1
      refine ⟨S2, e1.trans e2, xm, ?_⟩
      rw [f2, gd, if_neg q, List.nil_append]
theorem l133 (h : DR p d c m T parts wss rows) (t : CT d c z R rows S) : ∃ (S' : Sr) (G : Nat) (gl : List Int), b_law_s133 (GG x0 x1 x2 x3 z (some (.int (m : Int))) R x7 x8 x9 x10 x11 x12 x13 x14 x15 x16 x17 x18 x19 x20 x21) S = .nx (GG x0 x1 x2 x3 z (some (.int (m : Int))) R x7 x8 x9 x10 x11 x12 x13 x14 x15 x16 (some (.adr G)) x18 x19 x20 x21) S' ∧ Xt S S' ∧ S'.f G = some (.lst (gl.map D.int)) ∧ G < S'.n ∧ ∀ i : Int, i ∈ gl ↔ i ∈ gsL rows ∧ i < (m : Int) := by
  let g : Gm := GG x0 x1 x2 x3 z (some (.int (m : Int))) R x7 x8 x9 x10 x11 x12 x13 x14 x15 x16 x17 x18 x19 x20 x21
  have hlen := h.len
  obtain ⟨S1, e1, xa, f1⟩ := loop5 (x0 := x0) (x1 := x1) (x2 := x2) (x3 := x3) (z := z) (m := m) (x7 := x7) (x8 := x8) (x9 := x9) (x10 := x10) (x11 := x11) (x12 := x12) (x13 := x13) (x14 := x14) (x15 := x15) (x16 := x16) (x17 := x17) (x18 := x18) (x19 := x19) (x20 := x20) t.ro t.rl (D0 := S.n) (Nat.le_refl _) (by omega) rows.length 0 [] (S.alloc (.lst [])) (Nat.zero_add _) (Nat.le_refl _) Xt.alloc (Nat.lt_succ_self _) at_new
  rw [List.drop_zero, List.nil_append] at f1
  have es : mSrc (mVar 6) g S = .ok (sqa R rows.length) S := by
    have := t.ro
    show (match S.f R with
      | some (.lst l) => Y.R.ok (sqa R l.length) S
      | _ => Y.R.bad) = _
    rw [this]
    dsimp only
    rw [List.length_map]
  have e2 : mLc (mSrc (mVar 6)) (.nm 21) eT5 eV5 [21] g S = .ok (.adr S.n) S1 := mLc_ok es e1
  have gll : (glL m rows).length ≤ 20 := by
    unfold glL
    rw [List.length_map]
    exact Nat.le_trans (List.length_filter_le _ _) hlen
  obtain ⟨h1, h2, h3⟩ := merge_ints (l := glL m rows) (acc := []) (fun q hq => nomatch hq)
  obtain ⟨ks, k1, k2, k3⟩ := keys_ints h1
  have ed : fDict [.adr S.n] S1 = .ok (.adr S1.n) (S1.alloc (.dic (mergeD [] (pairI (glL m rows))))) := by
    have ep := pairs_ints (glL m rows)
    unfold fDict
    simp only [f1, ep]
  have esr : fSortD [.adr S1.n] (S1.alloc (.dic (mergeD [] (pairI (glL m rows))))) = .ok (.adr (S1.n + 1)) ((S1.alloc (.dic (mergeD [] (pairI (glL m rows))))).alloc (.lst ((srtI ks).map .int))) := by
    have hd : (S1.alloc (.dic (mergeD [] (pairI (glL m rows))))).f S1.n = some (.dic (mergeD [] (pairI (glL m rows)))) := at_new
    have lk : ks.length < 64 := by
      rw [List.length_nil] at h2
      omega
    unfold fSortD
    simp only [hd, k1, lk, if_true]
    rfl
  refine ⟨_, S1.n + 1, srtI ks, ?_, (xa.alloc').alloc', at_new (S := S1.alloc (.dic (mergeD [] (pairI (glL m rows))))), Nat.lt_succ_self _, fun i => ?_⟩
  · show b_law_s133 g S = _
    unfold b_law_s133 mSet toRS
    have : mCB fSortD (mCons (mCB fDict (mCons (mLc (mSrc (mVar 6)) (.nm 21) eT5 eV5 [21]) mNil)) mNil) g S = .ok (.adr (S1.n + 1)) ((S1.alloc (.dic (mergeD [] (pairI (glL m rows))))).alloc (.lst ((srtI ks).map .int))) := by
      simp only [mCB, mCons, mNil, SM.bind, SM.pure, e2, ed, esr]
    rw [this]
    rfl
  · have q1 : i ∈ srtI ks ↔ i ∈ ks := (srtI_perm ks).mem_iff
    rw [q1, ← glL_mem]
    have := k3 i
    rw [h3 i] at this
    have e0 : (lookD ([] : List (Key × D)) (Sum.inl i)).isSome = false := rfl
    rw [e0, Bool.or_false] at this
    exact decide_eq_decide.mp this
end
end K11

set_option Elab.async false
set_option linter.all false
set_option maxRecDepth 100000
set_option maxHeartbeats 4000000
namespace K11
open PySem PySem.Spec PyProof.Rows L2 Y TL
section
variable {p : Nat → Int} {d c m z R : Nat} {T : List Nat} {parts : List (List Nat)} {wss : List (List (List Nat))} {rows : List (List Nat × Int)} {S : Sr} {x0 x1 x2 x3 x5 x7 x8 x9 x10 x11 x12 x13 x14 x15 x16 x17 x18 x19 x20 x21 : Option D}
abbrev eT6 : MT := mTB (mB dNe (mB dIx (mCall f_line_parts 1 [] (mCons (mVar 20) mNil)) (mC (.int 0))) (mIf (mTB (mB (dIn false) (mVar 9) (mVar 17))) (mLst (mCons (mB dAdd (mC (.str "p")) (mCB fStr (mCons (mVar 9) mNil))) mNil)) (mLst mNil)))
theorem loop6 (h : DR p d c m T parts wss rows) {S0 : Sr} {j0 D0 G : Nat} {gl : List Int} (hj : S0.f j0 = some (.lst ((bds rows).map strL))) (hl : j0 < S0.n) (hG : S0.f G = some (.lst (gl.map D.int))) (lG : G < S0.n) (hg : ∀ i : Int, i ∈ gl ↔ i ∈ gsL rows ∧ i < (m : Int)) : ∀ (r idx : Nat) (S1 : Sr), idx + r = rows.length → Xt S0 S1 →
    ∃ S2, lcG (sqe (sqa j0 rows.length)) (.tp [9, 20]) eT6 (mVar 9) (GG x0 x1 x2 x3 z x5 R x7 x8 none x10 x11 x12 x13 x14 x15 x16 (some (.adr G)) x18 x19 none x21) D0 r idx S1 = .ok () S2 ∧ Xt S0 S2
  | 0, idx, S1, e, xt => by
    refine ⟨S1, lc_end ?_, xt⟩
    show (match (sqa j0 rows.length).nxt idx S1 with
      | some (some d) => some (some (D.tup [.int (idx : Int), d]))
      | some none => some none
      | none => none) = _
    rw [nx_sqa (xt.at_ hj hl), List.getElem?_eq_none (by unfold bds; rw [List.length_map, bds_len]; omega)]
  | r + 1, idx, S1, e, xt => by
    have hi : idx < rows.length := by omega
    have hlen := h.len
    obtain ⟨l, as, el, S', i, j, e1, xl, i2, j2, fi, fj, sg1⟩ := line_at h hi (S1 := S1)
    have en : (sqe (sqa j0 rows.length)).nxt idx S1 = some (some (.tup [.int (idx : Int), strL l])) := by
      show (match (sqa j0 rows.length).nxt idx S1 with
        | some (some d) => some (some (D.tup [.int (idx : Int), d]))
        | some none => some none
        | none => none) = _
      rw [nx_sqa (xt.at_ hj hl), List.getElem?_map, el]
      rfl
    let g : Gm := GG x0 x1 x2 x3 z x5 R x7 x8 (some (.int (idx : Int))) x10 x11 x12 x13 x14 x15 x16 (some (.adr G)) x18 x19 (some (strL l)) x21
    have i0 : dIx (.tup [.adr i, .adr j]) (.int 0) S' = .ok (.adr i) S' := ixT0
    have xt' : Xt S0 S' := xt.trans xl
    have ein := in_ints (x := (idx : Int)) (xt'.at_ hG lG)
    have hin : (idx : Int) ∈ gl ↔ (idx : Int) ∈ gsL rows := by
      rw [hg]
      have := h.tx.ln.2
      exact ⟨fun h => h.1, fun h => ⟨h, by omega⟩⟩
    have fs := fStr_n (n := idx) (S := S') (by omega)
    have nl := numL_len (n := idx) (k := 3) (by omega) (by omega)
    have w1 : Str.ofString "p" = sg [112] := by rw [sg_str]; decide +kernel
    have ad : dAdd (strL [112]) (strL (numL idx)) S' = .ok (strL (pn idx)) S' := addT (by simp; omega)
    have sz1 : 1 ≤ sizeLine := by rw [sizeLine_eq]; omega
    have z0 : 0 ≤ sizeLine := Nat.zero_le _
    have hs : ∀ x ∈ nsG (gsL rows) idx, Sgn x := fun x hx => by
      unfold nsG at hx
      split at hx
      · rw [List.mem_singleton.mp hx]
        exact (pn_an idx).sgn
      · cases hx
    have nn : dNe (.adr i) (.adr S'.n) (S'.alloc (.lst ((nsG (gsL rows) idx).map strL))) = .ok (.bl false) (S'.alloc (.lst ((nsG (gsL rows) idx).map strL))) := ne_strs (at_old fi i2) at_new hs
    have h9 : g[9]? = some (some (.int (idx : Int))) := rfl
    have h17 : g[17]? = some (some (.adr G)) := rfl
    have h20 : g[20]? = some (some (strL l)) := rfl
    have e2 : mB dIx (mCall f_line_parts 1 [] (mCons (mVar 20) mNil)) (mC (.int 0)) g S1 = .ok (.adr i) S' := by
      simp (decide := true) only [mB, mCall, mCons, mNil, mVar, mC, SM.bind, SM.pure, h20, List.append_nil, List.length_cons, List.length_nil, if_true, e1, i0]
    have e3 : mIf (mTB (mB (dIn false) (mVar 9) (mVar 17))) (mLst (mCons (mB dAdd (mC (.str "p")) (mCB fStr (mCons (mVar 9) mNil))) mNil)) (mLst mNil) g S' = .ok (.adr S'.n) (S'.alloc (.lst ((nsG (gsL rows) idx).map strL))) := by
      by_cases q : (idx : Int) ∈ gl
      · rw [decide_eq_true q] at ein
        have en : nsG (gsL rows) idx = [pn idx] := if_pos (hin.mp q)
        rw [en]
        simp (decide := true) only [mIf, mTB, mB, mVar, mC, mLst, mCons, mNil, mCB, SM.bind, SM.pure, h9, h17, ein, if_true, w1, fs, ad, List.length_cons, List.length_nil, sz1]
        rfl
      · rw [decide_eq_false q] at ein
        have en : nsG (gsL rows) idx = [] := if_neg (fun h => q (hin.mpr h))
        rw [en]
        simp (decide := true) only [mIf, mTB, mB, mVar, mC, mLst, mCons, mNil, mCB, SM.bind, SM.pure, h9, h17, ein, if_false, Bool.false_eq_true, List.length_cons, List.length_nil, z0, if_true]
        rfl
    have et : eT6 g S1 = .ok false (S'.alloc (.lst ((nsG (gsL rows) idx).map strL))) := by
      refine tb_of ?_
      show SM.bind (mB dIx (mCall f_line_parts 1 [] (mCons (mVar 20) mNil)) (mC (.int 0)) g) (fun x => SM.bind (mIf (mTB (mB (dIn false) (mVar 9) (mVar 17))) (mLst (mCons (mB dAdd (mC (.str "p")) (mCB fStr (mCons (mVar 9) mNil))) mNil)) (mLst mNil) g) (fun y => dNe x y)) S1 = _
      unfold SM.bind
      rw [e2]
      dsimp only
      rw [e3]
      exact nn
    obtain ⟨S2, e4, xm⟩ := loop6 h hj hl hG lG hg r (idx + 1) _ (by omega) xt'.alloc'
    exact ⟨S2, (lc_skip en rfl et).trans e4, xm⟩
theorem l134 {G : Nat} {gl : List Int} (h : DR p d c m T parts wss rows) (t : CT d c z R rows S) (hG : S.f G = some (.lst (gl.map D.int))) (lG : G < S.n) (hg : ∀ i : Int, i ∈ gl ↔ i ∈ gsL rows ∧ i < (m : Int)) : ∃ S', b_law_s134 (GG x0 x1 x2 x3 z x5 R x7 x8 x9 x10 x11 x12 x13 x14 x15 x16 (some (.adr G)) x18 x19 x20 x21) S = .nx (GG x0 x1 x2 x3 z x5 R x7 x8 x9 x10 x11 x12 x13 x14 x15 x16 (some (.adr G)) x18 x19 x20 x21) S' ∧ Xt S S' := by
  let g : Gm := GG x0 x1 x2 x3 z x5 R x7 x8 x9 x10 x11 x12 x13 x14 x15 x16 (some (.adr G)) x18 x19 x20 x21
  obtain ⟨S4, j0, e4, xd, f4, l4⟩ := lines_of h t (g := g) rfl
  have es : mEnu (mCons (mSl slD (mBM "str" fSplit (mCall f_listing 1 [] (mCons (mVar 6) mNil)) (mCons (mC (.str "\n")) mNil)) oNo (oE (mU dNeg (mC (.int 1))))) mNil) g S = .ok (sqe (sqa j0 rows.length)) S4 := by
    have bl : ((bds rows).map strL).length = rows.length := by unfold bds; rw [List.length_map, bds_len]
    have ec : mCons (mSl slD (mBM "str" fSplit (mCall f_listing 1 [] (mCons (mVar 6) mNil)) (mCons (mC (.str "\n")) mNil)) oNo (oE (mU dNeg (mC (.int 1))))) mNil g S = .ok [.adr j0] S4 := by
      show SM.bind _ _ S = _
      unfold SM.bind
      rw [e4]
      rfl
    unfold mEnu SM.bind
    rw [ec]
    show (match (match S4.f j0 with
      | some (.lst l) => Y.R.ok (sqa j0 l.length) S4
      | _ => Y.R.bad) with
      | .ok s S' => Y.R.ok (sqe s) S'
      | _ => Y.R.bad) = _
    rw [f4]
    dsimp only
    rw [bl]
  obtain ⟨S5, e5, xe⟩ := loop6 (x0 := x0) (x1 := x1) (x2 := x2) (x3 := x3) (z := z) (x5 := x5) (R := R) (x7 := x7) (x8 := x8) (x10 := x10) (x11 := x11) (x12 := x12) (x13 := x13) (x14 := x14) (x15 := x15) (x16 := x16) (x18 := x18) (x19 := x19) (x21 := x21) h (S0 := S4.alloc (.lst [])) (D0 := S4.n) (G := G) (gl := gl) (at_old f4 l4) (Nat.lt_succ_of_lt l4) (at_old (xd.at_ hG lG) (Nat.lt_of_lt_of_le lG xd.le)) (Nat.lt_succ_of_lt (Nat.lt_of_lt_of_le lG xd.le)) hg rows.length 0 (S4.alloc (.lst [])) (Nat.zero_add _) (Xt.refl _)
  have e6 : mLc (mEnu (mCons (mSl slD (mBM "str" fSplit (mCall f_listing 1 [] (mCons (mVar 6) mNil)) (mCons (mC (.str "\n")) mNil)) oNo (oE (mU dNeg (mC (.int 1))))) mNil)) (.tp [9, 20]) eT6 (mVar 9) [9, 20] g S = .ok (.adr S4.n) S5 := mLc_ok es e5
  have f5 : S5.f S4.n = some (.lst (([] : List (List Nat)).map strL)) := xe.at_ at_new (Nat.lt_succ_self _)
  have l5 : S4.n < S5.n := Nat.lt_of_lt_of_le (Nat.lt_succ_self _) xe.le
  have n3 : dNe (.adr S4.n) (.adr S5.n) (S5.alloc (.lst [])) = .ok (.bl false) (S5.alloc (.lst [])) := ne_strs (l := []) (at_old f5 l5) at_new (fun r hr => nomatch hr)
  have z0 : 0 ≤ sizeLine := Nat.zero_le _
  refine ⟨S5.alloc (.lst []), ?_, (xd.trans (Xt.alloc.trans xe)).alloc'⟩
  unfold b_law_s134
  have T3 : mTB (mB dNe (mLc (mEnu (mCons (mSl slD (mBM "str" fSplit (mCall f_listing 1 [] (mCons (mVar 6) mNil)) (mCons (mC (.str "\n")) mNil)) oNo (oE (mU dNeg (mC (.int 1))))) mNil)) (.tp [9, 20]) eT6 (mVar 9) [9, 20]) (mLst mNil)) g S = .ok false (S5.alloc (.lst [])) := by
    have el : mLst mNil g S5 = .ok (.adr S5.n) (S5.alloc (.lst [])) := by
      simp [mLst, mNil, SM.bind, SM.pure, z0]
    unfold mTB mB SM.bind
    rw [e6]
    dsimp only
    rw [el]
    dsimp only
    rw [n3]
  rw [ifs_f T3]
  rfl
end
end K11

set_option Elab.async false
set_option linter.all false
set_option maxRecDepth 100000
set_option maxHeartbeats 4000000
namespace K11
open PySem PySem.Spec PyProof.Rows L2 Y TL
def X0L : List Nat := wd "x0: out"
def bads (d c : Nat) : List (List Nat) := [wd "fly", wd "set", wd "set x0", wd "out 1", wd "jump zz", wd "set 1 2", X0L, wd "set 1000", wd "set -1", wd "X: out", wd "set " ++ numL (2 ^ d), wd ": out", wd "9a: out", wd "jump " ++ numL (2 ^ c), List.replicate 21 97 ++ wd ": out"]
def restB (b : List Nat) : List Nat := if b = X0L then [10] ++ wd "x0:\n" else []
def rpB (b : List Nat) : List (List Nat) := if b = X0L then [wd "x0:", [], []] else [[]]
/-- all that is asked of a wrong line -/
def chkB (d c : Nat) (b : List Nat) : Bool := badB d c b && (b.all (fun x => decide (x < 0x110000)) && (decide (b.length ≤ 100) && (decide (nmB (b :: rpB b) ≤ 10) && (decide (spl [10] 0 [] (b ++ restB b ++ [10]) = b :: rpB b)))))
theorem chk_all : ∀ d, d < 9 → 2 ≤ d → ∀ c, c < 9 → 5 ≤ c → (bads d c).all (chkB d c) = true := by decide +kernel
theorem x0_lp : X0L.getLast? ≠ some 58 ∧ lpL X0L = some ([xj 0], [OUTL]) := by decide +kernel
section
variable {p : Nat → Int} {d c m z R : Nat} {T : List Nat} {parts : List (List Nat)} {wss : List (List (List Nat))} {rows : List (List Nat × Int)} {S : Sr} {x0 x1 x2 x3 x5 x7 x8 x9 x10 x11 x12 x13 x14 x15 x16 x17 x18 x19 x20 x21 : Option D}
theorem asm_bad (h : DR p d c m T parts wss rows) (t : CT d c z R rows S) {b : List Nat} (hb : b ∈ bads d c) : ∃ S', f_assemble [strL (T ++ (b ++ restB b ++ [10])), .adr z] S = .exc "CodeError" S' ∧ Xt S S' := by
  have hc := List.all_eq_true.mp (chk_all d (by have := h.d1; omega) h.d1.1 c (by have := h.c1; omega) h.c1.1) b hb
  unfold chkB at hc
  simp only [Bool.and_eq_true, decide_eq_true_eq] at hc
  obtain ⟨c1, c2, c3, c4, c5⟩ := hc
  have p32 : 2 ^ 5 ≤ 2 ^ c := Nat.pow_le_pow_right (by decide) h.c1.1
  have nb := tx_bad h.tx (by have := h.m1; omega) (rest := rpB b) c1 (by
    unfold rpB
    by_cases q : b = X0L
    · rw [if_pos q]
      refine .inr ⟨by rw [q]; exact x0_lp.1, fun ws e => ?_⟩
      rw [q, x0_lp.2] at e
      cases e
    · rw [if_neg q]
      exact .inl rfl)
  have rl : (restB b).length ≤ 10 ∧ (rpB b).length ≤ 3 ∧ ∀ q ∈ rpB b, Sgn q ∧ q.length ≤ 1000 := by
    unfold restB rpB
    by_cases q : b = X0L
    · rw [if_pos q, if_pos q]
      refine ⟨by decide +kernel, by simp, fun q hq => ?_⟩
      simp only [List.mem_cons, List.not_mem_nil, or_false] at hq
      rcases hq with rfl | rfl | rfl
      · exact ⟨sgn_of (by decide +kernel), by decide +kernel⟩
      · exact ⟨sgn_nil, Nat.zero_le _⟩
      · exact ⟨sgn_nil, Nat.zero_le _⟩
    · rw [if_neg q, if_neg q]
      refine ⟨by simp, by simp, fun q hq => ?_⟩
      rw [List.mem_singleton.mp hq]
      exact ⟨sgn_nil, Nat.zero_le _⟩
  have e := asm_run h.tx h.m1.2 h.d1.2 h.c1.2 t.sz t.zl (r := b ++ restB b ++ [10]) (rp := b :: rpB b) c5 (fun q hq => by
    rcases List.mem_cons.mp hq with hq | hq
    · rw [hq]
      exact ⟨sgn_of c2, by omega⟩
    · exact rl.2.2 q hq) (by rw [List.length_cons]; omega) c4 (by rw [List.length_append, List.length_append, List.length_singleton]; omega)
  rw [nb] at e
  exact e
theorem told_exc {me : ME} {g : Gm} {S S' : Sr} (h : me g S = .exc "CodeError" S') : mTold subT qsT clT me g S = .ok (.str "CodeError") S' := by
  unfold mTold
  rw [h]
  rfl
theorem ne_code {S : Sr} : dNe (.str "CodeError") (.str "CodeError") S = .ok (.bl false) S := by
  have ok : Sgn (tl ("CodeError" : Str)) := sgn_of (by decide +kernel)
  rw [neT ok ok]
  simp
abbrev eS7 : ME := mB dAdd (mB dAdd (mB dAdd (mVar 16) (mVar 20)) (mB dMulS (mC (.str "\nx0:\n")) (mCB fInt (mCons (mB dEq (mVar 20) (mC (.str "x0: out"))) mNil)))) (mC (.str "\n"))
abbrev eT7 : MT := mTB (mB dNe (mTold subT qsT clT (mCall f_assemble 2 [] (mCons eS7 (mCons (mVar 4) mNil)))) (mC (.str "CodeError")))
theorem tx_len (h : DR p d c m T parts wss rows) : T.length ≤ 1232 := by
  have := h.tx.len.2
  have := h.m1.2
  omega
theorem l7 (h : DR p d c m T parts wss rows) (t : CT d c z R rows S) {b : List Nat} (hb : b ∈ bads d c) : ∃ S', eT7 (GG x0 x1 x2 x3 z x5 R x7 x8 x9 x10 x11 x12 x13 x14 x15 (some (strL T)) x17 x18 x19 (some (strL b)) x21) S = .ok false S' ∧ Xt S S' := by
  obtain ⟨S', e, xt⟩ := asm_bad h t hb
  have hc := List.all_eq_true.mp (chk_all d (by have := h.d1; omega) h.d1.1 c (by have := h.c1; omega) h.c1.1) b hb
  unfold chkB at hc
  simp only [Bool.and_eq_true, decide_eq_true_eq] at hc
  obtain ⟨c1, c2, c3, c4, c5⟩ := hc
  have tl_ := tx_len h
  let g : Gm := GG x0 x1 x2 x3 z x5 R x7 x8 x9 x10 x11 x12 x13 x14 x15 (some (strL T)) x17 x18 x19 (some (strL b)) x21
  have h16 : g[16]? = some (some (strL T)) := rfl
  have h20 : g[20]? = some (some (strL b)) := rfl
  have h4 : g[4]? = some (some (.adr z)) := rfl
  have w1 : Str.ofString "\n" = sg [10] := by rw [sg_str]; decide +kernel
  have q0 : Str.ofString "x0: out" = sg X0L := by rw [sg_str]; rfl
  have eq : dEq (strL b) (strL X0L) S = .ok (.bl (decide (b = X0L))) S := by
    rw [eqT (sgn_of c2) (sgn_of (by decide +kernel))]
    congr 2
    exact decide_eq_decide.mpr sg_inj
  have rp1 : repS ("\nx0:\n" : Str) 1 = sg ([10] ++ wd "x0:\n") := by decide +kernel
  have rp0 : repS ("\nx0:\n" : Str) 0 = sg [] := by decide +kernel
  have ln : ("\nx0:\n" : Str).length = 5 := by decide +kernel
  have em : ∀ k : Bool, dMulS (.str "\nx0:\n") (.int (if k = true then 1 else 0)) S = .ok (strL (if k = true then [10] ++ wd "x0:\n" else [])) S := fun k => by
    have z5 : 5 ≤ sizeLine := by rw [sizeLine_eq]; omega
    have z0 : 0 ≤ sizeLine := Nat.zero_le _
    cases k with
    | true =>
      show orF dMul repT (.str "\nx0:\n") (.int 1) S = _
      show (if (1 : Int) < 2 ^ 30 ∧ -(2 ^ 30) < (1 : Int) ∧ ("\nx0:\n" : Str).length * (1 : Int).toNat ≤ sizeLine then Y.R.ok (D.str (repS "\nx0:\n" 1)) S else .bad) = _
      rw [if_pos ⟨by decide, by decide, by rw [ln]; exact z5⟩, rp1]
      rfl
    | false =>
      show (if (0 : Int) < 2 ^ 30 ∧ -(2 ^ 30) < (0 : Int) ∧ ("\nx0:\n" : Str).length * (0 : Int).toNat ≤ sizeLine then Y.R.ok (D.str (repS "\nx0:\n" 0)) S else .bad) = _
      rw [if_pos ⟨by decide, by decide, by rw [ln]; exact z0⟩, rp0]
      rfl
  have em2 : dMulS (.str "\nx0:\n") (.int (if decide (b = X0L) = true then 1 else 0)) S = .ok (strL (restB b)) S := by
    rw [em]
    unfold restB
    by_cases q : b = X0L
    · rw [if_pos q, decide_eq_true q]; rfl
    · rw [if_neg q, decide_eq_false q]; rfl
  have rl : (restB b).length ≤ 10 := by
    unfold restB
    split
    · decide +kernel
    · simp
  have b1 : dAdd (strL T) (strL b) S = .ok (strL (T ++ b)) S := addT (by omega)
  have b2 : dAdd (strL (T ++ b)) (strL (restB b)) S = .ok (strL (T ++ b ++ restB b)) S := addT (by rw [List.length_append]; omega)
  have b3 : dAdd (strL (T ++ b ++ restB b)) (strL [10]) S = .ok (strL (T ++ (b ++ restB b ++ [10]))) S := by
    rw [addT (by rw [List.length_append, List.length_append]; simp; omega)]
    simp only [List.append_assoc]
  have fi : fInt [.bl (decide (b = X0L))] S = .ok (.int (if decide (b = X0L) = true then 1 else 0)) S := rfl
  have es : eS7 g S = .ok (strL (T ++ (b ++ restB b ++ [10]))) S := by
    simp only [eS7, mB, mCB, mCons, mNil, mVar, mC, SM.bind, SM.pure, h16, h20, b1, q0, eq, fi, em2, b2, w1, b3]
  have ea : mCall f_assemble 2 [] (mCons eS7 (mCons (mVar 4) mNil)) g S = .exc "CodeError" S' := by
    simp (decide := true) only [mCall, mCons, mNil, mVar, SM.bind, SM.pure, es, h4, List.length_cons, List.length_nil, if_true, List.append_nil, e]
  refine ⟨S', tb_of ?_, xt⟩
  show SM.bind (mTold subT qsT clT (mCall f_assemble 2 [] (mCons eS7 (mCons (mVar 4) mNil))) g) (fun x => SM.bind (mC (.str "CodeError") g) (fun y => dNe x y)) S = _
  unfold SM.bind
  rw [told_exc ea]
  exact ne_code
end
end K11

set_option Elab.async false
set_option linter.all false
set_option maxRecDepth 100000
set_option maxHeartbeats 4000000
namespace K11
open PySem PySem.Spec PyProof.Rows L2 Y TL
section
variable {p : Nat → Int} {d c m z R : Nat} {T : List Nat} {parts : List (List Nat)} {wss : List (List (List Nat))} {rows : List (List Nat × Int)} {S : Sr} {x0 x1 x2 x3 x5 x7 x8 x9 x10 x11 x12 x13 x14 x15 x16 x17 x18 x19 x20 x21 : Option D}
theorem shl_n {k : Nat} (hk : k ≤ 8) {S : Sr} : dShl (.int 1) (.int (k : Int)) S = .ok (.int ((2 ^ k : Nat) : Int)) S := by
  have pw := powS k hk
  have e : (((2 ^ k : Nat) : Int)) = 2 ^ k := by push_cast; rfl
  rw [e]
  simp [dShl, okI, pw]
theorem l136 (hd : d ≤ 8) (hc : c ≤ 8) : b_law_s136 (GG x0 x1 (some (.int (d : Int))) (some (.int (c : Int))) z x5 R x7 x8 x9 x10 x11 x12 x13 x14 x15 x16 x17 x18 x19 x20 x21) S = .nx (GG x0 x1 (some (.int (d : Int))) (some (.int (c : Int))) z x5 R x7 x8 x9 x10 x11 x12 x13 x14 x15 x16 x17 (some (.adr S.n)) x19 x20 x21) (S.alloc (.lst ((bads d c).map strL))) := by
  have sz : 15 ≤ sizeLine := by rw [sizeLine_eq]; omega
  have p8 : 2 ^ d ≤ 256 := Nat.pow_le_pow_right (n := 2) (by decide) hd
  have q8 : 2 ^ c ≤ 256 := Nat.pow_le_pow_right (n := 2) (by decide) hc
  have s1 := shl_n hd (S := S)
  have s2 := shl_n hc (S := S)
  have f1 := fStr_n (n := 2 ^ d) (S := S) (by omega)
  have f2 := fStr_n (n := 2 ^ c) (S := S) (by omega)
  have n1 := numL_len (n := 2 ^ d) (k := 3) (by omega) (by omega)
  have n2 := numL_len (n := 2 ^ c) (k := 3) (by omega) (by omega)
  have w1 : Str.ofString "set " = sg (wd "set ") := sg_str _
  have w2 : Str.ofString "jump " = sg (wd "jump ") := sg_str _
  have w3 : Str.ofString ": out" = sg (wd ": out") := sg_str _
  have l1 : (wd "set ").length = 4 := by decide +kernel
  have l2 : (wd "jump ").length = 5 := by decide +kernel
  have l3 : (wd ": out").length = 5 := by decide +kernel
  have a1 : dAdd (strL (wd "set ")) (strL (numL (2 ^ d))) S = .ok (strL (wd "set " ++ numL (2 ^ d))) S := addT (by omega)
  have a2 : dAdd (strL (wd "jump ")) (strL (numL (2 ^ c))) S = .ok (strL (wd "jump " ++ numL (2 ^ c))) S := addT (by omega)
  have a3 : dAdd (strL (List.replicate 21 97)) (strL (wd ": out")) S = .ok (strL (List.replicate 21 97 ++ wd ": out")) S := addT (by rw [List.length_replicate]; omega)
  have ln : ("a" : Str).length = 1 := by decide +kernel
  have rp : repS ("a" : Str) 21 = sg (List.replicate 21 97) := by decide +kernel
  have em : dMulS (.str "a") (.int 21) S = .ok (strL (List.replicate 21 97)) S := by
    have z21 : 21 ≤ sizeLine := by rw [sizeLine_eq]; omega
    show (if (21 : Int) < 2 ^ 30 ∧ -(2 ^ 30) < (21 : Int) ∧ ("a" : Str).length * (21 : Int).toNat ≤ sizeLine then Y.R.ok (D.str (repS "a" 21)) S else .bad) = _
    rw [if_pos ⟨by decide, by decide, by rw [ln]; exact z21⟩, rp]
  let g : Gm := GG x0 x1 (some (.int (d : Int))) (some (.int (c : Int))) z x5 R x7 x8 x9 x10 x11 x12 x13 x14 x15 x16 x17 x18 x19 x20 x21
  have h2 : g[2]? = some (some (.int (d : Int))) := rfl
  have h3 : g[3]? = some (some (.int (c : Int))) := rfl
  have e1 : mB dAdd (mC (.str "set ")) (mCB fStr (mCons (mB dShl (mC (.int 1)) (mVar 2)) mNil)) g S = .ok (strL (wd "set " ++ numL (2 ^ d))) S := by
    simp only [mB, mC, mCB, mCons, mNil, mVar, SM.bind, SM.pure, h2, s1, f1, w1, a1]
  have e2 : mB dAdd (mC (.str "jump ")) (mCB fStr (mCons (mB dShl (mC (.int 1)) (mVar 3)) mNil)) g S = .ok (strL (wd "jump " ++ numL (2 ^ c))) S := by
    simp only [mB, mC, mCB, mCons, mNil, mVar, SM.bind, SM.pure, h3, s2, f2, w2, a2]
  have e3 : mB dAdd (mB dMulS (mC (.str "a")) (mC (.int 21))) (mC (.str ": out")) g S = .ok (strL (List.replicate 21 97 ++ wd ": out")) S := by
    simp only [mB, mC, SM.bind, SM.pure, em, w3, a3]
  have eb : (bads d c).map strL = [.str "fly", .str "set", .str "set x0", .str "out 1", .str "jump zz", .str "set 1 2", .str "x0: out", .str "set 1000", .str "set -1", .str "X: out", strL (wd "set " ++ numL (2 ^ d)), .str ": out", .str "9a: out", strL (wd "jump " ++ numL (2 ^ c)), strL (List.replicate 21 97 ++ wd ": out")] := by
    simp only [bads, List.map_cons, List.map_nil, strL_wd, X0L]
  show b_law_s136 g S = _
  rw [eb]
  have hm : ∀ e : D, mC e g S = .ok e S := fun e => rfl
  simp (decide := true) only [b_law_s136, mSet, mLst, mCons, mNil, SM.bind, SM.pure, hm, e1, e2, e3, List.length_cons, List.length_nil, sz, if_true, toRS]
  rfl
theorem loop7 (h : DR p d c m T parts wss rows) {S0 : Sr} {j0 D0 : Nat} (t : CT d c z R rows S0) (hj : S0.f j0 = some (.lst ((bads d c).map strL))) (hl : j0 < S0.n) : ∀ (r idx : Nat) (S1 : Sr), idx + r = (bads d c).length → Xt S0 S1 →
    ∃ S2, lcG (sqa j0 (bads d c).length) (.nm 20) eT7 (mVar 20) (GG x0 x1 x2 x3 z x5 R x7 x8 x9 x10 x11 x12 x13 x14 x15 (some (strL T)) x17 x18 x19 none x21) D0 r idx S1 = .ok () S2 ∧ Xt S0 S2
  | 0, idx, S1, e, xt => by
    refine ⟨S1, lc_end ?_, xt⟩
    rw [nx_sqa (xt.at_ hj hl), List.getElem?_eq_none (by rw [List.length_map]; omega)]
  | r + 1, idx, S1, e, xt => by
    have hi : idx < (bads d c).length := by omega
    have en : (sqa j0 (bads d c).length).nxt idx S1 = some (some (strL (bads d c)[idx])) := by
      rw [nx_sqa (xt.at_ hj hl), List.getElem?_map, List.getElem?_eq_getElem hi]
      rfl
    obtain ⟨S', et, xl⟩ := l7 (x0 := x0) (x1 := x1) (x2 := x2) (x3 := x3) (x5 := x5) (x7 := x7) (x8 := x8) (x9 := x9) (x10 := x10) (x11 := x11) (x12 := x12) (x13 := x13) (x14 := x14) (x15 := x15) (x17 := x17) (x18 := x18) (x19 := x19) (x21 := x21) h (t.mono xt) (List.getElem_mem hi)
    obtain ⟨S2, e2, xm⟩ := loop7 h t hj hl r (idx + 1) S' (by omega) (xt.trans xl)
    exact ⟨S2, (lc_skip en rfl et).trans e2, xm⟩
theorem l137 {B : Nat} (h : DR p d c m T parts wss rows) (t : CT d c z R rows S) (hj : S.f B = some (.lst ((bads d c).map strL))) (hl : B < S.n) : ∃ S', b_law_s137 (GG x0 x1 x2 x3 z x5 R x7 x8 x9 x10 x11 x12 x13 x14 x15 (some (strL T)) x17 (some (.adr B)) x19 x20 x21) S = .nx (GG x0 x1 x2 x3 z x5 R x7 x8 x9 x10 x11 x12 x13 x14 x15 (some (strL T)) x17 (some (.adr B)) x19 x20 x21) S' ∧ Xt S S' := by
  let g : Gm := GG x0 x1 x2 x3 z x5 R x7 x8 x9 x10 x11 x12 x13 x14 x15 (some (strL T)) x17 (some (.adr B)) x19 x20 x21
  have es : mSrc (mVar 18) g S = .ok (sqa B (bads d c).length) S := by
    show (match S.f B with
      | some (.lst l) => Y.R.ok (sqa B l.length) S
      | _ => Y.R.bad) = _
    rw [hj]
    dsimp only
    rw [List.length_map]
  obtain ⟨S5, e5, xe⟩ := loop7 (x0 := x0) (x1 := x1) (x2 := x2) (x3 := x3) (x5 := x5) (x7 := x7) (x8 := x8) (x9 := x9) (x10 := x10) (x11 := x11) (x12 := x12) (x13 := x13) (x14 := x14) (x15 := x15) (x17 := x17) (x18 := some (.adr B)) (x19 := x19) (x21 := x21) h (S0 := S.alloc (.lst [])) (D0 := S.n) (t.mono Xt.alloc) (at_old hj hl) (Nat.lt_succ_of_lt hl) (bads d c).length 0 (S.alloc (.lst [])) (Nat.zero_add _) (Xt.refl _)
  have e6 : mLc (mSrc (mVar 18)) (.nm 20) eT7 (mVar 20) [20] g S = .ok (.adr S.n) S5 := mLc_ok es e5
  have f5 : S5.f S.n = some (.lst (([] : List (List Nat)).map strL)) := xe.at_ at_new (Nat.lt_succ_self _)
  have l5 : S.n < S5.n := Nat.lt_of_lt_of_le (Nat.lt_succ_self _) xe.le
  have n3 : dNe (.adr S.n) (.adr S5.n) (S5.alloc (.lst [])) = .ok (.bl false) (S5.alloc (.lst [])) := ne_strs (l := []) (at_old f5 l5) at_new (fun r hr => nomatch hr)
  have z0 : 0 ≤ sizeLine := Nat.zero_le _
  refine ⟨S5.alloc (.lst []), ?_, (Xt.alloc.trans xe).alloc'⟩
  unfold b_law_s137
  have T3 : mTB (mB dNe (mLc (mSrc (mVar 18)) (.nm 20) eT7 (mVar 20) [20]) (mLst mNil)) g S = .ok false (S5.alloc (.lst [])) := by
    have el : mLst mNil g S5 = .ok (.adr S5.n) (S5.alloc (.lst [])) := by
      simp [mLst, mNil, SM.bind, SM.pure, z0]
    unfold mTB mB SM.bind
    rw [e6]
    dsimp only
    rw [el]
    dsimp only
    rw [n3]
  rw [ifs_f T3]
  rfl
/-! ### the longest code -/
theorem fold_app : ∀ (l : List (Array Nat)) (a : Array Nat), (l.foldl (· ++ ·) a).toList = a.toList ++ (l.map Array.toList).flatten
  | [], a => by simp
  | b :: l, a => by
    rw [List.foldl_cons, fold_app l]
    simp
theorem rep_full {n : Nat} : repS ("out\n" : Str) (n : Int) = sg (fulL n) := by
  refine ext_tl ?_
  rw [tl_sg]
  show (((List.replicate ((n : Int).toNat) ("out\n" : Str).cps).foldl (· ++ ·) #[]).toList) = _
  rw [fold_app, Int.toNat_natCast, List.map_replicate]
  have e : ("out\n" : Str).cps.toList = OUTL ++ [10] := by decide +kernel
  rw [e]
  unfold fulL
  rw [List.map_replicate]
  rfl
theorem ful_len (n : Nat) : (fulL n).length = 4 * n := by
  induction n with
  | zero => rfl
  | succ n ih =>
    have e : fulL (n + 1) = (OUTL ++ [10]) ++ fulL n := by
      unfold fulL
      rw [List.replicate_succ, List.map_cons, List.flatten_cons]
    rw [e, List.length_append, ih]
    show 4 + 4 * n = _
    omega
theorem ful_succ (n : Nat) : fulL n ++ (OUTL ++ [10]) = fulL (n + 1) := by
  unfold fulL
  rw [List.replicate_succ', List.map_append, List.flatten_append]
  rfl
theorem asm_ful (hd : d ≤ 8) (hc : c ≤ 8) (hz : S.f z = some (.ins "Size" (sizF d c))) (hl : z < S.n) {n : Nat} (hn : n ≤ 300) : if 2 ^ c < n then ∃ S', f_assemble [strL (fulL n), .adr z] S = .exc "CodeError" S' ∧ Xt S S' else ∃ S', f_assemble [strL (fulL n), .adr z] S = .ok (.tup ((List.replicate n (OUTL, (0 : Int))).map rowN)) S' ∧ Xt S S' := by
  have e := e_assemble (x := sg (fulL n)) (parts := List.replicate n OUTL ++ [[]]) hz hl hd hc (by rw [tl_sg]; exact spl_full n) (by rw [sg_len, ful_len]; omega) (fun q hq => by
    rcases List.mem_append.mp hq with hq | hq
    · rw [List.eq_of_mem_replicate hq]
      exact ⟨sgn_of (by decide), by decide⟩
    · rw [List.mem_singleton.mp hq]
      exact ⟨sgn_nil, Nat.zero_le _⟩) (by rw [List.length_append, List.length_replicate, List.length_singleton]; omega) (by
    have h := nmB_asm (asm_outs (n := n) (rows := []))
    rw [nmB_app]
    have e0 : nmB [[]] = 0 := by decide +kernel
    rw [e0]
    have h : nmB (List.replicate n OUTL) + 0 = 0 := h
    omega)
  rw [asm_full] at e
  by_cases q : 2 ^ c < n
  · rw [if_pos q] at e ⊢
    exact e
  · rw [if_neg q] at e ⊢
    exact e
theorem l139 (hc : c ≤ 8) : b_law_s139 (GG x0 x1 x2 (some (.int (c : Int))) z x5 R x7 x8 x9 x10 x11 x12 x13 x14 x15 x16 x17 x18 x19 x20 x21) S = .nx (GG x0 x1 x2 (some (.int (c : Int))) z x5 R x7 x8 x9 x10 x11 x12 x13 x14 x15 x16 x17 x18 (some (strL (fulL (2 ^ c)))) x20 x21) S := by
  have q8 : 2 ^ c ≤ 256 := Nat.pow_le_pow_right (n := 2) (by decide) hc
  have s2 := shl_n hc (S := S)
  have ln : ("out\n" : Str).length = 4 := by decide +kernel
  have em : ∀ N : Int, N = ((2 ^ c : Nat) : Int) → dMulS (.str "out\n") (.int N) S = .ok (strL (fulL (2 ^ c))) S := fun N hN => by
    have e : N.toNat = 2 ^ c := by rw [hN]; exact Int.toNat_natCast _
    have b1 : N < 2 ^ 30 := by
      have : N ≤ 256 := by omega
      exact Int.lt_of_le_of_lt this (by decide)
    have b2 : -(2 ^ 30) < N := by
      have : 0 ≤ N := by omega
      exact Int.lt_of_lt_of_le (by decide) this
    show (if N < 2 ^ 30 ∧ -(2 ^ 30) < N ∧ ("out\n" : Str).length * N.toNat ≤ sizeLine then Y.R.ok (D.str (repS "out\n" N)) S else .bad) = _
    rw [if_pos ⟨b1, b2, by rw [ln, e, sizeLine_eq]; omega⟩, hN, rep_full]
  have e5 := em _ rfl
  let g : Gm := GG x0 x1 x2 (some (.int (c : Int))) z x5 R x7 x8 x9 x10 x11 x12 x13 x14 x15 x16 x17 x18 x19 x20 x21
  have h3 : g[3]? = some (some (.int (c : Int))) := rfl
  show b_law_s139 g S = _
  simp only [b_law_s139, mSet, mB, mC, mVar, SM.bind, SM.pure, h3, s2, e5, toRS]
  rfl
theorem l140 (hd : d ≤ 8) (hc : c ≤ 8) (t : CT d c z R rows S) : ∃ S', b_law_s140 (GG x0 x1 x2 (some (.int (c : Int))) z x5 R x7 x8 x9 x10 x11 x12 x13 x14 x15 x16 x17 x18 (some (strL (fulL (2 ^ c)))) x20 x21) S = .nx (GG x0 x1 x2 (some (.int (c : Int))) z x5 R x7 x8 x9 x10 x11 x12 x13 x14 x15 x16 x17 x18 (some (strL (fulL (2 ^ c)))) x20 x21) S' ∧ Xt S S' := by
  have q8 : 2 ^ c ≤ 256 := Nat.pow_le_pow_right (n := 2) (by decide) hc
  let g : Gm := GG x0 x1 x2 (some (.int (c : Int))) z x5 R x7 x8 x9 x10 x11 x12 x13 x14 x15 x16 x17 x18 (some (strL (fulL (2 ^ c)))) x20 x21
  have h3 : g[3]? = some (some (.int (c : Int))) := rfl
  have h4 : g[4]? = some (some (.adr z)) := rfl
  have h19 : g[19]? = some (some (strL (fulL (2 ^ c)))) := rfl
  have A1 := asm_ful (n := 2 ^ c) hd hc t.sz t.zl (by omega)
  rw [if_neg (by omega)] at A1
  obtain ⟨S1, e1, xa⟩ := A1
  have t1 := t.mono xa
  have A2 := asm_ful (n := 2 ^ c + 1) hd hc t1.sz t1.zl (by omega)
  rw [if_pos (by omega)] at A2
  obtain ⟨S2, e2, xb⟩ := A2
  have s2 := shl_n hc (S := S1)
  have T1 : mTB (mB dNe (mCB fLen (mCons (mCall f_assemble 2 [] (mCons (mVar 19) (mCons (mVar 4) mNil))) mNil)) (mB dShl (mC (.int 1)) (mVar 3))) g S = .ok false S1 := by
    have el : fLen [.tup ((List.replicate (2 ^ c) (OUTL, (0 : Int))).map rowN)] S1 = .ok (.int ((2 ^ c : Nat) : Int)) S1 := by
      show Y.R.ok (D.int ((((List.replicate (2 ^ c) (OUTL, (0 : Int))).map rowN).length : Nat) : Int)) S1 = _
      rw [List.length_map, List.length_replicate]
    have en : ∀ N : Int, dNe (.int N) (.int N) S1 = .ok (.bl false) S1 := fun N => by
      rw [ev_neI]
      simp
    refine tb_of ?_
    simp (decide := true) only [mB, mCB, mCall, mCons, mNil, mVar, mC, SM.bind, SM.pure, h19, h4, h3, List.length_cons, List.length_nil, if_true, List.append_nil, e1, el, s2, en]
  have wo : Str.ofString "out\n" = sg (OUTL ++ [10]) := by rw [sg_str]; decide +kernel
  have ad : dAdd (strL (fulL (2 ^ c))) (strL (OUTL ++ [10])) S1 = .ok (strL (fulL (2 ^ c + 1))) S1 := by
    rw [addT (by rw [ful_len]; show _ + 4 ≤ _; omega), ful_succ]
  have ea : mCall f_assemble 2 [] (mCons (mB dAdd (mVar 19) (mC (.str "out\n"))) (mCons (mVar 4) mNil)) g S1 = .exc "CodeError" S2 := by
    simp (decide := true) only [mB, mCall, mCons, mNil, mVar, mC, SM.bind, SM.pure, h19, h4, wo, ad, List.length_cons, List.length_nil, if_true, List.append_nil, e2]
  have T2 : mTB (mB dNe (mTold subT qsT clT (mCall f_assemble 2 [] (mCons (mB dAdd (mVar 19) (mC (.str "out\n"))) (mCons (mVar 4) mNil)))) (mC (.str "CodeError"))) g S1 = .ok false S2 := by
    refine tb_of ?_
    show SM.bind (mTold subT qsT clT (mCall f_assemble 2 [] (mCons (mB dAdd (mVar 19) (mC (.str "out\n"))) (mCons (mVar 4) mNil))) g) (fun x => SM.bind (mC (.str "CodeError") g) (fun y => dNe x y)) S1 = _
    unfold SM.bind
    rw [told_exc ea]
    exact ne_code
  refine ⟨S2, ?_, xa.trans xb⟩
  unfold b_law_s140
  rw [ifs_f (or_f T1 T2)]
  rfl
end
end K11

set_option Elab.async false
set_option linter.all false
set_option maxRecDepth 100000
set_option maxHeartbeats 4000000
namespace K11
open PySem PySem.Spec PyProof.Rows L2 Y TL
section
variable {S : Sr} {i : Nat} {x0 x1 x2 x3 x4 x5 x6 x7 x8 x9 x10 x11 x12 x13 x14 x15 x16 x17 x18 x19 x20 x21 : Option D}
theorem l110 (hd : DiceAt S i) (hi : i < S.n) : ∃ (y : Gm) (S' : Sr), b_law_L110 [x0, some (.adr i), x2, x3, x4, x5, x6, x7, x8, x9, x10, x11, x12, x13, x14, x15, x16, x17, x18, x19, x20, x21] S = .nx y S' ∧ ∀ a x, a < S.n → a ≠ i → S.f a = some x → S'.f a = some x := by
  obtain ⟨d, c, hd8, hc8, S1, e1, d1, f1⟩ := l111 (x0 := x0) (x2 := x2) (x3 := x3) (t := [x4, x5, x6, x7, x8, x9, x10, x11, x12, x13, x14, x15, x16, x17, x18, x19, x20, x21]) hd
  have i1 : i < S1.n := Nat.lt_of_lt_of_le hi f1.1
  obtain ⟨m, m1, m2, S2, e2, d2, f2, z2, l2⟩ := l112 (x0 := x0) (x4 := x4) (x5 := x5) (t := [x6, x7, x8, x9, x10, x11, x12, x13, x14, x15, x16, x17, x18, x19, x20, x21]) d1 i1 hd8 hc8
  have i2 : i < S2.n := Nat.lt_of_lt_of_le i1 f2.1
  obtain ⟨p, S3, hp, e3, d3, f3, r3, s3, p3, n3⟩ := l113 (x0 := x0) (x2 := some (.int (d : Int))) (x3 := some (.int (c : Int))) (x4 := some (.adr S1.n)) (x6 := x6) (x7 := x7) (x8 := x8) (x9 := x9) (x10 := x10) (t := [x11, x12, x13, x14, x15, x16, x17, x18, x19, x20, x21]) d2 i2 m2
  have lf : LF p i S2.n (S2.n + 1) (S2.n + 2) m S3 [] [] := ⟨d3, p3, r3, s3, by omega, by omega, hp⟩
  obtain ⟨y9, y10, y11, y12, y13, y14, y15, S4, rows, ls, e4, lf4, f4, lns⟩ := l114 (x0 := x0) (x4 := some (.adr S1.n)) (x9 := x9) (x10 := x10) (x11 := x11) (x12 := x12) (x13 := x13) (x14 := x14) (x15 := x15) (t := [x16, x17, x18, x19, x20, x21]) lf m2 hd8.2 hc8.1
  obtain ⟨parts, wss, tx⟩ := tx_of hp lns
  have ll : ls.length = m := by
    obtain ⟨_, _, _, _, _, h, _⟩ := lns_pk (fun j hj => (hp j hj).1) lns
    exact h
  have hne : ls ≠ [] := fun h => by
    rw [h] at ll
    simp at ll
    omega
  have jl : (TL.joinL [10] ls).length ≤ 5000 := by
    have h1 := congrArg List.length (joinL_end hne)
    have h2 := tx.len.2
    rw [List.length_append] at h1 h2
    omega
  obtain ⟨S5, e5, x5'⟩ := l130 (x0 := x0) (d := d) (c := c) (x4 := some (.adr S1.n)) (x9 := y9) (x10 := y10) (x11 := y11) (x12 := y12) (x13 := y13) (x14 := y14) (x15 := y15) (x16 := x16) (t := [x17, x18, x19, x20, x21]) lf4 hne jl
  have dr : DR p d c m ((ls.map (· ++ [10])).flatten ++ endT p m) parts wss rows := ⟨tx, ⟨m1, m2⟩, hd8, hc8⟩
  have z3 : S3.f S1.n = some (.ins "Size" (sizF d c)) := f3.at l2 (by simp; omega) z2
  have zn3 : S1.n < S3.n := by omega
  have z4 : S4.f S1.n = some (.ins "Size" (sizF d c)) := f4.at zn3 (by simp; omega) z3
  have ct4 : CT d c S1.n S2.n rows S4 := ⟨z4, Nat.lt_of_lt_of_le zn3 f4.1, lf4.fr, lf4.lt.2.1⟩
  have ct5 := ct4.mono x5'
  obtain ⟨S6, e6, x6'⟩ := l131 (x0 := x0) (x1 := some (.adr i)) (x2 := some (.int (d : Int))) (x3 := some (.int (c : Int))) (x5 := some (.int (m : Int))) (x7 := some (.adr (S2.n + 1))) (x8 := some (.adr (S2.n + 2))) (x9 := y9) (x10 := y10) (x11 := y11) (x12 := y12) (x13 := y13) (x14 := y14) (x15 := y15) (x17 := x17) (x18 := x18) (x19 := x19) (x20 := x20) (x21 := x21) dr ct5
  have ct6 := ct5.mono x6'
  obtain ⟨S7, G, gl, e7, x7', g7, gn7, hg⟩ := l133 (x0 := x0) (x1 := some (.adr i)) (x2 := some (.int (d : Int))) (x3 := some (.int (c : Int))) (x7 := some (.adr (S2.n + 1))) (x8 := some (.adr (S2.n + 2))) (x9 := y9) (x10 := y10) (x11 := y11) (x12 := y12) (x13 := y13) (x14 := y14) (x15 := y15) (x16 := some (strL ((ls.map (· ++ [10])).flatten ++ endT p m))) (x17 := x17) (x18 := x18) (x19 := x19) (x20 := x20) (x21 := x21) dr ct6
  have ct7 := ct6.mono x7'
  obtain ⟨S8, e8, x8'⟩ := l134 (x0 := x0) (x1 := some (.adr i)) (x2 := some (.int (d : Int))) (x3 := some (.int (c : Int))) (x5 := some (.int (m : Int))) (x7 := some (.adr (S2.n + 1))) (x8 := some (.adr (S2.n + 2))) (x9 := y9) (x10 := y10) (x11 := y11) (x12 := y12) (x13 := y13) (x14 := y14) (x15 := y15) (x16 := some (strL ((ls.map (· ++ [10])).flatten ++ endT p m))) (x18 := x18) (x19 := x19) (x20 := x20) (x21 := x21) dr ct7 g7 gn7 hg
  have ct8 := ct7.mono x8'
  have e9 := l136 (S := S8) (x0 := x0) (x1 := some (.adr i)) (z := S1.n) (R := S2.n) (x5 := some (.int (m : Int))) (x7 := some (.adr (S2.n + 1))) (x8 := some (.adr (S2.n + 2))) (x9 := y9) (x10 := y10) (x11 := y11) (x12 := y12) (x13 := y13) (x14 := y14) (x15 := y15) (x16 := some (strL ((ls.map (· ++ [10])).flatten ++ endT p m))) (x17 := some (.adr G)) (x18 := x18) (x19 := x19) (x20 := x20) (x21 := x21) hd8.2 hc8.2
  have ct9 : CT d c S1.n S2.n rows (S8.alloc (.lst ((bads d c).map strL))) := ct8.mono Xt.alloc
  obtain ⟨S10, e10, x10'⟩ := l137 (x0 := x0) (x1 := some (.adr i)) (x2 := some (.int (d : Int))) (x3 := some (.int (c : Int))) (x5 := some (.int (m : Int))) (x7 := some (.adr (S2.n + 1))) (x8 := some (.adr (S2.n + 2))) (x9 := y9) (x10 := y10) (x11 := y11) (x12 := y12) (x13 := y13) (x14 := y14) (x15 := y15) (x17 := some (.adr G)) (x19 := x19) (x20 := x20) (x21 := x21) dr ct9 at_new (Nat.lt_succ_self _)
  have ct10 := ct9.mono x10'
  have e11 := l139 (S := S10) (x0 := x0) (x1 := some (.adr i)) (x2 := some (.int (d : Int))) (z := S1.n) (R := S2.n) (x5 := some (.int (m : Int))) (x7 := some (.adr (S2.n + 1))) (x8 := some (.adr (S2.n + 2))) (x9 := y9) (x10 := y10) (x11 := y11) (x12 := y12) (x13 := y13) (x14 := y14) (x15 := y15) (x16 := some (strL ((ls.map (· ++ [10])).flatten ++ endT p m))) (x17 := some (.adr G)) (x18 := some (.adr S8.n)) (x19 := x19) (x20 := x20) (x21 := x21) hc8.2
  obtain ⟨S12, e12, x12'⟩ := l140 (x0 := x0) (x1 := some (.adr i)) (x2 := some (.int (d : Int))) (x5 := some (.int (m : Int))) (x7 := some (.adr (S2.n + 1))) (x8 := some (.adr (S2.n + 2))) (x9 := y9) (x10 := y10) (x11 := y11) (x12 := y12) (x13 := y13) (x14 := y14) (x15 := y15) (x16 := some (strL ((ls.map (· ++ [10])).flatten ++ endT p m))) (x17 := some (.adr G)) (x18 := some (.adr S8.n)) (x20 := x20) (x21 := x21) hd8.2 hc8.2 ct10
  refine ⟨_, S12, (sq_nx e1).trans ((sq_nx e2).trans ((sq_nx e3).trans ((sq_nx e4).trans ((sq_nx e5).trans ((sq_nx e6).trans ((sq_nx e7).trans ((sq_nx e8).trans ((sq_nx e9).trans ((sq_nx e10).trans ((sq_nx e11).trans e12)))))))))), ?_⟩
  · intro a x ha hai hx
    have a1 := f1.at ha (by simpa using hai) hx
    have b1 : a < S1.n := Nat.lt_of_lt_of_le ha f1.1
    have a2 := f2.at b1 (by simpa using hai) a1
    have b2 : a < S2.n := Nat.lt_of_lt_of_le b1 f2.1
    have a3 := f3.at b2 (by simpa using hai) a2
    have b3 : a < S3.n := by omega
    have a4 := f4.at b3 (by simp; omega) a3
    have b4 : a < S4.n := Nat.lt_of_lt_of_le b3 f4.1
    have xx : Xt S4 S12 := ((((((x5'.trans x6').trans x7').trans x8').trans Xt.alloc).trans x10')).trans x12'
    exact xx.at_ a4 b4
/-! ### the law's end -/
theorem ne_refl2 {S : Sr} {x y : D} {a : PyData} (h : toPy S 9 x = some a) (h2 : toPy S 9 y = some a) (hs : SeqAt.shaped a = true) : dNe x y S = .ok (.bl false) S := by
  have hp : a.plain = true := PyData.plain_of_canLay0 a (SeqAt.canLay_of_shaped hs)
  rw [ev_neP h h2 hs hs, SeqAt.eqv_refl_plain a hp]
  rfl
theorem lpa : lpL (wd "a: b:  set 3 // x") = some ([wd "a", wd "b"], [wd "set", wd "3"]) := by decide +kernel
theorem ne_parts {S : Sr} {a b a' b' : Nat} {l k : List (List Nat)} (h1 : S.f a = some (.lst (l.map strL))) (h2 : S.f b = some (.lst (k.map strL))) (h3 : S.f a' = some (.lst (l.map strL))) (h4 : S.f b' = some (.lst (k.map strL))) (hl : ∀ x ∈ l, Sgn x) (hk : ∀ x ∈ k, Sgn x) : dNe (.tup [.adr a, .adr b]) (.tup [.adr a', .adr b']) S = .ok (.bl false) S := by
  have py : ∀ a b, S.f a = some (.lst (l.map strL)) → S.f b = some (.lst (k.map strL)) → toPy S 9 (.tup [.adr a, .adr b]) = some (.tuple [.list (l.map fun x => PyData.str (sg x)), .list (k.map fun x => PyData.str (sg x))]) := fun a b h1 h2 => by
    show (mapO (toPy S 8) [.adr a, .adr b]).map PyData.tuple = _
    simp only [mapO, py_strs (k := 7) h1, py_strs (k := 7) h2]
    rfl
  have sh : SeqAt.shaped (.tuple [.list (l.map fun x => PyData.str (sg x)), .list (k.map fun x => PyData.str (sg x))]) = true := by
    obtain ⟨p1, p2⟩ := lay_strs l hl
    obtain ⟨q1, q2⟩ := lay_strs k hk
    unfold SeqAt.shaped
    have e1 : PyData.canLay0 (.tuple [.list (l.map fun x => PyData.str (sg x)), .list (k.map fun x => PyData.str (sg x))]) = true := by
      show (PyData.canLayAll0 (l.map fun x => PyData.str (sg x)) && (PyData.canLayAll0 (k.map fun x => PyData.str (sg x)) && true)) = true
      rw [p1, q1]
      rfl
    have e2 : PyData.depth (.tuple [.list (l.map fun x => PyData.str (sg x)), .list (k.map fun x => PyData.str (sg x))]) = 2 := by
      show max (PyData.depthAll (l.map fun x => PyData.str (sg x)) + 1) (max (PyData.depthAll (k.map fun x => PyData.str (sg x)) + 1) 0) + 1 = 2
      rw [p2, q2]
      rfl
    rw [e1, e2]
    rfl
  exact ne_refl2 (py a b h1 h2) (py a' b' h3 h4) sh
end
end K11

set_option Elab.async false
set_option linter.all false
set_option maxRecDepth 100000
set_option maxHeartbeats 4000000
namespace K11
open PySem PySem.Spec PyProof.Rows L2 Y TL
section
variable {S : Sr} {g : Gm}
theorem h_a : ∃ S', mTB (mB dNe (mCall f_line_parts 1 [] (mCons (mC (.str "a: b:  set 3 // x")) mNil)) (mTup (mCons (mLst (mCons (mC (.str "a")) (mCons (mC (.str "b")) mNil))) (mCons (mLst (mCons (mC (.str "set")) (mCons (mC (.str "3")) mNil))) mNil)))) g S = .ok false S' := by
  have sz2 : 2 ≤ sizeLine := by rw [sizeLine_eq]; omega
  have P := e_parts (x := ("a: b:  set 3 // x" : Str)) (S := S) (by decide +kernel) (sgn_of (by decide +kernel))
  have el : lpL (tl ("a: b:  set 3 // x" : Str)) = some ([wd "a", wd "b"], [wd "set", wd "3"]) := lpa
  rw [el] at P
  obtain ⟨S', i, j, e, xt, i1, i2, j1, j2, ij, fi, fj⟩ := P
  have l1 : [D.str "a", .str "b"] = [wd "a", wd "b"].map strL := by simp only [List.map_cons, List.map_nil, strL_wd]
  have l2 : [D.str "set", .str "3"] = [wd "set", wd "3"].map strL := by simp only [List.map_cons, List.map_nil, strL_wd]
  have nn := ne_parts (S := (S'.alloc (.lst ([wd "a", wd "b"].map strL))).alloc (.lst ([wd "set", wd "3"].map strL))) (a := i) (b := j) (a' := S'.n) (b' := S'.n + 1) (l := [wd "a", wd "b"]) (k := [wd "set", wd "3"]) (at_old (at_old fi i2) (Nat.lt_succ_of_lt i2)) (at_old (at_old fj j2) (Nat.lt_succ_of_lt j2)) (at_old at_new (Nat.lt_succ_self _)) (at_new (S := S'.alloc _)) (fun x hx => sgn_of (by
    simp only [List.mem_cons, List.not_mem_nil, or_false] at hx
    rcases hx with rfl | rfl <;> decide +kernel)) (fun x hx => sgn_of (by
    simp only [List.mem_cons, List.not_mem_nil, or_false] at hx
    rcases hx with rfl | rfl <;> decide +kernel))
  refine ⟨_, tb_of (S1 := (S'.alloc (.lst ([wd "a", wd "b"].map strL))).alloc (.lst ([wd "set", wd "3"].map strL))) ?_⟩
  simp (decide := true) only [mB, mCall, mTup, mLst, mCons, mNil, mC, SM.bind, SM.pure, List.length_cons, List.length_nil, if_true, List.append_nil, e, sz2, l1, l2, alloc_n, List.length_map]
  exact nn
theorem h_b : ∃ S', mTB (mB dNe (mCall f_instruction_of 2 [] (mCons (mLst (mCons (mC (.str "jump")) (mCons (mC (.str "a")) mNil))) (mCons (mDisp (((mC (.str "a")), (mC (.int 4))) :: [])) mNil))) (mTup (mCons (mC (.str "jump")) (mCons (mC (.int 4)) mNil)))) g S = .ok false S' := by
  have sz2 : 2 ≤ sizeLine := by rw [sizeLine_eq]; omega
  have l1 : [D.str "jump", .str "a"] = [wd "jump", wd "a"].map strL := by simp only [List.map_cons, List.map_nil, strL_wd]
  let S1 : Sr := S.alloc (.lst ([wd "jump", wd "a"].map strL))
  let S2 : Sr := (S1.alloc (.dic [])).put S1.n (.dic (plD [(wd "a", 4)]))
  have hw : S2.f S.n = some (.lst ([wd "jump", wd "a"].map strL)) := at_put_ne (at_old at_new (Nat.lt_succ_self _)) (Nat.ne_of_lt (Nat.lt_succ_self _))
  have hd : S2.f S1.n = some (.dic (plD [(wd "a", 4)])) := at_put
  have e := e_instr hw hd (by simp) (fun x hx => by
    simp only [List.mem_cons, List.not_mem_nil, or_false] at hx
    rcases hx with rfl | rfl
    · exact ⟨sgn_of (by decide +kernel), by decide +kernel, by decide +kernel⟩
    · exact ⟨sgn_of (by decide +kernel), by decide +kernel, by decide +kernel⟩) (by simp)
  have ei : io [wd "jump", wd "a"] [(wd "a", 4)] = some (wd "jump", 4) := by decide +kernel
  rw [ei] at e
  have e : f_instruction_of [.adr S.n, .adr S1.n] S2 = .ok (rowN (wd "jump", 4)) S2 := e
  have ed : mDisp (((mC (.str "a")), (mC (.int 4))) :: []) g S1 = .ok (.adr S1.n) S2 := by
    have ef : (S1.alloc (.dic [])).f S1.n = some (.dic []) := at_new
    have em : mergeD [] [((Sum.inr (Str.ofString "a") : Key), D.int 4)] = plD [(wd "a", 4)] := by
      show [((Sum.inr (Str.ofString "a") : Key), D.int 4)] = [((Sum.inr (sg (wd "a")) : Key), D.int 4)]
      rw [sg_str]
    unfold mDisp SM.bind
    simp (decide := true) [evP, keysP, keyD, mC, SM.bind, SM.pure, ef, em, S2]
  have ew : D.str "jump" = strL (wd "jump") := (strL_wd _).symm
  have nn : dNe (rowN (wd "jump", 4)) (.tup [.str "jump", .int 4]) S2 = .ok (.bl false) S2 := by
    rw [ew]
    refine ne_refl2 (a := pyRow (wd "jump", 4)) rfl rfl ?_
    have hs := strOk_of (x := sg (wd "jump")) (sgn_of (by decide +kernel))
    unfold SeqAt.shaped pyRow
    have e1 : PyData.canLay0 (.tuple [.str (sg (wd "jump")), .int 4]) = true := by
      show (PyData.strOk (sg (wd "jump")) && (true && true)) = true
      rw [hs]
      rfl
    rw [e1]
    rfl
  refine ⟨S2, tb_of ?_⟩
  have el : mLst (mCons (mC (.str "jump")) (mCons (mC (.str "a")) mNil)) g S = .ok (.adr S.n) S1 := by
    simp (decide := true) only [mLst, mCons, mNil, mC, SM.bind, SM.pure, List.length_cons, List.length_nil, sz2, if_true, l1, List.length_map]
    rfl
  simp (decide := true) only [mB, mCall, mTup, mCons, mNil, mC, SM.bind, SM.pure, el, ed, e, List.length_cons, List.length_nil, if_true, List.append_nil, sz2]
  exact nn
theorem h_c : ∃ S', mTB (mB (dIs true) (mCall f_check_label 1 [] (mCons (mC (.str "a1")) mNil)) (mC .non)) g S = .ok false S' := by
  have e := e_label (x := ("a1" : Str)) (S := S) (by decide +kernel) (sgn_of (by decide +kernel))
  have el : labB (tl ("a1" : Str)) = true := by decide +kernel
  rw [el, if_pos rfl] at e
  refine ⟨S, tb_of ?_⟩
  simp (decide := true) [mSeq, mPass, mBrk, mCnt, mDrop, mRet, mRetN, mIfS, mRaise, mSet, mAsg, mPar, mPar3, mAug, mFld, mFldAug, gNm, gSub', gFld, gNl, gCn, gTp, setA, putFD, mVar, mC, mB, mU, mTB, mAnd, mOr, mNot, mIf, mAndV, mOrV, mNotV, mChain, mNil, mCons, mTup, mLst, mSl, oNo, oE, mCB, fAbs, fMax2, fMin2, fInt, lenD, fLen, fTuple, fList, itemsD, fIsi, tyD, mAttr, mCall, mMeth, mMake, mBM, tyF, SM.bind, SM.pure, toRS, toRSA, toRST, Y.sb, List.lookup, put_f, put_n, alloc_f, alloc_n, put_put, alloc_put, okI, okB, orF, dSub, dFdiv, dMod, dPow, dShl, dShr, dAnd, dOr, dXor, dNeg, dLt, dLe, dGt, dGe, dIs, e]
theorem h_d : ∃ S', mTB (mB dNe (mCall f_assemble 2 [] (mCons (mC (.str "")) (mCons (mMake "Size" f_Size___init__ 3 [] (mCons (mC (.int 2)) (mCons (mC (.int 2)) mNil))) mNil))) (mTup mNil)) g S = .ok false S' := by
  have e0 : f_Size___init__ [.adr S.n, .int 2, .int 2] (S.alloc (.ins "Size" [])) = .ok .non (S.alloc (.ins "Size" (sizF 2 2))) := by
    simp (maxSteps := 4000000) (decide := true) [f_Size___init__, mFun, b_Size___init__, mSeq, mPass, mBrk, mCnt, mDrop, mRet, mRetN, mIfS, mRaise, mSet, mAsg, mPar, mPar3, mAug, mFld, mFldAug, gNm, gSub', gFld, gNl, gCn, gTp, setA, putFD, mVar, mC, mB, mU, mTB, mAnd, mOr, mNot, mIf, mAndV, mOrV, mNotV, mChain, mNil, mCons, mTup, mLst, mSl, oNo, oE, mCB, fAbs, fMax2, fMin2, fInt, lenD, fLen, fTuple, fList, itemsD, fIsi, tyD, mAttr, mCall, mMeth, mMake, mBM, tyF, SM.bind, SM.pure, toRS, toRSA, toRST, Y.sb, List.lookup, put_f, put_n, alloc_f, alloc_n, put_put, alloc_put, okI, okB, orF, dSub, dFdiv, dMod, dPow, dShl, dShr, dAnd, dOr, dXor, dNeg, dLt, dLe, dGt, dGe, dIs, sizF]
  have et : tl ("" : Str) = [] := by decide +kernel
  have A := e_assemble (x := ("" : Str)) (iz := S.n) (d := 2) (k := 2) (S := S.alloc (.ins "Size" (sizF 2 2))) (parts := [[]]) at_new (Nat.lt_succ_self _) (by decide) (by decide) (by rw [et]; rfl) (by decide +kernel) (fun q hq => by rw [List.mem_singleton.mp hq]; exact ⟨sgn_nil, Nat.zero_le _⟩) (by decide) (by decide +kernel)
  have ea : asm 2 2 [[]] = some [] := by decide +kernel
  rw [ea] at A
  obtain ⟨S', e, xt⟩ := A
  have e : f_assemble [.str "", .adr S.n] (S.alloc (.ins "Size" (sizF 2 2))) = .ok (.tup []) S' := e
  have z0 : 0 ≤ sizeLine := Nat.zero_le _
  have nn : dNe (.tup []) (.tup []) S' = .ok (.bl false) S' := ne_refl2 (a := .tuple []) rfl rfl rfl
  refine ⟨S', tb_of ?_⟩
  simp (decide := true) [mSeq, mPass, mBrk, mCnt, mDrop, mRet, mRetN, mIfS, mRaise, mSet, mAsg, mPar, mPar3, mAug, mFld, mFldAug, gNm, gSub', gFld, gNl, gCn, gTp, setA, putFD, mVar, mC, mB, mU, mTB, mAnd, mOr, mNot, mIf, mAndV, mOrV, mNotV, mChain, mNil, mCons, mTup, mLst, mSl, oNo, oE, mCB, fAbs, fMax2, fMin2, fInt, lenD, fLen, fTuple, fList, itemsD, fIsi, tyD, mAttr, mCall, mMeth, mMake, mBM, tyF, SM.bind, SM.pure, toRS, toRSA, toRST, Y.sb, List.lookup, put_f, put_n, alloc_f, alloc_n, put_put, alloc_put, okI, okB, orF, dSub, dFdiv, dMod, dPow, dShl, dShr, dAnd, dOr, dXor, dNeg, dLt, dLe, dGt, dGe, dIs, e0, e, z0, nn]
theorem l142 : ∃ S', b_law_s142 g S = .nx g S' := by
  obtain ⟨S1, e1⟩ := h_a (g := g) (S := S)
  obtain ⟨S2, e2⟩ := h_b (g := g) (S := S1)
  obtain ⟨S3, e3⟩ := h_c (g := g) (S := S2)
  obtain ⟨S4, e4⟩ := h_d (g := g) (S := S3)
  refine ⟨S4, ?_⟩
  unfold b_law_s142
  rw [ifs_f (or_f e1 (or_f e2 (or_f e3 e4)))]
  rfl
theorem l144 : ∃ S', b_law_s144 g S = .rt (.bl true) S' := by
  have sz2 : 2 ≤ sizeLine := by rw [sizeLine_eq]; omega
  have sz3 : 3 ≤ sizeLine := by rw [sizeLine_eq]; omega
  let rows : List (List Nat × Int) := [(wd "jump", 1), (wd "out", 0), (wd "zero", 9)]
  obtain ⟨S', e, xt⟩ := e_listing (cd := .tup (rows.map rowN)) (S := S) (rows := rows) (.inl rfl) (by decide) (fun r hr => by
    simp only [rows, List.mem_cons, List.not_mem_nil, or_false] at hr
    rcases hr with rfl | rfl | rfl
    · exact ⟨by decide +kernel, by decide, by decide⟩
    · exact ⟨by decide +kernel, by decide, by decide⟩
    · exact ⟨by decide +kernel, by decide, by decide⟩)
  have er : rows.map rowN = [.tup [.str "jump", .int 1], .tup [.str "out", .int 0], .tup [.str "zero", .int 9]] := by
    simp only [rows, List.map_cons, List.map_nil, rowN, strL_wd]
  rw [er] at e
  have et : lstT rows = wd "jump p1\np1: out\nzero 9\n" := by decide +kernel
  have ew : D.str "jump p1\np1: out\nzero 9\n" = strL (lstT rows) := by rw [et, strL_wd]
  have sgl : Sgn (lstT rows) := by rw [et]; exact sgn_of (by decide +kernel)
  have eq : dEq (strL (lstT rows)) (.str "jump p1\np1: out\nzero 9\n") S' = .ok (.bl true) S' := by
    rw [ew, eqT sgl sgl]
    simp
  refine ⟨S', ?_⟩
  simp (decide := true) only [b_law_s144, mRet, mB, mCall, mTup, mCons, mNil, mC, SM.bind, SM.pure, List.length_cons, List.length_nil, if_true, List.append_nil, sz2, sz3, e, eq, toRS]
/-- the law of a script that can be cut -/
theorem law_true {script : D} {ns : List Int} (hs : slD script none (some 1) S = .ok (.adr S.n) (S.alloc (.lst ((ns.take 1).map D.int)))) : ∃ S', f_law [script] S = .ok (.bl true) S' := by
  obtain ⟨r, S1, e1, a, i, rfl, ha, di, hi, hal, hne, hn⟩ := (e_rounds hs).get
  obtain ⟨y, S2, e2, kp⟩ := l110 (x0 := some script) (x2 := none) (x3 := none) (x4 := none) (x5 := none) (x6 := none) (x7 := none) (x8 := none) (x9 := none) (x10 := none) (x11 := none) (x12 := none) (x13 := none) (x14 := none) (x15 := none) (x16 := none) (x17 := none) (x18 := none) (x19 := none) (x20 := none) (x21 := none) di hi
  have ha2 : S2.f a = some (.lst [.adr i]) := kp a _ hal hne ha
  let G0 : Gm := [some script, none, none, none, none, none, none, none, none, none, none, none, none, none, none, none, none, none, none, none, none, none]
  have es : mSrc (mCall f__law_rounds 2 [] (mCons (mVar 0) (mCons (mC (.int 1)) mNil))) G0 S = .ok (sqa a 1) S1 := by
    simp [mSrc, mCall, mCons, mNil, mVar, mC, SM.bind, SM.pure, e1, mSrcD, ha, G0]
  have n0 : (sqa a 1).nxt 0 S1 = some (some (.adr i)) := by simp [sqa, ha]
  have n1 : (sqa a 1).nxt 1 S2 = some none := by simp [sqa, ha2]
  have ef : b_law_s110 G0 S = .nx y S2 := by
    unfold b_law_s110
    refine (mFor_of es).trans ?_
    refine (fo_nx n0 e2).trans ?_
    exact fo_end n1
  obtain ⟨S3, e3⟩ := l142 (g := y) (S := S2)
  obtain ⟨S4, e4⟩ := l144 (g := y) (S := S3)
  refine ⟨S4, ?_⟩
  unfold f_law
  refine fn_rt ?_
  show b_law G0 S = _
  unfold b_law
  rw [sq_nx ef, sq_nx e3, e4]
theorem cut1 (ns : List Int) : Y.cutD (ns.map D.int) none (some 1) = (ns.take 1).map D.int := by
  cases ns with
  | nil => rfl
  | cons a l =>
    have e : HT.sIx ((a :: l).map D.int).length ((a :: l).map D.int).length (some 1) = 1 := by
      simp [HT.sIx]
      try omega
    have e0 : HT.sIx ((a :: l).map D.int).length 0 none = 0 := rfl
    unfold Y.cutD
    rw [e, e0]
    simp
theorem p1 (ns : List Int) : ∃ S', f_law [.fro (ns.map .int)] S0 = .ok (.bl true) S' := law_true (ns := ns) (by
  show Y.R.ok (D.adr S0.n) (S0.alloc (.lst (Y.cutD (ns.map D.int) none (some 1)))) = _
  rw [cut1])
theorem p2 (ns : List Int) : ∃ S', f_law [.adr 0] (S1 (ns.map .int)) = .ok (.bl true) S' := law_true (ns := ns) (by
  show Y.R.ok (D.adr (S1 (ns.map D.int)).n) ((S1 (ns.map D.int)).alloc (.lst (Y.cutD (ns.map D.int) none (some 1)))) = _
  rw [cut1])
end
end K11

theorem PySem.Challenge.cw_chipstack_k11_code_as_lines_holds : PySem.Challenge.rw_chipstack_k11_code_as_lines.Holds := by
  exact K11.done (fun ns _ _ => K11.p1 ns) (fun ns _ _ => K11.p2 ns)
